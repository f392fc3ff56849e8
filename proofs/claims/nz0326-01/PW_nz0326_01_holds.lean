import PyProof.Rows.All
import Wide.All
import OpenK.AllK
import Wide.FinOn
import Lean
import PySem.Challenge.RW_nz0326_01
set_option bootstrap.genMatcherCode false
set_option compiler.extract_closed false
set_option backward.match.sparseCases false
set_option genInjectivity false
set_option genSizeOf false
set_option tactic.hygienic false
set_option linter.unusedVariables false
set_option linter.unusedSimpArgs false
noncomputable section
namespace Mn
open PySem
section
inductive MV where
 | none
 | bool (b : Bool)
 | int (i : Int)
 | str (s : List Nat)
 | bytes (b : List UInt8)
 | fn (g : Nat)
 | ref (i : Nat)
 | tup (l : List MV)
 | lst (l : List MV)
 | dct (ks : List (List Nat)) (vs : List MV)
 | ins (c : Nat) (as : List Nat) (vs : List MV)
 deriving Inhabited
inductive MO where
 | lst (l : List MV)
 | dct (ks : List (List Nat)) (vs : List MV)
 | ins (c : Nat) (as : List Nat) (vs : List MV)
 deriving Inhabited
noncomputable abbrev MH := List MO
mutual
noncomputable def cB : MV → Bool
 | .ref _ => false
 | .tup l => cL l
 | .lst l => cL l
 | .dct _ vs => cL vs
 | .ins _ _ vs => cL vs
 | _ => true
noncomputable def cL : List MV → Bool
 | [] => true
 | v :: r => cB v && cL r
end
theorem nO {α : Type} {b : α} {P : Prop} (h : none = some b) : P := nomatch h
theorem fF' {P : Prop} (h : false = true) : P := nomatch h
theorem sI {α : Type} {a b : α} (h : some a = some b) : a = b := Option.some.inj h
theorem sP {α β : Type} {a c : α} {b d : β} (h : some (a,b) = some (c,d)) : a = c ∧ b = d := Prod.mk.inj (Option.some.inj h)
theorem nM {α : Type} {a : α} {P : Prop} (h : a ∈ []) : P := absurd h List.not_mem_nil
theorem byP {G : Prop} (h : ∀ P : Prop,(G → P) → P) : G := h G id
section comb
variable {α β γ : Type}
noncomputable def bd (x : Option (α × β)) (f : α → β → Option γ) : Option γ := match x with
 | some p => f p.1 p.2
 | none => none
noncomputable def bo (x : Option α) (f : α → Option γ) : Option γ := match x with
 | some a => f a
 | none => none
noncomputable def brB (r : Option (Bool × β)) (f g : β → Option γ) : Option γ := bd r fun b m => cond b (f m) (g m)
theorem bd_of {x : Option (α × β)} {f : α → β → Option γ} {r : γ} {P : Prop} (h : bd x f = some r) (k : ∀ a b,x = some (a,b) → f a b = some r → P) : P := by
 induction x using Option.casesOn with
 | none => exact nO h
 | some p => exact k p.1 p.2 rfl h
theorem bo_of {x : Option α} {f : α → Option γ} {r : γ} {P : Prop} (h : bo x f = some r) (k : ∀ a,x = some a → f a = some r → P) : P := by
 induction x using Option.casesOn with
 | none => exact nO h
 | some p => exact k p rfl h
theorem brB_of {x : Option (Bool × β)} {f g : β → Option γ} {r : γ} {P : Prop} (h : brB x f g = some r) (k : ∀ b,x = some (true,b) → f b = some r → P) (k' : ∀ b,x = some (false,b) → g b = some r → P) : P :=
 bd_of h fun a b e h => by
  induction a using Bool.casesOn with
  | true => exact k b e h
  | false => exact k' b e h
theorem cond_of {b : Bool} {x y : Option γ} {r : γ} {P : Prop} (h : cond b x y = some r) (k : b = true → x = some r → P) (k' : b = false → y = some r → P) : P := by
 induction b using Bool.casesOn with
 | true => exact k rfl h
 | false => exact k' rfl h
theorem if_of {c : Prop} [Decidable c] {x : Option γ} {r : γ} {P : Prop} (h : (if c then x else none) = some r) (k : c → x = some r → P) : P := by
 by_cases hc : c
 ·rw [if_pos hc] at h; exact k hc h
 ·rw [if_neg hc] at h; exact nO h
noncomputable def mapO (f : α → Option β) : List α → Option (List β)
 | [] => some []
 | a :: r => bo (f a) fun b => bo (mapO f r) fun bs => some (b :: bs)
end comb
section pats
variable {α : Type} {r : α} {P : Prop} {v : MV}
theorem pI {f : Int → Option α} (h : (match v with | .int x => f x | _ => none) = some r) (k : ∀ x,v = .int x → f x = some r → P) : P := by
 induction v using MV.casesOn with
 | int x => exact k x rfl h
 | _ => exact nO h
theorem pS {f : List Nat → Option α} (h : (match v with | .str x => f x | _ => none) = some r) (k : ∀ x,v = .str x → f x = some r → P) : P := by
 induction v using MV.casesOn with
 | str x => exact k x rfl h
 | _ => exact nO h
theorem pB {f : List UInt8 → Option α} (h : (match v with | .bytes x => f x | _ => none) = some r) (k : ∀ x,v = .bytes x → f x = some r → P) : P := by
 induction v using MV.casesOn with
 | bytes x => exact k x rfl h
 | _ => exact nO h
theorem pT {f : List MV → Option α} (h : (match v with | .tup x => f x | _ => none) = some r) (k : ∀ x,v = .tup x → f x = some r → P) : P := by
 induction v using MV.casesOn with
 | tup x => exact k x rfl h
 | _ => exact nO h
theorem pL {f : List MV → Option α} (h : (match v with | .lst x => f x | _ => none) = some r) (k : ∀ x,v = .lst x → f x = some r → P) : P := by
 induction v using MV.casesOn with
 | lst x => exact k x rfl h
 | _ => exact nO h
theorem p1 {l : List MV} {f : MV → Option α} (h : (match l with | [a] => f a | _ => none) = some r) (k : ∀ a,l = [a] → f a = some r → P) : P := by
 induction l using List.casesOn with
 | nil => exact nO h
 | cons a l => induction l using List.casesOn with
  | nil => exact k a rfl h
  | cons _ _ => exact nO h
theorem p1N {l : List Nat} {f : Nat → Option α} (h : (match l with | [a] => f a | _ => none) = some r) (k : ∀ a,l = [a] → f a = some r → P) : P := by
 induction l using List.casesOn with
 | nil => exact nO h
 | cons a l => induction l using List.casesOn with
  | nil => exact k a rfl h
  | cons _ _ => exact nO h
theorem pML {m : Option MO} {f : List MV → Option α} (h : (match m with | some (.lst l) => f l | _ => none) = some r) (k : ∀ l,m = some (.lst l) → f l = some r → P) : P := by
 induction m using Option.casesOn with
 | none => exact nO h
 | some m => induction m using MO.casesOn with
  | lst l => exact k l rfl h
  | _ => exact nO h
theorem pMD {m : Option MO} {f : List (List Nat) → List MV → Option α} (h : (match m with | some (.dct ks vs) => f ks vs | _ => none) = some r) (k : ∀ ks vs,m = some (.dct ks vs) → f ks vs = some r → P) : P := by
 induction m using Option.casesOn with
 | none => exact nO h
 | some m => induction m using MO.casesOn with
  | dct ks vs => exact k ks vs rfl h
  | _ => exact nO h
theorem pMI {m : Option MO} {f : Nat → List Nat → List MV → Option α} (h : (match m with | some (.ins c as vs) => f c as vs | _ => none) = some r) (k : ∀ c as vs,m = some (.ins c as vs) → f c as vs = some r → P) : P := by
 induction m using Option.casesOn with
 | none => exact nO h
 | some m => induction m using MO.casesOn with
  | ins c as vs => exact k c as vs rfl h
  | _ => exact nO h
theorem pO {x : Option (List MV)} {f : List MV → Option α} (h : (match x with | some l => f l | none => none) = some r) (k : ∀ l,x = some l → f l = some r → P) : P := by
 induction x using Option.casesOn with
 | none => exact nO h
 | some l => exact k l rfl h
theorem mp_of {β : Type} {x : Option β} {f : β → α} (h : x.map f = some r) (k : ∀ a,x = some a → f a = r → P) : P := by
 induction x using Option.casesOn with
 | none => exact nO h
 | some a => exact k a rfl (sI h)
theorem bi_of {β : Type} {x : Option β} {f : β → Option α} (h : x.bind f = some r) (k : ∀ a,x = some a → f a = some r → P) : P := by
 induction x using Option.casesOn with
 | none => exact nO h
 | some a => exact k a rfl h
end pats
noncomputable def frz (mh : MH) (n av : Nat) : Nat → MV → Option MV
 | 0,_ => none
 | k + 1,v => cond (cB v) (some v) (match v with
  | .ref i => if i < n then some (.ref i) else if i = av then none else match mh[i]? with
   | some (.lst l) => bo (mapO (frz mh n av k) l) fun l => some (.lst l)
   | some (.dct ks vs) => bo (mapO (frz mh n av k) vs) fun vs => some (.dct ks vs)
   | some (.ins c as vs) => bo (mapO (frz mh n av k) vs) fun vs => some (.ins c as vs)
   | none => none
  | .tup l => bo (mapO (frz mh n av k) l) fun l => some (.tup l)
  | .lst l => bo (mapO (frz mh n av k) l) fun l => some (.lst l)
  | .dct ks vs => bo (mapO (frz mh n av k) vs) fun vs => some (.dct ks vs)
  | .ins c as vs => bo (mapO (frz mh n av k) vs) fun vs => some (.ins c as vs)
  | v => some v)
mutual
noncomputable def underB (n : Nat) : MV → Bool
 | .ref i => decide (i < n)
 | .tup l => underL n l
 | .lst l => underL n l
 | .dct _ vs => underL n vs
 | .ins _ _ vs => underL n vs
 | _ => true
noncomputable def underL (n : Nat) : List MV → Bool
 | [] => true
 | v :: r => underB n v && underL n r
end
noncomputable def underO (n : Nat) : MO → Bool
 | .lst l => underL n l
 | .dct _ vs => underL n vs
 | .ins _ _ vs => underL n vs
inductive BI where
 | len | min | max | bytes | chr | ord | tuple | list
 deriving DecidableEq
inductive BM where
 | append | extend | find | strip | rstrip | join | upper | get
 deriving DecidableEq
inductive ME where
 | none
 | bool (b : Bool)
 | int (i : Int)
 | str (s : List Nat)
 | bytes (b : List UInt8)
 | loc (i : Nat)
 | glo (g : Nat)
 | tup (es : List ME)
 | list (m : Bool) (es : List ME)
 | dict (m : Bool) (ks : List (List Nat)) (es : List ME)
 | bin (m : Bool) (o : Operator) (a b : ME)
 | not (a : ME)
 | and (es : List ME)
 | or (es : List ME)
 | ite (t a b : ME)
 | cmp (o : CmpOp) (a b : ME)
 | cmp2 (o p : CmpOp) (a b c : ME)
 | call (g : Nat) (es : List ME)
 | callv (i : Nat) (es : List ME)
 | make (g : Nat) (es : List ME)
 | bcall (f : BI) (es : List ME)
 | meth (o : ME) (m : Nat) (es : List ME)
 | bmeth (o : ME) (m : BM) (es : List ME)
 | attr (o : ME) (a : Nat)
 | sub (o i : ME)
 | slice (m : Bool) (o lo hi : ME)
 | comp (nt : Nat) (caps : List Nat) (elt iter : ME) (conds : List ME)
 | fail
 deriving Inhabited
inductive MT where
 | name (i : Nat)
 | attr (o : ME) (a : Nat)
 | sub (o i : ME)
 | tup (ts : List MT)
 deriving Inhabited
inductive MS where
 | assign (t : MT) (e : ME)
 | expr (e : ME)
 | ret (e : ME)
 | iff (t : ME) (a b : List MS)
 | while (t : ME) (b : List MS)
 | for (t : MT) (e : ME) (b : List MS)
 | forR (t : MT) (e : ME) (b : List MS)
 | forE (t : MT) (e : ME) (b : List MS)
 | try (b : List MS)
 | fail
 deriving Inhabited
inductive GV where
 | fn (name : Str) | cls (name : Str) | val (v : MV) | bi (b : BI) | range | enumerate
structure FnRec where
 nargs : Nat
 dflt : List MV
 nslots : Nat
 body : List MS
 keep : Bool := false
structure ClsRec where
 init : Nat
 frozen : Bool
 meths : List (Nat × Nat)
 data : List Nat
structure Text where
 fns : List FnRec
 vals : List MV
 fnOf : List Nat
 cls : List ClsRec
noncomputable def LIM : Nat := 1048576
section data
noncomputable def clp (n : Nat) (i : Int) : Nat := if i < 0 then (i + n).toNat else min i.toNat n
noncomputable def pySlice {α : Type} (l : List α) (lo hi : Option Int) : List α :=
 (l.drop (lo.elim 0 (clp l.length))).take (hi.elim l.length (clp l.length) - lo.elim 0 (clp l.length))
noncomputable def pyIdx {α : Type} (l : List α) (i : Int) : Option α := if 0 ≤ i then l[i.toNat]? else if 0 ≤ i + l.length then l[(i + l.length).toNat]? else none
noncomputable def isPre {α : Type} [DecidableEq α] : List α → List α → Bool
 | [],_ => true
 | _ :: _,[] => false
 | a :: r,b :: s => if a = b then isPre r s else false
noncomputable def findFrom {α : Type} [DecidableEq α] (w : List α) : List α → Nat → Option Nat
 | [],k => if w.isEmpty then some k else none
 | a :: r,k => if isPre w (a :: r) then some k else findFrom w r (k + 1)
noncomputable def pyFind {α : Type} [DecidableEq α] (l w : List α) (lo hi : Option Int) : Int :=
 let a := lo.elim 0 (clp l.length)
 match findFrom w (pySlice l lo hi) a with
 | some k => k
 | none => -1
noncomputable def dropW {α : Type} [DecidableEq α] (cs : List α) : List α → List α
 | [] => []
 | a :: r => if cs.contains a then dropW cs r else a :: r
noncomputable def stripL {α : Type} [DecidableEq α] (l cs : List α) : List α := dropW cs l
noncomputable def stripR {α : Type} [DecidableEq α] (l cs : List α) : List α := (dropW cs l.reverse).reverse
noncomputable def upperB (c : UInt8) : UInt8 := if 97 ≤ c ∧ c ≤ 122 then c - 32 else c
noncomputable def lookK {α : Type} [DecidableEq α] (k : α) : List α → List MV → Option MV
 | a :: ks,v :: vs => if a = k then some v else lookK k ks vs
 | _,_ => none
noncomputable def putK {α : Type} [DecidableEq α] (k : α) (x : MV) : List α → List MV → List α × List MV
 | a :: ks,v :: vs => if a = k then (a :: ks,x :: vs) else ((a :: (putK k x ks vs).1),v :: (putK k x ks vs).2)
 | _,_ => ([k],[x])
noncomputable def hasK {α : Type} [DecidableEq α] (k : α) : List α → Bool
 | a :: ks => if a = k then true else hasK k ks
 | [] => false
end data
noncomputable def asBytes : List MV → Option (List (List UInt8))
 | [] => some []
 | .bytes b :: r => (asBytes r).map (b :: ·)
 | _ => none
noncomputable def asStrs : List MV → Option (List (List Nat))
 | [] => some []
 | .str b :: r => (asStrs r).map (b :: ·)
 | _ => none
noncomputable def asInts : List MV → Option (List Int)
 | [] => some []
 | .int b :: r => (asInts r).map (b :: ·)
 | _ => none
noncomputable def toByte (i : Int) : Option UInt8 := if 0 ≤ i ∧ i < 256 then some (UInt8.ofNat i.toNat) else none
noncomputable def truthV (mh : MH) : MV → Option Bool
 | .none => some false
 | .bool b => some b
 | .int i => some (decide (i ≠ 0))
 | .str s => some (!s.isEmpty)
 | .bytes b => some (!b.isEmpty)
 | .tup l => some (!l.isEmpty)
 | .lst l => some (!l.isEmpty)
 | .ref i => match mh[i]? with
  | some (.lst l) => some (!l.isEmpty)
  | _ => none
 | _ => none
noncomputable def itemsV (mh : MH) : MV → Option (List MV)
 | .lst l => some l
 | .ref i => match mh[i]? with
  | some (.lst l) => some l
  | _ => none
 | _ => none
noncomputable def eqV (mh : MH) : MV → MV → Option Bool
 | a,.int b => (match a with | .int a => some (decide (a = b)) | _ => none)
 | a,.bool b => (match a with | .bool a => some (a == b) | _ => none)
 | a,.str b => (match a with | .str a => some (decide (a = b)) | _ => none)
 | a,.bytes b => (match a with | .bytes a => some (decide (a = b)) | _ => none)
 | a,.none => (match a with | .none => some true | _ => none)
 | a,.tup b => (match a with | .tup a => (if b.isEmpty then some a.isEmpty else none) | _ => none)
 | a,.lst b => if b.isEmpty then (itemsV mh a).map (·.isEmpty) else none
 | _,_ => none
noncomputable def intB (a b : MV) (f : Int → Int → Bool) : Option Bool := match a with
 | .int x => (match b with | .int y => some (f x y) | _ => none)
 | _ => none
noncomputable def isN : MV → Option Bool
 | .none => some true
 | .fn _ => none
 | _ => some false
noncomputable def cmpV (mh : MH) (o : CmpOp) (a b : MV) : Option Bool := match o with
 | .Eq => eqV mh a b
 | .NotEq => (eqV mh a b).map (!·)
 | .Lt => intB a b fun x y => decide (x < y)
 | .LtE => intB a b fun x y => decide (x ≤ y)
 | .Gt => intB a b fun x y => decide (x > y)
 | .GtE => intB a b fun x y => decide (x ≥ y)
 | .Is => match b with | .none => isN a | _ => none
 | .IsNot => match b with | .none => (isN a).map (!·) | _ => none
 | .In => inV mh a b
 | .NotIn => (inV mh a b).map (!·)
where
 inV (mh : MH) (a b : MV) : Option Bool := match a with
  | .int x => (match b with
   | .bytes l => if 0 ≤ x ∧ x < 256 then some (l.contains (UInt8.ofNat x.toNat)) else none
   | .tup l => (asInts l).map (·.contains x)
   | _ => none)
  | .str x => (match b with
   | .tup l => (asStrs l).map (·.contains x)
   | .lst l => (asStrs l).map (·.contains x)
   | .ref i => (match mh[i]? with
    | some (.dct ks _) => some (hasK x ks)
    | _ => none)
   | .dct ks _ => some (hasK x ks)
   | _ => none)
  | _ => none
noncomputable def newL (m : Bool) (mh : MH) (l : List MV) : Option (MV × MH) :=
 if l.length ≤ LIM then (if m then some (.ref mh.length,mh ++ [.lst l]) else some (.lst l,mh)) else none
noncomputable def binV (m : Bool) (mh : MH) (o : Operator) (a b : MV) : Option (MV × MH) := match a with
 | .int x => (match b with
  | .int y => (match o with
   | .Add => some (.int (x + y),mh)
   | .Sub => some (.int (x - y),mh)
   | .Mult => if -1048576 ≤ x ∧ x ≤ 1048576 ∧ -1048576 ≤ y ∧ y ≤ 1048576 then some (.int (x * y),mh) else none
   | .FloorDiv => if 0 < y ∧ y < 1048576 then some (.int (x / y),mh) else none
   | .Mod => if 0 < y then some (.int (x % y),mh) else none
   | _ => none)
  | _ => none)
 | .bytes x => (match b with
  | .bytes y => (match o with
   | .Add => if x.length + y.length ≤ LIM then some (.bytes (x ++ y),mh) else none
   | _ => none)
  | _ => none)
 | .tup x => (match b with
  | .tup y => (match o with
   | .Add => if x.length + y.length ≤ LIM then some (.tup (x ++ y),mh) else none
   | _ => none)
  | _ => none)
 | a => (match o with
  | .Add => (match itemsV mh a with
   | some x => (match itemsV mh b with
    | some y => newL m mh (x ++ y)
    | none => none)
   | none => none)
  | _ => none)
noncomputable def subV (mh : MH) (o i : MV) : Option MV := match i with
 | .int k => (match o with
  | .bytes b => (pyIdx b k).map fun c => .int c.toNat
  | .tup l => pyIdx l k
  | .lst l => pyIdx l k
  | .ref r => (match mh[r]? with
   | some (.lst l) => pyIdx l k
   | _ => none)
  | _ => none)
 | .str s => (match o with
  | .dct ks vs => lookK s ks vs
  | .ref r => (match mh[r]? with
   | some (.dct ks vs) => lookK s ks vs
   | _ => none)
  | _ => none)
 | _ => none
noncomputable def optI : MV → Option (Option Int)
 | .none => some none
 | .int i => some (some i)
 | _ => none
noncomputable def sliceV (m : Bool) (mh : MH) (o lo hi : MV) : Option (MV × MH) := match optI lo,optI hi with
 | some lo,some hi => match o with
  | .bytes b => some (.bytes (pySlice b lo hi),mh)
  | .tup l => some (.tup (pySlice l lo hi),mh)
  | o => match itemsV mh o with
   | some l => newL m mh (pySlice l lo hi)
   | none => none
 | _,_ => none
noncomputable def attrV (mh : MH) (o : MV) (a : Nat) : Option MV := match o with
 | .ins _ as vs => lookK a as vs
 | .ref i => match mh[i]? with
  | some (.ins _ as vs) => lookK a as vs
  | _ => none
 | _ => none
noncomputable def clsV (mh : MH) : MV → Option (Nat × List Nat)
 | .ins c as _ => some (c,as)
 | .ref i => match mh[i]? with
  | some (.ins c as _) => some (c,as)
  | _ => none
 | _ => none
noncomputable def bcallV1 (mh : MH) (f : BI) (v : MV) : Option MV := match f with
 | .len => (match v with
  | .bytes b => some (.int b.length)
  | .str b => some (.int b.length)
  | .tup b => some (.int b.length)
  | v => (itemsV mh v).map fun l => .int l.length)
 | .bytes => (match v with | .lst l => (asInts l).bind fun ns => (ns.mapM toByte).map .bytes | _ => none)
 | .chr => (match v with | .int i => if 0 ≤ i ∧ i < 256 then some (.str [i.toNat]) else none | _ => none)
 | .ord => (match v with | .str b => (match b with | [c] => some (.int c) | _ => none) | _ => none)
 | .tuple => (match v with | .tup l => some (.tup l) | _ => none)
 | .list => (match v with | .lst l => some (.lst l) | _ => none)
 | _ => none
noncomputable def int2 (a b : MV) : Option (Int × Int) := match a with
 | .int x => (match b with | .int y => some (x,y) | _ => none)
 | _ => none
noncomputable def bcallV2 (f : BI) (a b : MV) : Option MV := match f with
 | .min => (int2 a b).map fun p => .int (if p.2 < p.1 then p.2 else p.1)
 | .max => (int2 a b).map fun p => .int (if p.2 > p.1 then p.2 else p.1)
 | _ => none
noncomputable def bcallV (mh : MH) (f : BI) (vs : List MV) : Option MV := match vs with
 | [v] => bcallV1 mh f v
 | [a,b] => bcallV2 f a b
 | _ => none
noncomputable def bmOk (mh : MH) (o : MV) (m : BM) : Bool := match o with
 | .ref i => (match m with
  | .append | .extend => (match mh[i]? with
   | some (.lst _) => true
   | _ => false)
  | _ => false)
 | .bytes _ => (match m with
  | .find | .strip | .rstrip | .join | .upper => true
  | _ => false)
 | .str _ => (match m with
  | .find | .join => true
  | _ => false)
 | .dct _ _ => (match m with
  | .get => true
  | _ => false)
 | _ => false
noncomputable def bmRef (mh : MH) (i : Nat) (m : BM) (v : MV) : Option (MV × MH) := match mh[i]? with
 | some (.lst l) => (match m with
  | .append => if l.length < LIM then some (.none,mh.set i (.lst (l ++ [v]))) else none
  | .extend => (match v with | .lst k => if l.length + k.length ≤ LIM then some (.none,mh.set i (.lst (l ++ k))) else none | _ => none)
  | _ => none)
 | _ => none
noncomputable def bmBytes (mh : MH) (b : List UInt8) (m : BM) (vs : List MV) : Option MV := match m with
 | .upper => (match vs with | [] => some (.bytes (b.map upperB)) | _ => none)
 | .strip => (match vs with | [.bytes cs] => some (.bytes (stripR (stripL b cs) cs)) | _ => none)
 | .rstrip => (match vs with | [.bytes cs] => some (.bytes (stripR b cs)) | _ => none)
 | .find => (match vs with | [.bytes [w],.int lo,.int hi] => if 0 ≤ lo ∧ 0 ≤ hi then some (.int (pyFind b [w] (some lo) (some hi))) else none | _ => none)
 | .join => if b.isEmpty then (match vs with
  | [v] => (itemsV mh v).bind fun l => (asBytes l).bind fun bs => if (bs.map List.length).sum ≤ LIM then some (.bytes bs.flatten) else none
  | _ => none) else none
 | _ => none
noncomputable def bmStr (mh : MH) (b : List Nat) (m : BM) (v : MV) : Option MV := match m with
 | .find => (match v with | .str [w] => if b.contains w then none else some (.int (-1)) | _ => none)
 | .join => if b.isEmpty then (itemsV mh v).bind fun l => (asStrs l).bind fun bs => if (bs.map List.length).sum ≤ LIM then some (.str bs.flatten) else none else none
 | _ => none
noncomputable def bmethV (mh : MH) (o : MV) (m : BM) (vs : List MV) : Option (MV × MH) := match o with
 | .ref i => (match vs with | [v] => bmRef mh i m v | _ => none)
 | .bytes b => (bmBytes mh b m vs).map (·,mh)
 | .str b => (match vs with | [v] => (bmStr mh b m v).map (·,mh) | _ => none)
 | .dct ks ds => (match m with
  | .get => (match vs with | [.str s,d] => some ((lookK s ks ds).getD d,mh) | _ => none)
  | _ => none)
 | _ => none
noncomputable def iterV (mh : MH) : MV → Option (List MV)
 | .tup l => some l
 | .lst l => some l
 | .str s => some (s.map fun c => .str [c])
 | .bytes b => some (b.map fun c => .int c.toNat)
 | .ref i => match mh[i]? with
  | some (.dct [] []) => some []
  | _ => none
 | _ => none
noncomputable abbrev Callee := Nat → List MV → MH → Option (MV × MH)
noncomputable def refV : MV → Option Nat
 | .ref i => some i
 | _ => none
noncomputable def fnV : MV → Option Nat
 | .fn f => some f
 | _ => none
noncomputable def isNoneV : MV → Bool
 | .none => true
 | _ => false
noncomputable def oneIns : MH → Option (Nat × List Nat × List MV)
 | [.ins z as ws] => some (z,as,ws)
 | _ => none
noncomputable def callC (C : Callee) (f : Nat) (vs : List MV) (mh : MH) : Option (MV × MH) :=
 cond (cL vs) (bd (C f vs []) fun v m => if m.isEmpty = true then some (v,mh) else none) (C f vs mh)
section eval
variable (T : Text) (C : Callee)
noncomputable def madeF (g : Nat) (mh : MH) (v : MV) (m : MH) : Option (MV × MH) :=
 if isNoneV v = true then bo (oneIns m) fun p => if p.1 = g ∧ cL p.2.2 = true then some (.ins g p.2.1 p.2.2,mh) else none else none
noncomputable def makeC (g : Nat) (vs : List MV) (mh : MH) : Option (MV × MH) := bo T.cls[g]? fun k =>
 cond k.frozen (if cL vs = true then bd (C k.init (.ref 0 :: vs) [.ins g [] []]) (madeF g mh) else none)
  (bd (C k.init (.ref mh.length :: vs) (mh ++ [.ins g [] []])) fun v m => if isNoneV v = true then some (.ref mh.length,m) else none)
noncomputable def dataOk (mh : MH) (o : MV) (a : Nat) : Bool := match clsV mh o with
 | some p => match T.cls[p.1]? with
  | some k => k.data.contains a
  | none => false
 | none => false
noncomputable def methF (mh : MH) (o : MV) (m : Nat) : Option Nat := bo (clsV mh o) fun p => cond (p.2.contains m) none (bo T.cls[p.1]? fun k => k.meths.lookup m)
noncomputable def capsOf (vals : List (Option MV)) : List Nat → List (Option MV)
 | [] => []
 | i :: r => (vals[i]?).join :: capsOf vals r
noncomputable def bindT (nt : Nat) (v : MV) : Option (List (Option MV)) := match nt with
 | 1 => some [some v]
 | n => match v with
  | .tup l => if l.length = n then some (l.map some) else none
  | _ => none
noncomputable def withO (y : Option MV) (ys : List MV) : List MV := match y with
 | some y => y :: ys
 | none => ys
noncomputable def compGo (one : List (Option MV) → MH → Option (Option MV × MH)) (nt : Nat) (caps : List (Option MV)) : List MV → MH → Option (List MV × MH)
 | [],mh => some ([],mh)
 | x :: r,mh => bo (bindT nt x) fun b => bd (one (b ++ caps) mh) fun y mh => bd (compGo one nt caps r mh) fun ys mh => some (withO y ys,mh)
noncomputable def fin (m : Bool) (r : Option (MV × MH)) : Option (MV × MH) := match m with
 | true => bd r fun v mh => bo (truthV mh v) fun b => some (.bool b,mh)
 | false => r
noncomputable def toB (r : Option (MV × MH)) : Option (Bool × MH) := match r with
 | some (v,mh) => (match v with | .bool b => some (b,mh) | _ => none)
 | none => none
noncomputable def ofB (r : Option (Bool × MH)) : Option (MV × MH) := bd r fun b mh => some (.bool b,mh)
mutual
noncomputable def evX (m : Bool) (vals : List (Option MV)) (mh : MH) : ME → Option (MV × MH)
 | .none => fin m (some (.none,mh))
 | .bool b => fin m (some (.bool b,mh))
 | .int i => fin m (some (.int i,mh))
 | .str s => fin m (some (.str s,mh))
 | .bytes b => fin m (some (.bytes b,mh))
 | .loc i => fin m (bo (vals[i]?).join fun v => some (v,mh))
 | .glo g => fin m (bo T.vals[g]? fun v => some (v,mh))
 | .tup es => fin m (bd (evalEs vals mh es) fun vs mh => some (.tup vs,mh))
 | .list k es => fin m (bd (evalEs vals mh es) fun vs mh => if k then some (.ref mh.length,mh ++ [.lst vs]) else some (.lst vs,mh))
 | .dict k ks es => fin m (bd (evalEs vals mh es) fun vs mh => if k then some (.ref mh.length,mh ++ [.dct ks vs]) else some (.dct ks vs,mh))
 | .bin k o a b => fin m (bd (evX false vals mh a) fun x mh => bd (evX false vals mh b) fun y mh => binV k mh o x y)
 | .not a => match m with
  | true => ofB (bd (toB (evX true vals mh a)) fun b mh => some (!b,mh))
  | false => bd (evX false vals mh a) fun x mh => bo (truthV mh x) fun b => some (.bool (!b),mh)
 | .and es => match m with
  | true => ofB (allT vals mh es)
  | false => evalAnd vals mh es
 | .or es => match m with
  | true => ofB (anyT vals mh es)
  | false => evalOr vals mh es
 | .ite t a b => brB (toB (evX true vals mh t)) (fun mh => evX m vals mh a) (fun mh => evX m vals mh b)
 | .cmp o a b => fin m (bd (evX false vals mh a) fun x mh => bd (evX false vals mh b) fun y mh => bo (cmpV mh o x y) fun b => some (.bool b,mh))
 | .cmp2 o p a b c => fin m (bd (evX false vals mh a) fun x mh => bd (evX false vals mh b) fun y mh => bo (cmpV mh o x y) fun t =>
   cond t (bd (evX false vals mh c) fun z mh => bo (cmpV mh p y z) fun b => some (.bool b,mh)) (some (.bool false,mh)))
 | .call f es => fin m (bd (evalEs vals mh es) fun vs mh => callC C f vs mh)
 | .callv i es => fin m (bo (bo (vals[i]?).join fnV) fun f => bd (evalEs vals mh es) fun vs mh => callC C f vs mh)
 | .make g es => fin m (bd (evalEs vals mh es) fun vs mh => makeC T C g vs mh)
 | .bcall f es => fin m (bd (evalEs vals mh es) fun vs mh => bo (bcallV mh f vs) fun v => some (v,mh))
 | .meth o k es => fin m (bd (evX false vals mh o) fun x mh => bo (methF T mh x k) fun f => bd (evalEs vals mh es) fun vs mh => callC C f (x :: vs) mh)
 | .bmeth o k es => fin m (bd (evX false vals mh o) fun x mh => if bmOk mh x k = true then (bd (evalEs vals mh es) fun vs mh => bmethV mh x k vs) else none)
 | .attr o a => fin m (bd (evX false vals mh o) fun x mh => if dataOk T mh x a = true then (bo (attrV mh x a) fun v => some (v,mh)) else none)
 | .sub o i => fin m (bd (evX false vals mh o) fun x mh => bd (evX false vals mh i) fun y mh => bo (subV mh x y) fun v => some (v,mh))
 | .slice k o lo hi => fin m (bd (evX false vals mh o) fun x mh => bd (evX false vals mh lo) fun l mh => bd (evX false vals mh hi) fun u mh => sliceV k mh x l u)
 | .comp nt caps elt iter conds => fin m (bd (evX false vals mh iter) fun x mh => bo (iterV mh x) fun l => if l.length ≤ LIM then
   (bd (compGo (fun vs mh => brB (allT vs mh conds) (fun mh => bd (evX false vs mh elt) fun y mh => some (some y,mh)) fun mh => some (none,mh)) nt (capsOf vals caps) l mh) fun ys mh => some (.lst ys,mh)) else none)
 | .fail => none
noncomputable def evalEs (vals : List (Option MV)) (mh : MH) : List ME → Option (List MV × MH)
 | [] => some ([],mh)
 | e :: r => bd (evX false vals mh e) fun v mh => bd (evalEs vals mh r) fun vs mh => some (v :: vs,mh)
noncomputable def evalAnd (vals : List (Option MV)) (mh : MH) : List ME → Option (MV × MH)
 | [] => none
 | e :: r => match r with
  | [] => evX false vals mh e
  | _ :: _ => bd (evX false vals mh e) fun v mh => bo (truthV mh v) fun t => cond t (evalAnd vals mh r) (some (v,mh))
noncomputable def evalOr (vals : List (Option MV)) (mh : MH) : List ME → Option (MV × MH)
 | [] => none
 | e :: r => match r with
  | [] => evX false vals mh e
  | _ :: _ => bd (evX false vals mh e) fun v mh => bo (truthV mh v) fun t => cond t (some (v,mh)) (evalOr vals mh r)
noncomputable def allT (vals : List (Option MV)) (mh : MH) : List ME → Option (Bool × MH)
 | [] => some (true,mh)
 | e :: r => brB (toB (evX true vals mh e)) (fun mh => allT vals mh r) fun mh => some (false,mh)
noncomputable def anyT (vals : List (Option MV)) (mh : MH) : List ME → Option (Bool × MH)
 | [] => some (false,mh)
 | e :: r => brB (toB (evX true vals mh e)) (fun mh => some (true,mh)) fun mh => anyT vals mh r
end
noncomputable abbrev evalE (vals : List (Option MV)) (mh : MH) (e : ME) : Option (MV × MH) := evX T C false vals mh e
noncomputable def evalT (vals : List (Option MV)) (mh : MH) (e : ME) : Option (Bool × MH) := toB (evX T C true vals mh e)
noncomputable abbrev St := List (Option MV) × MH
inductive Fl where
 | next
 | ret (v : MV)
noncomputable def flw {α : Type} (f : Fl) (a : α) (b : MV → α) : α := match f with
 | .next => a
 | .ret v => b v
noncomputable def insAt (mh : MH) (i : Nat) : Option (Nat × List Nat × List MV) := match mh[i]? with
 | some (.ins c as vs) => some (c,as,vs)
 | _ => none
noncomputable def setSub (mh : MH) (i : Nat) (x v : MV) : Option MH := match x with
 | .str x => (match mh[i]? with
  | some (.dct ks vs) => if vs.length < 500 then some (mh.set i (.dct (putK x v ks vs).1 (putK x v ks vs).2)) else none
  | _ => none)
 | .int x => (match mh[i]? with
  | some (.lst l) => if 0 ≤ x ∧ x < l.length then some (mh.set i (.lst (l.set x.toNat v))) else none
  | _ => none)
 | _ => none
noncomputable def tupV : MV → Option (List MV)
 | .tup l => some l
 | _ => none
mutual
noncomputable def storeT (v : MV) (s : St) : MT → Option St
 | .name i => if i < s.1.length then some (s.1.set i (some v),s.2) else none
 | .attr o a => bd (evalE T C s.1 s.2 o) fun r mh => bo (refV r) fun i => if dataOk T mh (.ref i) a = true then
   bo (insAt mh i) fun p => if p.2.2.length < 500 then some (s.1,mh.set i (.ins p.1 (putK a v p.2.1 p.2.2).1 (putK a v p.2.1 p.2.2).2)) else none else none
 | .sub o k => bd (evalE T C s.1 s.2 o) fun r mh => bo (refV r) fun i => bd (evalE T C s.1 mh k) fun x mh => bo (setSub mh i x v) fun mh => some (s.1,mh)
 | .tup ts => bo (tupV v) fun l => storeTs l s ts
noncomputable def storeTs (vs : List MV) (s : St) : List MT → Option St
 | [] => if vs.isEmpty = true then some s else none
 | t :: ts => match vs with
  | v :: vs => bo (storeT v s t) fun s => storeTs vs s ts
  | [] => none
end
noncomputable def loopW (test : St → Option (Bool × MH)) (body : St → Option (Fl × St)) : Nat → St → Option (Fl × St)
 | 0,_ => none
 | n + 1,s => brB (test s) (fun mh => bd (body (s.1,mh)) fun f s => flw f (loopW test body n s) fun v => some (.ret v,s)) fun mh => some (.next,(s.1,mh))
noncomputable def loopF (store : MV → St → Option St) (body : St → Option (Fl × St)) : List MV → St → Option (Fl × St)
 | [],s => some (.next,s)
 | x :: r,s => bo (store x s) fun s => bd (body s) fun f s => flw f (loopF store body r s) fun v => some (.ret v,s)
noncomputable def rangeL (n : Int) : List MV := (List.range n.toNat).map fun (i : Nat) => MV.int (i : Int)
noncomputable def enumL (l : List MV) (k : Nat) : List MV := match l with
 | [] => []
 | x :: r => .tup [.int k,x] :: enumL r (k + 1)
noncomputable def intV : MV → Option Int
 | .int n => some n
 | _ => none
noncomputable def lstV : MV → Option (List MV)
 | .lst l => some l
 | _ => none
noncomputable def quietV : MV → Bool
 | .none => true
 | .int _ => true
 | _ => false
mutual
noncomputable def execS (s : St) : MS → Option (Fl × St)
 | .assign t e => bd (evalE T C s.1 s.2 e) fun v mh => bo (storeT T C v (s.1,mh) t) fun s => some (.next,s)
 | .expr e => bd (evalE T C s.1 s.2 e) fun v mh => if quietV v = true then some (.next,(s.1,mh)) else none
 | .ret e => bd (evalE T C s.1 s.2 e) fun v mh => some (.ret v,(s.1,mh))
 | .iff t a b => brB (evalT T C s.1 s.2 t) (fun mh => execB (s.1,mh) a) fun mh => execB (s.1,mh) b
 | .while t b => loopW (fun s => evalT T C s.1 s.2 t) (fun s => execB s b) LIM s
 | .for t e b => bd (evalE T C s.1 s.2 e) fun x mh => bo (iterV mh x) fun l => loopF (fun v s => storeT T C v s t) (fun s => execB s b) l (s.1,mh)
 | .forR t e b => bd (evalE T C s.1 s.2 e) fun x mh => bo (intV x) fun n => if 0 ≤ n ∧ n ≤ LIM then loopF (fun v s => storeT T C v s t) (fun s => execB s b) (rangeL n) (s.1,mh) else none
 | .forE t e b => bd (evalE T C s.1 s.2 e) fun x mh => bo (lstV x) fun l => loopF (fun v s => storeT T C v s t) (fun s => execB s b) (enumL l 0) (s.1,mh)
 | .try b => execB s b
 | .fail => none
noncomputable def execB (s : St) : List MS → Option (Fl × St)
 | [] => some (.next,s)
 | a :: r => bd (execS s a) fun f s => flw f (execB s r) fun v => some (.ret v,s)
end
noncomputable def dctAt (mh : MH) (i : Nat) : Option (List (List Nat) × List MV) := match mh[i]? with
 | some (.dct ks vs) => some (ks,vs)
 | _ => none
noncomputable def finK (n : Nat) (v : MV) (mh : MH) : Option (MV × MH) := bo (refV v) fun i => if n ≤ i then bo (dctAt mh i) fun p => bo (mapO (frz mh n i 64) p.2) fun ws => some (.ref n,mh.take n ++ [.dct p.1 ws]) else none
noncomputable def finish (keep : Bool) (n : Nat) (v : MV) (mh : MH) : Option (MV × MH) :=
 if (mh.take n).all (underO n) = true then cond keep (finK n v mh) (bo (frz mh n mh.length 64 v) fun w => some (w,mh.take n)) else none
noncomputable def runF (f : FnRec) (vs : List MV) (mh : MH) : Option (MV × MH) :=
 if vs.length ≤ f.nargs ∧ f.nargs ≤ vs.length + f.dflt.length then
  bd (execB T C (((vs ++ f.dflt.drop (vs.length + f.dflt.length - f.nargs)).map some) ++ List.replicate (f.nslots - f.nargs) none,mh) f.body) fun fl s => finish f.keep mh.length (flw fl .none id) s.2
 else none
end eval
noncomputable def mcall (T : Text) : Nat → Callee
 | 0,_,_,_ => none
 | n + 1,f,vs,mh => bo T.fns[f]? fun r => runF T (mcall T n) r vs mh
end
end Mn
end
noncomputable section
namespace Mn

section
section
variable {T : Text} {C : Callee} {vals : List (Option MV)} {mh : MH}
theorem toB_fin (r : Option (MV × MH)) : toB (fin true r) = bd r fun v mh => bo (truthV mh v) fun b => some (b,mh) := by
 induction r using Option.casesOn with
 | none => rfl
 | some p =>
  show toB (bo (truthV p.2 p.1) fun b => some (.bool b,p.2)) = bo (truthV p.2 p.1) fun b => some (b,p.2)
  cases truthV p.2 p.1 <;> rfl
theorem toB_ofB (r : Option (Bool × MH)) : toB (ofB r) = r := by induction r using Option.casesOn <;> rfl
theorem brB_toB {α β γ : Type} (r : Option (Bool × γ)) (h : Option α → Option β) (f g : γ → Option α) (h0 : h none = none) : h (brB r f g) = brB r (fun m => h (f m)) (fun m => h (g m)) := by
 induction r using Option.casesOn with
 | none => exact h0
 | some p => obtain ⟨b,m⟩ := p; induction b using Bool.casesOn <;> rfl
theorem evalE_none  : evalE T C vals mh (.none) = (some (.none,mh)) := rfl
theorem evalE_bool {b} : evalE T C vals mh (.bool b) = (some (.bool b,mh)) := rfl
theorem evalE_int {i} : evalE T C vals mh (.int i) = (some (.int i,mh)) := rfl
theorem evalE_str {s} : evalE T C vals mh (.str s) = (some (.str s,mh)) := rfl
theorem evalE_bytes {b} : evalE T C vals mh (.bytes b) = (some (.bytes b,mh)) := rfl
theorem evalE_loc {i} : evalE T C vals mh (.loc i) = (bo (vals[i]?).join fun v => some (v,mh)) := rfl
theorem evalE_glo {g} : evalE T C vals mh (.glo g) = (bo T.vals[g]? fun v => some (v,mh)) := rfl
theorem evalE_tup {es} : evalE T C vals mh (.tup es) = (bd (evalEs T C vals mh es) fun vs mh => some (.tup vs,mh)) := rfl
theorem evalE_list {k es} : evalE T C vals mh (.list k es) = (bd (evalEs T C vals mh es) fun vs mh => if k then some (.ref mh.length,mh ++ [.lst vs]) else some (.lst vs,mh)) := rfl
theorem evalE_dict {k ks es} : evalE T C vals mh (.dict k ks es) = (bd (evalEs T C vals mh es) fun vs mh => if k then some (.ref mh.length,mh ++ [.dct ks vs]) else some (.dct ks vs,mh)) := rfl
theorem evalE_bin {k o a b} : evalE T C vals mh (.bin k o a b) = (bd (evalE T C vals mh a) fun x mh => bd (evalE T C vals mh b) fun y mh => binV k mh o x y) := rfl
theorem evalE_cmp {o a b} : evalE T C vals mh (.cmp o a b) = (bd (evalE T C vals mh a) fun x mh => bd (evalE T C vals mh b) fun y mh => bo (cmpV mh o x y) fun b => some (.bool b,mh)) := rfl
theorem evalE_cmp2 {o p a b c} : evalE T C vals mh (.cmp2 o p a b c) = (bd (evalE T C vals mh a) fun x mh => bd (evalE T C vals mh b) fun y mh => bo (cmpV mh o x y) fun t =>
   cond t (bd (evalE T C vals mh c) fun z mh => bo (cmpV mh p y z) fun b => some (.bool b,mh)) (some (.bool false,mh))) := rfl
theorem evalE_call {f es} : evalE T C vals mh (.call f es) = (bd (evalEs T C vals mh es) fun vs mh => callC C f vs mh) := rfl
theorem evalE_callv {i es} : evalE T C vals mh (.callv i es) = (bo (bo (vals[i]?).join fnV) fun f => bd (evalEs T C vals mh es) fun vs mh => callC C f vs mh) := rfl
theorem evalE_make {g es} : evalE T C vals mh (.make g es) = (bd (evalEs T C vals mh es) fun vs mh => makeC T C g vs mh) := rfl
theorem evalE_bcall {f es} : evalE T C vals mh (.bcall f es) = (bd (evalEs T C vals mh es) fun vs mh => bo (bcallV mh f vs) fun v => some (v,mh)) := rfl
theorem evalE_meth {o k es} : evalE T C vals mh (.meth o k es) = (bd (evalE T C vals mh o) fun x mh => bo (methF T mh x k) fun f => bd (evalEs T C vals mh es) fun vs mh => callC C f (x :: vs) mh) := rfl
theorem evalE_bmeth {o k es} : evalE T C vals mh (.bmeth o k es) = (bd (evalE T C vals mh o) fun x mh => if bmOk mh x k = true then (bd (evalEs T C vals mh es) fun vs mh => bmethV mh x k vs) else none) := rfl
theorem evalE_attr {o a} : evalE T C vals mh (.attr o a) = (bd (evalE T C vals mh o) fun x mh => if dataOk T mh x a = true then (bo (attrV mh x a) fun v => some (v,mh)) else none) := rfl
theorem evalE_sub {o i} : evalE T C vals mh (.sub o i) = (bd (evalE T C vals mh o) fun x mh => bd (evalE T C vals mh i) fun y mh => bo (subV mh x y) fun v => some (v,mh)) := rfl
theorem evalE_slice {k o lo hi} : evalE T C vals mh (.slice k o lo hi) = (bd (evalE T C vals mh o) fun x mh => bd (evalE T C vals mh lo) fun l mh => bd (evalE T C vals mh hi) fun u mh => sliceV k mh x l u) := rfl
theorem evalE_comp {nt caps elt iter conds} : evalE T C vals mh (.comp nt caps elt iter conds) = (bd (evalE T C vals mh iter) fun x mh => bo (iterV mh x) fun l => if l.length ≤ LIM then
   (bd (compGo (fun vs mh => brB (allT T C vs mh conds) (fun mh => bd (evalE T C vs mh elt) fun y mh => some (some y,mh)) fun mh => some (none,mh)) nt (capsOf vals caps) l mh) fun ys mh => some (.lst ys,mh)) else none) := rfl
theorem evalE_not {a} : evalE T C vals mh (.not a) = bd (evalE T C vals mh a) fun x mh => bo (truthV mh x) fun b => some (.bool (!b),mh) := rfl
theorem evalE_and {es} : evalE T C vals mh (.and es) = evalAnd T C vals mh es := rfl
theorem evalE_or {es} : evalE T C vals mh (.or es) = evalOr T C vals mh es := rfl
theorem evalE_ite {t a b} : evalE T C vals mh (.ite t a b) = brB (evalT T C vals mh t) (fun mh => evalE T C vals mh a) (fun mh => evalE T C vals mh b) := rfl
theorem evalE_fail : evalE T C vals mh .fail = none := rfl
theorem evalT_not {a} : evalT T C vals mh (.not a) = bd (evalT T C vals mh a) fun b mh => some (!b,mh) := toB_ofB _
theorem evalT_and {es} : evalT T C vals mh (.and es) = allT T C vals mh es := toB_ofB _
theorem evalT_or {es} : evalT T C vals mh (.or es) = anyT T C vals mh es := toB_ofB _
theorem evalT_ite {t a b} : evalT T C vals mh (.ite t a b) = brB (evalT T C vals mh t) (fun mh => evalT T C vals mh a) (fun mh => evalT T C vals mh b) := brB_toB _ toB _ _ rfl
theorem evalT_fail : evalT T C vals mh .fail = none := rfl
noncomputable def valueM : ME → Bool
 | .not _ => false
 | .and _ => false
 | .or _ => false
 | .ite .. => false
 | _ => true
theorem evalT_value {me : ME} (h : valueM me = true) : evalT T C vals mh me = bd (evalE T C vals mh me) fun v mh => bo (truthV mh v) fun b => some (b,mh) := by
 induction me using ME.casesOn <;> first | (cases h; done) | exact toB_fin _ | rfl
theorem evalEs_nil0 : evalEs T C vals mh [] = some ([],mh) := rfl
theorem evalEs_cons0 {e r} : evalEs T C vals mh (e :: r) = bd (evalE T C vals mh e) fun v mh => bd (evalEs T C vals mh r) fun vs mh => some (v :: vs,mh) := rfl
theorem evalAnd_one {e} : evalAnd T C vals mh [e] = evalE T C vals mh e := rfl
theorem evalAnd_cons {e f r} : evalAnd T C vals mh (e :: f :: r) = bd (evalE T C vals mh e) fun v mh => bo (truthV mh v) fun t => cond t (evalAnd T C vals mh (f :: r)) (some (v,mh)) := rfl
theorem evalOr_one {e} : evalOr T C vals mh [e] = evalE T C vals mh e := rfl
theorem evalOr_cons {e f r} : evalOr T C vals mh (e :: f :: r) = bd (evalE T C vals mh e) fun v mh => bo (truthV mh v) fun t => cond t (some (v,mh)) (evalOr T C vals mh (f :: r)) := rfl
theorem allT_nil : allT T C vals mh [] = some (true,mh) := rfl
theorem allT_cons {e r} : allT T C vals mh (e :: r) = brB (evalT T C vals mh e) (fun mh => allT T C vals mh r) fun mh => some (false,mh) := rfl
theorem anyT_nil : anyT T C vals mh [] = some (false,mh) := rfl
theorem anyT_cons {e r} : anyT T C vals mh (e :: r) = brB (evalT T C vals mh e) (fun mh => some (true,mh)) fun mh => anyT T C vals mh r := rfl
theorem storeT_name {v : MV} {s : St} {i} : storeT T C v s (.name i) = if i < s.1.length then some (s.1.set i (some v),s.2) else none  := rfl
theorem storeT_attr {v : MV} {s : St} {o a} : storeT T C v s (.attr o a) = bd (evalE T C s.1 s.2 o) fun r mh => bo (refV r) fun i => if dataOk T mh (.ref i) a = true then bo (insAt mh i) fun p => if p.2.2.length < 500 then some (s.1,mh.set i (.ins p.1 (putK a v p.2.1 p.2.2).1 (putK a v p.2.1 p.2.2).2)) else none else none := rfl
theorem storeT_sub {v : MV} {s : St} {o k} : storeT T C v s (.sub o k) = bd (evalE T C s.1 s.2 o) fun r mh => bo (refV r) fun i => bd (evalE T C s.1 mh k) fun x mh => bo (setSub mh i x v) fun mh => some (s.1,mh)  := rfl
theorem storeT_tup {v : MV} {s : St} {ts} : storeT T C v s (.tup ts) = bo (tupV v) fun l => storeTs T C l s ts  := rfl
theorem execS_assign {s : St} {t e} : execS T C s (.assign t e) = bd (evalE T C s.1 s.2 e) fun v mh => bo (storeT T C v (s.1,mh) t) fun s => some (.next,s)  := rfl
theorem execS_expr {s : St} {e} : execS T C s (.expr e) = bd (evalE T C s.1 s.2 e) fun v mh => if quietV v = true then some (.next,(s.1,mh)) else none  := rfl
theorem execS_ret {s : St} {e} : execS T C s (.ret e) = bd (evalE T C s.1 s.2 e) fun v mh => some (.ret v,(s.1,mh))  := rfl
theorem execS_iff {s : St} {t a b} : execS T C s (.iff t a b) = brB (evalT T C s.1 s.2 t) (fun mh => execB T C (s.1,mh) a) fun mh => execB T C (s.1,mh) b  := rfl
theorem execS_while {s : St} {t b} : execS T C s (.while t b) = loopW (fun s => evalT T C s.1 s.2 t) (fun s => execB T C s b) LIM s  := rfl
theorem execS_for {s : St} {t e b} : execS T C s (.for t e b) = bd (evalE T C s.1 s.2 e) fun x mh => bo (iterV mh x) fun l => loopF (fun v s => storeT T C v s t) (fun s => execB T C s b) l (s.1,mh)  := rfl
theorem execS_forR {s : St} {t e b} : execS T C s (.forR t e b) = bd (evalE T C s.1 s.2 e) fun x mh => bo (intV x) fun n => if 0 ≤ n ∧ n ≤ LIM then loopF (fun v s => storeT T C v s t) (fun s => execB T C s b) (rangeL n) (s.1,mh) else none  := rfl
theorem execS_forE {s : St} {t e b} : execS T C s (.forE t e b) = bd (evalE T C s.1 s.2 e) fun x mh => bo (lstV x) fun l => loopF (fun v s => storeT T C v s t) (fun s => execB T C s b) (enumL l 0) (s.1,mh)  := rfl
theorem execS_try {s : St} {b} : execS T C s (.try b) = execB T C s b  := rfl
theorem execS_fail {s : St}  : execS T C s (.fail) = none  := rfl
theorem execB_nil {s : St} : execB T C s [] = some (.next,s) := rfl
theorem execB_cons {s : St} {a r} : execB T C s (a :: r) = bd (execS T C s a) fun f s => flw f (execB T C s r) fun v => some (.ret v,s) := rfl
theorem loopW_succ {test : St → Option (Bool × MH)} {body : St → Option (Fl × St)} {n : Nat} {s : St} : loopW test body (n + 1) s = brB (test s) (fun mh => bd (body (s.1,mh)) fun f s => flw f (loopW test body n s) fun v => some (.ret v,s)) fun mh => some (.next,(s.1,mh)) := rfl
theorem loopF_cons {store : MV → St → Option St} {body : St → Option (Fl × St)} {x : MV} {r : List MV} {s : St} : loopF store body (x :: r) s = bo (store x s) fun s => bd (body s) fun f s => flw f (loopF store body r s) fun v => some (.ret v,s) := rfl
end
end
end Mn
end
noncomputable section
namespace Mn
set_option maxRecDepth 10000
noncomputable def f0 : FnRec := { nargs := 4,dflt := [(.int (0)),(.int (-1))],nslots := 4,keep := false,body := [(.assign (.attr (.loc 0) 0) (.loc 1)),(.assign (.attr (.loc 0) 1) (.loc 2)),(.assign (.attr (.loc 0) 2) (.ite (.cmp .Lt (.loc 3) (.int 0)) (.bcall .len [(.loc 1)]) (.bcall .min [(.loc 3),(.bcall .len [(.loc 1)])])))] }
noncomputable def f1 : FnRec := { nargs := 1,dflt := [],nslots := 1,keep := false,body := [(.ret (.cmp .GtE (.attr (.loc 0) 1) (.attr (.loc 0) 2)))] }
noncomputable def f2 : FnRec := { nargs := 2,dflt := [(.int (0))],nslots := 3,keep := false,body := [(.assign (.name 2) (.bin false .Add (.attr (.loc 0) 1) (.loc 1))),(.ret (.ite (.cmp2 .LtE .Lt (.int 0) (.loc 2) (.attr (.loc 0) 2)) (.sub (.attr (.loc 0) 0) (.loc 2)) (.int (-1))))] }
noncomputable def f3 : FnRec := { nargs := 1,dflt := [],nslots := 2,keep := false,body := [(.assign (.name 1) (.meth (.loc 0) 3 [])),(.iff (.cmp .GtE (.loc 1) (.int 0)) [(.assign (.attr (.loc 0) 1) (.bin false .Add (.attr (.loc 0) 1) (.int 1)))] []),(.ret (.loc 1))] }
noncomputable def f4 : FnRec := { nargs := 2,dflt := [],nslots := 2,keep := false,body := [(.ret (.and [(.cmp .LtE (.bin false .Add (.attr (.loc 0) 1) (.bcall .len [(.loc 1)])) (.attr (.loc 0) 2)),(.cmp .Eq (.slice false (.attr (.loc 0) 0) (.attr (.loc 0) 1) (.bin false .Add (.attr (.loc 0) 1) (.bcall .len [(.loc 1)]))) (.loc 1))]))] }
noncomputable def f5 : FnRec := { nargs := 2,dflt := [],nslots := 2,keep := false,body := [(.iff (.not (.meth (.loc 0) 4 [(.loc 1)])) [(.ret (.bool false))] []),(.assign (.attr (.loc 0) 1) (.bin false .Add (.attr (.loc 0) 1) (.bcall .len [(.loc 1)]))),(.ret (.bool true))] }
noncomputable def f6 : FnRec := { nargs := 1,dflt := [],nslots := 1,keep := false,body := [(.ret (.ite (.cmp2 .LtE .LtE (.int 65) (.loc 0) (.int 90)) (.bin false .Add (.loc 0) (.int 32)) (.loc 0)))] }
noncomputable def f7 : FnRec := { nargs := 1,dflt := [],nslots := 1,keep := false,body := [(.ret (.bcall .bytes [(.comp 1 [] (.call 6 [(.loc 0)]) (.loc 0) [])]))] }
noncomputable def f8 : FnRec := { nargs := 1,dflt := [],nslots := 1,keep := false,body := [(.ret (.bmeth (.str []) .join [(.comp 1 [] (.bcall .chr [(.call 6 [(.bcall .ord [(.loc 0)])])]) (.loc 0) [])]))] }
noncomputable def f9 : FnRec := { nargs := 3,dflt := [(.int (0)),(.int (-1))],nslots := 8,keep := false,body := [(.assign (.name 3) (.ite (.cmp .Lt (.loc 2) (.int 0)) (.bcall .len [(.loc 0)]) (.bcall .min [(.loc 2),(.bcall .len [(.loc 0)])]))),(.assign (.name 4) (.list true [])),(.assign (.name 5) (.loc 1)),(.while (.cmp .Lt (.loc 5) (.loc 3)) [(.assign (.name 6) (.bmeth (.loc 0) .find [(.bytes [10]),(.loc 5),(.loc 3)])),(.iff (.cmp .Lt (.loc 6) (.int 0)) [(.expr (.bmeth (.loc 4) .append [(.tup [(.loc 5),(.loc 3),(.loc 3)])])),(.ret (.loc 4))] []),(.assign (.name 7) (.ite (.and [(.cmp .Gt (.loc 6) (.loc 5)),(.cmp .Eq (.sub (.loc 0) (.bin false .Sub (.loc 6) (.int 1))) (.glo 0))]) (.bin false .Sub (.loc 6) (.int 1)) (.loc 6))),(.expr (.bmeth (.loc 4) .append [(.tup [(.loc 5),(.loc 7),(.bin false .Add (.loc 6) (.int 1))])])),(.assign (.name 5) (.bin false .Add (.loc 6) (.int 1)))]),(.ret (.loc 4))] }
noncomputable def f10 : FnRec := { nargs := 3,dflt := [],nslots := 3,keep := false,body := [(.assign (.attr (.loc 0) 5) (.loc 1)),(.assign (.attr (.loc 0) 6) (.loc 2))] }
noncomputable def f11 : FnRec := { nargs := 1,dflt := [],nslots := 1,keep := false,body := [(.ret (.call 8 [(.bmeth (.str []) .join [(.comp 1 [] (.bcall .chr [(.loc 0)]) (.attr (.loc 0) 5) [])])]))] }
noncomputable def f12 : FnRec := { nargs := 3,dflt := [],nslots := 4,keep := false,body := [(.assign (.name 3) (.bmeth (.loc 0) .find [(.bytes [10]),(.loc 1),(.loc 2)])),(.iff (.cmp .Lt (.loc 3) (.int 0)) [(.ret (.tup [(.loc 2),(.loc 2)]))] []),(.iff (.and [(.cmp .Gt (.loc 3) (.loc 1)),(.cmp .Eq (.sub (.loc 0) (.bin false .Sub (.loc 3) (.int 1))) (.int 13))]) [(.ret (.tup [(.bin false .Sub (.loc 3) (.int 1)),(.bin false .Add (.loc 3) (.int 1))]))] []),(.ret (.tup [(.loc 3),(.bin false .Add (.loc 3) (.int 1))]))] }
noncomputable def f13 : FnRec := { nargs := 1,dflt := [],nslots := 2,keep := false,body := [(.for (.name 1) (.loc 0) [(.iff (.or [(.cmp .Lt (.loc 1) (.int 33)),(.cmp .Gt (.loc 1) (.int 126)),(.cmp .Eq (.loc 1) (.int 58))]) [(.ret (.bool false))] [])]),(.ret (.cmp .Gt (.bcall .len [(.loc 0)]) (.int 0)))] }
noncomputable def f14 : FnRec := { nargs := 3,dflt := [],nslots := 4,keep := false,body := [(.assign (.name 3) (.bmeth (.loc 0) .find [(.bytes [58]),(.loc 1),(.loc 2)])),(.ret (.ite (.and [(.cmp .GtE (.loc 3) (.int 0)),(.call 13 [(.slice false (.loc 0) (.loc 1) (.loc 3))])]) (.loc 3) (.int (-1))))] }
noncomputable def f15 : FnRec := { nargs := 3,dflt := [(.int (0)),(.int (-1))],nslots := 9,keep := false,body := [(.assign (.name 3) (.ite (.cmp .Lt (.loc 2) (.int 0)) (.bcall .len [(.loc 0)]) (.loc 2))),(.assign (.name 4) (.list true [])),(.assign (.name 5) (.loc 1)),(.while (.cmp .Lt (.loc 5) (.loc 3)) [(.assign (.tup [(.name 6),(.name 7)]) (.call 12 [(.loc 0),(.loc 5),(.loc 3)])),(.iff (.cmp .Eq (.loc 6) (.loc 5)) [(.ret (.tup [(.loc 4),(.loc 7)]))] []),(.assign (.name 8) (.call 14 [(.loc 0),(.loc 5),(.loc 6)])),(.iff (.cmp .Lt (.loc 8) (.int 0)) [(.ret (.tup [(.loc 4),(.loc 5)]))] []),(.while (.and [(.cmp .Lt (.loc 7) (.loc 3)),(.cmp .In (.sub (.loc 0) (.loc 7)) (.glo 1))]) [(.assign (.tup [(.name 6),(.name 7)]) (.call 12 [(.loc 0),(.loc 7),(.loc 3)]))]),(.expr (.bmeth (.loc 4) .append [(.tup [(.make 1 [(.slice false (.loc 0) (.loc 5) (.loc 8)),(.slice false (.loc 0) (.bin false .Add (.loc 8) (.int 1)) (.loc 6))]),(.loc 5),(.loc 7)])])),(.assign (.name 5) (.loc 7))]),(.ret (.tup [(.loc 4),(.loc 3)]))] }
noncomputable def f16 : FnRec := { nargs := 3,dflt := [(.int (0)),(.int (-1))],nslots := 5,keep := false,body := [(.assign (.tup [(.name 3),(.name 4)]) (.call 15 [(.loc 0),(.loc 1),(.loc 2)])),(.ret (.tup [(.comp 1 [] (.sub (.loc 0) (.int 0)) (.loc 3) []),(.loc 4)]))] }
noncomputable def f17 : FnRec := { nargs := 1,dflt := [],nslots := 5,keep := false,body := [(.assign (.name 1) (.list true [])),(.assign (.name 2) (.int 0)),(.while (.bool true) [(.assign (.tup [(.name 3),(.name 4)]) (.call 12 [(.loc 0),(.loc 2),(.bcall .len [(.loc 0)])])),(.expr (.bmeth (.loc 1) .append [(.slice false (.loc 0) (.loc 2) (.loc 3))])),(.iff (.cmp .Eq (.loc 3) (.bcall .len [(.loc 0)])) [(.ret (.loc 1))] []),(.assign (.name 2) (.loc 4))])] }
noncomputable def f18 : FnRec := { nargs := 1,dflt := [],nslots := 1,keep := false,body := [(.ret (.bmeth (.bmeth (.bytes []) .join [(.call 17 [(.loc 0)])]) .strip [(.bytes [32,9])]))] }
noncomputable def f19 : FnRec := { nargs := 2,dflt := [],nslots := 4,keep := false,body := [(.assign (.name 2) (.call 8 [(.loc 1)])),(.for (.name 3) (.loc 0) [(.iff (.cmp .Eq (.meth (.loc 3) 7 []) (.loc 2)) [(.ret (.call 18 [(.attr (.loc 3) 6)]))] [])]),(.ret .none)] }
noncomputable def f20 : FnRec := { nargs := 1,dflt := [],nslots := 1,keep := false,body := [(.iff (.cmp .NotIn (.loc 0) (.glo 2)) [.fail] [])] }
noncomputable def f21 : FnRec := { nargs := 2,dflt := [],nslots := 8,keep := false,body := [(.assign (.name 2) (.sub (.loc 0) (.loc 1))),(.iff (.cmp .Lt (.loc 2) (.int 128)) [(.ret (.tup [(.loc 2),(.int 1)]))] []),.fail,(.iff (.cmp .Eq (.loc 5) (.int 0)) [(.ret (.tup [(.int (-1)),(.int 1)]))] []),.fail,.fail,(.ret (.tup [(.loc 6),(.bin false .Add (.loc 5) (.int 1))]))] }
noncomputable def f22 : FnRec := { nargs := 3,dflt := [],nslots := 3,keep := false,body := [(.iff (.cmp .Eq (.loc 0) (.glo 3)) [(.ret (.call 21 [(.loc 1),(.loc 2)]))] []),(.iff (.and [(.cmp .Eq (.loc 0) (.glo 4)),(.cmp .Gt (.sub (.loc 1) (.loc 2)) (.int 127))]) [(.ret (.tup [(.int (-1)),(.int 1)]))] []),(.ret (.tup [(.sub (.loc 1) (.loc 2)),(.int 1)]))] }
noncomputable def f23 : FnRec := { nargs := 2,dflt := [],nslots := 6,keep := false,body := [(.expr (.call 20 [(.loc 0)])),(.assign (.name 2) (.list true [])),(.assign (.name 3) (.int 0)),(.while (.cmp .Lt (.loc 3) (.bcall .len [(.loc 1)])) [(.assign (.tup [(.name 4),(.name 5)]) (.call 22 [(.loc 0),(.loc 1),(.loc 3)])),(.iff (.cmp .Lt (.loc 4) (.int 0)) [.fail] []),(.expr (.bmeth (.loc 2) .append [(.bcall .chr [(.loc 4)])])),(.assign (.name 3) (.bin false .Add (.loc 3) (.loc 5)))]),(.ret (.bmeth (.str []) .join [(.loc 2)]))] }
noncomputable def f24 : FnRec := { nargs := 1,dflt := [],nslots := 1,keep := false,body := [(.try [(.ret (.call 23 [(.glo 3),(.loc 0)]))])] }
noncomputable def f25 : FnRec := { nargs := 2,dflt := [],nslots := 2,keep := false,body := [(.iff (.cmp .Eq (.slice false (.loc 0) (.loc 1) (.bin false .Add (.loc 1) (.int 1))) (.bytes [10])) [(.ret (.bin false .Add (.loc 1) (.int 1)))] []),(.ret (.ite (.cmp .Eq (.slice false (.loc 0) (.loc 1) (.bin false .Add (.loc 1) (.int 2))) (.bytes [13,10])) (.bin false .Add (.loc 1) (.int 2)) (.int (-1))))] }
noncomputable def f26 : FnRec := { nargs := 3,dflt := [],nslots := 4,keep := false,body := [(.iff (.or [(.cmp .GtE (.loc 1) (.bcall .len [(.loc 0)])),(.and [(.cmp .Eq (.sub (.loc 0) (.loc 1)) (.int 92)),(.cmp .Eq (.bin false .Add (.loc 1) (.int 1)) (.bcall .len [(.loc 0)]))])]) [.fail] []),(.iff (.cmp .Eq (.sub (.loc 0) (.loc 1)) (.int 92)) [(.iff (.cmp .In (.sub (.loc 0) (.bin false .Add (.loc 1) (.int 1))) (.glo 5)) [.fail] []),(.ret (.tup [(.slice false (.loc 0) (.bin false .Add (.loc 1) (.int 1)) (.bin false .Add (.loc 1) (.int 2))),(.bin false .Add (.loc 1) (.int 2))]))] []),(.assign (.name 3) (.call 25 [(.loc 0),(.loc 1)])),(.iff (.cmp .GtE (.loc 3) (.int 0)) [(.ret (.tup [(.bytes []),(.loc 3)]))] []),(.iff (.cmp .In (.sub (.loc 0) (.loc 1)) (.glo 5)) [.fail] []),(.ret (.tup [(.slice false (.loc 0) (.loc 1) (.bin false .Add (.loc 1) (.int 1))),(.bin false .Add (.loc 1) (.int 1))]))] }
noncomputable def f27 : FnRec := { nargs := 4,dflt := [],nslots := 7,keep := false,body := [(.assign (.name 4) (.list true [])),(.assign (.name 5) (.bin false .Add (.loc 1) (.int 1))),(.while (.cmp .NotEq (.slice false (.loc 0) (.loc 5) (.bin false .Add (.loc 5) (.int 1))) (.loc 2)) [(.iff (.and [(.cmp .Lt (.loc 5) (.bcall .len [(.loc 0)])),(.cmp .In (.sub (.loc 0) (.loc 5)) (.loc 3))]) [.fail] []),(.assign (.tup [(.name 6),(.name 5)]) (.call 26 [(.loc 0),(.loc 5),(.loc 1)])),(.expr (.bmeth (.loc 4) .append [(.loc 6)]))]),(.ret (.tup [(.bmeth (.bytes []) .join [(.loc 4)]),(.bin false .Add (.loc 5) (.int 1))]))] }
noncomputable def f28 : FnRec := { nargs := 4,dflt := [],nslots := 4,keep := false,body := [(.assign (.attr (.loc 0) 8) (.loc 1)),(.assign (.attr (.loc 0) 9) (.loc 2)),(.assign (.attr (.loc 0) 10) (.loc 3))] }
noncomputable def f29 : FnRec := { nargs := 1,dflt := [],nslots := 1,keep := false,body := [(.ret (.cmp .Eq (.attr (.loc 0) 8) (.str [109,117,108,116,105,112,97,114,116])))] }
noncomputable def f30 : FnRec := { nargs := 1,dflt := [],nslots := 1,keep := false,body := [(.ret (.and [(.cmp .Eq (.attr (.loc 0) 8) (.str [109,101,115,115,97,103,101])),(.cmp .Eq (.attr (.loc 0) 9) (.str [114,102,99,56,50,50]))]))] }
noncomputable def f31 : FnRec := { nargs := 0,dflt := [],nslots := 0,keep := false,body := [(.ret (.make 2 [(.str [116,101,120,116]),(.str [112,108,97,105,110]),(.dict false [[99,104,97,114,115,101,116]] [(.str [117,115,45,97,115,99,105,105])])]))] }
noncomputable def f32 : FnRec := { nargs := 1,dflt := [],nslots := 1,keep := false,body := [(.ret (.and [(.cmp2 .Lt .Lt (.int 32) (.loc 0) (.int 127)),(.cmp .NotIn (.loc 0) (.glo 6))]))] }
noncomputable def f33 : FnRec := { nargs := 1,dflt := [],nslots := 1,keep := false,body := [(.while (.not (.meth (.loc 0) 11 [])) [(.iff (.cmp .In (.meth (.loc 0) 3 []) (.glo 7)) [(.expr (.meth (.loc 0) 12 []))] [(.iff (.cmp .Eq (.meth (.loc 0) 3 []) (.glo 8)) [.fail] [(.ret .none)])])])] }
noncomputable def f34 : FnRec := { nargs := 1,dflt := [],nslots := 2,keep := false,body := [(.assign (.name 1) (.attr (.loc 0) 1)),(.while (.call 32 [(.meth (.loc 0) 3 [])]) [(.expr (.meth (.loc 0) 12 []))]),(.iff (.cmp .Eq (.attr (.loc 0) 1) (.loc 1)) [.fail] []),(.ret (.slice false (.attr (.loc 0) 0) (.loc 1) (.attr (.loc 0) 1)))] }
noncomputable def f35 : FnRec := { nargs := 1,dflt := [],nslots := 3,keep := false,body := [(.iff (.cmp .Eq (.meth (.loc 0) 3 []) (.glo 9)) [(.assign (.tup [(.name 1),(.attr (.loc 0) 1)]) (.call 27 [(.attr (.loc 0) 0),(.attr (.loc 0) 1),(.bytes [34]),(.bytes [])])),(.ret (.loc 1))] []),(.assign (.name 2) (.attr (.loc 0) 1)),.fail,(.iff (.cmp .Eq (.attr (.loc 0) 1) (.loc 2)) [.fail] []),(.ret (.slice false (.attr (.loc 0) 0) (.loc 2) (.attr (.loc 0) 1)))] }
noncomputable def f36 : FnRec := { nargs := 1,dflt := [],nslots := 1,keep := false,body := [(.ret (.bmeth (.str []) .join [(.comp 1 [] (.bcall .chr [(.loc 0)]) (.call 7 [(.loc 0)]) [])]))] }
noncomputable def f37 : FnRec := { nargs := 1,dflt := [],nslots := 3,keep := false,body := [(.assign (.name 1) (.list true [])),(.expr (.call 33 [(.loc 0)])),(.while (.not (.meth (.loc 0) 11 [])) [(.iff (.cmp .NotEq (.meth (.loc 0) 12 []) (.glo 10)) [.fail] []),(.expr (.call 33 [(.loc 0)])),(.iff (.and [(.not (.meth (.loc 0) 11 [])),(.cmp .NotEq (.meth (.loc 0) 3 []) (.glo 10))]) [(.assign (.name 2) (.call 36 [(.call 34 [(.loc 0)])])),(.expr (.call 33 [(.loc 0)])),(.iff (.cmp .NotEq (.meth (.loc 0) 12 []) (.glo 11)) [.fail] []),(.expr (.call 33 [(.loc 0)])),(.expr (.bmeth (.loc 1) .append [(.tup [(.loc 2),(.call 35 [(.loc 0)])])])),(.expr (.call 33 [(.loc 0)]))] [])]),(.ret (.loc 1))] }
noncomputable def f38 : FnRec := { nargs := 1,dflt := [],nslots := 4,keep := false,body := [(.assign (.name 1) (.bmeth (.loc 0) .find [(.str [42])])),(.iff (.cmp .Lt (.loc 1) (.int 1)) [(.ret .none)] []),(.assign (.name 2) (.cmp .Eq (.sub (.loc 0) (.int (-1))) (.str [42]))),(.iff (.and [(.loc 2),(.cmp .Eq (.loc 1) (.bin false .Sub (.bcall .len [(.loc 0)]) (.int 1)))]) [(.ret (.tup [(.slice false (.loc 0) .none (.loc 1)),(.int 0),(.bool true)]))] []),.fail,(.ret (.ite (.cmp .GtE (.loc 3) (.int 0)) (.tup [(.slice false (.loc 0) .none (.loc 1)),(.loc 3),(.loc 2)]) .none))] }
noncomputable def f39 : FnRec := { nargs := 1,dflt := [],nslots := 9,keep := false,body := [(.assign (.name 1) (.dict true [] [])),(.assign (.name 2) (.dict true [] [])),(.for (.tup [(.name 3),(.name 4)]) (.loc 0) [(.assign (.name 5) (.call 38 [(.loc 3)])),(.iff (.cmp .Is (.loc 5) .none) [(.iff (.cmp .NotIn (.loc 3) (.loc 1)) [(.assign (.sub (.loc 1) (.loc 3)) (.call 24 [(.loc 4)]))] [])] [(.assign (.tup [(.name 6),(.name 7),(.name 8)]) (.loc 5)),(.iff (.cmp .NotIn (.loc 6) (.loc 2)) [(.assign (.sub (.loc 2) (.loc 6)) (.dict true [] []))] []),(.iff (.cmp .NotIn (.loc 7) (.sub (.loc 2) (.loc 6))) [(.assign (.sub (.sub (.loc 2) (.loc 6)) (.loc 7)) (.tup [(.loc 8),(.loc 4)]))] [])])]),(.for (.name 6) (.loc 2) [(.iff (.cmp .In (.int 0) (.sub (.loc 2) (.loc 6))) [.fail] [])]),(.ret (.loc 1))] }
noncomputable def f40 : FnRec := { nargs := 1,dflt := [],nslots := 4,keep := false,body := [(.assign (.name 1) (.make 0 [(.loc 0)])),(.expr (.call 33 [(.loc 1)])),(.assign (.name 2) (.call 36 [(.call 34 [(.loc 1)])])),(.expr (.call 33 [(.loc 1)])),(.iff (.not (.meth (.loc 1) 13 [(.bytes [47])])) [.fail] []),(.expr (.call 33 [(.loc 1)])),(.assign (.name 3) (.call 36 [(.call 34 [(.loc 1)])])),(.ret (.make 2 [(.loc 2),(.loc 3),(.call 39 [(.call 37 [(.loc 1)])])]))] }
noncomputable def f41 : FnRec := { nargs := 1,dflt := [],nslots := 1,keep := false,body := [(.iff (.cmp .Is (.loc 0) .none) [(.ret (.call 31 []))] []),(.try [(.ret (.call 40 [(.loc 0)]))])] }
noncomputable def f42 : FnRec := { nargs := 6,dflt := [],nslots := 6,keep := false,body := [(.assign (.attr (.loc 0) 14) (.loc 1)),(.assign (.attr (.loc 0) 15) (.loc 2)),(.assign (.attr (.loc 0) 2) (.loc 3)),(.assign (.attr (.loc 0) 16) (.loc 4)),(.assign (.attr (.loc 0) 17) (.loc 5)),(.assign (.attr (.loc 0) 18) (.call 43 [(.loc 4)])),(.assign (.attr (.loc 0) 19) (.list false [])),(.assign (.attr (.loc 0) 20) .none)] }
noncomputable def f43 : FnRec := { nargs := 1,dflt := [],nslots := 4,keep := false,body := [(.assign (.name 1) (.call 19 [(.loc 0),(.str [99,111,110,116,101,110,116,45,116,114,97,110,115,102,101,114,45,101,110,99,111,100,105,110,103])])),(.iff (.cmp .Is (.loc 1) .none) [(.ret (.glo 12))] []),(.assign (.name 2) (.int 0)),(.while (.and [(.cmp .Lt (.loc 2) (.bcall .len [(.loc 1)])),(.cmp .NotIn (.sub (.loc 1) (.loc 2)) (.glo 13))]) [(.assign (.name 2) (.bin false .Add (.loc 2) (.int 1)))]),(.assign (.name 3) (.call 8 [(.bmeth (.str []) .join [(.comp 1 [] (.bcall .chr [(.loc 0)]) (.slice false (.loc 1) .none (.loc 2)) [])])])),(.ret (.ite (.cmp .Eq (.loc 3) (.str [])) (.glo 12) (.loc 3)))] }
noncomputable def f44 : FnRec := { nargs := 2,dflt := [],nslots := 4,keep := false,body := [(.assign (.name 2) (.bin false .Add (.bytes [45,45]) (.loc 1))),(.iff (.cmp .NotEq (.slice false (.loc 0) .none (.bcall .len [(.loc 2)])) (.loc 2)) [(.ret (.str []))] []),(.assign (.name 3) (.bmeth (.slice false (.loc 0) (.bcall .len [(.loc 2)]) .none) .rstrip [(.glo 14)])),(.iff (.cmp .Eq (.loc 3) (.bytes [])) [(.ret (.str [110,101,120,116]))] []),(.ret (.ite (.cmp .Eq (.loc 3) (.bytes [45,45])) (.str [108,97,115,116]) (.str [])))] }
noncomputable def f45 : FnRec := { nargs := 4,dflt := [],nslots := 11,keep := false,body := [(.assign (.name 4) (.list true [])),(.assign (.name 5) (.int (-1))),(.assign (.name 6) (.loc 1)),(.for (.tup [(.name 7),(.name 8),(.name 9)]) (.call 9 [(.loc 0),(.loc 1),(.loc 2)]) [(.assign (.name 10) (.call 44 [(.slice false (.loc 0) (.loc 7) (.loc 8)),(.loc 3)])),(.iff (.cmp .NotEq (.loc 10) (.str [])) [(.iff (.cmp .GtE (.loc 5) (.int 0)) [(.expr (.bmeth (.loc 4) .append [(.tup [(.loc 5),(.bcall .max [(.loc 5),(.loc 6)])])]))] []),(.iff (.cmp .Eq (.loc 10) (.str [108,97,115,116])) [(.ret (.loc 4))] []),(.assign (.name 5) (.loc 9))] []),(.assign (.name 6) (.loc 8))]),(.iff (.cmp .GtE (.loc 5) (.int 0)) [(.expr (.bmeth (.loc 4) .append [(.tup [(.loc 5),(.loc 2)])]))] []),(.ret (.loc 4))] }
noncomputable def f46 : FnRec := { nargs := 2,dflt := [],nslots := 5,keep := false,body := [(.assign (.name 2) (.bmeth (.attr (.attr (.loc 1) 17) 10) .get [(.str [98,111,117,110,100,97,114,121]),(.str [])])),(.assign (.name 3) (.bcall .bytes [(.comp 1 [] (.bcall .ord [(.loc 0)]) (.loc 2) [(.cmp .Lt (.bcall .ord [(.loc 0)]) (.int 256))])])),(.assign (.name 4) (.list false [])),(.iff (.and [(.cmp .NotEq (.loc 2) (.str [])),(.cmp .Eq (.bcall .len [(.loc 3)]) (.bcall .len [(.loc 2)]))]) [(.assign (.name 4) (.call 45 [(.loc 0),(.attr (.loc 1) 15),(.attr (.loc 1) 2),(.loc 3)]))] []),(.ret (.ite (.cmp .NotEq (.loc 4) (.list false [])) (.loc 4) (.list false [(.tup [(.attr (.loc 1) 2),(.attr (.loc 1) 2)])])))] }
noncomputable def f47 : FnRec := { nargs := 1,dflt := [],nslots := 1,keep := false,body := [(.ret (.and [(.meth (.attr (.loc 0) 17) 21 []),(.cmp .In (.attr (.loc 0) 18) (.glo 15))]))] }
noncomputable def f48 : FnRec := { nargs := 5,dflt := [],nslots := 11,keep := false,body := [(.assign (.tup [(.name 5),(.name 6)]) (.call 16 [(.loc 0),(.loc 1),(.loc 2)])),(.assign (.name 7) (.call 19 [(.loc 5),(.str [99,111,110,116,101,110,116,45,116,121,112,101])])),(.assign (.name 8) (.ite (.and [(.cmp .Is (.loc 7) .none),(.loc 4)]) (.make 2 [(.str [109,101,115,115,97,103,101]),(.str [114,102,99,56,50,50]),(.dict false [] [])]) (.call 41 [(.loc 7)]))),(.assign (.name 9) (.make 3 [(.loc 1),(.loc 6),(.loc 2),(.loc 5),(.loc 8)])),(.iff (.and [(.cmp .Lt (.loc 3) (.glo 16)),(.meth (.loc 8) 22 [])]) [(.assign (.name 10) (.cmp .Eq (.attr (.loc 8) 9) (.str [100,105,103,101,115,116]))),(.assign (.attr (.loc 9) 19) (.comp 2 [0,3,10] (.call 48 [(.loc 2),(.loc 0),(.loc 1),(.bin false .Add (.loc 3) (.int 1)),(.loc 4)]) (.call 46 [(.loc 0),(.loc 9)]) []))] [(.iff (.and [(.cmp .Lt (.loc 3) (.glo 16)),(.call 47 [(.loc 9)])]) [(.assign (.attr (.loc 9) 20) (.call 48 [(.loc 0),(.loc 6),(.loc 2),(.bin false .Add (.loc 3) (.int 1)),(.bool false)]))] [])]),(.ret (.loc 9))] }
noncomputable def f49 : FnRec := { nargs := 1,dflt := [],nslots := 1,keep := false,body := [(.ret (.call 48 [(.loc 0),(.int 0),(.bcall .len [(.loc 0)]),(.int 0),(.bool false)]))] }
noncomputable def f50 : FnRec := { nargs := 2,dflt := [],nslots := 2,keep := false,body := [(.iff (.cmp .NotEq (.attr (.loc 0) 19) (.list false [])) [(.ret (.attr (.loc 0) 19))] []),(.iff (.loc 1) [(.ret (.list false [(.loc 0)]))] []),(.ret (.ite (.cmp .Is (.attr (.loc 0) 20) .none) (.list false []) (.call 50 [(.attr (.loc 0) 20),(.bool true)])))] }
noncomputable def f51 : FnRec := { nargs := 2,dflt := [],nslots := 6,keep := false,body := [(.assign (.name 2) (.loc 0)),(.assign (.name 3) (.bool true)),(.for (.name 4) (.loc 1) [(.assign (.name 5) (.call 50 [(.loc 2),(.loc 3)])),(.iff (.not (.cmp2 .LtE .LtE (.int 1) (.loc 4) (.bcall .len [(.loc 5)]))) [(.ret .none)] []),(.assign (.name 2) (.sub (.loc 5) (.bin false .Sub (.loc 4) (.int 1)))),(.assign (.name 3) (.bool false))]),(.ret (.loc 2))] }
noncomputable def f52 : FnRec := { nargs := 5,dflt := [(.str []),(.tup []),.none],nslots := 5,keep := false,body := [(.assign (.attr (.loc 0) 23) (.bcall .tuple [(.loc 1)])),(.assign (.attr (.loc 0) 7) (.loc 2)),(.assign (.attr (.loc 0) 24) (.bcall .tuple [(.loc 3)])),(.assign (.attr (.loc 0) 25) (.loc 4))] }
noncomputable def f53 : FnRec := { nargs := 4,dflt := [],nslots := 8,keep := false,body := [(.assign (.name 4) (.comp 1 [] (.call 8 [(.loc 0)]) (.loc 2) [])),(.assign (.name 5) (.sub (.call 15 [(.loc 0),(.attr (.loc 1) 14),(.attr (.loc 1) 15)]) (.int 0))),(.assign (.name 6) (.comp 3 [0,3,4] (.slice false (.loc 3) (.loc 1) (.loc 2)) (.loc 5) [(.cmp .NotEq (.cmp .In (.meth (.loc 0) 7 []) (.loc 5)) (.loc 4))])),(.assign (.name 7) (.ite (.cmp .NotEq (.loc 5) (.list false [])) (.sub (.sub (.loc 5) (.int (-1))) (.int 2)) (.attr (.loc 1) 14))),(.ret (.bin false .Add (.bmeth (.bytes []) .join [(.loc 6)]) (.slice false (.loc 0) (.loc 7) (.attr (.loc 1) 15))))] }
noncomputable def f54 : FnRec := { nargs := 3,dflt := [],nslots := 3,keep := false,body := [(.iff (.cmp .Eq (.attr (.loc 2) 7) (.str [72,69,65,68,69,82])) [(.ret (.slice false (.loc 0) (.attr (.loc 1) 14) (.attr (.loc 1) 15)))] []),(.iff (.cmp .Eq (.attr (.loc 2) 7) (.str [84,69,88,84])) [(.ret (.slice false (.loc 0) (.attr (.loc 1) 15) (.attr (.loc 1) 2)))] []),(.iff (.cmp .In (.attr (.loc 2) 7) (.glo 17)) [(.ret (.call 53 [(.loc 0),(.loc 1),(.attr (.loc 2) 24),(.cmp .Eq (.attr (.loc 2) 7) (.str [72,69,65,68,69,82,46,70,73,69,76,68,83,46,78,79,84]))]))] []),(.ret (.slice false (.loc 0) (.attr (.loc 1) 14) (.attr (.loc 1) 2)))] }
noncomputable def f55 : FnRec := { nargs := 4,dflt := [],nslots := 5,keep := false,body := [(.iff (.cmp .Eq (.attr (.loc 2) 23) (.tup [])) [(.ret (.call 54 [(.loc 0),(.loc 1),(.loc 2)]))] []),(.assign (.name 4) (.callv 3 [(.loc 1),(.attr (.loc 2) 23)])),(.iff (.cmp .Is (.loc 4) .none) [(.ret .none)] []),(.iff (.cmp .Eq (.attr (.loc 2) 7) (.str [])) [(.ret (.slice false (.loc 0) (.attr (.loc 4) 15) (.attr (.loc 4) 2)))] []),(.iff (.cmp .Eq (.attr (.loc 2) 7) (.str [77,73,77,69])) [(.ret (.slice false (.loc 0) (.attr (.loc 4) 14) (.attr (.loc 4) 15)))] []),(.ret (.ite (.cmp .Is (.attr (.loc 4) 20) .none) .none (.call 54 [(.loc 0),(.attr (.loc 4) 20),(.loc 2)])))] }
noncomputable def f56 : FnRec := { nargs := 2,dflt := [],nslots := 2,keep := false,body := [(.iff (.or [(.cmp .Is (.loc 0) .none),(.cmp .Is (.loc 1) .none)]) [(.ret (.loc 0))] []),(.ret (.slice false (.loc 0) (.sub (.loc 1) (.int 0)) (.bin false .Add (.sub (.loc 1) (.int 0)) (.sub (.loc 1) (.int 1)))))] }
noncomputable def f57 : FnRec := { nargs := 3,dflt := [],nslots := 3,keep := false,body := [(.ret (.call 56 [(.call 55 [(.loc 0),(.loc 1),(.loc 2),(.glo 18)]),(.attr (.loc 2) 25)]))] }
noncomputable def f58 : FnRec := { nargs := 2,dflt := [],nslots := 4,keep := false,body := [(.assign (.tup [(.name 2),(.name 3)]) (.tup [(.sub (.loc 0) (.int 0)),(.sub (.loc 0) (.int 1))])),(.assign (.sub (.loc 0) (.int 1)) (.bin false .Add (.loc 3) (.int 1))),(.ret (.bin false .Mod (.bin false .Add (.sub (.loc 2) (.bin false .Mod (.loc 3) (.bcall .len [(.loc 2)]))) (.bin false .Mult (.bin false .FloorDiv (.loc 3) (.bcall .len [(.loc 2)])) (.bin false .Add (.bin false .Add (.bin false .Mult (.int 7) (.loc 3)) (.int 3)) (.bin false .FloorDiv (.loc 3) (.int 2))))) (.loc 1)))] }
noncomputable def f59 : FnRec := { nargs := 1,dflt := [],nslots := 7,keep := true,body := [(.assign (.tup [(.name 1),(.name 2),(.name 3)]) (.tup [(.list false []),(.tup [(.bytes [116,101,120,116]),(.bytes [112,108,97,105,110])]),(.list false [(.bytes [99,104,97,114,115,101,116]),(.bytes [117,115,45,97,115,99,105,105])])])),(.assign (.name 4) (.call 58 [(.loc 0),(.int 4)])),(.iff (.cmp .Eq (.loc 4) (.int 1)) [(.assign (.tup [(.name 1),(.name 2),(.name 3)]) (.tup [(.list false [(.bytes [67,111,110,116,101,110,116,45,84,121,112,101,58,32,73,109,97,103,101,47,80,78,71,59,32,110,97,109,101,61,34,97,32,98,34,13,10])]),(.tup [(.bytes [105,109,97,103,101]),(.bytes [112,110,103])]),(.list false [(.bytes [110,97,109,101]),(.bytes [97,32,98])])]))] []),(.iff (.cmp .Eq (.loc 4) (.int 2)) [(.assign (.tup [(.name 1),(.name 2),(.name 3)]) (.tup [(.list false [(.bytes [99,111,110,116,101,110,116,45,116,121,112,101,58,32,116,101,120,116,47,104,116,109,108,13,10])]),(.tup [(.bytes [116,101,120,116]),(.bytes [104,116,109,108])]),.none]))] []),(.assign (.name 5) (.sub (.tup [(.bytes [55,98,105,116]),(.bytes [98,97,115,101,54,52]),(.bytes [120,45,111,100,100])]) (.call 58 [(.loc 0),(.int 3)]))),(.iff (.cmp .NotEq (.loc 5) (.bytes [55,98,105,116])) [(.assign (.name 1) (.bin false .Add (.loc 1) (.list false [(.bin false .Add (.bin false .Add (.bytes [67,111,110,116,101,110,116,45,84,114,97,110,115,102,101,114,45,69,110,99,111,100,105,110,103,58,13,10,32]) (.bmeth (.loc 5) .upper [])) (.bytes [13,10]))])))] []),(.assign (.name 6) (.sub (.tup [(.bytes []),(.bytes [120]),(.bytes [120,13,10]),(.bytes [97,13,10,98,13,10]),(.bytes [45,45,13,10]),(.bytes [13,10,13,10,122]),(.bytes [45,45,61,98,13,10]),(.bytes [65,58,32,98,13,10,13,10,99,10])]) (.call 58 [(.loc 0),(.int 8)]))),(.ret (.dict true [[114,111,119,115],[98,111,100,121],[119,111,114,100,115],[112,97,114,97,109,115],[101,110,99,111,100,105,110,103],[107,105,100,115],[105,110,110,101,114]] [(.loc 1),(.loc 6),(.loc 2),(.loc 3),(.loc 5),(.list false []),.none]))] }
noncomputable def f60 : FnRec := { nargs := 2,dflt := [],nslots := 6,keep := true,body := [(.assign (.name 2) (.cmp .Eq (.call 58 [(.loc 0),(.int 5)]) (.int 0))),(.assign (.name 3) (.call 63 [(.loc 0),(.bin false .Add (.loc 1) (.int 1))])),(.assign (.name 4) (.bin false .Add (.list false [(.bytes [67,111,110,116,101,110,116,45,84,121,112,101,58,32,109,101,115,115,97,103,101,47,114,102,99,56,50,50,13,10])]) (.ite (.loc 2) (.list false [(.bytes [67,111,110,116,101,110,116,45,84,114,97,110,115,102,101,114,45,69,110,99,111,100,105,110,103,58,32,98,97,115,101,54,52,13,10])]) (.list false [])))),(.assign (.name 5) (.dict true [[114,111,119,115],[98,111,100,121],[119,111,114,100,115],[112,97,114,97,109,115],[101,110,99,111,100,105,110,103],[107,105,100,115],[105,110,110,101,114]] [(.loc 4),(.bin false .Add (.sub (.loc 3) (.str [104,101,97,100])) (.sub (.loc 3) (.str [98,111,100,121]))),(.tup [(.bytes [109,101,115,115,97,103,101]),(.bytes [114,102,99,56,50,50])]),.none,(.bytes [55,98,105,116]),(.list false []),(.loc 3)])),(.iff (.loc 2) [(.assign (.tup [(.sub (.loc 5) (.str [119,111,114,100,115])),(.sub (.loc 5) (.str [101,110,99,111,100,105,110,103])),(.sub (.loc 5) (.str [105,110,110,101,114]))]) (.tup [(.tup [(.bytes [97,112,112,108,105,99,97,116,105,111,110]),(.bytes [111,99,116,101,116,45,115,116,114,101,97,109])]),(.bytes [98,97,115,101,54,52]),.none]))] []),(.ret (.loc 5))] }
noncomputable def f61 : FnRec := { nargs := 2,dflt := [],nslots := 9,keep := true,body := [(.assign (.sub (.loc 0) (.int 2)) (.bin false .Add (.sub (.loc 0) (.int 2)) (.int 1))),(.assign (.tup [(.name 2),(.name 3)]) (.tup [(.bin false .Add (.bytes [61,98]) (.bcall .bytes [(.list false [(.bin false .Add (.int 64) (.sub (.loc 0) (.int 2)))])])),(.sub (.tup [(.bytes [109,105,120,101,100]),(.bytes [97,108,116,101,114,110,97,116,105,118,101])]) (.call 58 [(.loc 0),(.int 2)]))])),(.assign (.tup [(.name 4),(.name 5)]) (.tup [(.sub (.tup [(.bytes []),(.bytes [112,114,101,13,10])]) (.call 58 [(.loc 0),(.int 2)])),(.list true [])])),(.forR (.name 6) (.bin false .Add (.int 1) (.call 58 [(.loc 0),(.int 2)])) [(.assign (.name 7) (.call 62 [(.loc 0),(.bin false .Add (.loc 1) (.int 1))])),(.assign (.sub (.loc 7) (.str [104,101,97,100])) (.bin false .Add (.bmeth (.bytes []) .join [(.sub (.loc 7) (.str [114,111,119,115]))]) (.bytes [13,10]))),(.expr (.bmeth (.loc 5) .append [(.loc 7)])),(.assign (.name 4) (.bin false .Add (.bin false .Add (.bin false .Add (.bin false .Add (.bin false .Add (.bin false .Add (.loc 4) (.ite (.cmp .Gt (.loc 6) (.int 0)) (.bytes [13,10]) (.bytes []))) (.bytes [45,45])) (.loc 2)) (.bytes [13,10])) (.sub (.loc 7) (.str [104,101,97,100]))) (.sub (.loc 7) (.str [98,111,100,121]))))]),(.assign (.name 4) (.bin false .Add (.loc 4) (.sub (.tup [(.bytes []),(.bin false .Add (.bin false .Add (.bytes [13,10,45,45]) (.loc 2)) (.bytes [45,45])),(.bin false .Add (.bin false .Add (.bytes [13,10,45,45]) (.loc 2)) (.bytes [45,45,32,13,10,112,111,115,116]))]) (.call 58 [(.loc 0),(.int 3)])))),(.assign (.name 8) (.list false [(.bin false .Add (.bin false .Add (.bin false .Add (.bin false .Add (.bytes [67,111,110,116,101,110,116,45,84,121,112,101,58,32,109,117,108,116,105,112,97,114,116,47]) (.loc 3)) (.bytes [59,13,10,9,98,111,117,110,100,97,114,121,61,34])) (.loc 2)) (.bytes [34,13,10]))])),(.ret (.dict true [[114,111,119,115],[98,111,100,121],[119,111,114,100,115],[112,97,114,97,109,115],[101,110,99,111,100,105,110,103],[107,105,100,115],[105,110,110,101,114]] [(.loc 8),(.loc 4),(.tup [(.bytes []),(.loc 3)]),(.list false [(.bytes [98,111,117,110,100,97,114,121]),(.loc 2)]),(.bytes [55,98,105,116]),(.loc 5),.none]))] }
noncomputable def f62 : FnRec := { nargs := 2,dflt := [],nslots := 3,keep := true,body := [(.assign (.name 2) (.ite (.and [(.cmp .Lt (.loc 1) (.int 4)),(.cmp .Lt (.sub (.loc 0) (.int 2)) (.int 4))]) (.call 58 [(.loc 0),(.int 5)]) (.int 0))),(.iff (.or [(.cmp .Eq (.loc 2) (.int 2)),(.cmp .Eq (.loc 2) (.int 3))]) [(.ret (.call 61 [(.loc 0),(.loc 1)]))] []),(.ret (.ite (.cmp .Eq (.loc 2) (.int 4)) (.call 60 [(.loc 0),(.loc 1)]) (.call 59 [(.loc 0)])))] }
noncomputable def f63 : FnRec := { nargs := 2,dflt := [],nslots := 4,keep := false,body := [(.assign (.name 2) (.slice false (.list false [(.bin false .Add (.bin false .Add (.bytes [70,114,111,109,58,32,97]) (.bcall .bytes [(.list false [(.bin false .Add (.int 97) (.loc 1))])])) (.bytes [64,120,13,10])),(.bytes [83,117,98,106,101,99,116,58,32,115,13,10,32,116,13,10])]) .none (.call 58 [(.loc 0),(.int 3)]))),(.assign (.name 3) (.call 62 [(.loc 0),(.loc 1)])),(.assign (.sub (.loc 3) (.str [104,101,97,100])) (.bin false .Add (.bmeth (.bytes []) .join [(.bin false .Add (.loc 2) (.sub (.loc 3) (.str [114,111,119,115])))]) (.bytes [13,10]))),(.assign (.sub (.loc 3) (.str [102,105,101,108,100,115])) (.loc 2)),(.ret (.loc 3))] }
noncomputable def f64 : FnRec := { nargs := 3,dflt := [],nslots := 7,keep := false,body := [(.iff (.cmp .NotEq (.sub (.loc 0) (.str [107,105,100,115])) (.list false [])) [(.assign (.name 3) (.sub (.loc 0) (.str [107,105,100,115])))] [(.iff (.loc 2) [(.assign (.name 3) (.list false [(.loc 0)]))] [(.ret (.ite (.cmp .IsNot (.sub (.loc 0) (.str [105,110,110,101,114])) .none) (.call 64 [(.sub (.loc 0) (.str [105,110,110,101,114])),(.loc 1),(.bool true)]) (.list false [])))])]),(.assign (.name 4) (.list true [])),(.forE (.tup [(.name 5),(.name 6)]) (.loc 3) [(.expr (.bmeth (.loc 4) .append [(.tup [(.bin false .Add (.loc 1) (.tup [(.bin false .Add (.loc 5) (.int 1))])),(.loc 6)])])),(.expr (.bmeth (.loc 4) .extend [(.ite (.or [(.cmp .NotEq (.sub (.loc 6) (.str [107,105,100,115])) (.list false [])),(.cmp .IsNot (.sub (.loc 6) (.str [105,110,110,101,114])) .none)]) (.call 64 [(.loc 6),(.bin false .Add (.loc 1) (.tup [(.bin false .Add (.loc 5) (.int 1))])),(.bool false)]) (.list false []))]))]),(.ret (.loc 4))] }
noncomputable def f65 : FnRec := { nargs := 2,dflt := [],nslots := 6,keep := false,body := [(.assign (.name 2) (.sub (.loc 0) (.str [105,110,110,101,114]))),(.assign (.name 3) (.list false [(.tup [(.loc 1),(.str []),(.tup []),(.sub (.loc 0) (.str [98,111,100,121]))]),(.tup [(.loc 1),(.str [77,73,77,69]),(.tup []),(.sub (.loc 0) (.str [104,101,97,100]))])])),(.iff (.cmp .Is (.loc 2) .none) [(.ret (.bin false .Add (.loc 3) (.comp 1 [1] (.tup [(.loc 1),(.loc 0),(.tup []),.none]) (.tup [(.str [72,69,65,68,69,82]),(.str [84,69,88,84]),(.str [72,69,65,68,69,82,46,70,73,69,76,68,83]),(.str [72,69,65,68,69,82,46,70,73,69,76,68,83,46,78,79,84])]) [])))] []),(.assign (.name 4) (.bin false .Add (.bmeth (.bytes []) .join [(.comp 1 [] (.loc 0) (.sub (.loc 2) (.str [102,105,101,108,100,115])) [(.cmp .Eq (.slice false (.loc 0) .none (.int 5)) (.bytes [70,114,111,109,58]))])]) (.bytes [13,10]))),(.assign (.name 5) (.bin false .Add (.bmeth (.bytes []) .join [(.bin false .Add (.comp 1 [] (.loc 0) (.sub (.loc 2) (.str [102,105,101,108,100,115])) [(.cmp .NotEq (.slice false (.loc 0) .none (.int 5)) (.bytes [70,114,111,109,58]))]) (.sub (.loc 2) (.str [114,111,119,115])))]) (.bytes [13,10]))),(.assign (.name 3) (.bin false .Add (.loc 3) (.list false [(.tup [(.loc 1),(.str [72,69,65,68,69,82]),(.tup []),(.sub (.loc 2) (.str [104,101,97,100]))]),(.tup [(.loc 1),(.str [84,69,88,84]),(.tup []),(.sub (.loc 2) (.str [98,111,100,121]))])]))),(.ret (.bin false .Add (.loc 3) (.list false [(.tup [(.loc 1),(.str [72,69,65,68,69,82,46,70,73,69,76,68,83]),(.tup [(.str [70,82,79,77])]),(.loc 4)]),(.tup [(.loc 1),(.str [72,69,65,68,69,82,46,70,73,69,76,68,83,46,78,79,84]),(.tup [(.str [120]),(.str [102,114,111,109])]),(.loc 5)])])))] }
noncomputable def f66 : FnRec := { nargs := 1,dflt := [],nslots := 16,keep := false,body := [(.assign (.name 1) (.list true [(.or [(.bcall .list [(.slice false (.loc 0) .none (.int 40))]),(.list false [(.int 2)])]),(.int 0),(.int 0)])),(.assign (.name 2) (.call 63 [(.loc 1),(.int 0)])),(.assign (.name 3) (.bin false .Add (.sub (.loc 2) (.str [104,101,97,100])) (.sub (.loc 2) (.str [98,111,100,121])))),(.assign (.name 4) (.call 49 [(.loc 3)])),(.assign (.name 5) (.call 64 [(.loc 2),(.tup []),(.bool true)])),(.assign (.name 6) (.list true [(.tup [(.tup []),(.str []),(.tup []),(.loc 3)]),(.tup [(.tup []),(.str [72,69,65,68,69,82]),(.tup []),(.sub (.loc 2) (.str [104,101,97,100]))]),(.tup [(.tup []),(.str [84,69,88,84]),(.tup []),(.sub (.loc 2) (.str [98,111,100,121]))])])),(.for (.tup [(.name 7),(.name 8)]) (.loc 5) [(.assign (.name 6) (.bin true .Add (.loc 6) (.call 65 [(.loc 8),(.loc 7)]))),(.for (.name 9) (.tup [(.bin false .Add (.loc 7) (.tup [(.int 9)])),(.bin false .Add (.slice false (.loc 7) .none (.int (-1))) (.tup [(.bin false .Add (.sub (.loc 7) (.int (-1))) (.int 9))]))]) [(.expr (.bmeth (.loc 6) .append [(.tup [(.loc 9),(.str []),(.tup []),.none])]))])]),(.for (.tup [(.name 7),(.name 10),(.name 11),(.name 12)]) (.slice false (.loc 6) .none (.int 60)) [(.iff (.cmp .NotEq (.call 57 [(.loc 3),(.loc 4),(.make 4 [(.loc 7),(.loc 10),(.loc 11)])]) (.loc 12)) [(.ret (.bool false))] [])]),(.assign (.tup [(.name 7),(.name 10),(.name 11),(.name 12)]) (.sub (.loc 6) (.call 58 [(.loc 1),(.bcall .len [(.loc 6)])]))),(.assign (.tup [(.name 13),(.name 14)]) (.tup [(.call 58 [(.loc 1),(.int 30)]),(.bin false .Add (.int 1) (.call 58 [(.loc 1),(.int 30)]))])),(.assign (.name 15) (.call 57 [(.loc 3),(.loc 4),(.make 4 [(.loc 7),(.loc 10),(.loc 11),(.tup [(.loc 13),(.loc 14)])])])),(.ret (.cmp .Eq (.loc 15) (.ite (.cmp .Is (.loc 12) .none) .none (.slice false (.loc 12) (.loc 13) (.bin false .Add (.loc 13) (.loc 14))))))] }
noncomputable def text : Text := { fns := [f0,f1,f2,f3,f4,f5,f6,f7,f8,f9,f10,f11,f12,f13,f14,f15,f16,f17,f18,f19,f20,f21,f22,f23,f24,f25,f26,f27,f28,f29,f30,f31,f32,f33,f34,f35,f36,f37,f38,f39,f40,f41,f42,f43,f44,f45,f46,f47,f48,f49,f50,f51,f52,f53,f54,f55,f56,f57,f58,f59,f60,f61,f62,f63,f64,f65,f66],vals := [(.int (13)),(.tup [(.int (32)),(.int (9))]),(.tup [(.str [117,115,45,97,115,99,105,105]),(.str [105,115,111,45,56,56,53,57,45,49]),(.str [117,116,102,45,56])]),(.str [117,116,102,45,56]),(.str [117,115,45,97,115,99,105,105]),(.tup [(.int (0)),(.int (10)),(.int (13))]),(.bytes [40,41,60,62,64,44,59,58,92,34,47,91,93,63,61]),(.tup [(.int (9)),(.int (10)),(.int (13)),(.int (32))]),(.int (40)),(.int (34)),(.int (59)),(.int (61)),(.str [55,98,105,116]),(.bytes [32,9,40,59]),(.bytes [32,9]),(.tup [(.str [55,98,105,116]),(.str [56,98,105,116]),(.str [98,105,110,97,114,121])]),(.int (20)),(.tup [(.str [72,69,65,68,69,82,46,70,73,69,76,68,83]),(.str [72,69,65,68,69,82,46,70,73,69,76,68,83,46,78,79,84])]),(.fn 51)],fnOf := [],cls := [{ init := 0,frozen := false,meths := [(11,1),(3,2),(12,3),(4,4),(13,5)],data := [0,1,2] }, { init := 10,frozen := true,meths := [(7,11)],data := [5,6] }, { init := 28,frozen := true,meths := [(22,29),(21,30)],data := [8,9,10] }, { init := 42,frozen := false,meths := [],data := [2,14,15,16,17,18,19,20] }, { init := 52,frozen := true,meths := [],data := [7,23,24,25] }] }
end Mn
end
noncomputable section
namespace Mn
open PySem PySem.W PySem.Calls PyProof.Rows
section
noncomputable def mkS (l : List Nat) : Str := ⟨l.toArray⟩
theorem mkS_inj {a b : List Nat} (h : mkS a = mkS b) : a = b := by
 unfold mkS at h; injection h with h; exact List.toArray_inj h
theorem ne_of_lt_le {a b : Addr} {n : Nat} (h : a < n) (k : n ≤ b) : a ≠ b := fun q => Nat.lt_irrefl n (Nat.lt_of_le_of_lt (q ▸ k) h)
structure Lk where
 prog : Program
 w : World
 K : Frag
 fnA : Nat → Addr
 clsA : Nat → Addr
 nm : Nat → Str
 inj : ∀ a b,nm a = nm b → a = b
noncomputable abbrev FZ := Addr → Option Obj
noncomputable abbrev RHO := List (Addr × Addr)
noncomputable abbrev Lk.knd (L : Lk) := strKind L.prog L.w
noncomputable abbrev Lk.M (L : Lk) := model L.prog L.w
noncomputable abbrev seqObj (T : String) (xs : List Value) (n : Nat) : Obj := { cls := .type T,dict := none,data := .seq xs.toArray n,slots := #[] }
noncomputable def VF (L : Lk) (ρ : RHO) (v : Value) : MV → Prop
 | .none => v = .none
 | .bool b => v = .bool b
 | .int i => ∃ t,v = .int i t
 | .str s => ∃ t,v = .str (mkS s) t ∧ s.length ≤ LIM
 | .bytes b => ∃ t,v = .bytes b.toArray t ∧ b.length ≤ LIM
 | .fn g => v = .ref (L.fnA g)
 | .ref i => ∃ p,v = .ref p.1 ∧ ρ[i]? = some p
 | _ => False
noncomputable def VD (L : Lk) (fz : FZ) (v : Value) (xs : List Value) (l : List MV) : MV → Prop
 | .tup k => k = l ∧ ∃ a n,v = .ref a ∧ fz a = some (seqObj "tuple" xs n) ∧ l.length ≤ LIM
 | .lst k => k = l ∧ ∃ a n,v = .ref a ∧ fz a = some (seqObj "list" xs n) ∧ l.length ≤ LIM
 | .dct ks k => k = l ∧ ∃ a o kvs,v = .ref a ∧ fz a = some o ∧ (a == sysModules) = false ∧ o.IsDictOf L.knd kvs ∧ kvs.map (·.1) = ks.map mkS ∧ kvs.map (·.2) = xs ∧ l.length ≤ LIM
 | .ins c as k => k = l ∧ ∃ a d o kvs,v = .ref a ∧ fz a = some (instObj (L.clsA c) d) ∧ fz d = some o ∧ o.IsDictOf L.knd kvs ∧ kvs.map (·.1) = as.map L.nm ∧ kvs.map (·.2) = xs ∧ l.length ≤ LIM
 | _ => False
inductive VRL (L : Lk) (fz : FZ) (ρ : RHO) : List Value → List MV → Prop
 | nil : VRL L fz ρ [] []
 | flat {v V vs Vs} : VF L ρ v V → VRL L fz ρ vs Vs → VRL L fz ρ (v :: vs) (V :: Vs)
 | deep {v V xs l vs Vs} : VD L fz v xs l V → VRL L fz ρ xs l → VRL L fz ρ vs Vs → VRL L fz ρ (v :: vs) (V :: Vs)
section
variable {L : Lk} {fz : FZ} {ρ : RHO} {vs : List Value} {Vs : List MV} (h : VRL L fz ρ vs Vs)
include h
theorem VRL.none : VRL L fz ρ (.none :: vs) (.none :: Vs) := .flat rfl h
theorem VRL.bool {b} : VRL L fz ρ (.bool b :: vs) (.bool b :: Vs) := .flat rfl h
theorem VRL.int {i t} : VRL L fz ρ (.int i t :: vs) (.int i :: Vs) := .flat ⟨_,rfl⟩ h
theorem VRL.fn {g} : VRL L fz ρ (.ref (L.fnA g) :: vs) (.fn g :: Vs) := .flat rfl h
end
section
variable {L : Lk} {fz : FZ} {ρ : RHO} {vs xs : List Value} {Vs l : List MV}
theorem VRL.str {s : List Nat} {t} (e : s.length ≤ LIM) (h : VRL L fz ρ vs Vs) : VRL L fz ρ (.str (mkS s) t :: vs) (.str s :: Vs) := .flat ⟨_,rfl,e⟩ h
theorem VRL.bytes {b : List UInt8} {t} (e : b.length ≤ LIM) (h : VRL L fz ρ vs Vs) : VRL L fz ρ (.bytes b.toArray t :: vs) (.bytes b :: Vs) := .flat ⟨_,rfl,e⟩ h
theorem VRL.ref {i : Nat} {p : Addr × Addr} (e : ρ[i]? = some p) (h : VRL L fz ρ vs Vs) : VRL L fz ρ (.ref p.1 :: vs) (.ref i :: Vs) := .flat ⟨_,rfl,e⟩ h
theorem VRL.tup {a n} (e : fz a = some (seqObj "tuple" xs n)) (hl : l.length ≤ LIM) (x : VRL L fz ρ xs l) (h : VRL L fz ρ vs Vs) : VRL L fz ρ (.ref a :: vs) (.tup l :: Vs) := .deep ⟨rfl,_,_,rfl,e,hl⟩ x h
theorem VRL.lst {a n} (e : fz a = some (seqObj "list" xs n)) (hl : l.length ≤ LIM) (x : VRL L fz ρ xs l) (h : VRL L fz ρ vs Vs) : VRL L fz ρ (.ref a :: vs) (.lst l :: Vs) := .deep ⟨rfl,_,_,rfl,e,hl⟩ x h
theorem VRL.dct {a o kvs} {ks : List (List Nat)} (e : fz a = some o) (e1 : (a == sysModules) = false) (e2 : o.IsDictOf L.knd kvs) (e3 : kvs.map (·.1) = ks.map mkS) (hl : l.length ≤ LIM) (x : VRL L fz ρ (kvs.map (·.2)) l) (h : VRL L fz ρ vs Vs) :
  VRL L fz ρ (.ref a :: vs) (.dct ks l :: Vs) := .deep ⟨rfl,_,_,_,rfl,e,e1,e2,e3,rfl,hl⟩ x h
theorem VRL.ins {a d o kvs c} {as : List Nat} (e : fz a = some (instObj (L.clsA c) d)) (e1 : fz d = some o) (e2 : o.IsDictOf L.knd kvs) (e3 : kvs.map (·.1) = as.map L.nm) (hl : l.length ≤ LIM) (x : VRL L fz ρ (kvs.map (·.2)) l) (h : VRL L fz ρ vs Vs) :
  VRL L fz ρ (.ref a :: vs) (.ins c as l :: Vs) := .deep ⟨rfl,_,_,_,_,rfl,e,e1,e2,e3,rfl,hl⟩ x h
end
noncomputable abbrev VR (L : Lk) (fz : FZ) (ρ : RHO) (v : Value) (V : MV) : Prop := VRL L fz ρ [v] [V]
section vr
variable {L : Lk} {fz fz' : FZ} {ρ ρ' : RHO}
theorem VF.mono {v : Value} {V : MV} (h : VF L ρ v V) (hr : ∀ i,V = .ref i → ∀ p,ρ[i]? = some p → ρ'[i]? = some p) : VF L ρ' v V := by
 induction V using MV.casesOn with
 | ref i => exact h.elim fun p q => ⟨p,q.1,hr i rfl p q.2⟩
 | _ => exact h
theorem VD.mono {v : Value} {V : MV} {xs : List Value} {l : List MV} (h : VD L fz v xs l V) (hf : ∀ a o,fz a = some o → fz' a = some o) : VD L fz' v xs l V := by
 induction V using MV.casesOn with
 | tup k => obtain ⟨e,a,n,e1,e2,e3⟩ := h; exact ⟨e,a,n,e1,hf _ _ e2,e3⟩
 | lst k => obtain ⟨e,a,n,e1,e2,e3⟩ := h; exact ⟨e,a,n,e1,hf _ _ e2,e3⟩
 | dct ks k => obtain ⟨e,a,o,kvs,e1,e2,e3⟩ := h; exact ⟨e,a,o,kvs,e1,hf _ _ e2,e3⟩
 | ins c as k => obtain ⟨e,a,d,o,kvs,e1,e2,e3,e4⟩ := h; exact ⟨e,a,d,o,kvs,e1,hf _ _ e2,hf _ _ e3,e4⟩
 | _ => exact h
theorem VRL.mono (hf : ∀ a o,fz a = some o → fz' a = some o) (hr : ∀ (i : Nat) p,ρ[i]? = some p → ρ'[i]? = some p) {vs : List Value} {Vs : List MV} (h : VRL L fz ρ vs Vs) : VRL L fz' ρ' vs Vs := by
 induction h with
 | nil => exact .nil
 | flat h _ ih => exact .flat (h.mono fun i O p => hr i p) ih
 | deep h _ _ ih ih' => exact .deep (h.mono hf) ih ih'
noncomputable def VRV (L : Lk) (fz : FZ) (ρ : RHO) (v : Value) : MV → Prop
 | .none => v = .none
 | .bool b => v = .bool b
 | .int i => ∃ t,v = .int i t
 | .str s => ∃ t,v = .str (mkS s) t ∧ s.length ≤ LIM
 | .bytes b => ∃ t,v = .bytes b.toArray t ∧ b.length ≤ LIM
 | .fn g => v = .ref (L.fnA g)
 | .ref i => ∃ p,v = .ref p.1 ∧ ρ[i]? = some p
 | .tup l => ∃ a xs n,v = .ref a ∧ fz a = some (seqObj "tuple" xs n) ∧ VRL L fz ρ xs l ∧ l.length ≤ LIM
 | .lst l => ∃ a xs n,v = .ref a ∧ fz a = some (seqObj "list" xs n) ∧ VRL L fz ρ xs l ∧ l.length ≤ LIM
 | .dct ks l => ∃ a o kvs,v = .ref a ∧ fz a = some o ∧ (a == sysModules) = false ∧ o.IsDictOf L.knd kvs ∧ kvs.map (·.1) = ks.map mkS ∧ VRL L fz ρ (kvs.map (·.2)) l ∧ l.length ≤ LIM
 | .ins c as l => ∃ a d o kvs,v = .ref a ∧ fz a = some (instObj (L.clsA c) d) ∧ fz d = some o ∧ o.IsDictOf L.knd kvs ∧ kvs.map (·.1) = as.map L.nm ∧ VRL L fz ρ (kvs.map (·.2)) l ∧ l.length ≤ LIM
theorem VRL.view {v : Value} {V : MV} (h : VR L fz ρ v V) : VRV L fz ρ v V := by
 cases h with
 | flat h _ =>
  induction V using MV.casesOn with
  | tup _ => exact h.elim
  | lst _ => exact h.elim
  | dct _ _ => exact h.elim
  | ins _ _ _ => exact h.elim
  | _ => exact h
 | deep h x _ =>
  induction V using MV.casesOn with
  | tup k => obtain ⟨rfl,a,n,e1,e2,e3⟩ := h; exact ⟨a,_,n,e1,e2,x,e3⟩
  | lst k => obtain ⟨rfl,a,n,e1,e2,e3⟩ := h; exact ⟨a,_,n,e1,e2,x,e3⟩
  | dct ks k => obtain ⟨rfl,a,o,kvs,e1,e2,e3,e4,e5,rfl,e6⟩ := h; exact ⟨a,o,kvs,e1,e2,e3,e4,e5,x,e6⟩
  | ins c as k => obtain ⟨rfl,a,d,o,kvs,e1,e2,e3,e4,e5,rfl,e6⟩ := h; exact ⟨a,d,o,kvs,e1,e2,e3,e4,e5,x,e6⟩
  | _ => exact h.elim
theorem VRL.len {vs : List Value} {Vs : List MV} (h : VRL L fz ρ vs Vs) : vs.length = Vs.length := by
 induction h with
 | nil => rfl
 | flat _ _ ih => exact congrArg (· + 1) ih
 | deep _ _ _ _ ih => exact congrArg (· + 1) ih
theorem VRL.uncons {v : Value} {vs : List Value} {Vs : List MV} (h : VRL L fz ρ (v :: vs) Vs) : ∃ V Vs',Vs = V :: Vs' ∧ VR L fz ρ v V ∧ VRL L fz ρ vs Vs' := by
 cases h with
 | flat a h => exact ⟨_,_,rfl,.flat a .nil,h⟩
 | deep a b h => exact ⟨_,_,rfl,.deep a b .nil,h⟩
theorem VRL.unconsR {vs : List Value} {V : MV} {Vs : List MV} (h : VRL L fz ρ vs (V :: Vs)) : ∃ v vs',vs = v :: vs' ∧ VR L fz ρ v V ∧ VRL L fz ρ vs' Vs := by
 induction vs using List.casesOn with
 | nil => cases h
 | cons v vs => obtain ⟨V',Vs',e,a,b⟩ := h.uncons; cases e; exact ⟨_,_,rfl,a,b⟩
theorem VRL.cons {v : Value} {V : MV} {vs : List Value} {Vs : List MV} (a : VR L fz ρ v V) (h : VRL L fz ρ vs Vs) : VRL L fz ρ (v :: vs) (V :: Vs) := by
 cases a with
 | flat a _ => exact .flat a h
 | deep a b _ => exact .deep a b h
theorem VRL.append {vs us : List Value} {Vs Us : List MV} (a : VRL L fz ρ vs Vs) (b : VRL L fz ρ us Us) : VRL L fz ρ (vs ++ us) (Vs ++ Us) := by
 induction vs generalizing Vs with
 | nil => cases a; exact b
 | cons v vs ih => obtain ⟨V,Vs',rfl,h1,h2⟩ := a.uncons; exact (h1).cons (ih h2)
theorem VRL.get {vs : List Value} {Vs : List MV} (a : VRL L fz ρ vs Vs) {i : Nat} {V : MV} (h : Vs[i]? = some V) : ∃ v,vs[i]? = some v ∧ VR L fz ρ v V := by
 induction vs generalizing Vs i with
 | nil => cases a; exact nO h
 | cons v vs ih =>
  obtain ⟨V',Vs',rfl,h1,h2⟩ := a.uncons
  induction i using Nat.casesOn with
  | zero => simp at h; subst h; exact ⟨v,rfl,h1⟩
  | succ i => simp at h; simpa using ih h2 h
theorem VRL.drop {vs : List Value} {Vs : List MV} (a : VRL L fz ρ vs Vs) : ∀ n,VRL L fz ρ (vs.drop n) (Vs.drop n)
 | 0 => a
 | n + 1 => by
  induction vs using List.casesOn with
  | nil => cases a; exact .nil
  | cons v vs => obtain ⟨V',Vs',rfl,h1,h2⟩ := a.uncons; exact h2.drop n
theorem VRL.take {vs : List Value} {Vs : List MV} (a : VRL L fz ρ vs Vs) : ∀ n,VRL L fz ρ (vs.take n) (Vs.take n)
 | 0 => .nil
 | n + 1 => by
  induction vs using List.casesOn with
  | nil => cases a; exact .nil
  | cons v vs => obtain ⟨V',Vs',rfl,h1,h2⟩ := a.uncons; exact h1.cons (h2.take n)
theorem VRL.reverse {vs : List Value} {Vs : List MV} (a : VRL L fz ρ vs Vs) : VRL L fz ρ vs.reverse Vs.reverse := by
 induction vs generalizing Vs with
 | nil => cases a; exact .nil
 | cons v vs ih =>
  obtain ⟨V',Vs',rfl,h1,h2⟩ := a.uncons
  rw [List.reverse_cons,List.reverse_cons]
  exact (ih h2).append h1
theorem VRL.set {vs : List Value} {Vs : List MV} (a : VRL L fz ρ vs Vs) {v : Value} {V : MV} (h : VR L fz ρ v V) : ∀ n,VRL L fz ρ (vs.set n v) (Vs.set n V) := by
 induction vs generalizing Vs with
 | nil => cases a; exact fun O => .nil
 | cons u vs ih =>
  obtain ⟨V',Vs',rfl,h1,h2⟩ := a.uncons
  intro n
  induction n using Nat.casesOn with
  | zero => exact h.cons h2
  | succ n => exact h1.cons (ih h2 n)
theorem VRL.look {κ : Type} [DecidableEq κ] {f : κ → Str} (inj : ∀ a b,f a = f b → a = b) {k : κ} : ∀ {kvs : List (Str × Value)} {ks : List κ} {Vs : List MV},kvs.map (·.1) = ks.map f → VRL L fz ρ (kvs.map (·.2)) Vs →
  (∀ V,lookK k ks Vs = some V → ∃ v,valueAt kvs (f k) = some v ∧ VR L fz ρ v V) ∧ (lookK k ks Vs = Option.none → valueAt kvs (f k) = Option.none)
 | [],[],_,_,h => by cases h; exact ⟨fun O e => (by simp [lookK] at e),fun O => rfl⟩
 | [],_ :: _,_,e,_ => by cases e
 | _ :: _,[],_,e,_ => by cases e
 | (k',v) :: kvs,a :: ks,Vs,e,h => by
  obtain ⟨V',Vs',rfl,h1,h2⟩ := h.uncons
  simp only [List.map_cons,List.cons.injEq] at e
  have ih := VRL.look inj (k := k) e.2 h2
  obtain ⟨e1,e2⟩ := e
  subst e1
  by_cases hk : a = k
  ·subst hk
   refine ⟨fun V hV => ?_,fun hV => ?_⟩
   ·simp [lookK] at hV; subst hV; exact ⟨v,by simp [valueAt],h1⟩
   ·simp [lookK] at hV
  ·have hne : ¬ f a = f k := fun q => hk (inj _ _ q)
   simp only [lookK,if_neg hk,valueAt,List.find?_cons,hne,decide_false]
   exact ih
theorem stored_cons_ne {k' k : Str} {v' v : Value} {kvs : List (Str × Value)} (h : k' ≠ k) : stored ((k',v') :: kvs) k v = (k',v') :: stored kvs k v := by
 unfold stored
 simp only [List.any_cons,h,decide_false,Bool.false_or,List.map_cons,if_false]
 split <;> simp
theorem VRL.put {κ : Type} [DecidableEq κ] {f : κ → Str} (inj : ∀ a b,f a = f b → a = b) {k : κ} {v : Value} {V : MV} (hv : VR L fz ρ v V) :
  ∀ {kvs : List (Str × Value)} {ks : List κ} {Vs : List MV},kvs.map (·.1) = ks.map f → (kvs.map (·.1)).Nodup → VRL L fz ρ (kvs.map (·.2)) Vs →
  (stored kvs (f k) v).map (·.1) = (putK k V ks Vs).1.map f ∧ VRL L fz ρ ((stored kvs (f k) v).map (·.2)) (putK k V ks Vs).2
 | [],[],_,_,_,h => by cases h; exact ⟨rfl,hv⟩
 | [],_ :: _,_,e,_,_ => by cases e
 | _ :: _,[],_,e,_,_ => by cases e
 | (k',u) :: kvs,a :: ks,Vs,e,nd,h => by
  obtain ⟨V',Vs',rfl,h1,h2⟩ := h.uncons
  simp only [List.map_cons,List.cons.injEq] at e
  simp only [List.map_cons,List.nodup_cons] at nd
  have ih := VRL.put inj (k := k) hv e.2 nd.2 h2
  obtain ⟨e1,e2⟩ := e
  subst e1
  by_cases hk : a = k
  ·subst hk
   have hs : stored ((f a,u) :: kvs) (f a) v = (f a,v) :: kvs := by
    unfold stored
    simp only [List.any_cons,decide_true,Bool.true_or,if_true,List.map_cons,List.cons.injEq,true_and]
    refine (List.map_congr_left fun x hx => ?_).trans (List.map_id _)
    rw [if_neg]; rfl
    intro q; exact nd.1 (q ▸ List.mem_map_of_mem hx)
   rw [hs]
   simp only [putK,if_true,List.map_cons]
   exact ⟨by rw [e2],hv.cons h2⟩
  ·have hne : f a ≠ f k := fun q => hk (inj _ _ q)
   rw [stored_cons_ne hne]
   simp only [putK,if_neg hk,List.map_cons]
   exact ⟨by rw [ih.1],h1.cons ih.2⟩
end vr
noncomputable def OR (L : Lk) (fz : FZ) (ρ : RHO) (h : Heap) (p : Addr × Addr) : MO → Prop
 | .lst l => p.2 = p.1 ∧ l.length ≤ LIM ∧ ∃ xs n,h.get? p.1 = some (seqObj "list" xs n) ∧ VRL L fz ρ xs l
 | .dct ks vs => p.2 = p.1 ∧ vs.length ≤ LIM ∧ (p.1 == sysModules) = false ∧ ∃ kvs,h.DictOf L.knd p.1 kvs ∧ kvs.map (·.1) = ks.map mkS ∧ VRL L fz ρ (kvs.map (·.2)) vs
 | .ins c as vs => vs.length ≤ LIM ∧ h.get? p.1 = some (instObj (L.clsA c) p.2) ∧ ∃ kvs,h.DictOf L.knd p.2 kvs ∧ kvs.map (·.1) = as.map L.nm ∧ VRL L fz ρ (kvs.map (·.2)) vs
structure R (L : Lk) (fz : FZ) (ρ : RHO) (mh : MH) (h : Heap) : Prop where
 base : ∀ a o,L.K.lookup a = some o → fz a = some o
 sub : ∀ a o,fz a = some o → h.get? a = some o
 len : ρ.length = mh.length
 objs : ∀ (i : Nat) m p,mh[i]? = some m → ρ[i]? = some p → OR L fz ρ h p m
 apart : ∀ (i : Nat) p,ρ[i]? = some p → fz p.1 = none ∧ fz p.2 = none
 dist : ∀ (i j : Nat) p q,ρ[i]? = some p → ρ[j]? = some q → i ≠ j → p.1 ≠ q.1 ∧ p.1 ≠ q.2 ∧ p.2 ≠ q.1 ∧ p.2 ≠ q.2
structure Step (X : List Addr) (fz : FZ) (ρ : RHO) (h : Heap) (fz' : FZ) (ρ' : RHO) (h' : Heap) : Prop where
 mono : ∀ a o,fz a = some o → fz' a = some o
 new : ∀ a o,fz' a = some o → fz a = some o ∨ h.get? a = none
 pre : ∃ τ,ρ' = ρ ++ τ ∧ ∀ p ∈ τ,h.get? p.1 = none ∧ h.get? p.2 = none
 keep : ∀ b o,h.get? b = some o → (∀ p ∈ ρ,b ≠ p.1 ∧ b ≠ p.2) → b ∉ X → h'.get? b = some o
 dom : ∀ b,h'.get? b = none → h.get? b = none
theorem Step.refl (X fz ρ h) : Step X fz ρ h fz ρ h := ⟨fun O O e => e,fun O O e => .inl e,⟨[],(List.append_nil _).symm,fun O e => nomatch e⟩,fun O O e O O => e,fun O e => e⟩
theorem Step.trans {X fz ρ h fz₁ ρ₁ h₁ fz₂ ρ₂ h₂} (a : Step X fz ρ h fz₁ ρ₁ h₁) (b : Step X fz₁ ρ₁ h₁ fz₂ ρ₂ h₂) : Step X fz ρ h fz₂ ρ₂ h₂ := by
 obtain ⟨τ,e,ht⟩ := a.pre
 obtain ⟨τ',e',ht'⟩ := b.pre
 refine ⟨fun x o q => b.mono _ _ (a.mono _ _ q),fun x o q => ?_,⟨τ ++ τ',by rw [e',e,List.append_assoc],fun p hp => ?_⟩,fun x o q hn hx => ?_,fun x q => a.dom _ (b.dom _ q)⟩
 ·rcases b.new _ _ q with q | q
  ·exact a.new _ _ q
  ·exact .inr (a.dom _ q)
 ·rcases List.mem_append.mp hp with q | q
  ·exact ht p q
  ·exact ⟨a.dom _ (ht' p q).1,a.dom _ (ht' p q).2⟩
 ·refine b.keep _ _ (a.keep _ _ q hn hx) (fun p hp => ?_) hx
  rw [e] at hp
  rcases List.mem_append.mp hp with r | r
  ·exact hn p r
  ·have := ht p r
   exact ⟨fun y => (by rw [y,this.1] at q; exact nO q),fun y => (by rw [y,this.2] at q; exact nO q)⟩
theorem Step.weaken {X Y fz ρ h fz₁ ρ₁ h₁} (a : Step X fz ρ h fz₁ ρ₁ h₁) (hs : ∀ b ∈ X,b ∈ Y) : Step Y fz ρ h fz₁ ρ₁ h₁ :=
 ⟨a.mono,a.new,a.pre,fun b o q hn hx => a.keep b o q hn fun r => hx (hs b r),a.dom⟩
theorem Step.rho {X fz ρ h fz₁ ρ₁ h₁} (a : Step X fz ρ h fz₁ ρ₁ h₁) {i : Nat} {p} (e : ρ[i]? = some p) : ρ₁[i]? = some p := by
 obtain ⟨τ,e',_⟩ := a.pre
 rw [e',List.getElem?_append_left (List.getElem?_eq_some_iff.mp e).1,e]
theorem VRL.step {L X fz ρ h fz₁ ρ₁ h₁ vs Vs} (r : VRL L fz ρ vs Vs) (a : Step X fz ρ h fz₁ ρ₁ h₁) : VRL L fz₁ ρ₁ vs Vs := r.mono a.mono fun O O e => a.rho e
section objs
variable {L : Lk} {fz : FZ} {ρ : RHO} {mh : MH} {h : Heap}
theorem R.inK (r : R L fz ρ mh h) : L.K.In h := fun a o e => r.sub _ _ (r.base _ _ e)
theorem OR.alive {p m} (h1 : OR L fz ρ h p m) : (h.get? p.1).isSome = true ∧ (h.get? p.2).isSome = true := by
 induction m using MO.casesOn with
 | lst l => obtain ⟨e,_,xs,n,g,_⟩ := h1; rw [e,g]; exact ⟨rfl,rfl⟩
 | dct ks vs => obtain ⟨e,_,_,kvs,⟨o,_,_,g,_⟩,_⟩ := h1; rw [e,g]; exact ⟨rfl,rfl⟩
 | ins c as vs => obtain ⟨_,g,kvs,⟨o,_,_,g',_⟩,_⟩ := h1; rw [g,g']; exact ⟨rfl,rfl⟩
theorem R.alive (r : R L fz ρ mh h) {i : Nat} {p} (e : ρ[i]? = some p) : (h.get? p.1).isSome = true ∧ (h.get? p.2).isSome = true := by
 have hi := (List.getElem?_eq_some_iff.mp e).1
 rw [r.len] at hi
 exact (r.objs i mh[i] p (List.getElem?_eq_getElem hi) e).alive
theorem OR.keep {h' : Heap} {fz' : FZ} {ρ' : RHO} (r : OR L fz ρ h p m) (k1 : ∀ o,h.get? p.1 = some o → h'.get? p.1 = some o) (k2 : ∀ o,h.get? p.2 = some o → h'.get? p.2 = some o)
  (hf : ∀ a o,fz a = some o → fz' a = some o) (hr : ∀ (i : Nat) p,ρ[i]? = some p → ρ'[i]? = some p) : OR L fz' ρ' h' p m := by
 induction m using MO.casesOn with
 | lst l => obtain ⟨e,e',xs,n,g,v⟩ := r; exact ⟨e,e',xs,n,k1 _ g,v.mono hf hr⟩
 | dct ks vs => obtain ⟨e,e',e'',kvs,⟨o,es,ep,g,d⟩,v,v'⟩ := r; exact ⟨e,e',e'',kvs,⟨o,es,ep,k1 _ g,d⟩,v,v'.mono hf hr⟩
 | ins c as vs => obtain ⟨e,g,kvs,⟨o,es,ep,g',d⟩,v,v'⟩ := r; exact ⟨e,k1 _ g,kvs,⟨o,es,ep,k2 _ g',d⟩,v,v'.mono hf hr⟩
theorem R.keeps {h' : Heap} (r : R L fz ρ mh h) (k : ∀ b o,h.get? b = some o → h'.get? b = some o) : R L fz ρ mh h' :=
 ⟨r.base,fun a o e => k _ _ (r.sub a o e),r.len,fun i m p a b => (r.objs i m p a b).keep (k _) (k _) (fun O O e => e) (fun O O e => e),r.apart,r.dist⟩
theorem R.push (r : R L fz ρ mh h) (o : Obj) : R L fz ρ mh (h.push o) := r.keeps fun O O e => Heap.get?_push_of_some o e
theorem dom_of_keeps {h h' : Heap} (k : ∀ b o,h.get? b = some o → h'.get? b = some o) (b : Addr) (e : h'.get? b = none) : h.get? b = none := by
 cases q : h.get? b with
 | none => rfl
 | some o => rw [k _ _ q] at e; exact nO e.symm
theorem Step.keeps {X h'} (k : ∀ b o,h.get? b = some o → h'.get? b = some o) : Step X fz ρ h fz ρ h' :=
 ⟨fun O O e => e,fun O O e => .inl e,⟨[],(List.append_nil _).symm,fun O e => nomatch e⟩,fun b o e O O => k b o e,dom_of_keeps k⟩
theorem Step.push {X} (o : Obj) : Step X fz ρ h fz ρ (h.push o) := Step.keeps (fun O O e => Heap.get?_push_of_some o e)
noncomputable def FZ.add (fz : FZ) (a : Addr) (o : Obj) : FZ := fun b => if b = a then some o else fz b
set_option tactic.hygienic true in
theorem R.freeze {a : Addr} {o : Obj} (r : R L fz ρ mh h) (e : h.get? a = some o) (n : ∀ (i : Nat) p,ρ[i]? = some p → p.1 ≠ a ∧ p.2 ≠ a) (hn : fz a = none) : R L (fz.add a o) ρ mh h where
 base := fun b q x => by
  unfold FZ.add; split
  ·rename_i hb; rw [hb] at x; rw [r.base _ _ x] at hn; exact nO hn.symm
  ·exact r.base _ _ x
 sub := fun b q x => by
  unfold FZ.add at x; split at x
  ·rename_i hb; obtain rfl := sI x; rw [hb]; exact e
  ·exact r.sub _ _ x
 len := r.len
 objs := fun i m p x y => (r.objs i m p x y).keep (fun O e => e) (fun O e => e) (fun b q x => by
  unfold FZ.add; split
  ·rename_i hb; rw [hb,hn] at x; exact nO x
  ·exact x) (fun O O e => e)
 apart := fun i p x => by
  have := n i p x; have h2 := r.apart i p x
  unfold FZ.add; rw [if_neg this.1,if_neg this.2]; exact h2
 dist := r.dist
set_option tactic.hygienic true in
theorem FZ.add_mono {a : Addr} {o : Obj} (hn : fz a = none) : ∀ b q,fz b = some q → (fz.add a o) b = some q := fun b q x => by
 unfold FZ.add; split
 ·rename_i hb; rw [hb,hn] at x; exact nO x
 ·exact x
theorem FZ.add_self {a : Addr} {o : Obj} : (fz.add a o) a = some o := by simp [FZ.add]
theorem get?_size (h : Heap) : h.get? h.objs.size = none := by
 cases q : h.get? h.objs.size with
 | none => rfl
 | some o => exact absurd rfl (ne_of_lt_le (Heap.lt_size q) (Nat.le_refl _))
theorem R.none_of (r : R L fz ρ mh h) {a : Addr} (ha : h.get? a = none) : fz a = none := by
 cases e : fz a with
 | none => rfl
 | some o => rw [r.sub _ _ e] at ha; exact nO ha.symm
theorem R.apart_of (r : R L fz ρ mh h) {a : Addr} (ha : h.get? a = none) {i : Nat} {p} (e : ρ[i]? = some p) : p.1 ≠ a ∧ p.2 ≠ a := by
 have hi := (List.getElem?_eq_some_iff.mp e).1
 rw [r.len] at hi
 have := (r.objs i mh[i] p (List.getElem?_eq_getElem hi) e).alive
 exact ⟨fun q => (by rw [q,ha] at this; exact fF' this.1),fun q => (by rw [q,ha] at this; exact fF' this.2)⟩
theorem R.freezeNew (r : R L fz ρ mh h) {o : Obj} (hf : o.isFreed = false) : R L (fz.add h.objs.size o) ρ mh (h.push o) :=
 (r.push o).freeze (Heap.get?_push_size h hf) (fun i p e => r.apart_of (get?_size h) e) (r.none_of (get?_size h))
set_option tactic.hygienic true in
theorem Step.freezeNew {X} {o : Obj} (r : R L fz ρ mh h) : Step X fz ρ h (fz.add h.objs.size o) ρ (h.push o) :=
 ⟨FZ.add_mono (r.none_of (get?_size h)),fun a q e => by
  unfold FZ.add at e; split at e
  ·rename_i hb; exact .inr (hb ▸ get?_size h)
  ·exact .inl e,⟨[],(List.append_nil _).symm,fun O e => nomatch e⟩,fun b q e O O => Heap.get?_push_of_some o e,dom_of_keeps fun O O e => Heap.get?_push_of_some o e⟩
theorem R.grow (r : R L fz ρ mh h) {p : Addr × Addr} {m : MO} (ho : OR L fz ρ h p m) (hf : fz p.1 = none ∧ fz p.2 = none) (n : ∀ (i : Nat) q,ρ[i]? = some q → q.1 ≠ p.1 ∧ q.1 ≠ p.2 ∧ q.2 ≠ p.1 ∧ q.2 ≠ p.2) :
  R L fz (ρ ++ [p]) (mh ++ [m]) h := by
 have hm : ∀ (i : Nat) q,ρ[i]? = some q → (ρ ++ [p])[i]? = some q := fun i q e => by rw [List.getElem?_append_left (List.getElem?_eq_some_iff.mp e).1,e]
 have hc : ∀ (i : Nat) q,(ρ ++ [p])[i]? = some q → (ρ[i]? = some q) ∨ (i = ρ.length ∧ q = p) := fun i q e => by
  by_cases hi : i < ρ.length
  ·rw [List.getElem?_append_left hi] at e; exact .inl e
  ·have hi := Nat.not_lt.mp hi
   rw [List.getElem?_append_right hi] at e
   obtain ⟨h1,h2⟩ := List.getElem?_eq_some_iff.mp e
   have this : i - ρ.length = 0 := Nat.lt_one_iff.mp h1
   simp [this] at h2
   exact .inr ⟨Nat.le_antisymm (Nat.le_of_sub_eq_zero this) hi,h2.symm⟩
 refine ⟨r.base,r.sub,by simp [r.len],fun i m' q e e' => ?_,fun i q e => ?_,fun i j q q' e e' hij => ?_⟩
 ·rcases hc i q e' with x | ⟨x,y⟩
  ·have hi := (List.getElem?_eq_some_iff.mp x).1
   rw [r.len] at hi
   rw [List.getElem?_append_left hi] at e
   exact (r.objs i m' q e x).keep (fun O e => e) (fun O e => e) (fun O O e => e) hm
  ·rw [x,r.len,List.getElem?_append_right (Nat.le_refl _)] at e
   simp at e
   subst e; subst y
   exact ho.keep (fun O e => e) (fun O e => e) (fun O O e => e) hm
 ·rcases hc i q e with x | ⟨_,x⟩
  ·exact r.apart i q x
  ·exact x ▸ hf
 ·rcases hc i q e with x | ⟨x,y⟩ <;> rcases hc j q' e' with x' | ⟨x',y'⟩
  ·exact r.dist i j q q' x x' hij
  ·subst y'; exact n i q x
  ·subst y; have := n j q' x'; exact ⟨this.1.symm,this.2.2.1.symm,this.2.1.symm,this.2.2.2.symm⟩
  ·exact absurd (x.trans x'.symm) hij
theorem Step.grow {X} {p : Addr × Addr} {fz₀ ρ₀ h₀} (a : Step X fz₀ ρ₀ h₀ fz ρ h) (hp : h₀.get? p.1 = none ∧ h₀.get? p.2 = none) : Step X fz₀ ρ₀ h₀ fz (ρ ++ [p]) h := by
 obtain ⟨τ,e,ht⟩ := a.pre
 refine ⟨a.mono,a.new,⟨τ ++ [p],by rw [e,List.append_assoc],fun q hq => ?_⟩,a.keep,a.dom⟩
 rcases List.mem_append.mp hq with x | x
 ·exact ht q x
 ·obtain rfl := List.mem_singleton.mp x; exact hp
theorem R.change {h' : Heap} {i : Nat} {p : Addr × Addr} {m : MO} (r : R L fz ρ mh h) (e : ρ[i]? = some p) (k : ∀ b o,b ≠ p.1 → b ≠ p.2 → h.get? b = some o → h'.get? b = some o) (ho : OR L fz ρ h' p m) :
  R L fz ρ (mh.set i m) h' := by
 have hi : i < mh.length := by rw [← r.len]; exact (List.getElem?_eq_some_iff.mp e).1
 refine ⟨r.base,fun a o x => k _ _ ?_ ?_ (r.sub _ _ x),by rw [List.length_set]; exact r.len,fun j m' q x y => ?_,r.apart,r.dist⟩
 ·intro q; have := (r.apart i p e).1; rw [← q,x] at this; exact nO this.symm
 ·intro q; have := (r.apart i p e).2; rw [← q,x] at this; exact nO this.symm
 ·by_cases hj : i = j
  ·subst hj
   rw [List.getElem?_set_self hi] at x
   obtain rfl := sI x
   rw [e] at y; obtain rfl := sI y
   exact ho
  ·rw [List.getElem?_set_ne hj] at x
   have d := r.dist j i q p y e (Ne.symm hj)
   exact (r.objs j m' q x y).keep (fun o g => k _ _ d.1 d.2.1 g) (fun o g => k _ _ d.2.2.1 d.2.2.2 g) (fun O O e => e) (fun O O e => e)
theorem Step.change {X} {h' : Heap} {i : Nat} {p : Addr × Addr} (e : ρ[i]? = some p) (k : ∀ b o,b ≠ p.1 → b ≠ p.2 → h.get? b = some o → h'.get? b = some o) (z : ∀ b,h'.get? b = none → h.get? b = none) : Step X fz ρ h fz ρ h' :=
 ⟨fun O O e => e,fun O O e => .inl e,⟨[],(List.append_nil _).symm,fun O e => nomatch e⟩,fun b o g hn O => k b o (hn p (List.mem_of_getElem? e)).1 (hn p (List.mem_of_getElem? e)).2 g,z⟩
end objs
end
end Mn
end
noncomputable section
open PySem PySem.W PySem.Calls PyProof.Rows PySem.Builtin
set_option maxRecDepth 100000
namespace Mn
theorem index_int (i : Int) (t : Tok) : asIndex (.int i t) = pure i := by kernel_rfl
theorem attempt_pure {α : Type} (a : α) : (pure a : Sem α).attempt = pure (.ok a) := rfl
theorem payload_bytes (b : Array UInt8) (t : Tok) : Bytes.payload (.bytes b t) = pure b := rfl
theorem gives_contains (b : Array UInt8) (t : Tok) (x : Int) (u : Tok) (h0 : 0 ≤ x) (h1 : x < 256) : Gives («bytes.__contains__» ⟨[.bytes b t,.int x u],[]⟩) (.val (.bool (b.contains x.toNat.toUInt8))) := by
 refine .of_eq ?_
 show (Bytes.containsIn "bytes.__contains__" (.bytes b t) (.int x u) >>= fun r => ret (.bool r)) = _
 unfold Bytes.containsIn
 rw [index_int,attempt_pure,KBy.buffer_eq]
 show ((if x < 0 || x ≥ 256 then _ else _) >>= fun r => ret (.bool r)) = _
 have : (decide (x < 0) || decide (x ≥ 256)) = false := by simp; lia
 rw [if_neg (by rw [this]; exact Bool.false_ne_true)]
 rfl
namespace Y
theorem slot_find : Slot "bytes" "find" "bytes.find" :=
 .of (owner := "bytes") (n := "find") (by rw [typeLookup_type,builtinLookup_eq_fast]; kernel_rfl) (by decide +kernel) (by decide +kernel) (by decide +kernel)
  (by first | exact .inl (by decide +kernel) | exact .inr (by decide +kernel)) (by rw [isSubtype_type]; kernel_rfl)
theorem type_find : typeOf (.builtin "bytes.find") = pure (.type "method_descriptor") := by show builtinType _ = _; rw [builtinType_eq_fast]; kernel_rfl
theorem entry_find : entryFor table "bytes.find" = some Builtin.«bytes.find» := entryFor_of_tree (by kernel_rfl)
theorem args_find (a b c d : Value) : argsOk "bytes.find" ⟨[a,b,c,d],[]⟩ := by
 unfold argsOk; rw [signature?_of (id := "bytes.find") (n := ['d', 'n', 'i', 'f']) (o := ['s', 'e', 't', 'y', 'b']) (by kernel_rfl) FB.owner_bytes]; kernel_rfl
theorem slot_strip : Slot "bytes" "strip" "bytes.strip" :=
 .of (owner := "bytes") (n := "strip") (by rw [typeLookup_type,builtinLookup_eq_fast]; kernel_rfl) (by decide +kernel) (by decide +kernel) (by decide +kernel)
  (by first | exact .inl (by decide +kernel) | exact .inr (by decide +kernel)) (by rw [isSubtype_type]; kernel_rfl)
theorem type_strip : typeOf (.builtin "bytes.strip") = pure (.type "method_descriptor") := by show builtinType _ = _; rw [builtinType_eq_fast]; kernel_rfl
theorem entry_strip : entryFor table "bytes.strip" = some Builtin.«bytes.strip» := entryFor_of_tree (by kernel_rfl)
theorem args_strip (a b : Value) : argsOk "bytes.strip" ⟨[a,b],[]⟩ := by
 unfold argsOk; rw [signature?_of (id := "bytes.strip") (n := ['p', 'i', 'r', 't', 's']) (o := ['s', 'e', 't', 'y', 'b']) (by kernel_rfl) FB.owner_bytes]; kernel_rfl
theorem slot_rstrip : Slot "bytes" "rstrip" "bytes.rstrip" :=
 .of (owner := "bytes") (n := "rstrip") (by rw [typeLookup_type,builtinLookup_eq_fast]; kernel_rfl) (by decide +kernel) (by decide +kernel) (by decide +kernel)
  (by first | exact .inl (by decide +kernel) | exact .inr (by decide +kernel)) (by rw [isSubtype_type]; kernel_rfl)
theorem type_rstrip : typeOf (.builtin "bytes.rstrip") = pure (.type "method_descriptor") := by show builtinType _ = _; rw [builtinType_eq_fast]; kernel_rfl
theorem entry_rstrip : entryFor table "bytes.rstrip" = some Builtin.«bytes.rstrip» := entryFor_of_tree (by kernel_rfl)
theorem args_rstrip (a b : Value) : argsOk "bytes.rstrip" ⟨[a,b],[]⟩ := by
 unfold argsOk; rw [signature?_of (id := "bytes.rstrip") (n := ['p', 'i', 'r', 't', 's', 'r']) (o := ['s', 'e', 't', 'y', 'b']) (by kernel_rfl) FB.owner_bytes]; kernel_rfl
theorem slot_join : Slot "bytes" "join" "bytes.join" :=
 .of (owner := "bytes") (n := "join") (by rw [typeLookup_type,builtinLookup_eq_fast]; kernel_rfl) (by decide +kernel) (by decide +kernel) (by decide +kernel)
  (by first | exact .inl (by decide +kernel) | exact .inr (by decide +kernel)) (by rw [isSubtype_type]; kernel_rfl)
theorem type_join : typeOf (.builtin "bytes.join") = pure (.type "method_descriptor") := by show builtinType _ = _; rw [builtinType_eq_fast]; kernel_rfl
theorem entry_join : entryFor table "bytes.join" = some Builtin.«bytes.join» := entryFor_of_tree (by kernel_rfl)
theorem args_join (a b : Value) : argsOk "bytes.join" ⟨[a,b],[]⟩ := by
 unfold argsOk; rw [signature?_of (id := "bytes.join") (n := ['n', 'i', 'o', 'j']) (o := ['s', 'e', 't', 'y', 'b']) (by kernel_rfl) FB.owner_bytes]; kernel_rfl
theorem slot_upper : Slot "bytes" "upper" "bytes.upper" :=
 .of (owner := "bytes") (n := "upper") (by rw [typeLookup_type,builtinLookup_eq_fast]; kernel_rfl) (by decide +kernel) (by decide +kernel) (by decide +kernel)
  (by first | exact .inl (by decide +kernel) | exact .inr (by decide +kernel)) (by rw [isSubtype_type]; kernel_rfl)
theorem type_upper : typeOf (.builtin "bytes.upper") = pure (.type "method_descriptor") := by show builtinType _ = _; rw [builtinType_eq_fast]; kernel_rfl
theorem entry_upper : entryFor table "bytes.upper" = some Builtin.«bytes.upper» := entryFor_of_tree (by kernel_rfl)
theorem args_upper (a : Value) : argsOk "bytes.upper" ⟨[a],[]⟩ := by
 unfold argsOk; rw [signature?_of (id := "bytes.upper") (n := ['r', 'e', 'p', 'p', 'u']) (o := ['s', 'e', 't', 'y', 'b']) (by kernel_rfl) FB.owner_bytes]; kernel_rfl
end Y
theorem dropW_eq {α : Type} [DecidableEq α] (cs : List α) : ∀ l,dropW cs l = l.dropWhile cs.contains
 | [] => rfl
 | a :: r => by
  simp only [dropW,List.dropWhile_cons]
  split
  ·exact dropW_eq cs r
  ·rfl
theorem bytesLike_bytes {id : String} (b : Array UInt8) (t : Tok) : Bytes.bytesLike id (.bytes b t) = pure b := by
 unfold Bytes.bytesLike; rw [KBy.buffer_eq]; rfl
theorem dropWhile_length_le {α : Type} (p : α → Bool) : ∀ l : List α,(l.dropWhile p).length ≤ l.length
 | [] => Nat.le_refl _
 | a :: r => by
  rw [List.dropWhile_cons]; split
  ·exact Nat.le_succ_of_le (dropWhile_length_le p r)
  ·exact Nat.le_refl _
set_option tactic.hygienic true in
theorem eq_of_dropWhile_length {α : Type} (p : α → Bool) : ∀ {l : List α},(l.dropWhile p).length = l.length → l.dropWhile p = l
 | [],_ => rfl
 | a :: r,h => by
  rw [List.dropWhile_cons] at h ⊢; split
  ·rename_i q; rw [if_pos q] at h; have := dropWhile_length_le p r; simp at h; lia
  ·rfl
noncomputable def stripEnd (id : String) (b : List UInt8) (t : Tok) (kept : List UInt8) : Sem Fin :=
 if (kept.length == b.toArray.size) = true then (do rule s!"{id}.unchanged"; ret (← Bytes.Kind.same .bytes (.bytes b.toArray t))) else do ret (← Bytes.Kind.new .bytes kept.toArray)
theorem strip_end (kept b : List UInt8) (t : Tok) (he : kept.length = b.length → kept = b) {id : String} :
  Gives (stripEnd id b t kept) (if kept.length = b.length then .val (.bytes kept.toArray t) else .bytes kept.toArray) := by
 unfold stripEnd
 rw [List.size_toArray]
 by_cases h : kept.length = b.length
 ·rw [if_pos (beq_iff_eq.mpr h),if_pos h]
  refine Gives.rule (.of_eq ?_)
  rw [he h]; rfl
 ·rw [if_neg (by simpa using h),if_neg h]
  exact .of_eq rfl
theorem strip_made {kept b : List UInt8} {t : Tok} {Q : Value → Shared → Prop} {s : Shared} (hb : kept.length ≤ sizeLine) (h : ∀ t' k,Q (.bytes kept.toArray t') { s with toks := k }) :
  (if kept.length = b.length then Made.val (.bytes kept.toArray t) else .bytes kept.toArray).post Q s := by
 split
 ·exact h t s.toks
 ·exact ⟨by simpa using hb,h _ _⟩
theorem contains_toArray (cs : List UInt8) : (cs.toArray.contains : UInt8 → Bool) = cs.contains := by funext x; simp
theorem stripR_len (b cs : List UInt8) : (stripR b cs).length ≤ b.length := by
 unfold stripR; rw [List.length_reverse,dropW_eq]; exact Nat.le_trans (dropWhile_length_le _ _) (by simp)
theorem stripR_same {b cs : List UInt8} (h : (stripR b cs).length = b.length) : stripR b cs = b := by
 unfold stripR at h ⊢; rw [List.length_reverse,dropW_eq] at h; rw [dropW_eq,eq_of_dropWhile_length _ (by rw [h,List.length_reverse]),List.reverse_reverse]
theorem stripL_len (b cs : List UInt8) : (stripL b cs).length ≤ b.length := by
 unfold stripL; rw [dropW_eq]; exact dropWhile_length_le _ _
theorem stripL_same {b cs : List UInt8} (h : (stripL b cs).length = b.length) : stripL b cs = b := by
 unfold stripL at h ⊢; rw [dropW_eq] at h ⊢; exact eq_of_dropWhile_length _ h
theorem gives_rstrip (b cs : List UInt8) (t u : Tok) :
  Gives («bytes.rstrip» ⟨[.bytes b.toArray t,.bytes cs.toArray u],[]⟩) (if (stripR b cs).length = b.length then .val (.bytes (stripR b cs).toArray t) else .bytes (stripR b cs).toArray) := by
 have e : «bytes.rstrip» ⟨[.bytes b.toArray t,.bytes cs.toArray u],[]⟩ = (Bytes.bytesLike "bytes.rstrip" (.bytes cs.toArray u) >>= fun set => stripEnd "bytes.rstrip" b t (b.reverse.dropWhile set.contains).reverse) := rfl
 rw [e,bytesLike_bytes]
 show Gives (stripEnd _ b t (b.reverse.dropWhile cs.toArray.contains).reverse) _
 rw [contains_toArray,← dropW_eq]
 exact strip_end _ b t stripR_same
theorem gives_strip (b cs : List UInt8) (t u : Tok) :
  Gives («bytes.strip» ⟨[.bytes b.toArray t,.bytes cs.toArray u],[]⟩) (if (stripR (stripL b cs) cs).length = b.length then .val (.bytes (stripR (stripL b cs) cs).toArray t) else .bytes (stripR (stripL b cs) cs).toArray) := by
 have e : «bytes.strip» ⟨[.bytes b.toArray t,.bytes cs.toArray u],[]⟩ = (Bytes.bytesLike "bytes.strip" (.bytes cs.toArray u) >>= fun set => stripEnd "bytes.strip" b t ((b.dropWhile set.contains).reverse.dropWhile set.contains).reverse) := rfl
 rw [e,bytesLike_bytes]
 show Gives (stripEnd _ b t ((b.dropWhile cs.toArray.contains).reverse.dropWhile cs.toArray.contains).reverse) _
 rw [contains_toArray,← dropW_eq,← dropW_eq]
 refine strip_end (stripR (stripL b cs) cs) b t fun h => ?_
 have h1 := stripR_len (stripL b cs) cs
 have h2 := stripL_len b cs
 rw [stripR_same (by lia),stripL_same (by lia)]
theorem gives_upper (b : List UInt8) (t : Tok) : Gives («bytes.upper» ⟨[.bytes b.toArray t],[]⟩) (.bytes (b.map upperB).toArray) := by
 refine .of_eq ?_
 have : (upperB : UInt8 → UInt8) = Bytes.toUpper := by
  funext c; unfold upperB Bytes.toUpper Bytes.isLower
  by_cases h : 97 ≤ c ∧ c ≤ 122
  ·rw [if_pos h,if_pos (by simpa using h)]
  ·rw [if_neg h,if_neg (by simpa using h)]
 rw [this]; rfl
theorem bound_int (i : Int) (t : Tok) : Bytes.bound? (some (.int i t)) = pure (some i) := by kernel_rfl
theorem extract_one {b : Array UInt8} {i : Nat} {w : UInt8} : (b.extract i (i + 1) == #[w]) = decide (b[i]? = some w) := by
 rw [Bool.eq_iff_iff]
 simp only [beq_iff_eq,decide_eq_true_eq]
 by_cases h : i < b.size
 ·have : b.extract i (i + 1) = #[b[i]] := by
   apply Array.ext'
   simp [List.take_one,List.head?_drop,h]
  rw [this,Array.getElem?_eq_getElem h]
  simp
 ·rw [Array.getElem?_eq_none (by lia)]
  have : b.extract i (i + 1) = #[] := by apply Array.ext'; simp; lia
  rw [this]
  simp
theorem find_range {b : Array UInt8} {w : UInt8} : ∀ (l : List UInt8) (k : Nat),(∀ j,j < l.length → b[k + j]? = l[j]?) →
  ((List.range l.length).map (· + k)).find? (fun i => b.extract i (i + 1) == #[w]) = findFrom [w] l k
 | [],k,_ => rfl
 | a :: r,k,h => by
  have h0 := h 0 (by simp)
  rw [List.length_cons,List.range_succ_eq_map,List.map_cons,List.find?_cons,extract_one]
  simp only [Nat.zero_add,Nat.add_zero,List.getElem?_cons_zero] at h0 ⊢
  rw [h0]
  simp only [findFrom,isPre,List.map_map]
  by_cases q : a = w
  ·subst q; simp
  ·have q' : ¬ w = a := fun e => q e.symm
   simp only [Option.some.injEq,q,decide_false,q',if_false]
   have e := find_range (b := b) (w := w) r (k + 1) (fun j hj => by
    have := h (j + 1) (by simpa using hj)
    rw [List.getElem?_cons_succ] at this
    rw [← this]; congr 1; lia)
   rw [← e]
   simp only [Bool.false_eq_true,if_false]
   congr 1
   refine List.map_congr_left fun x O => ?_
   show x.succ + k = x + (k + 1); lia
theorem searchArgs_find (b : Array UInt8) (w : Array UInt8) (lo hi : Int) (t u v x : Tok) : Bytes.searchArgs .bytes "find" ⟨[.bytes b t,.bytes w u,.int lo v,.int hi x],[]⟩ =
  pure (b,w,if (Bytes.window b.size (some lo) (some hi)).2 - (Bytes.window b.size (some lo) (some hi)).1 < w.size then none else some ((Bytes.window b.size (some lo) (some hi)).1.toNat,(Bytes.window b.size (some lo) (some hi)).2.toNat)) := by
 unfold Bytes.searchArgs
 show (Bytes.bound? (some (.int lo v)) >>= fun start => _) = _
 rw [bound_int]
 show (Bytes.bound? (some (.int hi x)) >>= fun stop => _) = _
 rw [bound_int]
 show (Bytes.buffer? _ (.bytes w u) >>= fun stop => _) = _
 rw [KBy.buffer_eq]
 rfl
theorem cast_min (k n : Nat) : min (k : Int) n = ((min k n : Nat) : Int) := by
 rcases Nat.le_total k n with h | h
 ·rw [Nat.min_eq_left h,Int.min_eq_left (Int.ofNat_le.mpr h)]
 ·rw [Nat.min_eq_right h,Int.min_eq_right (Int.ofNat_le.mpr h)]
theorem window_nat (n a z : Nat) : Bytes.window n (some (a : Int)) (some (z : Int)) = ((a : Int),((min n z : Nat) : Int)) := by
 unfold Bytes.window
 simp only [Option.getD_some]
 have h1 : ¬ ((a : Int) < 0) := Int.not_lt.mpr (Int.natCast_nonneg a)
 have h2 : ¬ ((z : Int) < 0) := Int.not_lt.mpr (Int.natCast_nonneg z)
 simp only [h1,h2,if_false]
 rw [Prod.mk.injEq]
 exact ⟨rfl,cast_min n z⟩
theorem clp_nat (n a : Nat) : clp n (a : Int) = min a n := by
 unfold clp; rw [if_neg (Int.not_lt.mpr (Int.natCast_nonneg a))]; rfl
theorem find_run (b : List UInt8) (w : UInt8) (a z : Nat) (h : a < z) (hz : z ≤ b.length) : Bytes.find? b.toArray #[w] a z = findFrom [w] ((b.drop a).take (z - a)) a := by
 have hl : ((b.drop a).take (z - a)).length = z + 1 - (a + 1) := by rw [List.length_take,List.length_drop,Nat.min_eq_left (Nat.sub_le_sub_right hz a),Nat.add_sub_add_right]
 rw [← find_range (b := b.toArray) (w := w) ((b.drop a).take (z - a)) a (fun j hj => by
  rw [List.getElem?_toArray,List.getElem?_take_of_lt (by lia),List.getElem?_drop]),hl]
 rfl
theorem pyFind_window (b : List UInt8) (w : UInt8) (a z : Nat) :
  pyFind b [w] (some (a : Int)) (some (z : Int)) = (match (if (((min b.length z : Nat) : Int)) - (a : Int) < 1 then none else some ((a : Int).toNat,(((min b.length z : Nat) : Int)).toNat) : Option (Nat × Nat)).bind fun (lo,hi) => Bytes.find? b.toArray #[w] lo hi with
   | some i => (i : Int)
   | none => -1) := by
 have key : (if (((min b.length z : Nat) : Int)) - (a : Int) < 1 then none else some ((a : Int).toNat,(((min b.length z : Nat) : Int)).toNat) : Option (Nat × Nat)).bind (fun (lo,hi) => Bytes.find? b.toArray #[w] lo hi) = findFrom [w] (pySlice b (some (a : Int)) (some (z : Int))) (clp b.length a) := by
  unfold pySlice
  simp only [Option.elim,clp_nat]
  rw [Nat.min_comm z]
  generalize hm : min b.length z = m
  have hml : m ≤ b.length := hm ▸ Nat.min_le_left ..
  by_cases hc : m ≤ a
  ·rw [if_pos (Int.lt_of_le_of_lt (Int.sub_nonpos_of_le (Int.ofNat_le.mpr hc)) (by decide)),Nat.sub_eq_zero_of_le (Nat.le_min.mpr ⟨hc,hml⟩),List.take_zero]; rfl
  ·have ha := Nat.not_le.mp hc
   rw [if_neg (Int.not_lt.mpr (Int.le_sub_left_of_add_le (Int.ofNat_le.mpr ha))),Nat.min_eq_left (Nat.le_of_lt (Nat.lt_of_lt_of_le ha hml))]
   exact find_run b w a _ ha hml
 rw [key]
 unfold pyFind
 rfl
theorem gives_find (b : List UInt8) (w : UInt8) (lo hi : Int) (t u v x : Tok) (h0 : 0 ≤ lo ∧ 0 ≤ hi) :
  Gives («bytes.find» ⟨[.bytes b.toArray t,.bytes #[w] u,.int lo v,.int hi x],[]⟩) (.int (pyFind b [w] (some lo) (some hi))) := by
 obtain ⟨a,rfl⟩ := Int.eq_ofNat_of_zero_le h0.1
 obtain ⟨z,rfl⟩ := Int.eq_ofNat_of_zero_le h0.2
 have e : «bytes.find» ⟨[.bytes b.toArray t,.bytes #[w] u,.int (a : Int) v,.int (z : Int) x],[]⟩ = (Bytes.searchArgs .bytes "find" ⟨[.bytes b.toArray t,.bytes #[w] u,.int (a : Int) v,.int (z : Int) x],[]⟩ >>= fun (b,sub,w) =>
   match w.bind fun (lo,hi) => Bytes.find? b sub lo hi with
   | some i => retInt i
   | none => do rule s!"{Bytes.Kind.bytes.name}.{"find"}.not-found"; retInt (-1)) := rfl
 rw [e,searchArgs_find,pyFind_window,List.size_toArray,window_nat]
 show Gives (match ((if (((min b.length z : Nat) : Int)) - (a : Int) < 1 then none else some ((a : Int).toNat,(((min b.length z : Nat) : Int)).toNat) : Option (Nat × Nat)).bind fun (lo,hi) => Bytes.find? b.toArray #[w] lo hi) with
   | some i => retInt i
   | none => do rule s!"{Bytes.Kind.bytes.name}.{"find"}.not-found"; retInt (-1)) _
 generalize ((if (((min b.length z : Nat) : Int)) - (a : Int) < 1 then none else some ((a : Int).toNat,(((min b.length z : Nat) : Int)).toNat) : Option (Nat × Nat)).bind fun (lo,hi) => Bytes.find? b.toArray #[w] lo hi) = y
 induction y using Option.casesOn with
 | some i => exact .of_eq rfl
 | none => exact Gives.rule (.of_eq rfl)
noncomputable def BytesIs : List Value → List (List UInt8) → Prop
 | [],[] => True
 | .bytes b _ :: vs,l :: ls => b = l.toArray ∧ BytesIs vs ls
 | _,_ => False
theorem BytesIs.len : ∀ {xs : List Value} {bs : List (List UInt8)},BytesIs xs bs → xs.length = bs.length
 | [],[],_ => rfl
 | .bytes b _ :: vs,l :: ls,h => by simp [BytesIs.len h.2]
 | [],_ :: _,h => h.elim
 | .bytes _ _ :: _,[],h => h.elim
theorem BytesIs.one {x : Value} : ∀ {bs : List (List UInt8)},BytesIs [x] bs → ∃ u l,x = .bytes l.toArray u ∧ bs = [l]
 | [],h => by induction x using PySem.Value.casesOn <;> exact h.elim
 | l :: r,h => by
  induction x using PySem.Value.casesOn with
  | bytes b u =>
   obtain ⟨rfl,h⟩ := h
   induction r using List.casesOn with
   | nil => exact ⟨u,l,rfl,rfl⟩
   | cons _ _ => exact h.elim
  | _ => exact h.elim
theorem BytesIs.get : ∀ {xs : List Value} {bs : List (List UInt8)},BytesIs xs bs → ∀ {i : Nat} (hi : i < bs.length),∃ t,xs[i]? = some (.bytes bs[i].toArray t)
 | .bytes b t :: vs,l :: ls,h,0,_ => ⟨t,by simp [h.1]⟩
 | .bytes b _ :: vs,l :: ls,h,i + 1,hi => by
  obtain ⟨t,e⟩ := BytesIs.get h.2 (i := i) (by simpa using hi)
  exact ⟨t,by simpa using e⟩
 | [],[],_,_,hi => by simp at hi
 | [],_ :: _,h,_,_ => h.elim
 | .bytes _ _ :: _,[],h,_,_ => h.elim
theorem seqItems_ok {M : Model} {A : Around} {E : Value → Shared → Prop} {s : Shared} {a : Addr} {T : String} {xs : List Value} {n : Nat} {Q : Option (Array Value) → Shared → Prop} (h : s.heap.get? a = some (seqObj T xs n)) (q : Q (some xs.toArray) s) :
  wpAny M A (seqItems? (.ref a)) Q E s := wpAny_bind (wpAny_load h (wpAny_pure q))
theorem takeQuiet {id : String} {b : Array UInt8} {t : Tok} : Bytes.takeBufferQuiet? id (.bytes b t) 0 = pure (some (b,none)) := by
 have h : Bytes.takeBuffer? id (.bytes b t) 0 = pure (some (b,none)) := by
  unfold Bytes.takeBuffer?
  rw [KBy.special_eq KBy.look_buffer,KBy.own_buffer]
  show (Bytes.buffer? id (.bytes b t) >>= fun r => pure (r.map (·,none))) = _
  rw [KBy.buffer_eq]; rfl
 unfold Bytes.takeBufferQuiet?
 rw [h]; rfl
theorem joinLetGo_ok {M : Model} {A : Around} {E : Value → Shared → Prop} {s : Shared} {Q : Unit → Shared → Prop} {keep : List Value} (q : Q () s) : ∀ {taken : List (Value × Option Value)},(∀ p ∈ taken,p.2 = none) → wpAny M A (Bytes.joinLetGo taken keep) Q E s
 | [],_ => wpAny_pure q
 | (x,w) :: r,h => by
  have hw : w = none := h (x,w) (.head _)
  subst hw
  show wpAny M A (_ >>= fun O => Bytes.joinLetGo r keep) Q E s
  exact wpAny_bind (wpAny_letGo (joinLetGo_ok q fun p hp => h p (.tail _ hp)))
theorem joined_nil : ∀ (l : List (Array UInt8)) (k : Nat) (acc : Array UInt8),((l.zipIdx k).foldl (fun out (p,i) => (if i > 0 then out ++ (#[] : Array UInt8) else out) ++ p) acc).toList = acc.toList ++ (l.map Array.toList).flatten
 | [],_,acc => by simp
 | x :: r,k,acc => by
  rw [List.zipIdx_cons,List.foldl_cons,joined_nil r (k + 1)]
  simp
theorem jm_one (x : Value) (h1 : Value → Sem PySem.Fin) (h2 : Array Value → Sem PySem.Fin) : Bytes.joinM.match_1 (fun O => Sem PySem.Fin) #[x] h1 h2 = h1 x := rfl
theorem jm_other (arr : Array Value) (h1 : Value → Sem PySem.Fin) (h2 : Array Value → Sem PySem.Fin) (h : ¬ arr.size = 1) : Bytes.joinM.match_1 (fun O => Sem PySem.Fin) arr h1 h2 = h2 arr := by
 unfold Bytes.joinM.match_1; rw [dif_neg h]
theorem joinItems_ok {M : Model} {A : Around} {E : Value → Shared → Prop} {s : Shared} {a : Addr} {xs : List Value} {n : Nat} {Q : Value → Shared → Prop} (h : s.heap.get? a = some (seqObj "list" xs n)) (q : Q (.ref a) s) : wpAny M A (Bytes.joinItems (.ref a)) Q E s := by
 unfold Bytes.joinItems
 refine wpAny_bind (wpAny_typeOf (T := "list") ⟨_,h,rfl⟩ ?_)
 rw [if_pos (by rfl)]
 exact wpAny_pure q
theorem wNo {M : Model} {A : Around} {E : Value → Shared → Prop} {s : Shared} {α : Type} {c : Prop} {d : Decidable c} {x y : Sem α} {Q : α → Shared → Prop} (hc : ¬ c) (h : wpAny M A y Q E s) : wpAny M A (@ite _ c d x y) Q E s := by rw [if_neg hc]; exact h
theorem wYes {M : Model} {A : Around} {E : Value → Shared → Prop} {s : Shared} {α : Type} {c : Prop} {d : Decidable c} {x y : Sem α} {Q : α → Shared → Prop} (hc : c) (h : wpAny M A x Q E s) : wpAny M A (@ite _ c d x y) Q E s := by rw [if_pos hc]; exact h
theorem wEq {M : Model} {A : Around} {E : Value → Shared → Prop} {s : Shared} {α : Type} {x y : Sem α} {Q : α → Shared → Prop} (e : x = y) (h : wpAny M A y Q E s) : wpAny M A x Q E s := e ▸ h
theorem takeAt {M : Model} {A : Around} {E : Value → Shared → Prop} {s : Shared} {id : String} {v : Value} {b : Array UInt8} {t : Tok} {Q : Option (Array UInt8 × Option Value) → Shared → Prop} (e : v = .bytes b t) (q : Q (some (b,none)) s) : wpAny M A (Bytes.takeBufferQuiet? id v 0) Q E s := by
 subst e; rw [takeQuiet]; exact wpAny_pure q
theorem join_sum : ∀ (l : List (List UInt8)) (k : Nat),(l.map List.toArray).foldl (fun x1 x2 => x1 + x2.size) k = k + (l.map List.length).sum
 | [],_ => rfl
 | x :: r,k => by rw [List.map_cons,List.foldl_cons,join_sum r,List.map_cons,List.sum_cons,List.size_toArray,Nat.add_assoc]
theorem join_fin {M : Model} {A : Around} {E : Value → Shared → Prop} {s : Shared} {t : Tok} {bs : List (List UInt8)} {Q : PySem.Fin → Shared → Prop} (hz : (bs.map List.length).sum ≤ sizeLine)
  (q : ∀ t' k,Q (.done (.ret (.bytes bs.flatten.toArray t'))) { s with toks := k }) (st : Array (Array UInt8) × List (Value × Option Value)) (h1 : st.1.toList = bs.map List.toArray) (h2 : ∀ p ∈ st.2,p.2 = none) :
   wpAny M A (Bytes.payload (.bytes #[] t) >>= fun sep =>
    if Bytes.tooLong (Array.foldl (fun x1 x2 => x1 + x2.size) (sep.size * (st.1.size - 1)) st.1) = true then (unsupported (α := Unit) s!"{s!"{Bytes.Kind.bytes.name}.join"}:memory") >>= fun (__r : Unit) => (Bytes.Kind.new .bytes (Bytes.joined sep st.1.toList) >>= fun result => (do
     holding (result :: st.2.flatMap fun (y,u) => y :: u.toList) point
     Bytes.joinLetGo st.2 [result]
     ret result)) else (Bytes.Kind.new .bytes (Bytes.joined sep st.1.toList) >>= fun result => (do
     holding (result :: st.2.flatMap fun (y,u) => y :: u.toList) point
     Bytes.joinLetGo st.2 [result]
     ret result))) Q E s := by
 have hl : Bytes.tooLong (Array.foldl (fun x1 x2 => x1 + x2.size) ((#[] : Array UInt8).size * (st.1.size - 1)) st.1) = false := by
  rw [← Array.foldl_toList,h1,join_sum]
  unfold Bytes.tooLong
  simp; lia
 have hj : Bytes.joined #[] st.1.toList = bs.flatten.toArray := by
  unfold Bytes.joined
  apply Array.ext'
  rw [joined_nil,h1,List.map_map,show (Array.toList ∘ List.toArray : List UInt8 → List UInt8) = fun x => x from rfl,List.map_id']
  rfl
 have hlen : bs.flatten.toArray.size ≤ sizeLine := by rw [List.size_toArray,List.length_flatten]; exact hz
 exact wpAny_bind (wEq (payload_bytes _ _) (wpAny_pure (wNo (by rw [hl]; exact Bool.false_ne_true) (wpAny_bind (wEq (congrArg (Bytes.Kind.new .bytes) hj) (wpAny_mkBytes (wpAny_bind (wpAny_holding (wpAny_point (wpAny_bind (joinLetGo_ok (wpAny_pure (q _ _)) h2))))) hlen))))))
inductive JI (bs : List (List UInt8)) (s : Shared) (l : List Nat) (st : Array (Array UInt8) × List (Value × Option Value)) (s₂ : Shared) : Prop where
 | mk (e : s₂ = s) (i : Nat) (hi : i ≤ bs.length) (hl : l = List.range' i (bs.length - i) 1) (h1 : st.1.toList = (bs.take i).map List.toArray) (h2 : ∀ p ∈ st.2,∃ b t,p = (.bytes b t,none))
theorem join_run {M : Model} {A : Around} {E : Value → Shared → Prop} {s : Shared} {a : Addr} {t : Tok} {xs : List Value} {n : Nat} {bs : List (List UInt8)} {Q : PySem.Fin → Shared → Prop} (h : s.heap.get? a = some (seqObj "list" xs n)) (hb : BytesIs xs bs)
  (hz : (bs.map List.length).sum ≤ sizeLine) (q : ∀ t' k,Q (.done (.ret (.bytes bs.flatten.toArray t'))) { s with toks := k }) : wpAny M A (Bytes.joinM .bytes ⟨[.bytes #[] t,.ref a],[]⟩) Q E s := by
 unfold Bytes.joinM
 refine wpAny_bind (wpAny_pure (wYes (by rfl) (wpAny_bind (joinItems_ok h (wpAny_bind (seqItems_ok h (wYes (by rfl) ?_)))))))
 dsimp only
 have hsz : xs.toArray.size = bs.length := by rw [List.size_toArray,hb.len]
 by_cases hone : xs.length = 1
 ·obtain ⟨x,rfl⟩ := List.length_eq_one_iff.mp hone
  rw [jm_one]
  refine byP fun P kP => ?_
  obtain ⟨u,l,rfl,rfl⟩ := hb.one
  refine kP (wpAny_bind (wpAny_typeOf (T := "bytes") rfl (wYes (by rfl) (wpAny_bind (wpAny_rule (wpAny_pure ?_))))))
  simpa using q u s.toks
 ·rw [jm_other _ _ _ (by simpa using hone)]
  rw [Std.Legacy.Range.forIn_eq_forIn_range']
  refine wpAny_bind (wpAny_forIn_list _ (JI bs s) _ ?_ ?_ _ _ ?_)
  ·intro i rest st s₂ z
   refine byP fun P kP => ?_
   obtain ⟨e1,j,hj,hl,h1,h2⟩ := z
   have hjl : j < bs.length := by
    rcases Nat.lt_or_ge j bs.length with h | h
    ·exact h
    ·rw [Nat.sub_eq_zero_of_le h] at hl; cases hl
   rw [show bs.length - j = bs.length - (j + 1) + 1 from (Nat.succ_pred_eq_of_pos (Nat.sub_pos_of_lt hjl)).symm,List.range'_succ] at hl
   obtain ⟨e2,hr⟩ := List.cons.inj hl
   obtain ⟨u,hu⟩ := hb.get hjl
   have hany : (st.2.any fun x => x.1.onHeap) = false := by
    rw [List.any_eq_false]
    intro p hp
    obtain ⟨b,t,rfl⟩ := h2 p hp
    exact Bool.false_ne_true
   have hget : xs.toArray.getD i Value.none = .bytes bs[j].toArray u := by
    rw [e2,Array.getD_eq_getD_getElem?,List.getElem?_toArray,hu]; rfl
   have h' : s₂.heap.get? a = some (seqObj "list" xs n) := e1 ▸ h
   refine kP (wpAny_bind (seqItems_ok h' ?_))
   clear kP
   refine wNo (by rw [hany]; decide) (wpAny_bind (wpAny_holding (takeAt hget (wpAny_bind (seqItems_ok h' ?_)))))
   refine wNo (by simp) (wpAny_pure ⟨e1,j + 1,hjl,hr,?_,?_⟩)
   ·rw [Array.toList_push,h1,List.take_succ_eq_append_getElem hjl,List.map_append]; rfl
   ·intro p hp
    rcases List.mem_append.mp hp with x | x
    ·exact h2 p x
    ·obtain rfl := List.mem_singleton.mp x; exact ⟨_,_,by rw [hget]⟩
  ·intro st s₂ z
   refine byP fun P kP => ?_
   obtain ⟨rfl,j,hj,hl,h1,h2⟩ := z
   have hj' : j = bs.length := by
    have := congrArg List.length hl
    rw [List.length_range'] at this
    exact Nat.le_antisymm hj (Nat.le_of_sub_eq_zero this.symm)
   rw [hj',List.take_length] at h1
   have hn : ∀ p ∈ st.2,p.2 = none := fun p hp => by
    obtain ⟨b,t,rfl⟩ := h2 p hp
    rfl
   exact kP (join_fin hz q st h1 hn)
  ·exact ⟨rfl,0,Nat.zero_le _,by simp [hb.len],rfl,fun O h => nomatch h⟩
theorem meets_join {a : Addr} {t : Tok} {bs : List (List UInt8)} : Meets («bytes.join» ⟨[.bytes #[] t,.ref a],[]⟩)
  (fun O R s => (∃ xs n,s.heap.get? a = some (seqObj "list" xs n) ∧ BytesIs xs bs) ∧ (bs.map List.length).sum ≤ sizeLine ∧ ∀ t' k,R (.ok (.ret (.bytes bs.flatten.toArray t'))) { s with toks := k }) :=
 fun prog w A R s ⟨⟨xs,n,h1,h2⟩,h3,h4⟩ => join_run h1 h2 h3 fun t' k => h4 t' k
end Mn
end
noncomputable section
namespace Mn
open PySem PySem.W PySem.Calls PyProof.Rows PySem.EqBoolInt
section
structure Room (A : Around) (k : Nat) : Prop where
 hd : A.handled = none
 dp : A.depth + k ≤ 900
 un : A.units + 5 * k ≤ 9000
theorem Room.units {A k} (r : Room A k) : A.units < cLine := by have := r.un; unfold cLine; omega
theorem Room.depth {A k} (r : Room A k) : A.depth < recursionLimit := by have := r.dp; unfold recursionLimit; lia
theorem Room.le {A k j} (r : Room A k) (h : j ≤ k) : Room A j := ⟨r.hd,by have := r.dp; lia,by have := r.un; lia⟩
theorem Room.deeper {A k} {env : Env} (r : Room A (k + 1)) : Room (A.deeper env) k := ⟨r.hd,by have := r.dp; show A.depth + 1 + k ≤ 900; lia,by have := r.un; show A.units + 3 + 5 * k ≤ 9000; lia⟩
section
variable {L : Lk} {fz : FZ} {ρ : RHO} {mh : MH} {s : Shared} {A : Around} {k : Nat} {E : Value → Shared → Prop} {v u : Value} {V U : MV}
theorem sizeLine_eq' : sizeLine = 16777216 := rfl
theorem mkS_length (l : List Nat) : (mkS l).length = l.length := by simp [mkS,Str.length]
theorem mkS_cps (l : List Nat) : (mkS l).cps.toList = l := by simp [mkS]
theorem refOf {i : Nat} (h : VR L fz ρ v (.ref i)) : ∃ p,v = .ref p.1 ∧ ρ[i]? = some p := h.view
theorem tupOf (r : R L fz ρ mh s.heap) (h : VR L fz ρ v (.tup l)) : ∃ a xs n,v = .ref a ∧ s.heap.get? a = some (seqObj "tuple" xs n) ∧ VRL L fz ρ xs l ∧ l.length ≤ LIM := by
 obtain ⟨a,xs,n,e,h1,h⟩ := h.view
 exact ⟨a,xs,n,e,r.sub _ _ h1,h⟩
theorem ref_lst {β : Type} {i : Nat} {f : List MV → Option β} {x : β} (e : (match mh[i]? with | some (.lst l) => f l | _ => none) = some x) : ∃ l,mh[i]? = some (.lst l) ∧ f l = some x := by
 cases hm : mh[i]? with
 | none => rw [hm] at e; exact nO e
 | some o =>
  rw [hm] at e
  induction o using MO.casesOn with
  | lst l => exact ⟨l,rfl,e⟩
  | _ => exact nO e
theorem ref_dct {β : Type} {i : Nat} {f : List (List Nat) → List MV → Option β} {x : β} (e : (match mh[i]? with | some (.dct ks vs) => f ks vs | _ => none) = some x) : ∃ ks vs,mh[i]? = some (.dct ks vs) ∧ f ks vs = some x := by
 cases hm : mh[i]? with
 | none => rw [hm] at e; exact nO e
 | some o =>
  rw [hm] at e
  induction o using MO.casesOn with
  | dct ks vs => exact ⟨ks,vs,rfl,e⟩
  | _ => exact nO e
theorem items_ref {i : Nat} (hm : mh[i]? = some (.lst l)) : itemsV mh (.ref i) = some l := by
 show (match mh[i]? with | some (.lst l) => some l | _ => none) = _
 rw [hm]
theorem listOf (r : R L fz ρ mh s.heap) (h : VR L fz ρ v V) (e : itemsV mh V = some l) : ∃ a xs n,v = .ref a ∧ s.heap.get? a = some (seqObj "list" xs n) ∧ VRL L fz ρ xs l ∧ l.length ≤ LIM := by
 refine byP fun G kG => ?_
 induction V using MV.casesOn with
 | lst l' =>
  obtain rfl := sI e
  obtain ⟨a,xs,n,e,h1,h⟩ := h.view
  exact kG ⟨a,xs,n,e,r.sub _ _ h1,h⟩
 | ref i =>
  refine pML e fun l' hl e' => ?_
  obtain rfl := sI e'
  obtain ⟨p,rfl,h1⟩ := h.view
  obtain ⟨_,h2,xs,n,h3,h4⟩ := r.objs _ _ p hl h1
  exact kG ⟨_,_,_,rfl,h3,h4,h2⟩
 | _ => exact nO e
theorem isListOf {a xs n} {h : Heap} (e : h.get? a = some (seqObj "list" xs n)) : h.IsList a xs.toArray := ⟨_,e,rfl,n,rfl⟩
theorem isTupleOf {a xs n} {h : Heap} (e : h.get? a = some (seqObj "tuple" xs n)) : h.IsTuple a xs.toArray := ⟨_,e,rfl,n,rfl⟩
theorem isTupOf {a xs n} {h : Heap} (e : h.get? a = some (seqObj "tuple" xs n)) : IsTup h a xs.toArray := ⟨_,e,rfl,n,rfl⟩
theorem lim63 {n : Nat} (h : n ≤ LIM) : (n : Int) < 2 ^ 63 := by unfold LIM at h; lia
theorem ne_zero_eq {α : Type} (l : List α) : ((l.length : Int) != 0) = !l.isEmpty := by
 induction l using List.casesOn with
 | nil => rfl
 | cons a r => simp only [List.length_cons,List.isEmpty_cons,Bool.not_false,bne_iff_ne,ne_eq]; omega
theorem intOf {i} (h : VR L fz ρ v (.int i)) : ∃ t,v = .int i t := h.view
theorem strOf {x} (h : VR L fz ρ v (.str x)) : ∃ t,v = .str (mkS x) t ∧ x.length ≤ LIM := h.view
theorem bytesOf {x} (h : VR L fz ρ v (.bytes x)) : ∃ t,v = .bytes x.toArray t ∧ x.length ≤ LIM := h.view
theorem noneOf (h : VR L fz ρ v .none) : v = .none := h.view
theorem boolOf {b} (h : VR L fz ρ v (.bool b)) : v = .bool b := h.view
theorem emptyOf {xs l} (h : VRL L fz ρ xs l) : xs.isEmpty = l.isEmpty := by
 have := h.len
 induction xs using List.casesOn <;> induction l using List.casesOn <;> first | rfl | cases this
theorem truthy_lst {b : Bool} {l : List MV} {Q : Bool → Shared → Prop} (r : R L fz ρ mh s.heap) (hv : VR L fz ρ v V) (e : itemsV mh V = some l) (h : ∀ t,Q (!l.isEmpty) { s with toks := t }) : wpAny L.M A (truthy v) Q E s := by
 obtain ⟨a,xs,n,rfl,g,x,h2⟩ := listOf r hv e
 refine wpAny_truthy_list (isListOf g) ?_ ?_
 ·rw [List.size_toArray,x.len]; exact lim63 h2
 ·rw [show ∀ xs : List Value,(List.toArray xs).isEmpty = List.isEmpty xs from fun xs => List.isEmpty_toArray xs,emptyOf x]; exact h _
theorem truthy_ok {b : Bool} {Q : Bool → Shared → Prop} (r : R L fz ρ mh s.heap) (hv : VR L fz ρ v V) (e : truthV mh V = some b) (h : ∀ t,Q b { s with toks := t }) : wpAny L.M A (truthy v) Q E s := by
 induction V using MV.casesOn with
 | none => obtain rfl := sI e; obtain rfl : v = _ := noneOf hv; exact truthy_none (h s.toks)
 | bool _ => obtain rfl := sI e; obtain rfl : v = _ := boolOf hv; exact wpAny_truthy_bool (h s.toks)
 | int i =>
  obtain rfl := sI e
  obtain ⟨t,rfl⟩ := intOf hv
  refine P.truthy_int ?_
  have : (i != 0) = decide (i ≠ 0) := by by_cases q : i = 0 <;> simp [q]
  rw [this]
  exact h s.toks
 | str x =>
  obtain rfl := sI e
  obtain ⟨t,rfl,hl⟩ := strOf hv
  refine P.truthy_str ?_ ?_
  ·rw [mkS_length]; have := lim63 hl; lia
  ·rw [mkS_length,ne_zero_eq]; exact h _
 | bytes x =>
  obtain rfl := sI e
  obtain ⟨t,rfl,hl⟩ := bytesOf hv
  refine truthy_bytes ?_ ?_
  ·rw [List.size_toArray]; unfold LIM at hl; lia
  ·rw [List.size_toArray,ne_zero_eq]; exact h _
 | tup l =>
  obtain rfl := sI e
  obtain ⟨a,xs,n,rfl,g,x,h2⟩ := tupOf r hv
  refine truthy_tuple (isTupOf g) ?_ ?_
  ·rw [List.size_toArray,x.len]; exact lim63 h2
  ·rw [show ∀ xs : List Value,(List.toArray xs).isEmpty = List.isEmpty xs from fun xs => List.isEmpty_toArray xs,emptyOf x]; exact h _
 | lst l => obtain rfl := sI e; exact truthy_lst (b := true) r hv rfl h
 | ref i =>
  obtain ⟨l,hl,e⟩ := ref_lst (f := fun l => some (!l.isEmpty)) e
  obtain rfl := sI e
  exact truthy_lst (b := true) r hv (by show (match mh[i]? with | some (.lst l) => some l | _ => none) = _; rw [hl]) h
 | _ => exact nO e
theorem rc_lists {a b : Addr} {xs : List Value} {n m : Nat} (hu : A.units < cLine) (h1 : s.heap.get? a = some (seqObj "list" xs n)) (h2 : s.heap.get? b = some (seqObj "list" [] m)) :
  SeqAt.RcAt A s (.ref a) (.ref b) xs.isEmpty := by
 induction xs using List.casesOn with
 | nil => exact SeqAt.RcAt.lists (e := fun O => true) (isListOf h1) (isListOf h2) rfl hu (fun j h => by simp at h)
 | cons x r => exact SeqAt.RcAt.lists_lengths (isListOf h1) (isListOf h2) (by simp) hu
theorem rcne_lists {a b : Addr} {xs : List Value} {n m : Nat} (hu : A.units < cLine) (h1 : s.heap.get? a = some (seqObj "list" xs n)) (h2 : s.heap.get? b = some (seqObj "list" [] m)) :
  SeqAt.RcNeAt A s (.ref a) (.ref b) (!xs.isEmpty) := by
 induction xs using List.casesOn with
 | nil => exact SeqAt.RcNeAt.lists (e := fun O => true) (isListOf h1) (isListOf h2) rfl hu (fun j h => by simp at h)
 | cons x r => exact SeqAt.RcNeAt.lists_lengths (isListOf h1) (isListOf h2) (by simp) hu
theorem rc_tups {a b : Addr} {xs : List Value} {n m : Nat} (hu : A.units < cLine) (h1 : s.heap.get? a = some (seqObj "tuple" xs n)) (h2 : s.heap.get? b = some (seqObj "tuple" [] m)) :
  SeqAt.RcAt A s (.ref a) (.ref b) xs.isEmpty := by
 have := SeqAt.RcAt.tuples (e := fun O => true) (isTupleOf h1) (isTupleOf h2) hu (fun j h h2 => by simp at h2)
 induction xs using List.casesOn with
 | nil => exact this
 | cons x r => simpa using this
theorem rcne_tups {a b : Addr} {xs : List Value} {n m : Nat} (hu : A.units < cLine) (h1 : s.heap.get? a = some (seqObj "tuple" xs n)) (h2 : s.heap.get? b = some (seqObj "tuple" [] m)) :
  SeqAt.RcNeAt A s (.ref a) (.ref b) (!xs.isEmpty) := by
 have := SeqAt.RcNeAt.tuples (e := fun O => true) (isTupleOf h1) (isTupleOf h2) hu (fun j h h2 => by simp at h2)
 induction xs using List.casesOn with
 | nil => exact this
 | cons x r => simpa using this
theorem eq_bytes_ok {b c : List UInt8} {t t' : Tok} {Q : Value → Shared → Prop} (h : Q (.bool (decide (b = c))) s) : wpAny L.M A (compareOp .Eq (.bytes b.toArray t) (.bytes c.toArray t')) Q E s := by
 refine eq_bytes ?_
 have : (b.toArray.toList == c.toArray.toList) = decide (b = c) := by by_cases q : b = c <;> simp [q]
 rw [this]; exact h
theorem ne_bytes_ok {b c : List UInt8} {t t' : Tok} {Q : Value → Shared → Prop} (h : Q (.bool (!decide (b = c))) s) : wpAny L.M A (compareOp .NotEq (.bytes b.toArray t) (.bytes c.toArray t')) Q E s := by
 refine ne_bytes ?_
 have : (b.toArray.toList != c.toArray.toList) = !decide (b = c) := by by_cases q : b = c <;> simp [q]
 rw [this]; exact h
noncomputable def IsEq (o : CmpOp) : Prop := o = .Eq ∨ o = .NotEq
noncomputable abbrev eqB (o : CmpOp) (b : Bool) : Value := .bool (if o = .Eq then b else !b)
theorem cq_int {o : CmpOp} {a b : Int} {t t' : Tok} {Q : Value → Shared → Prop} (ho : IsEq o) (h : Q (eqB o (decide (a = b))) s) : wpAny L.M A (compareOp o (.int a t) (.int b t')) Q E s := by
 rcases ho with rfl | rfl
 ·refine P.eq_int ?_
  have : (a == b) = decide (a = b) := by by_cases q : a = b <;> simp [q]
  rw [this]; exact h
 ·refine P.ne_int ?_
  have : (a != b) = !decide (a = b) := by by_cases q : a = b <;> simp [q]
  rw [this]; exact h
theorem cq_bool {o : CmpOp} {a b : Bool} {Q : Value → Shared → Prop} (ho : IsEq o) (h : Q (eqB o (a == b)) s) : wpAny L.M A (compareOp o (.bool a) (.bool b)) Q E s := by
 rcases ho with rfl | rfl
 ·exact of_rc (SeqAt.RcAt.bool_bool _ _) h
 ·exact of_rcne (SeqAt.RcNeAt.bool_bool _ _) h
theorem mkS_beq (a b : List Nat) : (mkS a == mkS b) = decide (a = b) := by
 by_cases q : a = b
 ·simp [q]
 ·simp only [q,decide_false,beq_eq_false_iff_ne,ne_eq]; exact fun x => q (mkS_inj x)
theorem cq_str {o : CmpOp} {a b : List Nat} {t t' : Tok} {Q : Value → Shared → Prop} (ho : IsEq o) (h : Q (eqB o (decide (a = b))) s) : wpAny L.M A (compareOp o (.str (mkS a) t) (.str (mkS b) t')) Q E s := by
 rcases ho with rfl | rfl
 ·exact of_rc (SeqAt.RcAt.str_str _ _ _ _) (by rw [mkS_beq]; exact h)
 ·exact of_rcne (SeqAt.RcNeAt.str_str _ _ _ _) (by rw [mkS_beq]; exact h)
theorem cq_bytes {o : CmpOp} {a b : List UInt8} {t t' : Tok} {Q : Value → Shared → Prop} (ho : IsEq o) (h : Q (eqB o (decide (a = b))) s) : wpAny L.M A (compareOp o (.bytes a.toArray t) (.bytes b.toArray t')) Q E s := by
 rcases ho with rfl | rfl
 ·exact eq_bytes_ok h
 ·exact ne_bytes_ok h
theorem cq_none {o : CmpOp} {Q : Value → Shared → Prop} (ho : IsEq o) (h : Q (eqB o true) s) : wpAny L.M A (compareOp o .none .none) Q E s := by
 rcases ho with rfl | rfl
 ·exact of_rc SeqAt.RcAt.none_none h
 ·exact of_rcne SeqAt.RcNeAt.none_none h
theorem cq_tup {o : CmpOp} {a b : List MV} {Q : Value → Shared → Prop} (rm : Room A k) (r : R L fz ρ mh s.heap) (hv : VR L fz ρ v (.tup a)) (hu : VR L fz ρ u (.tup b)) (hb : b.isEmpty = true) (ho : IsEq o) (h : Q (eqB o a.isEmpty) s) : wpAny L.M A (compareOp o v u) Q E s := by
 obtain ⟨a,xs,n,rfl,g,x,_⟩ := tupOf r hv
 obtain ⟨a',xs',n',rfl,g',x',_⟩ := tupOf r hu
 obtain rfl := List.isEmpty_iff.mp hb
 cases List.length_eq_zero_iff.mp (x'.len : _ = 0)
 rw [← emptyOf x] at h
 rcases ho with rfl | rfl
 ·exact of_rc (rc_tups rm.units g g') h
 ·exact of_rcne (rcne_tups rm.units g g') h
theorem cq_lst {o : CmpOp} {l b : List MV} {Q : Value → Shared → Prop} (rm : Room A k) (r : R L fz ρ mh s.heap) (hv : VR L fz ρ v V) (hi : itemsV mh V = some l) (hu : VR L fz ρ u (.lst b)) (hb : b.isEmpty = true) (ho : IsEq o) (h : Q (eqB o l.isEmpty) s) : wpAny L.M A (compareOp o v u) Q E s := by
 obtain ⟨a,xs,n,rfl,g,x,_⟩ := listOf r hv hi
 obtain ⟨a',xs',n',rfl,g',x',_⟩ := listOf (l := b) r hu rfl
 obtain rfl := List.isEmpty_iff.mp hb
 cases List.length_eq_zero_iff.mp (x'.len : _ = 0)
 rw [← emptyOf x] at h
 rcases ho with rfl | rfl
 ·exact of_rc (rc_lists rm.units g g') h
 ·exact of_rcne (rcne_lists rm.units g g') h
theorem eqV_ok {o : CmpOp} {b : Bool} {Q : Value → Shared → Prop} (rm : Room A k) (r : R L fz ρ mh s.heap) (hv : VR L fz ρ v V) (hu : VR L fz ρ u U) (e : eqV mh V U = some b) (ho : IsEq o)
  (h : Q (eqB o b) s) : wpAny L.M A (compareOp o v u) Q E s := by
 induction U using MV.casesOn with
 | int _ => induction V using MV.casesOn with
  | int _ => obtain rfl := sI e; obtain ⟨_,rfl⟩ := intOf hv; obtain ⟨_,rfl⟩ := intOf hu; exact cq_int ho h
  | _ => exact nO e
 | bool _ => induction V using MV.casesOn with
  | bool _ => obtain rfl := sI e; obtain rfl : v = _ := boolOf hv; obtain rfl : u = _ := boolOf hu; exact cq_bool ho h
  | _ => exact nO e
 | str _ => induction V using MV.casesOn with
  | str _ => obtain rfl := sI e; obtain ⟨_,rfl,_⟩ := strOf hv; obtain ⟨_,rfl,_⟩ := strOf hu; exact cq_str ho h
  | _ => exact nO e
 | bytes _ => induction V using MV.casesOn with
  | bytes _ => obtain rfl := sI e; obtain ⟨_,rfl,_⟩ := bytesOf hv; obtain ⟨_,rfl,_⟩ := bytesOf hu; exact cq_bytes ho h
  | _ => exact nO e
 | none => induction V using MV.casesOn with
  | none => obtain rfl := sI e; obtain rfl : v = _ := noneOf hv; obtain rfl : u = _ := noneOf hu; exact cq_none ho h
  | _ => exact nO e
 | tup l => induction V using MV.casesOn with
  | tup _ => exact if_of e fun hb e => by obtain rfl := sI e; exact cq_tup rm r hv hu hb ho h
  | _ => exact nO e
 | lst l =>
   refine if_of (c := l.isEmpty = true) e fun hb e => ?_
   obtain ⟨l,e1,rfl⟩ := Option.map_eq_some_iff.mp e
   exact cq_lst rm r hv e1 hu hb ho h
 | _ => exact nO e
theorem asInts_of : ∀ {l : List MV} {ns : List Int},asInts l = some ns → l = ns.map .int
 | [],_,e => by obtain rfl := sI e; rfl
 | .int i :: r,ns,e => by
  simp only [asInts,Option.map_eq_some_iff] at e
  obtain ⟨ms,h,rfl⟩ := e
  rw [asInts_of h]; rfl
 | .none :: _,_,e | .bool _ :: _,_,e | .str _ :: _,_,e | .bytes _ :: _,_,e | .fn _ :: _,_,e | .ref _ :: _,_,e | .tup _ :: _,_,e | .lst _ :: _,_,e | .dct _ _ :: _,_,e | .ins _ _ _ :: _,_,e => by exact nO e
theorem asStrs_of : ∀ {l : List MV} {ns : List (List Nat)},asStrs l = some ns → l = ns.map .str
 | [],_,e => by obtain rfl := sI e; rfl
 | .str i :: r,ns,e => by
  simp only [asStrs,Option.map_eq_some_iff] at e
  obtain ⟨ms,h,rfl⟩ := e
  rw [asStrs_of h]; rfl
 | .none :: _,_,e | .bool _ :: _,_,e | .int _ :: _,_,e | .bytes _ :: _,_,e | .fn _ :: _,_,e | .ref _ :: _,_,e | .tup _ :: _,_,e | .lst _ :: _,_,e | .dct _ _ :: _,_,e | .ins _ _ _ :: _,_,e => by exact nO e
theorem asBytes_of : ∀ {l : List MV} {ns : List (List UInt8)},asBytes l = some ns → l = ns.map .bytes
 | [],_,e => by obtain rfl := sI e; rfl
 | .bytes i :: r,ns,e => by
  simp only [asBytes,Option.map_eq_some_iff] at e
  obtain ⟨ms,h,rfl⟩ := e
  rw [asBytes_of h]; rfl
 | .none :: _,_,e | .bool _ :: _,_,e | .str _ :: _,_,e | .int _ :: _,_,e | .fn _ :: _,_,e | .ref _ :: _,_,e | .tup _ :: _,_,e | .lst _ :: _,_,e | .dct _ _ :: _,_,e | .ins _ _ _ :: _,_,e => by exact nO e
noncomputable def isI (x : Int) : Value → Bool
 | .int y _ => y == x
 | _ => false
noncomputable def isT (x : List Nat) : Value → Bool
 | .str y _ => y == mkS x
 | _ => false
theorem any_ints {x : Int} : ∀ {xs : List Value} {ns : List Int},VRL L fz ρ xs (ns.map .int) → (∀ t,∀ y ∈ xs,SeqAt.EqAt A s y (.int x t) (isI x y)) ∧ xs.any (isI x) = ns.contains x
 | _,[],h => by cases h; exact ⟨fun O O h => (nomatch h),rfl⟩
 | _,n :: r,h => by
  obtain ⟨v,vs,rfl,hv,h9⟩ := VRL.unconsR (V := .int n) (Vs := r.map .int) h
  obtain ⟨t0,rfl⟩ := hv.view
  ·obtain ⟨h1,h2⟩ := any_ints h9
   refine ⟨fun t y hy => ?_,?_⟩
   ·cases hy with
    | head => exact SeqAt.EqAt.int_int _ _ _ _
    | tail _ hy => exact h1 t y hy
   ·rw [List.any_cons,h2,List.contains_cons,isI,Bool.beq_comm]
theorem any_strs {x : List Nat} : ∀ {xs : List Value} {ns : List (List Nat)},VRL L fz ρ xs (ns.map .str) → (∀ t,∀ y ∈ xs,SeqAt.EqAt A s y (.str (mkS x) t) (isT x y)) ∧ xs.any (isT x) = ns.contains x
 | _,[],h => by cases h; exact ⟨fun O O h => (nomatch h),rfl⟩
 | _,n :: r,h => by
  obtain ⟨v,vs,rfl,hv,h9⟩ := VRL.unconsR (V := .str n) (Vs := r.map .str) h
  obtain ⟨t0,rfl,hl⟩ := hv.view
  ·obtain ⟨h1,h2⟩ := any_strs h9
   refine ⟨fun t y hy => ?_,?_⟩
   ·cases hy with
    | head => exact SeqAt.EqAt.str_str _ _ _ _
    | tail _ hy => exact h1 t y hy
   ·rw [List.any_cons,h2,List.contains_cons,isT]
    congr 1
    by_cases q : x = n
    ·subst q; simp
    ·rw [beq_eq_false_iff_ne.mpr q,beq_eq_false_iff_ne.mpr fun e => q (mkS_inj e).symm]
noncomputable def dictV (mh : MH) : MV → Option (List (List Nat) × List MV)
 | .dct ks vs => some (ks,vs)
 | .ref i => match mh[i]? with
  | some (.dct ks vs) => some (ks,vs)
  | _ => none
 | _ => none
theorem dictOf {ks vs} (r : R L fz ρ mh s.heap) (h : VR L fz ρ v V) (e : dictV mh V = some (ks,vs)) :
  ∃ a kvs,v = .ref a ∧ (a == sysModules) = false ∧ s.heap.DictOf L.knd a kvs ∧ kvs.map (·.1) = ks.map mkS ∧ VRL L fz ρ (kvs.map (·.2)) vs := by
 induction V using MV.casesOn with
 | dct ks' vs' =>
  obtain ⟨rfl,rfl⟩ := sP e
  obtain ⟨a,o,kvs,e,h1,h2,h3,h4,h5,_⟩ := h.view
  exact ⟨a,kvs,e,h2,Heap.dictOf_iff.mpr ⟨_,r.sub _ _ h1,h3⟩,h4,h5⟩
 | ref i =>
  obtain ⟨_,_,hl,e⟩ := ref_dct (f := fun ks vs => some (ks,vs)) e
  obtain ⟨rfl,rfl⟩ := sP e
  obtain ⟨p,rfl,h1⟩ := h.view
  obtain ⟨_,_,h2,kvs,h3,h4,h5⟩ := r.objs _ _ p hl h1
  exact ⟨_,_,rfl,h2,h3,h4,h5⟩
 | _ => exact nO e
theorem hasK_look {α : Type} [DecidableEq α] {k : α} : ∀ {ks : List α} {vs : List MV},ks.length = vs.length → hasK k ks = (lookK k ks vs).isSome
 | [],[],_ => rfl
 | a :: ks,v :: vs,e => by
  simp only [hasK,lookK]
  split
  ·rfl
  ·exact hasK_look (by simpa using e)
theorem isSome_at {ks vs kvs} {x : List Nat} (h1 : kvs.map (·.1) = ks.map mkS) (h2 : VRL L fz ρ (kvs.map (·.2)) vs) : (valueAt kvs (mkS x)).isSome = hasK x ks := by
 have hl : ks.length = vs.length := by rw [← h2.len,List.length_map,← List.length_map (f := fun x : Str × Value => x.1),h1,List.length_map]
 have := VRL.look (f := mkS) (fun O O => mkS_inj) (k := x) h1 h2
 rw [hasK_look hl]
 cases e : lookK x ks vs with
 | none => rw [this.2 e]; rfl
 | some V => obtain ⟨v,hv,_⟩ := this.1 V e; rw [hv]; rfl
theorem not_ok {b : Bool} {Q : Value → Shared → Prop} (r : R L fz ρ mh s.heap) (hv : VR L fz ρ v V) (e : truthV mh V = some b) (h : ∀ t,Q (.bool (!b)) { s with toks := t }) : wpAny L.M A (unaryOp .Not v) Q E s :=
 not_value (truthy_ok r hv e h)
theorem byte_eq {x : Int} (h : 0 ≤ x ∧ x < 256) : x.toNat.toUInt8 = UInt8.ofNat x.toNat := rfl
theorem in_bytes {b : List UInt8} {t u : Tok} {x : Int} {Q : Value → Shared → Prop} (hx : 0 ≤ x ∧ x < 256) (h : Q (.bool (b.contains (UInt8.ofNat x.toNat))) s) : wpAny L.M A (compareOp .In (.int x u) (.bytes b.toArray t)) Q E s := by
 show wpAny _ _ (contains (.bytes b.toArray t) (.int x u) >>= fun r => pure (.bool r)) Q E s
 refine wpAny_bind ?_
 unfold contains
 try with_reducible refine wpAny_holding ?_
 refine wpAny_bind (wpAny_specialOf (typeIs_bytes s _ t) FB.slot_bytes_contains.lookup ?_)
 show wpAny _ _ (if (some (Value.builtin "bytes.__contains__") == some Value.none) = true then _ else _) _ E s
 rw [if_neg (by rw [beq_builtin_none]; exact Bool.false_ne_true)]
 refine wpAny_bind (wpAny_callSpecialUnlessNone?_slot (name := Str.ofString "__contains__") (typeIs_bytes s _ t) FB.slot_bytes_contains
  (call_gives FB.slot_bytes_contains (typeIs_bytes s _ t) FB.entry_bytes_contains (FB.args_bytes_contains_2 _ _) (gives_contains _ t x u hx.1 hx.2) ?_))
 refine wpAny_truthy_bool (wpAny_pure ?_)
 rw [byte_eq hx]
 simpa using h
theorem notIn_bytes {b : List UInt8} {t u : Tok} {x : Int} {Q : Value → Shared → Prop} (hx : 0 ≤ x ∧ x < 256) (h : Q (.bool (!b.contains (UInt8.ofNat x.toNat))) s) : wpAny L.M A (compareOp .NotIn (.int x u) (.bytes b.toArray t)) Q E s := by
 show wpAny _ _ (contains (.bytes b.toArray t) (.int x u) >>= fun r => pure (.bool (!r))) Q E s
 refine wpAny_bind ?_
 unfold contains
 try with_reducible refine wpAny_holding ?_
 refine wpAny_bind (wpAny_specialOf (typeIs_bytes s _ t) FB.slot_bytes_contains.lookup ?_)
 show wpAny _ _ (if (some (Value.builtin "bytes.__contains__") == some Value.none) = true then _ else _) _ E s
 rw [if_neg (by rw [beq_builtin_none]; exact Bool.false_ne_true)]
 refine wpAny_bind (wpAny_callSpecialUnlessNone?_slot (name := Str.ofString "__contains__") (typeIs_bytes s _ t) FB.slot_bytes_contains
  (call_gives FB.slot_bytes_contains (typeIs_bytes s _ t) FB.entry_bytes_contains (FB.args_bytes_contains_2 _ _) (gives_contains _ t x u hx.1 hx.2) ?_))
 refine wpAny_truthy_bool (wpAny_pure ?_)
 rw [byte_eq hx]
 simpa using h
noncomputable def IsIn (o : CmpOp) : Prop := o = .In ∨ o = .NotIn
noncomputable abbrev inB (o : CmpOp) (b : Bool) : Value := .bool (if o = .In then b else !b)
theorem ci_dict {o : CmpOp} {x : List Nat} {ks : List (List Nat)} {vs : List MV} {Q : Value → Shared → Prop} (r : R L fz ρ mh s.heap) (hv : VR L fz ρ v (.str x)) (hu : VR L fz ρ u U) (e : dictV mh U = some (ks,vs)) (ho : IsIn o) (h : ∀ t,Q (inB o (hasK x ks)) { s with toks := t }) :
  wpAny L.M A (compareOp o v u) Q E s := by
 obtain ⟨a,kvs,rfl,h1,h2,h3,h4⟩ := dictOf r hu e
 obtain ⟨_,rfl,_⟩ := strOf hv
 have hk := strKind_is L.prog L.w (mkS x)
 rcases ho with rfl | rfl
 ·exact wpAny_in_of (knd := L.knd) (hk _) h1 h2.mapOf (by rw [isSome_at h3 h4]; exact h _)
 ·exact wpAny_notIn_of (knd := L.knd) (hk _) h1 h2.mapOf (by rw [isSome_at h3 h4]; exact h _)
theorem ci_tupI {o : CmpOp} {x : Int} {ns : List Int} {Q : Value → Shared → Prop} (r : R L fz ρ mh s.heap) (hv : VR L fz ρ v (.int x)) (hu : VR L fz ρ u (.tup (ns.map .int))) (ho : IsIn o) (h : Q (inB o (ns.contains x)) s) : wpAny L.M A (compareOp o v u) Q E s := by
 obtain ⟨a,xs,n,rfl,g,y,_⟩ := tupOf r hu
 obtain ⟨t,rfl⟩ := intOf hv
 obtain ⟨h1,h2⟩ := any_ints (s := s) (A := A.in1) (x := x) y
 rcases ho with rfl | rfl
 ·exact SeqAt.in_tupleAt (isI x) (isTupleOf g) (fun y hy => h1 t y (by simpa using hy)) (by rw [List.any_toArray,h2]; exact h)
 ·exact SeqAt.notIn_tupleAt (isI x) (isTupleOf g) (fun y hy => h1 t y (by simpa using hy)) (by rw [List.any_toArray,h2]; exact h)
theorem ci_tupS {o : CmpOp} {x : List Nat} {ns : List (List Nat)} {Q : Value → Shared → Prop} (r : R L fz ρ mh s.heap) (hv : VR L fz ρ v (.str x)) (hu : VR L fz ρ u (.tup (ns.map .str))) (ho : IsIn o) (h : Q (inB o (ns.contains x)) s) : wpAny L.M A (compareOp o v u) Q E s := by
 obtain ⟨a,xs,n,rfl,g,y,_⟩ := tupOf r hu
 obtain ⟨t,rfl,_⟩ := strOf hv
 obtain ⟨h1,h2⟩ := any_strs (s := s) (A := A.in1) (x := x) y
 rcases ho with rfl | rfl
 ·exact SeqAt.in_tupleAt (isT x) (isTupleOf g) (fun y hy => h1 t y (by simpa using hy)) (by rw [List.any_toArray,h2]; exact h)
 ·exact SeqAt.notIn_tupleAt (isT x) (isTupleOf g) (fun y hy => h1 t y (by simpa using hy)) (by rw [List.any_toArray,h2]; exact h)
theorem ci_lstS {o : CmpOp} {x : List Nat} {ns : List (List Nat)} {Q : Value → Shared → Prop} (r : R L fz ρ mh s.heap) (hv : VR L fz ρ v (.str x)) (hu : VR L fz ρ u (.lst (ns.map .str))) (ho : IsIn o) (h : Q (inB o (ns.contains x)) s) : wpAny L.M A (compareOp o v u) Q E s := by
 obtain ⟨a,xs,n,rfl,g,y,_⟩ := listOf r hu rfl
 obtain ⟨t,rfl,_⟩ := strOf hv
 obtain ⟨h1,h2⟩ := any_strs (s := s) (A := A.in1) (x := x) y
 rcases ho with rfl | rfl
 ·exact SeqAt.in_listAt (isT x) (isListOf g) (fun y hy => h1 t y (by simpa using hy)) (by rw [List.any_toArray,h2]; exact h)
 ·exact SeqAt.notIn_listAt (isT x) (isListOf g) (fun y hy => h1 t y (by simpa using hy)) (by rw [List.any_toArray,h2]; exact h)
theorem ci_bytes {o : CmpOp} {x : Int} {t t' : Tok} {l : List UInt8} {Q : Value → Shared → Prop} (hx : 0 ≤ x ∧ x < 256) (ho : IsIn o) (h : Q (inB o (l.contains (UInt8.ofNat x.toNat))) s) : wpAny L.M A (compareOp o (.int x t) (.bytes l.toArray t')) Q E s := by
 rcases ho with rfl | rfl
 ·exact in_bytes hx h
 ·exact notIn_bytes hx h
theorem inV_ok {b : Bool} {o : CmpOp} {Q : Value → Shared → Prop} (rm : Room A k) (r : R L fz ρ mh s.heap) (hv : VR L fz ρ v V) (hu : VR L fz ρ u U) (e : cmpV.inV mh V U = some b) (ho : IsIn o)
  (h : ∀ t,Q (inB o b) { s with toks := t }) : wpAny L.M A (compareOp o v u) Q E s := by
 induction V using MV.casesOn with
 | int x => induction U using MV.casesOn with
  | bytes l =>
    refine if_of e fun hx e => ?_
    obtain rfl := sI e
    obtain ⟨_,rfl⟩ := intOf hv
    obtain ⟨_,rfl,_⟩ := bytesOf hu
    exact ci_bytes hx ho (h s.toks)
  | tup l =>
   obtain ⟨ns,e1,rfl⟩ := Option.map_eq_some_iff.mp e
   obtain rfl := asInts_of e1
   exact ci_tupI r hv hu ho (h s.toks)
  | _ => exact nO e
 | str x => induction U using MV.casesOn with
  | tup l =>
   obtain ⟨ns,e1,rfl⟩ := Option.map_eq_some_iff.mp e
   obtain rfl := asStrs_of e1
   exact ci_tupS r hv hu ho (h s.toks)
  | lst l =>
   obtain ⟨ns,e1,rfl⟩ := Option.map_eq_some_iff.mp e
   obtain rfl := asStrs_of e1
   exact ci_lstS r hv hu ho (h s.toks)
  | ref i =>
   obtain ⟨ks,vs,hm,e⟩ := ref_dct (f := fun ks O => some (hasK x ks)) e
   obtain rfl := sI e
   exact ci_dict r hv hu (vs := vs) (by show (match mh[i]? with | some (.dct ks vs) => some (ks,vs) | _ => none) = _; rw [hm]) ho h
  | dct ks vs =>
   obtain rfl := sI e
   exact ci_dict r hv hu rfl ho h
  | _ => exact nO e
 | _ => exact nO e
theorem isV_ok {b : Bool} {o : CmpOp} {Q : Value → Shared → Prop} (hv : VR L fz ρ v V) (hu : VR L fz ρ u .none) (e : isN V = some b) (ho : o = .Is ∨ o = .IsNot)
  (h : Q (.bool (if o = .Is then b else !b)) s) : wpAny L.M A (compareOp o v u) Q E s := by
 obtain rfl := noneOf hu
 have : (v == Value.none) = b := by
  have hv := hv.view
  induction V using MV.casesOn with
  | none => obtain rfl := sI e; obtain rfl : v = _ := hv; rfl
  | bool _ => obtain rfl := sI e; obtain rfl : v = _ := hv; rfl
  | int _ => obtain rfl := sI e; obtain ⟨_,rfl⟩ := hv; rfl
  | str _ => obtain rfl := sI e; obtain ⟨_,rfl,_⟩ := hv; rfl
  | bytes _ => obtain rfl := sI e; obtain ⟨_,rfl,_⟩ := hv; rfl
  | ref _ => obtain rfl := sI e; obtain ⟨_,rfl,_⟩ := hv; rfl
  | tup _ => obtain rfl := sI e; obtain ⟨_,_,_,rfl,_⟩ := hv; rfl
  | lst _ => obtain rfl := sI e; obtain ⟨_,_,_,rfl,_⟩ := hv; rfl
  | dct _ _ => obtain rfl := sI e; obtain ⟨_,_,_,rfl,_⟩ := hv; rfl
  | ins _ _ _ => obtain rfl := sI e; obtain ⟨_,_,_,_,rfl,_⟩ := hv; rfl
  | _ => exact nO e
 rcases ho with rfl | rfl
 ·exact is_none (by rw [this]; exact h)
 ·exact isNot_none (by rw [this]; exact h)
theorem intB_ok {f : Int → Int → Bool} {b : Bool} (hv : VR L fz ρ v V) (hu : VR L fz ρ u U) (e : intB V U f = some b) : ∃ x t y t',v = .int x t ∧ u = .int y t' ∧ b = f x y := by
 refine pI e fun x hx e' => pI e' fun y hy e' => ?_
 obtain rfl := sI e'
 obtain ⟨t,rfl⟩ := intOf (hx ▸ hv)
 obtain ⟨t',rfl⟩ := intOf (hy ▸ hu)
 exact ⟨_,_,_,_,rfl,rfl,rfl⟩
theorem cmpV_ok {b : Bool} {o : CmpOp} {Q : Value → Shared → Prop} (rm : Room A k) (r : R L fz ρ mh s.heap) (hv : VR L fz ρ v V) (hu : VR L fz ρ u U) (e : cmpV mh o V U = some b)
  (h : ∀ t,Q (.bool b) { s with toks := t }) : wpAny L.M A (compareOp o v u) Q E s := by
 induction o using PySem.CmpOp.casesOn with
 | Eq => exact eqV_ok rm r hv hu e (.inl rfl) (h s.toks)
 | NotEq =>
  obtain ⟨c,e1,rfl⟩ := Option.map_eq_some_iff.mp e
  exact eqV_ok rm r hv hu e1 (.inr rfl) (h s.toks)
 | Lt => obtain ⟨_,_,_,_,rfl,rfl,rfl⟩ := intB_ok hv hu e; exact P.lt_int (h s.toks)
 | LtE => obtain ⟨_,_,_,_,rfl,rfl,rfl⟩ := intB_ok hv hu e; exact P.le_int (h s.toks)
 | Gt => obtain ⟨_,_,_,_,rfl,rfl,rfl⟩ := intB_ok hv hu e; exact P.gt_int (h s.toks)
 | GtE => obtain ⟨_,_,_,_,rfl,rfl,rfl⟩ := intB_ok hv hu e; exact P.ge_int (h s.toks)
 | Is =>
  induction U using MV.casesOn with
  | none => exact isV_ok hv hu e (.inl rfl) (h s.toks)
  | _ => exact nO e
 | IsNot =>
  induction U using MV.casesOn with
  | none =>
   obtain ⟨c,e1,rfl⟩ := Option.map_eq_some_iff.mp e
   exact isV_ok hv hu e1 (.inr rfl) (h s.toks)
  | _ => exact nO e
 | In => exact inV_ok rm r hv hu e (.inl rfl) h
 | NotIn =>
  obtain ⟨c,e1,rfl⟩ := Option.map_eq_some_iff.mp e
  exact inV_ok rm r hv hu e1 (.inr rfl) h
end
end
section
noncomputable def Same (s s' : Shared) : Prop := ∃ h tk,s' = { s with heap := h,toks := tk }
theorem Same.refl (s : Shared) : Same s s := ⟨_,_,rfl⟩
theorem Same.trans {s s' s'' : Shared} (a : Same s s') (b : Same s' s'') : Same s s'' := by
 obtain ⟨_,_,rfl⟩ := a; obtain ⟨_,_,rfl⟩ := b; exact ⟨_,_,rfl⟩
structure Good (L : Lk) (fz : FZ) (ρ : RHO) (s : Shared) (mh' : MH) (fz' : FZ) (ρ' : RHO) (s' : Shared) : Prop where
 same : Same s s'
 r : R L fz' ρ' mh' s'.heap
 st : Step [] fz ρ s.heap fz' ρ' s'.heap
theorem Good.trans {L fz ρ s mh₁ fz₁ ρ₁ s₁ mh₂ fz₂ ρ₂ s₂} (a : Good L fz ρ s mh₁ fz₁ ρ₁ s₁) (b : Good L fz₁ ρ₁ s₁ mh₂ fz₂ ρ₂ s₂) : Good L fz ρ s mh₂ fz₂ ρ₂ s₂ := ⟨a.same.trans b.same,b.r,a.st.trans b.st⟩
inductive PV (L : Lk) (fz : FZ) (ρ : RHO) (s : Shared) (V : MV) (mh' : MH) (v : Value) (s' : Shared) : Prop where
 | mk (fz' : FZ) (ρ' : RHO) (g : Good L fz ρ s mh' fz' ρ' s') (h : VR L fz' ρ' v V)
section
variable {L : Lk} {fz : FZ} {ρ : RHO} {mh : MH} {s : Shared} {A : Around} {k : Nat} {E : Value → Shared → Prop} {v u : Value} {V U W : MV}
theorem Good.refl (r : R L fz ρ mh s.heap) : Good L fz ρ s mh fz ρ s := ⟨.refl s,r,.refl _ _ _ _⟩
theorem Good.tok (r : R L fz ρ mh s.heap) (t : Nat) : Good L fz ρ s mh fz ρ { s with toks := t } := ⟨⟨_,_,rfl⟩,r,.refl _ _ _ _⟩
theorem Good.keeps (r : R L fz ρ mh s.heap) {h' : Heap} (k : ∀ b o,s.heap.get? b = some o → h'.get? b = some o) (t : Nat) : Good L fz ρ s mh fz ρ { s with heap := h',toks := t } := ⟨⟨_,_,rfl⟩,r.keeps k,.keeps k⟩
theorem PV.tok (r : R L fz ρ mh s.heap) (x : VR L fz ρ v V) (t : Nat) : PV L fz ρ s V mh v { s with toks := t } := ⟨_,_,.tok r t,x⟩
theorem PV.here (r : R L fz ρ mh s.heap) (x : VR L fz ρ v V) : PV L fz ρ s V mh v s := ⟨_,_,.refl r,x⟩
theorem PV.keeps (r : R L fz ρ mh s.heap) {h' : Heap} (k : ∀ b o,s.heap.get? b = some o → h'.get? b = some o) (x : VR L fz ρ v V) (t : Nat) : PV L fz ρ s V mh v { s with heap := h',toks := t } := ⟨_,_,.keeps r k t,x⟩
theorem PV.after {fz₁ ρ₁ s₁ mh₁ mh₂} {s' : Shared} (g : Good L fz ρ s mh₁ fz₁ ρ₁ s₁) (x : PV L fz₁ ρ₁ s₁ V mh₂ v s') : PV L fz ρ s V mh₂ v s' := by
 obtain ⟨fz',ρ',g',x'⟩ := x; exact ⟨fz',ρ',g.trans g',x'⟩
theorem Good.newFz (r : R L fz ρ mh s.heap) (o : Obj) (hf : o.isFreed = false) : Good L fz ρ s mh (fz.add s.heap.objs.size o) ρ { s with heap := s.heap.push o } := ⟨⟨_,_,rfl⟩,r.freezeNew hf,.freezeNew r⟩
theorem PV.newTup (r : R L fz ρ mh s.heap) {xs : List Value} {l : List MV} (x : VRL L fz ρ xs l) (hl : l.length ≤ LIM) : PV L fz ρ s (.tup l) mh (.ref s.heap.objs.size) { s with heap := s.heap.push (seqObj "tuple" xs 0) } :=
 ⟨_,_,.newFz r (seqObj "tuple" xs 0) rfl,.tup FZ.add_self hl (x.mono (FZ.add_mono (r.none_of (get?_size _))) fun O O e => e) .nil⟩
theorem PV.newLst (r : R L fz ρ mh s.heap) {xs : List Value} {l : List MV} (x : VRL L fz ρ xs l) (hl : l.length ≤ LIM) : PV L fz ρ s (.lst l) mh (.ref s.heap.objs.size) { s with heap := s.heap.push (seqObj "list" xs 0) } :=
 ⟨_,_,.newFz r (seqObj "list" xs 0) rfl,.lst FZ.add_self hl (x.mono (FZ.add_mono (r.none_of (get?_size _))) fun O O e => e) .nil⟩
theorem R.growNew (r : R L fz ρ mh s.heap) {xs : List Value} {l : List MV} (x : VRL L fz ρ xs l) (hl : l.length ≤ LIM) : Good L fz ρ s (mh ++ [.lst l]) fz (ρ ++ [(s.heap.objs.size,s.heap.objs.size)]) { s with heap := s.heap.push (seqObj "list" xs 0) } := by
 have hn := get?_size s.heap
 refine ⟨⟨_,_,rfl⟩,(r.push _).grow (p := (s.heap.objs.size,s.heap.objs.size)) (m := .lst l) ⟨rfl,hl,xs,0,Heap.get?_push_size _ rfl,x⟩ ⟨r.none_of hn,r.none_of hn⟩ fun i q e => ?_,(Step.push _).grow ⟨hn,hn⟩⟩
 have := r.apart_of hn e
 exact ⟨this.1,this.1,this.2,this.2⟩
set_option tactic.hygienic true in
theorem PV.newL {m : Bool} {mh' : MH} (r : R L fz ρ mh s.heap) {xs : List Value} {l : List MV} (x : VRL L fz ρ xs l) (e : newL m mh l = some (V,mh')) : PV L fz ρ s V mh' (.ref s.heap.objs.size) { s with heap := s.heap.push (seqObj "list" xs 0) } := by
 unfold Mn.newL at e
 split at e
 ·rename_i hl
  induction m using Bool.casesOn with
  | true =>
   obtain ⟨rfl,rfl⟩ := sP e
   refine ⟨_,_,r.growNew x hl,?_⟩
   rw [← r.len]
   exact .ref (p := (s.heap.objs.size,s.heap.objs.size)) (by rw [List.getElem?_append_right (Nat.le_refl _)]; simp) .nil
  | false => obtain ⟨rfl,rfl⟩ := sP e; exact .newLst r x hl
 ·exact nO e
theorem lim24 {n : Nat} (h : n ≤ LIM) : n ≤ 16777216 := by unfold LIM at h; lia
theorem limS {n : Nat} (h : n ≤ LIM) : n ≤ sizeLine := lim24 h
theorem add_bytes_ok {x y : List UInt8} {t t' : Tok} (r : R L fz ρ mh s.heap) (hl : x.length + y.length ≤ LIM) : wpAny L.M A (binaryOp .Add (.bytes x.toArray t) (.bytes y.toArray t')) (PV L fz ρ s (.bytes (x ++ y)) mh) E s := by
 refine KBy.add_bytes (by rw [List.size_toArray,List.size_toArray]; exact lim24 hl) fun t k => ?_
 rw [show ∀ a b : List UInt8,a.toArray ++ b.toArray = (a ++ b).toArray from fun a b => by simp]
 exact .tok r (.bytes (by rw [List.length_append]; exact hl) .nil) _
theorem add_tup_ok {x y : List MV} (r : R L fz ρ mh s.heap) (hv : VR L fz ρ v (.tup x)) (hu : VR L fz ρ u (.tup y)) (hl : x.length + y.length ≤ LIM) : wpAny L.M A (binaryOp .Add v u) (PV L fz ρ s (.tup (x ++ y)) mh) E s := by
 obtain ⟨a,xs,n,rfl,g,x,h1⟩ := tupOf r hv
 obtain ⟨b,ys,n',rfl,g',y,h2⟩ := tupOf r hu
 have hz : xs.length + ys.length ≤ sizeLine := by rw [x.len,y.len]; exact limS hl
 by_cases hx : xs = []
 ·subst hx
  obtain rfl := List.length_eq_zero_iff.mp x.len.symm
  refine concat_meets ⟨_,g,rfl⟩ ⟨_,g',rfl⟩ noFill_tuple_add seq_tuple_add PySem.F.slot_tuple_add PySem.F.entry_tuple_add (PySem.F.args_tuple_add_2 _ _) (AutoSeq1.tuple___add___tuple_tuple_0 a _ n b _ n' rfl) ⟨g,g',?_⟩
  exact .here r hu
 ·by_cases hy : ys = []
  ·subst hy
   obtain rfl := List.length_eq_zero_iff.mp y.len.symm
   refine concat_meets ⟨_,g,rfl⟩ ⟨_,g',rfl⟩ noFill_tuple_add seq_tuple_add PySem.F.slot_tuple_add PySem.F.entry_tuple_add (PySem.F.args_tuple_add_2 _ _) (AutoSeq1.tuple___add___tuple_tuple_1 a _ n b _ n' (by simpa using hx) rfl) ⟨g,g',?_⟩
   rw [List.append_nil]
   exact .here r hv
  ·refine P.add_tuple g g' (by simpa using hx) (by simpa using hy) ?_ (by simpa using hz)
   rw [show ∀ a b : List Value,a.toArray ++ b.toArray = (a ++ b).toArray from fun a b => by simp]
   exact .newTup r (x.append y) (by rw [List.length_append]; exact hl)
theorem add_lst_ok {m : Bool} {x y : List MV} {mh' : MH} (r : R L fz ρ mh s.heap) (hv : VR L fz ρ v V) (hu : VR L fz ρ u U) (h1 : itemsV mh V = some x) (h2 : itemsV mh U = some y) (e : newL m mh (x ++ y) = some (W,mh')) : wpAny L.M A (binaryOp .Add v u) (PV L fz ρ s W mh') E s := by
 obtain ⟨a,xs,n,rfl,g,x,l1⟩ := listOf r hv h1
 obtain ⟨b,ys,n',rfl,g',y,l2⟩ := listOf r hu h2
 have hz : xs.length + ys.length ≤ sizeLine := by rw [x.len,y.len]; unfold LIM at l1 l2; show _ ≤ 16777216; lia
 refine P.add_list g g' ?_ (by simpa using hz)
 rw [show ∀ a b : List Value,a.toArray ++ b.toArray = (a ++ b).toArray from fun a b => by simp]
 exact .newL r (x.append y) e
theorem mul_ok {x y : Int} {t t' : Tok} (r : R L fz ρ mh s.heap) (hb : -1048576 ≤ x ∧ x ≤ 1048576 ∧ -1048576 ≤ y ∧ y ≤ 1048576) : wpAny L.M A (binaryOp .Mult (.int x t) (.int y t')) (PV L fz ρ s (.int (x * y)) mh) E s :=
 P.mul_int (.tok r (.int .nil) _) (IntMulOk.of_left (intBits_le_64 (Int.lt_of_lt_of_le (by decide) hb.1) (Int.lt_of_le_of_lt hb.2.1 (by decide))))
theorem fdiv_ok {x y : Int} {t t' : Tok} (r : R L fz ρ mh s.heap) (hb : 0 < y ∧ y < 1048576) : wpAny L.M A (binaryOp .FloorDiv (.int x t) (.int y t')) (PV L fz ρ s (.int (x / y)) mh) E s := by
 refine floordiv_int (Int.ne_of_gt hb.1) ?_ (.inl (PyProof.noPylong_small (Int.ofNat_lt.mp (by rw [Int.natAbs_of_nonneg (Int.le_of_lt hb.1)]; exact Int.lt_trans hb.2 (by decide)))))
 rw [Int.fdiv_eq_ediv_of_nonneg x (Int.le_of_lt hb.1)]
 exact .tok r (.int .nil) _
theorem mod_ok {x y : Int} {t t' : Tok} (r : R L fz ρ mh s.heap) (hb : 0 < y) : wpAny L.M A (binaryOp .Mod (.int x t) (.int y t')) (PV L fz ρ s (.int (x % y)) mh) E s := by
 refine mod_int (Int.ne_of_gt hb) ?_
 rw [Int.fmod_eq_emod_of_nonneg x (Int.le_of_lt hb)]
 exact .tok r (.int .nil) _
theorem add_of {α : Type} {o : Operator} {x : Option α} {q : α} {P : Prop} (e : (match o with | .Add => x | _ => none) = some q) (k : o = .Add → x = some q → P) : P := by
 induction o using PySem.Operator.casesOn with
 | Add => exact k rfl e
 | _ => exact nO e
theorem binI_ok {m : Bool} {o : Operator} {mh' : MH} {x y : Int} {t t' : Tok} (r : R L fz ρ mh s.heap) (e : binV m mh o (.int x) (.int y) = some (W,mh')) :
  wpAny L.M A (binaryOp o (.int x t) (.int y t')) (PV L fz ρ s W mh') E s := by
 refine byP fun G kG => ?_
 induction o using PySem.Operator.casesOn with
 | Add => obtain ⟨rfl,rfl⟩ := sP e; exact kG (P.add_int (.tok r (.int .nil) _))
 | Sub => obtain ⟨rfl,rfl⟩ := sP e; exact kG (P.sub_int (.tok r (.int .nil) _))
 | Mult => refine if_of e fun hb e => ?_; obtain ⟨rfl,rfl⟩ := sP e; exact kG (mul_ok r hb)
 | FloorDiv => refine if_of e fun hb e => ?_; obtain ⟨rfl,rfl⟩ := sP e; exact kG (fdiv_ok r hb)
 | Mod => refine if_of e fun hb e => ?_; obtain ⟨rfl,rfl⟩ := sP e; exact kG (mod_ok r hb)
 | _ => exact nO e
theorem binV_ok {m : Bool} {o : Operator} {mh' : MH} (rm : Room A k) (r : R L fz ρ mh s.heap) (hv : VR L fz ρ v V) (hu : VR L fz ρ u U) (e : binV m mh o V U = some (W,mh')) :
  wpAny L.M A (binaryOp o v u) (PV L fz ρ s W mh') E s := by
 refine byP fun G kG => ?_
 have kl : (match (generalizing := false) o with | .Add => (match itemsV mh V with | some x => (match itemsV mh U with | some y => newL m mh (x ++ y) | none => none) | none => none) | _ => none) = some (W,mh') → G := fun e =>
  add_of e fun ho e1 => pO e1 fun x h1 e2 => pO e2 fun y h2 e3 => kG (ho ▸ add_lst_ok r hv hu h1 h2 e3)
 induction V using MV.casesOn with
 | int x =>
  refine pI e fun y hy e' => ?_
  obtain ⟨t,rfl⟩ := intOf hv
  obtain ⟨t',rfl⟩ := intOf (hy ▸ hu)
  exact kG (binI_ok (m := m) r e')
 | bytes x =>
  refine pB e fun y hy e' => add_of e' fun ho e' => if_of e' fun hl e' => ?_
  obtain ⟨rfl,rfl⟩ := sP e'
  obtain ⟨t,rfl,_⟩ := bytesOf hv
  obtain ⟨t',rfl,_⟩ := bytesOf (hy ▸ hu)
  subst ho
  exact kG (add_bytes_ok r hl)
 | tup x =>
  refine pT e fun y hy e' => add_of e' fun ho e' => if_of e' fun hl e' => ?_
  obtain ⟨rfl,rfl⟩ := sP e'
  subst ho
  exact kG (add_tup_ok r hv (hy ▸ hu) hl)
 | _ => exact kl e
theorem subTail {value slice : Expr} {o i : Value} {T id : String} {Q : Value → Shared → Prop} (hT : s.TypeIs o T) (hl : typeLookup (.type T) "__getitem__" = pure (some (.builtin id))) (h : wpAny L.M A (getItem o i) Q E s) :
  wpAny L.M A (subscriptTail value slice o i) Q E s := by
 unfold subscriptTail
 refine wpAny_bind ?_
 rw [getitemInPython_of_ne hT.not_modules]
 refine wpAny_bind (wpAny_specialOf hT hl ?_)
 have fin : ∀ ops,wpAny L.M A (operate ops (getItem o i)) (fun r s₃ => wpAny L.M A (letTemporaryGo value o r >>= fun O => pure r) Q E s₃) E s := fun ops =>
  wpAny_operating (wpAny_mono h (fun r s₃ h₃ => wpAny_bind (wpAny_letTemporaryGo (wpAny_pure h₃))) fun O O x => x)
 have fin2 : wpAny L.M A (subscripted slice false o i) (fun r s₃ => wpAny L.M A (letTemporaryGo value o r >>= fun O => pure r) Q E s₃) E s := by
  have sb : ∃ ops,subscripted slice false o i = operate ops (getItem o i) := by
   induction slice using PySem.Expr.casesOn with
   | Slice a b c p => induction c using Option.casesOn with
    | none => exact ⟨_,rfl⟩
    | some _ => exact ⟨_,rfl⟩
   | _ => exact ⟨_,rfl⟩
  obtain ⟨ops,sb⟩ := sb
  rw [sb]; exact fin _
 first
  | exact wpAny_pure (wpAny_bind fin2)
  | exact wpAny_bind (wpAny_pure (wpAny_bind fin2))
  | exact wpAny_bind fin2
set_option tactic.hygienic true in
theorem pyIdx_nat {α : Type} {l : List α} {i : Int} {x : α} (e : pyIdx l i = some x) : ∃ j,l[j]? = some x ∧ j < l.length ∧ seqIndex? i l.length = some j ∧ -(l.length : Int) ≤ i ∧ i < l.length ∧ (0 ≤ i → j = i.toNat) ∧ (i < 0 → j = (i + l.length).toNat) := by
 unfold pyIdx at e
 split at e
 ·rename_i h
  have hl := (List.getElem?_eq_some_iff.mp e).1
  have hn : ¬ i < 0 := Int.not_lt.mpr h
  have h2 : i < (l.length : Int) := (Int.toNat_lt h).mp hl
  refine ⟨i.toNat,e,hl,?_,Int.le_trans (Int.neg_nonpos_of_nonneg (Int.natCast_nonneg _)) h,h2,fun O => rfl,fun q => absurd q hn⟩
  simp [seqIndex?,hn,h,h2]
 ·split at e
  ·rename_i h h'
   have hl := (List.getElem?_eq_some_iff.mp e).1
   have hn : i < 0 := Int.not_le.mp h
   have h2 : i + (l.length : Int) < l.length := (Int.toNat_lt h').mp hl
   refine ⟨(i + l.length).toNat,e,hl,?_,by lia,Int.lt_of_lt_of_le hn (Int.natCast_nonneg _),fun q => absurd q h,fun O => rfl⟩
   simp [seqIndex?,hn,h',h2]
  ·exact nO e
theorem item_list_ok {a xs n} {l : List MV} {i : Int} {t : Tok} (r : R L fz ρ mh s.heap) (g : s.heap.get? a = some (seqObj "list" xs n)) (x : VRL L fz ρ xs l) (hl : l.length ≤ LIM) (e : pyIdx l i = some V) :
  wpAny L.M A (getItem (.ref a) (.int i t)) (PV L fz ρ s V mh) E s := by
 obtain ⟨j,h1,h2,h3,h4,h5,h6,h7⟩ := pyIdx_nat e
 obtain ⟨y,hy,vy⟩ := x.get h1
 unfold LIM at hl
 by_cases hi : 0 ≤ i
 ·exact wpAny_getItem_list (isListOf g) hi (by lia) (by rw [← h6 hi]; simpa using hy) (.here r vy)
 ·have hi := Int.not_le.mp hi
  exact wpAny_getItem_list_neg (isListOf g) hi (by rw [List.size_toArray,x.len]; exact h4) (by lia) (by rw [List.size_toArray,x.len,← h7 hi]; simpa using hy) (.here r vy)
theorem item_dct {i : Value} {x : List Nat} {ks vs} (r : R L fz ρ mh s.heap) (hv : VR L fz ρ v V) (hi : VR L fz ρ i (.str x)) (e2 : dictV mh V = some (ks,vs)) (e3 : lookK x ks vs = some W) {value slice : Expr} :
  wpAny L.M A (subscriptTail value slice v i) (PV L fz ρ s W mh) E s := by
 obtain ⟨a,kvs,rfl,h1,h2,h3,h4⟩ := dictOf r hv e2
 obtain ⟨t,rfl,_⟩ := strOf hi
 obtain ⟨y,hy,vy⟩ := (VRL.look (f := mkS) (fun O O => mkS_inj) (k := x) h3 h4).1 _ e3
 exact subTail h2.typeIs slot_dict_getitem.lookup (wpAny_getItem_of (knd := L.knd) (strKind_is L.prog L.w _ _) h2.mapOf hy (.tok r vy _))
theorem item_lst {i : Int} {t' : Tok} {l : List MV} (r : R L fz ρ mh s.heap) (hv : VR L fz ρ v V) (e1 : itemsV mh V = some l) (e : pyIdx l i = some W) {value slice : Expr} :
  wpAny L.M A (subscriptTail value slice v (.int i t')) (PV L fz ρ s W mh) E s := by
 obtain ⟨a,xs,n,rfl,g,x,hl⟩ := listOf r hv e1
 exact subTail (T := "list") ⟨_,g,rfl⟩ slot_list_getitem.lookup (item_list_ok r g x hl e)
theorem item_tup {i : Int} {t' : Tok} {l : List MV} (r : R L fz ρ mh s.heap) (hv : VR L fz ρ v (.tup l)) (e : pyIdx l i = some W) {value slice : Expr} :
  wpAny L.M A (subscriptTail value slice v (.int i t')) (PV L fz ρ s W mh) E s := by
 obtain ⟨a,xs,n,rfl,g,x,hl⟩ := tupOf r hv
 obtain ⟨j,h1,h2,h3,h4,h5,h6,h7⟩ := pyIdx_nat e
 obtain ⟨y,hy,vy⟩ := x.get h1
 unfold LIM at hl
 exact subTail (T := "tuple") ⟨_,g,rfl⟩ PySem.F.slot_tuple_getitem.lookup (P.getItem_tuple g (by lia) (by lia) (by rw [List.size_toArray,x.len]; exact h3) (by simpa using hy) (.here r vy))
theorem item_bytes {i : Int} {t' : Tok} {l : List UInt8} {c : UInt8} (r : R L fz ρ mh s.heap) (hv : VR L fz ρ v (.bytes l)) (e1 : pyIdx l i = some c) {value slice : Expr} :
  wpAny L.M A (subscriptTail value slice v (.int i t')) (PV L fz ρ s (.int c.toNat) mh) E s := by
 obtain ⟨t,rfl,hl⟩ := bytesOf hv
 obtain ⟨j,h1,h2,h3,h4,h5,h6,h7⟩ := pyIdx_nat e1
 refine subTail (typeIs_bytes s _ t) FB.slot_bytes_getitem.lookup ?_
 refine getItem_gives (typeIs_bytes s _ t) (by decide) FB.slot_bytes_getitem FB.entry_bytes_getitem (FB.args_bytes_getitem_2 _ _) (gives_bytes_getitem _ _ t _ c ?_ ?_) (.tok r (.int .nil) _)
 ·unfold LIM at hl; simp only [PySem.Builtin.Bytes.fitsIndex,Bool.and_eq_true,decide_eq_true_eq]; lia
 ·rw [List.size_toArray,h3]; simpa using h1
theorem item_ok {i : Value} {I : MV} (r : R L fz ρ mh s.heap) (hv : VR L fz ρ v V) (hi : VR L fz ρ i I) (e : subV mh V I = some W) {value slice : Expr} :
  wpAny L.M A (subscriptTail value slice v i) (PV L fz ρ s W mh) E s := by
 refine byP fun G kG => ?_
 induction I using MV.casesOn with
 | int k' =>
  obtain ⟨t',rfl⟩ := intOf hi
  induction V using MV.casesOn with
  | bytes b => exact mp_of e fun c e1 hw => kG (hw ▸ item_bytes r hv e1)
  | tup l => exact kG (item_tup r hv e)
  | lst l => exact kG (item_lst r hv rfl e)
  | ref a => exact pML e fun l hm e => kG (item_lst r hv (items_ref hm) e)
  | _ => exact nO e
 | str x =>
  induction V using MV.casesOn with
  | dct ks vs => exact kG (item_dct r hv hi rfl e)
  | ref a => exact pMD e fun ks vs hm e => kG (item_dct r hv hi (by simp only [dictV,hm]) e)
  | _ => exact nO e
 | _ => exact nO e
end
end
end Mn
end
noncomputable section
namespace Mn
set_option maxRecDepth 100000
set_option maxHeartbeats 1000000
open PySem PySem.W PySem.Calls PyProof.Rows PySem.EqBoolInt
section
section
variable {L : Lk} {fz : FZ} {ρ : RHO} {mh : MH} {s : Shared} {A : Around} {k : Nat} {E : Value → Shared → Prop} {v u : Value} {V U W : MV}
theorem clip_eq (n : Nat) (v : Int) : (if v < 0 then max (v + n) (if (1 : Int) < 0 then -1 else 0) else min v (if (1 : Int) < 0 then (n : Int) - 1 else n)) = ((clp n v : Nat) : Int) := by
 unfold clp
 by_cases h : v < 0
 ·rw [if_pos h,if_pos h,if_neg (by decide)]; exact (Int.toNat_eq_max _).symm
 ·rw [if_neg h,if_neg h,if_neg (by decide),← cast_min,Int.toNat_of_nonneg (Int.not_lt.mp h)]
theorem clp_eq (n : Nat) (i : Int) : clipAt n i = clp n i := by
 refine Int.ofNat.inj ((clipAt_cast n i).trans (Eq.trans ?_ (clip_eq n i)))
 by_cases h : i < 0
 ·rw [if_pos h,if_pos h,if_neg (by decide),Int.min_eq_left (Int.le_trans (Int.add_le_add_right (Int.le_of_lt h) n) (Int.le_of_eq (Int.zero_add _))),Int.max_comm]
 ·rw [if_neg h,if_neg h,if_neg (by decide)]
  exact Int.max_eq_right (Int.le_min.mpr ⟨Int.not_lt.mp h,Int.natCast_nonneg n⟩)
theorem clp_le (n : Nat) (i : Int) : clp n i ≤ n := by
 unfold clp
 by_cases h : i < 0
 ·rw [if_pos h]; exact Int.toNat_le.mpr (Int.le_trans (Int.add_le_add_right (Int.le_of_lt h) n) (Int.le_of_eq (Int.zero_add _)))
 ·rw [if_neg h]; exact Nat.min_le_right ..
theorem pySlice_eq {α : Type} (l : List α) (lo hi : Option Int) : (l.drop (lo.elim 0 (clipAt l.length))).take (hi.elim l.length (clipAt l.length) - lo.elim 0 (clipAt l.length)) = pySlice l lo hi := by
 unfold pySlice
 induction lo using Option.casesOn <;> induction hi using Option.casesOn <;> simp [clp_eq]
theorem pySlice_len {α : Type} (l : List α) (lo hi : Option Int) : (pySlice l lo hi).length ≤ l.length := by
 unfold pySlice
 rw [List.length_take,List.length_drop]
 exact Nat.le_trans (Nat.min_le_right ..) (Nat.sub_le ..)
theorem VRL.slice {xs l} (x : VRL L fz ρ xs l) (lo hi : Option Int) : VRL L fz ρ (pySlice xs lo hi) (pySlice l lo hi) := by
 unfold pySlice; rw [x.len]; exact (x.drop _).take _
theorem partOf {i : Option Int} (h : VR L fz ρ v V) (e : optI V = some i) : IsPart v i := by
 refine byP fun G kG => ?_
 induction V using MV.casesOn with
 | none => obtain rfl := sI e; obtain rfl := noneOf h; exact kG .none
 | int x => obtain rfl := sI e; obtain ⟨t,rfl⟩ := intOf h; exact kG (.int _ _)
 | _ => exact nO e
noncomputable abbrev sliceObj (lo hi : Value) : Obj := { cls := .type "slice",data := .fields #[lo,hi,.none] }
theorem slicePart_ok {M : Model} {v : Value} {i : Option Int} {Q : Option Int → Shared → Prop} (h : IsPart v i) (q : Q i s) : wpAny M A (PySem.Builtin.Slice.slicePartIndex v) Q E s := by
 cases h with
 | none => exact wpAny_pure q
 | int i t =>
  unfold PySem.Builtin.Slice.slicePartIndex
  rw [if_neg (show ¬ ((Value.int i t == Value.none) = true) from Bool.false_ne_true)]
  refine wpAny_bind (wpAny_specialOf (T := "int") (typeIs_int s i t) PySem.F.slot_int_index.lookup ?_)
  simp only [Option.isNone_some,Bool.false_eq_true,if_false]
  exact wpAny_bind (wpAny_of_eq (a := i) rfl (wpAny_pure q))
theorem filterMap_run {α : Type} (l : List α) (a n : Nat) (h : a + n ≤ l.length) : (List.range n).filterMap (fun k : Nat => l[a + k]?) = (l.drop a).take n := by
 induction n with
 | zero => simp
 | succ n ih =>
  rw [List.range_succ,List.filterMap_append,ih (by lia),List.take_add_one,List.getElem?_drop]
  congr 1
theorem sliceApplied_ok {M : Model} {sl : Addr} {n : Nat} {lo hi : Value} {i j : Option Int} {Q : Int × Int × Nat → Shared → Prop} (hs : s.heap.IsSliceOf sl lo hi .none) (h1 : IsPart lo i) (h2 : IsPart hi j)
  (q : Q (((i.elim 0 (clp n) : Nat) : Int),1,j.elim n (clp n) - i.elim 0 (clp n)) s) : wpAny M A (PySem.Builtin.Slice.sliceApplied (.ref sl) (pure (n : Int))) Q E s := by
 obtain ⟨o,ho,hc,hd⟩ := hs
 unfold PySem.Builtin.Slice.sliceApplied PySem.Builtin.Slice.sliceFields
 refine wpAny_bind (wpAny_bind (wpAny_field ho hd (i := 0) rfl (wpAny_bind (wpAny_field ho hd (i := 1) rfl (wpAny_bind (wpAny_field ho hd (i := 2) rfl (wpAny_pure ?_)))))))
 refine wpAny_bind (slicePart_ok .none ?_)
 rw [if_neg (by decide)]
 refine wpAny_bind (slicePart_ok h1 (wpAny_bind (slicePart_ok h2 ?_)))
 refine wpAny_bind (wpAny_pure (wpAny_pure ?_))
 have e1 : PySem.Builtin.Slice.sliceAdjust i j 1 (n : Int) = (((i.elim 0 (clp n) : Nat) : Int),((j.elim n (clp n) : Nat) : Int)) := by
  induction i using Option.casesOn with
  | none => induction j using Option.casesOn with
   | none => rfl
   | some w => exact Prod.ext rfl (clip_eq n w)
  | some v => induction j using Option.casesOn with
   | none => exact Prod.ext (clip_eq n v) rfl
   | some w => exact Prod.ext (clip_eq n v) (clip_eq n w)
 show Q ((PySem.Builtin.Slice.sliceAdjust i j 1 (n : Int)).1,1,PySem.Builtin.Slice.slicePlaces (PySem.Builtin.Slice.sliceAdjust i j 1 (n : Int)).1 (PySem.Builtin.Slice.sliceAdjust i j 1 (n : Int)).2 1) s
 rw [e1]
 have e2 : ∀ p w : Nat,PySem.Builtin.Slice.slicePlaces (p : Int) (w : Int) 1 = w - p := fun p w => by
  unfold PySem.Builtin.Slice.slicePlaces
  rw [if_pos (by decide)]
  by_cases h : (p : Int) < w
  ·rw [if_pos h,Int.ediv_one]; lia
  ·rw [if_neg h]; lia
 rw [e2]
 exact q
theorem tuple_slice {a sl : Addr} {xs : List Value} {n : Nat} {lo hi : Value} {i j : Option Int} {Q : PySem.Fin → Shared → Prop} {M : Model} (g : s.heap.get? a = some (seqObj "tuple" xs n)) (hs : s.heap.IsSliceOf sl lo hi .none) (h1 : IsPart lo i) (h2 : IsPart hi j) (hz : xs.length ≤ sizeLine)
  (q1 : pySlice xs i j = xs → Q (.done (.ret (.ref a))) s) (q2 : Q (.done (.ret (.ref s.heap.objs.size))) { s with heap := s.heap.push (seqObj "tuple" (pySlice xs i j) 0) }) :
  wpAny M A (PySem.Builtin.«tuple.__getitem__» ⟨[.ref a,.ref sl],[]⟩) Q E s := by
 have hT : s.TypeIs (.ref sl) "slice" := by obtain ⟨o,ho,hc,hd⟩ := hs; exact ⟨o,ho,hc⟩
 show wpAny M A (PySem.Builtin.Tuple.tupleItemsOf (.ref a) >>= fun xs => _) Q E s
 refine wpAny_bind (wpAny_tupleItemsOf g rfl ?_)
 refine wpAny_bind (wpAny_typeOf hT ?_)
 rw [if_pos (by rfl)]
 have hi' : i.elim 0 (clp xs.length) ≤ xs.length := by
  induction i using Option.casesOn
  ·exact Nat.zero_le _
  ·exact clp_le _ _
 have hj' : j.elim xs.length (clp xs.length) ≤ xs.length := by
  induction j using Option.casesOn
  ·exact Nat.le_refl _
  ·exact clp_le _ _
 rw [List.size_toArray]
 refine wpAny_bind (sliceApplied_ok hs h1 h2 ?_)
 dsimp only
 have e3 : pySlice xs i j = (xs.drop (i.elim 0 (clp xs.length))).take (j.elim xs.length (clp xs.length) - i.elim 0 (clp xs.length)) := rfl
 rw [e3] at q1 q2
 generalize i.elim 0 (clp xs.length) = p at hi' q1 q2 ⊢
 generalize j.elim xs.length (clp xs.length) = w at hj' q1 q2 ⊢
 by_cases hw : ((p : Int) == 0 && (1 : Int) == 1 && w - p == xs.length) = true
 ·rw [if_pos hw]
  simp only [Bool.and_eq_true,beq_iff_eq] at hw
  refine wpAny_bind (wpAny_bind (wpAny_typeOf (T := "tuple") ⟨_,g,rfl⟩ (wpAny_pure ?_)))
  rw [if_pos (by rfl)]
  refine wpAny_bind (wpAny_rule (wpAny_pure (q1 ?_)))
  rw [show p = 0 by lia,List.drop_zero,List.take_of_length_le (by lia)]
 ·rw [if_neg hw]
  have e4 : ((List.range (w - p)).filterMap fun (k : Nat) => xs.toArray[((p : Int) + (k : Int) * 1).toNat]?) = (xs.drop p).take (w - p) := by
   rw [← filterMap_run _ _ _ (by lia)]
   congr 1
   funext k
   rw [List.getElem?_toArray]
   congr 1
   rw [Int.mul_one]; rfl
  rw [e4]
  exact wpAny_bind (wpAny_newObj_type (wpAny_pure q2) (by show ((xs.drop p).take (w - p)).toArray.size ≤ sizeLine; rw [List.size_toArray,List.length_take,List.length_drop]; exact Nat.le_trans (Nat.min_le_right ..) (Nat.le_trans (Nat.sub_le ..) hz)))
theorem pII {x y : Option (Option Int)} {f : Option Int → Option Int → Option (MV × MH)} {q : MV × MH} {P : Prop} (h : (match x,y with | some a,some b => f a b | _,_ => none) = some q) (k : ∀ a b,x = some a → y = some b → f a b = some q → P) : P := by
 induction x using Option.casesOn with
 | none => exact nO h
 | some a => induction y using Option.casesOn with
  | none => exact nO h
  | some b => exact k a b rfl rfl h
theorem slice_ok {lo hi : Value} {LO HI : MV} {m : Bool} {mh' : MH} {value slice : Expr} (r : R L fz ρ mh s.heap) (hv : VR L fz ρ v V) (h1 : VR L fz ρ lo LO) (h2 : VR L fz ρ hi HI) (e : sliceV m mh V LO HI = some (W,mh')) :
  wpAny L.M A (subscriptTail value slice v (.ref s.heap.objs.size)) (PV L fz ρ s W mh') E { s with heap := s.heap.push (sliceObj lo hi) } := by
 refine byP fun G kG => pII e fun i j ei ej e => ?_
 have p1 := partOf h1 ei
 have p2 := partOf h2 ej
 have hs : (s.heap.push (sliceObj lo hi)).IsSliceOf s.heap.objs.size lo hi .none := Heap.IsSliceOf.new _ _ _ _
 have gd : Good L fz ρ s mh fz ρ { s with heap := s.heap.push (sliceObj lo hi) } := .keeps r (fun O O e => Heap.get?_push_of_some _ e) s.toks
 have k3 : ∀ l,itemsV mh V = some l → newL m mh (pySlice l i j) = some (W,mh') → G := fun l hl e => by
  obtain ⟨a,xs,n,rfl,g,x,hl⟩ := listOf gd.r hv hl
  have hsz : xs.toArray.size = xs.length := List.size_toArray
  exact kG (subTail (T := "list") ⟨_,g,rfl⟩ slot_list_getitem.lookup (wpAny_getItem_list_slice (isListOf g) hs p1 p2 .none (by simp) (by
   rw [slicePick_plain,hsz,pySlice_eq]
   exact .after gd (.newL gd.r (x.slice i j) e)) (by rw [hsz,x.len]; exact limS hl)))
 induction V using MV.casesOn with
 | bytes b =>
  obtain ⟨rfl,rfl⟩ := sP e
  obtain ⟨t,rfl,hl⟩ := bytesOf hv
  refine kG (subTail (typeIs_bytes _ _ t) FB.slot_bytes_getitem.lookup ?_)
  refine getItem_meets (typeIs_bytes _ _ t) (by decide) FB.slot_bytes_getitem FB.entry_bytes_getitem (FB.args_bytes_getitem_2 _ _) (KBc.meets_slice2 _ t _ p1 p2) ⟨hs,?_,fun t' k => ?_⟩
  ·exact Nat.le_trans (KBc.size_picked_le _ _ _) (by rw [List.size_toArray]; exact limS hl)
  ·rw [KBc.picked_eq,List.size_toArray,pySlice_eq]
   exact .after gd (.tok gd.r (.bytes (Nat.le_trans (pySlice_len _ _ _) hl) .nil) k)
 | tup l =>
  obtain ⟨rfl,rfl⟩ := sP e
  obtain ⟨a,xs,n,rfl,g,x,hl⟩ := tupOf gd.r hv
  refine kG (subTail (T := "tuple") ⟨_,g,rfl⟩ PySem.F.slot_tuple_getitem.lookup ?_)
  refine getItem_meets (T := "tuple") ⟨_,g,rfl⟩ (by decide) PySem.F.slot_tuple_getitem PySem.F.entry_tuple_getitem (PySem.F.args_tuple_getitem_2 _ _)
   (S := fun O R s' => s' = { s with heap := s.heap.push (sliceObj lo hi) } ∧ (pySlice xs i j = xs → R (.ok (.ret (.ref a))) s') ∧ R (.ok (.ret (.ref s'.heap.objs.size))) { s' with heap := s'.heap.push (seqObj "tuple" (pySlice xs i j) 0) })
   (.of_wp fun prog w A R s' h => ?_) ⟨rfl,fun hq => ?_,?_⟩
  ·obtain ⟨rfl,q1,q2⟩ := h
   exact tuple_slice g hs p1 p2 (by rw [x.len]; exact limS hl) (fun hq => ⟨_,rfl,q1 hq⟩) ⟨_,rfl,q2⟩
  ·refine .after gd (.here gd.r ?_)
   have : pySlice _ i j = _ := hq
   have hx := x.slice i j
   rw [hq] at hx
   obtain ⟨a',xs',n',q0,q1,q3,q2⟩ := hv.view
   cases q0
   have g' := gd.r.sub _ _ q1
   rw [g] at g'
   cases g'
   exact .tup q1 (Nat.le_trans (pySlice_len _ _ _) q2) hx .nil
  ·exact .after gd (.newTup gd.r (x.slice i j) (Nat.le_trans (pySlice_len _ _ _) hl))
 | lst l => exact k3 l rfl e
 | ref a => exact pO (x := itemsV mh (.ref a)) e k3
 | _ => exact nO e
theorem Good.newAt (r : R L fz ρ mh s.heap) {h' : Heap} {a : Addr} {o : Obj} (k : ∀ b o,s.heap.get? b = some o → h'.get? b = some o) (e : h'.get? a = some o) (n : s.heap.get? a = none) (t : Nat) : Good L fz ρ s mh (fz.add a o) ρ { s with heap := h',toks := t } :=
 ⟨⟨_,_,rfl⟩,(r.keeps k).freeze e (fun i p q => r.apart_of n q) (r.none_of n),FZ.add_mono (r.none_of n),fun b q x => by
  unfold FZ.add at x
  by_cases hb : b = a
  ·exact .inr (hb ▸ n)
  ·rw [if_neg hb] at x; exact .inl x,⟨[],(List.append_nil _).symm,fun O e => nomatch e⟩,fun b o q O O => k b o q,dom_of_keeps k⟩
noncomputable def biV : BI → Value
 | .len => .builtin "len" | .min => .builtin "min" | .max => .builtin "max" | .bytes => .type "bytes" | .chr => .builtin "chr" | .ord => .builtin "ord" | .tuple => .type "tuple" | .list => .type "list"
noncomputable def biN : BI → Str
 | .len => "len" | .min => "min" | .max => "max" | .bytes => "bytes" | .chr => "chr" | .ord => "ord" | .tuple => "tuple" | .list => "list"
theorem biV_boot (b : BI) : bootBuiltins (biN b) = some (biV b) := by induction b using BI.casesOn <;> decide +kernel
theorem vrl1 {vs : List Value} {V : MV} (h : VRL L fz ρ vs [V]) : ∃ v,vs = [v] ∧ VR L fz ρ v V := by
 obtain ⟨v,vs',rfl,h1,h2⟩ := h.unconsR; cases h2; exact ⟨v,rfl,h1⟩
theorem vrl2 {vs : List Value} {V U : MV} (h : VRL L fz ρ vs [V,U]) : ∃ v u,vs = [v,u] ∧ VR L fz ρ v V ∧ VR L fz ρ u U := by
 obtain ⟨v,vs',rfl,h1,h2⟩ := h.unconsR
 obtain ⟨u,rfl,h3⟩ := vrl1 h2
 exact ⟨v,u,rfl,h1,h3⟩
theorem vrl3 {vs : List Value} {V U W : MV} (h : VRL L fz ρ vs [V,U,W]) : ∃ v u w,vs = [v,u,w] ∧ VR L fz ρ v V ∧ VR L fz ρ u U ∧ VR L fz ρ w W := by
 obtain ⟨v,vs',rfl,h1,h2⟩ := h.unconsR
 obtain ⟨u,w,rfl,h3,h4⟩ := vrl2 h2
 exact ⟨v,u,w,rfl,h1,h3,h4⟩
theorem ints_are : ∀ {xs : List Value} {ns : List Int},VRL L fz ρ xs (ns.map .int) → IntsAre xs ns
 | _,[],h => by cases h; exact .nil
 | _,n :: r,h => by
  obtain ⟨v,vs,rfl,hv,h9⟩ := VRL.unconsR (V := .int n) (Vs := r.map .int) h
  obtain ⟨t0,rfl⟩ := hv.view
  exact .cons _ _ (ints_are h9)
theorem toBytes_of : ∀ {ns : List Int} {bs : List UInt8},ns.mapM toByte = some bs → (∀ n ∈ ns,0 ≤ n ∧ n < 256) ∧ bs = ns.map fun n => UInt8.ofNat n.toNat
 | [],bs,h => by obtain rfl := sI h; exact ⟨fun O h => (nomatch h),rfl⟩
 | n :: r,bs,h => by
  rw [List.mapM_cons] at h
  simp only [Option.bind_eq_bind,Option.bind_eq_some_iff,Option.pure_def] at h
  obtain ⟨b,hb,cs,hc,e⟩ := h
  obtain rfl := sI e
  obtain ⟨h1,h2⟩ := toBytes_of hc
  refine if_of hb fun hn hb => ?_
  obtain rfl := sI hb
  exact ⟨fun m hm => (List.mem_cons.mp hm).elim (fun q => q ▸ hn) (h1 m),by rw [h2]; rfl⟩
theorem len_ok {l : List MV} (r : R L fz ρ mh s.heap) (h : VR L fz ρ v V) (e : itemsV mh V = some l) : wpAny L.M A (call (biV .len) [v]) (PV L fz ρ s (.int l.length) mh) E s := by
 obtain ⟨a,xs,n,rfl,g,x,hl⟩ := listOf r h e
 have hsz : xs.toArray.size = xs.length := List.size_toArray
 exact PyProof.Rows.len_list (isListOf g) (by rw [hsz,x.len]; exact lim63 hl) (by rw [hsz,x.len]; exact .tok r (.int .nil) _)
theorem lenV_of {P : Prop} (e : bcallV1 mh .len V = some W) (k1 : ∀ b,V = .bytes b → .int b.length = W → P) (k2 : ∀ b,V = .str b → .int b.length = W → P) (k3 : ∀ b,V = .tup b → .int b.length = W → P) (k4 : (itemsV mh V).map (fun l => MV.int l.length) = some W → P) : P := by
 induction V using MV.casesOn with
 | bytes b => exact k1 b rfl (sI e)
 | str b => exact k2 b rfl (sI e)
 | tup b => exact k3 b rfl (sI e)
 | lst b => exact k4 e
 | ref b => exact k4 e
 | _ => exact nO e
theorem bcall1_ok {f : BI} (rm : Room A k) (r : R L fz ρ mh s.heap) (h : VR L fz ρ v V) (e : bcallV1 mh f V = some W) : wpAny L.M A (call (biV f) [v]) (PV L fz ρ s W mh) E s := by
 refine byP fun G kG => ?_
 induction f using BI.casesOn with
 | len =>
  refine lenV_of e (fun b hb hw => ?_) (fun b hb hw => ?_) (fun b hb hw => ?_) fun e => mp_of e fun l e1 hw => ?_
  ·subst hb hw
   obtain ⟨t,rfl,hl⟩ := bytesOf h
   exact kG (len_bytes (by rw [List.size_toArray]; unfold LIM at hl; lia) (by rw [List.size_toArray]; exact .tok r (.int .nil) _))
  ·subst hb hw
   obtain ⟨t,rfl,hl⟩ := strOf h
   exact kG (P.len_str (by rw [mkS_length]; have := lim63 hl; lia) (by rw [mkS_length]; exact .tok r (.int .nil) _))
  ·subst hb hw
   obtain ⟨a,xs,n,rfl,g,x,hl⟩ := tupOf r h
   have hsz : xs.toArray.size = xs.length := List.size_toArray
   exact kG (P.len_tuple g (by rw [hsz,x.len]; have := lim63 hl; lia) (by rw [hsz,x.len]; exact .tok r (.int .nil) _))
  ·subst hw; exact kG (len_ok r h e1)
 | bytes =>
  refine pL e fun l hl e' => bi_of e' fun ns e1 e2 => mp_of e2 fun bs e3 hw => ?_
  subst hl hw
  cases asInts_of e1
  obtain ⟨a,xs,n,rfl,g,x,hl⟩ := listOf r h rfl
  obtain ⟨h1,rfl⟩ := toBytes_of e3
  refine kG (call_bytes_ints (isListOf g) (ints_are x) h1 (by rw [x.len]; exact limS hl) rm.hd fun h' t k kp => .keeps r kp ?_ k)
  exact .bytes (by rw [List.length_map]; rwa [List.length_map] at hl) .nil
 | chr =>
  refine pI e fun i hi e' => if_of e' fun hi2 e' => ?_
  subst hi
  obtain rfl := sI e'
  obtain ⟨t,rfl⟩ := intOf h
  exact kG (P.chr_of_int (by simp; lia) (.tok r (.str (by unfold LIM; simp) .nil) _))
 | ord =>
  refine pS e fun b hb e' => p1N e' fun c hc e' => ?_
  subst hc hb
  obtain rfl := sI e'
  obtain ⟨t,rfl,_⟩ := strOf h
  exact kG (P.ord_of_char (.tok r (.int .nil) _))
 | tuple =>
  refine pT e fun l hl e' => ?_
  subst hl
  obtain rfl := sI e'
  obtain ⟨a,xs,n,rfl,g,x,hl⟩ := tupOf r h
  exact kG (call_tuple_same (isTupleOf g) (.here r h))
 | list =>
  refine pL e fun l hl e' => ?_
  subst hl
  obtain rfl := sI e'
  obtain ⟨a,xs,n,rfl,g,x,hl⟩ := listOf r h rfl
  refine kG (call_list_seq a (.inl rfl) g rfl rfl (fun h' c' kp hD => ?_) (by rw [show xs.toArray.size = xs.length from List.size_toArray,x.len]; exact limS hl))
  exact ⟨_,_,.newAt r kp hD (get?_size _) s.toks,.lst FZ.add_self hl (x.mono (FZ.add_mono (r.none_of (get?_size _))) fun O O e => e) .nil⟩
 | _ => exact nO e
theorem int2_ok {p : Int × Int} (hv : VR L fz ρ v V) (hu : VR L fz ρ u U) (e : int2 V U = some p) : ∃ t t',v = .int p.1 t ∧ u = .int p.2 t' := by
 refine pI e fun x hx e' => pI e' fun y hy e' => ?_
 subst hx hy
 obtain rfl := sI e'
 obtain ⟨t,rfl⟩ := intOf hv
 obtain ⟨t',rfl⟩ := intOf hu
 exact ⟨_,_,rfl,rfl⟩
theorem int_if {c : Prop} [Decidable c] {a b : Int} {t t' : Tok} : VR L fz ρ (if c then .int a t else .int b t') (.int (if c then a else b)) := by
 by_cases h : c
 ·rw [if_pos h,if_pos h]; exact .int .nil
 ·rw [if_neg h,if_neg h]; exact .int .nil
theorem bcall2_ok {f : BI} (rm : Room A k) (r : R L fz ρ mh s.heap) (hv : VR L fz ρ v V) (hu : VR L fz ρ u U) (e : bcallV2 f V U = some W) : wpAny L.M A (call (biV f) [v,u]) (PV L fz ρ s W mh) E s := by
 refine byP fun G kG => ?_
 induction f using BI.casesOn with
 | min =>
  refine mp_of e fun p e1 hw => ?_
  subst hw
  obtain ⟨t,t',rfl,rfl⟩ := int2_ok hv hu e1
  exact kG (min_two_ints rm.hd fun h' tk kp => .keeps r kp int_if tk)
 | max =>
  refine mp_of e fun p e1 hw => ?_
  subst hw
  obtain ⟨t,t',rfl,rfl⟩ := int2_ok hv hu e1
  exact kG (max_two_ints rm.hd fun h' tk kp => .keeps r kp int_if tk)
 | _ => exact nO e
theorem bcall_ok {f : BI} {vs : List Value} {Vs : List MV} (rm : Room A k) (r : R L fz ρ mh s.heap) (hv : VRL L fz ρ vs Vs) (e : bcallV mh f Vs = some W) : wpAny L.M A (call (biV f) vs) (PV L fz ρ s W mh) E s := by
 refine byP fun G kG => ?_
 induction Vs using List.casesOn with
 | nil => exact nO e
 | cons a l => induction l using List.casesOn with
  | nil =>
   obtain ⟨v,rfl,h⟩ := vrl1 hv
   exact kG (bcall1_ok rm r h e)
  | cons b l => induction l using List.casesOn with
   | nil =>
    obtain ⟨v,u,rfl,h1,h2⟩ := vrl2 hv
    exact kG (bcall2_ok rm r h1 h2 e)
   | cons c l => exact nO e
noncomputable def bmN : BM → Str
 | .append => "append" | .extend => "extend" | .find => "find" | .strip => "strip" | .rstrip => "rstrip" | .join => "join" | .upper => "upper" | .get => "get"
noncomputable def bmId (m : BM) (V : MV) : String := match m with
 | .append => "list.append" | .extend => "list.extend"
 | .find => (match V with | .bytes _ => "bytes.find" | _ => "str.find")
 | .strip => "bytes.strip" | .rstrip => "bytes.rstrip" | .upper => "bytes.upper"
 | .join => (match V with | .bytes _ => "bytes.join" | _ => "str.join")
 | .get => "dict.get"
theorem noB {b : Array UInt8} {t : Tok} : ∀ a,Value.bytes b t = .ref a → ∃ o,s.heap.get? a = some o ∧ o.dict = none := fun O e => nomatch e
theorem lstB_of {m : Option MO} {P : Prop} (h : (match m with | some (.lst _) => true | _ => false) = true) (k : ∀ l,m = some (.lst l) → P) : P := by
 induction m using Option.casesOn with
 | none => exact fF' h
 | some m => induction m using MO.casesOn with
  | lst l => exact k l rfl
  | _ => exact fF' h
theorem bmGet {m : BM} {pl : Sem Bool} {Q : Value × List Value → Shared → Prop} (r : R L fz ρ mh s.heap) (hv : VR L fz ρ v V) (e : bmOk mh V m = true) (h : Q (.builtin (bmId m V),[v]) s) : wpAny L.M A (getMethod v (bmN m) pl) Q E s := by
 refine byP fun G kG => ?_
 have hl : ∀ i,V = .ref i → ∀ l,mh[i]? = some (.lst l) → ∃ a,v = .ref a ∧ s.TypeIs v "list" ∧ ∀ b,v = .ref b → ∃ o,s.heap.get? b = some o ∧ o.dict = none := fun i hi l hm => by
  obtain ⟨a,xs,n,rfl,g,_⟩ := listOf r hv (l := l) (hi ▸ items_ref hm)
  exact ⟨a,rfl,⟨_,g,rfl⟩,fun b e => by cases e; exact ⟨_,g,rfl⟩⟩
 induction V using MV.casesOn with
 | ref i =>
  induction m using BM.casesOn with
  | append =>
   refine lstB_of e fun l hm => ?_
   obtain ⟨a,rfl,h1,h2⟩ := hl i rfl l hm
   refine kG ?_; dsimp only [bmN,bmId] at h ⊢; with_reducible exact getMethod_builtin h1 F.plainAttrs_list F.slot_list_append F.type_list_append h2 h
  | extend =>
   refine lstB_of e fun l hm => ?_
   obtain ⟨a,rfl,h1,h2⟩ := hl i rfl l hm
   refine kG ?_; dsimp only [bmN,bmId] at h ⊢; with_reducible exact getMethod_builtin h1 F.plainAttrs_list F.slot_list_extend F.type_list_extend h2 h
  | _ => exact fF' e
 | bytes b =>
  obtain ⟨t,rfl,_⟩ := bytesOf hv
  induction m using BM.casesOn with
  | find => refine kG ?_; dsimp only [bmN,bmId] at h ⊢; with_reducible exact getMethod_builtin (T := "bytes") (typeIs_bytes s _ t) FB.plainAttrs_bytes Y.slot_find Y.type_find noB h
  | strip => refine kG ?_; dsimp only [bmN,bmId] at h ⊢; with_reducible exact getMethod_builtin (T := "bytes") (typeIs_bytes s _ t) FB.plainAttrs_bytes Y.slot_strip Y.type_strip noB h
  | rstrip => refine kG ?_; dsimp only [bmN,bmId] at h ⊢; with_reducible exact getMethod_builtin (T := "bytes") (typeIs_bytes s _ t) FB.plainAttrs_bytes Y.slot_rstrip Y.type_rstrip noB h
  | join => refine kG ?_; dsimp only [bmN,bmId] at h ⊢; with_reducible exact getMethod_builtin (T := "bytes") (typeIs_bytes s _ t) FB.plainAttrs_bytes Y.slot_join Y.type_join noB h
  | upper => refine kG ?_; dsimp only [bmN,bmId] at h ⊢; with_reducible exact getMethod_builtin (T := "bytes") (typeIs_bytes s _ t) FB.plainAttrs_bytes Y.slot_upper Y.type_upper noB h
  | _ => exact fF' e
 | str b =>
  obtain ⟨t,rfl,_⟩ := strOf hv
  induction m using BM.casesOn with
  | find => exact kG (GM.find h)
  | join => exact kG (GM.join h)
  | _ => exact fF' e
 | dct ks ds =>
  induction m using BM.casesOn with
  | get =>
   obtain ⟨a,kvs,rfl,h1,h2,h3,h4⟩ := dictOf r hv rfl
   refine kG ?_; dsimp only [bmN,bmId] at h ⊢; with_reducible exact getMethod_builtin h2.typeIs F.plainAttrs_dict F.slot_dict_get F.type_dict_get h2.mapOf.noDict h
  | _ => exact fF' e
 | _ => exact fF' e
theorem str_values : ∀ {xs : List Value} {bs : List (List Nat)},VRL L fz ρ xs (bs.map .str) → ∃ l : List (Str × Tok),xs = strValues l ∧ l.map (·.1) = bs.map mkS
 | _,[],h => by cases h; exact ⟨[],rfl,rfl⟩
 | _,b :: r,h => by
  obtain ⟨v,vs,rfl,hv,h9⟩ := VRL.unconsR (V := .str b) (Vs := r.map .str) h
  obtain ⟨t0,rfl,hl⟩ := hv.view
  ·obtain ⟨l,rfl,e⟩ := str_values h9
   exact ⟨(mkS b,_) :: l,rfl,by rw [List.map_cons,e]; rfl⟩
theorem bytes_is : ∀ {xs : List Value} {bs : List (List UInt8)},VRL L fz ρ xs (bs.map .bytes) → BytesIs xs bs
 | _,[],h => by cases h; trivial
 | _,b :: r,h => by
  obtain ⟨v,vs,rfl,hv,h9⟩ := VRL.unconsR (V := .bytes b) (Vs := r.map .bytes) h
  obtain ⟨t0,rfl,hl⟩ := hv.view
  exact ⟨rfl,bytes_is h9⟩
theorem join_nil_eq : ∀ bs : List (List Nat),Txt.join (mkS []) (bs.map mkS) = mkS bs.flatten := by
 have key : ∀ (l : List (List Nat)) (acc : Array Nat),(l.map mkS).foldl (fun acc p => acc ++ (mkS []).cps ++ p.cps) acc = acc ++ (l.flatten).toArray := fun l => by
  induction l with
  | nil => intro acc; simp
  | cons x r ih => intro acc; rw [List.map_cons,List.foldl_cons,ih]; simp [mkS]
 intro bs
 show PySem.Builtin.Str.glued _ _ = _
 unfold PySem.Builtin.Str.glued
 induction bs using List.casesOn with
 | nil => rfl
 | cons b r =>
  rw [List.map_cons,List.drop_succ_cons,List.drop_zero,key]
  simp [mkS]
theorem joinOk_of {bs : List (List Nat)} (h : (bs.map List.length).sum ≤ LIM) : JoinOk (mkS []) (bs.map mkS) = true := by
 have key : ∀ (l : List (List Nat)) (k : Nat),(l.map mkS).foldl (fun x1 x2 => x1 + x2.length + (mkS []).length) k = k + (l.map List.length).sum := fun l => by
  induction l with
  | nil => intro k; rfl
  | cons x r ih => intro k; rw [List.map_cons,List.foldl_cons,ih,mkS_length,mkS_length]; simp; lia
 unfold JoinOk
 rw [List.foldl_toArray',key]
 ·unfold LIM at h
  have : ¬ (0 + (bs.map List.length).sum > sizeLine) := by rw [sizeLine_eq']; lia
  simp only [PySem.Builtin.Str.tooLong,Bool.not_eq_true',decide_eq_false_iff_not]
  exact this
 ·rfl
theorem flatten_le {α : Type} {bs : List (List α)} (h : (bs.map List.length).sum ≤ LIM) : bs.flatten.length ≤ LIM := by rw [List.length_flatten]; exact h
theorem pyFind_str {b : List Nat} {w : Nat} (h : b.contains w = false) : Txt.find (mkS b) (mkS [w]) = -1 := by
 have := PySem.StrLaws.found_one (mkS b) w
 unfold Txt.find
 have e : PySem.Builtin.Str.occurrences (mkS b) ⟨#[w]⟩ 0 (mkS b).length 1 = [] := by
  rw [mkS_cps] at this
  have h' : w ∉ b := by simpa using h
  rw [decide_eq_false h'] at this
  simpa using this
 show (match PySem.Builtin.Str.occurrences (mkS b) ⟨#[w]⟩ 0 (mkS b).length 1 with | i :: _ => (i : Int) | [] => -1) = -1
 rw [e]
theorem append_ok {i : Nat} {l : List MV} {U : MV} (r : R L fz ρ mh s.heap) (hv : VR L fz ρ v (.ref i)) (hu : VR L fz ρ u U) (hm : mh[i]? = some (.lst l)) (hlim : l.length < LIM) :
  wpAny L.M A (call (.builtin "list.append") [v,u]) (PV L fz ρ s .none (mh.set i (.lst (l ++ [U])))) E s := by
 obtain ⟨p,rfl,h1⟩ := refOf hv
 obtain ⟨hp,h2,xs,n,h3,h4⟩ := r.objs i _ p hm h1
 have hsz : xs.toArray.size = xs.length := List.size_toArray
 refine wpAny_list_append_plain ⟨n,h3⟩ (fun h' hP hS => ?_) (by rw [hsz,h4.len]; exact limS h2)
 obtain ⟨n',hP⟩ := hP
 have hb : ∀ b o,b ≠ p.1 → b ≠ p.2 → s.heap.get? b = some o → h'.get? b = some o := fun b o q O g => (hS.2 b q).trans g
 refine ⟨fz,ρ,⟨⟨_,_,rfl⟩,r.change h1 hb ⟨hp,?_,xs ++ [u],n',?_,h4.append hu⟩,.change h1 hb fun b q => ?_⟩,.none .nil⟩
 ·rw [List.length_append]; simp only [List.length_cons,List.length_nil]; lia
 ·rw [hP]; simp
 ·by_cases hbp : b = p.1
  ·rw [hbp,hP] at q; exact nO q.symm
  ·rw [hS.2 b hbp] at q; exact q
theorem extend_ok {i : Nat} {l kk : List MV} (r : R L fz ρ mh s.heap) (hv : VR L fz ρ v (.ref i)) (hu : VR L fz ρ u (.lst kk)) (hm : mh[i]? = some (.lst l)) (hlim : l.length + kk.length ≤ LIM) :
  wpAny L.M A (call (.builtin "list.extend") [v,u]) (PV L fz ρ s .none (mh.set i (.lst (l ++ kk)))) E s := by
 obtain ⟨b,ys,n2,rfl,g2,y,hl2⟩ := listOf r hu rfl
 obtain ⟨p,rfl,h1⟩ := refOf hv
 obtain ⟨hp,h2,xs,n,h3,h4⟩ := r.objs i _ p hm h1
 have hsz : xs.toArray.size = xs.length := List.size_toArray
 have hsz2 : ys.toArray.size = ys.length := List.size_toArray
 have hlen : xs.length + ys.length ≤ LIM := by rw [h4.len,y.len]; exact hlim
 unfold LIM at hlen
 refine call_meets F.slot_list_extend ⟨_,h3,rfl⟩ F.entry_list_extend (F.args_list_extend_2 _ _) (AutoSeq1.list_extend_list_list_0 p.1 xs.toArray n b ys.toArray n2 ?_ (by rw [hsz,sizeLine_eq']; lia) (by rw [hsz,hsz2,sizeLine_eq']; lia)) ⟨h3,g2,?_⟩
 ·have : PySem.Builtin.List.listTooLong (xs.toArray.size + ys.toArray.size) = false := by
   rw [hsz,hsz2]; unfold PySem.Builtin.List.listTooLong; rw [decide_eq_false]; rw [sizeLine_eq']; lia
  rw [this]; simp
 ·have hg := Heap.get?_update_self (Obj.mapSeq fun x => x ++ ys.toArray) h3 rfl
  have hb : ∀ b o,b ≠ p.1 → b ≠ p.2 → s.heap.get? b = some o → (s.heap.update p.1 (Obj.mapSeq fun x => x ++ ys.toArray)).get? b = some o := fun b o q O g => by rw [Heap.get?_update_other _ _ (Ne.symm q)]; exact g
  have hg' : (s.heap.update p.1 (Obj.mapSeq fun x => x ++ ys.toArray)).get? p.1 = some (seqObj "list" (xs ++ ys) (if (xs.toArray ++ ys.toArray).size == xs.toArray.size then n else n + 1)) :=
   hg.trans (by simp [Obj.mapSeq,seqObj])
  refine ⟨fz,ρ,⟨⟨_,_,rfl⟩,r.change h1 hb ⟨hp,?_,xs ++ ys,_,hg',h4.append y⟩,.change h1 hb fun b q => ?_⟩,.none .nil⟩
  ·rw [List.length_append]; exact hlim
  ·by_cases hbp : b = p.1
   ·rw [hbp,hg] at q; exact nO q.symm
   ·rw [Heap.get?_update_other _ _ (Ne.symm hbp)] at q; exact q
theorem bmRef_ok {i : Nat} {m : BM} {mh' : MH} (r : R L fz ρ mh s.heap) (hv : VR L fz ρ v (.ref i)) (hu : VR L fz ρ u U) (e : bmRef mh i m U = some (W,mh')) :
  wpAny L.M A (call (.builtin (bmId m (.ref i))) [v,u]) (PV L fz ρ s W mh') E s := by
 refine byP fun G kG => pML e fun l hm e => ?_
 induction m using BM.casesOn with
 | append =>
  refine if_of e fun hlim e => ?_
  obtain ⟨rfl,rfl⟩ := sP e
  exact kG (append_ok r hv hu hm hlim)
 | extend =>
  refine pL e fun kk hk e => if_of e fun hlim e => ?_
  obtain ⟨rfl,rfl⟩ := sP e
  exact kG (extend_ok r hv (hk ▸ hu) hm hlim)
 | _ => exact nO e
theorem bjoin_ok {t : Tok} {l : List MV} {bs : List (List UInt8)} (r : R L fz ρ mh s.heap) (hu : VR L fz ρ u U) (e1 : itemsV mh U = some l) (e2 : asBytes l = some bs) (hz : (bs.map List.length).sum ≤ LIM) :
  wpAny L.M A (call (.builtin "bytes.join") [.bytes (List.toArray []) t,u]) (PV L fz ρ s (.bytes bs.flatten) mh) E s := by
 obtain rfl := asBytes_of e2
 obtain ⟨a,xs,n,rfl,g,y,_⟩ := listOf r hu e1
 exact call_meets Y.slot_join (typeIs_bytes _ _ _) Y.entry_join (Y.args_join _ _) (meets_join (bs := bs)) ⟨⟨xs,n,g,bytes_is y⟩,limS hz,fun t' k => .tok r (.bytes (flatten_le hz) .nil) k⟩
theorem find_of {b : List UInt8} {Vs : List MV} {P : Prop} (e : bmBytes mh b .find Vs = some W) (k : ∀ w lo hi,Vs = [.bytes [w],.int lo,.int hi] → (if 0 ≤ lo ∧ 0 ≤ hi then some (MV.int (pyFind b [w] (some lo) (some hi))) else none) = some W → P) : P := by
 induction Vs using List.casesOn with
 | nil => exact nO e
 | cons x Vs => induction x using MV.casesOn with
  | bytes x => induction x using List.casesOn with
   | nil => exact nO e
   | cons w x => induction x using List.casesOn with
    | nil => induction Vs using List.casesOn with
     | nil => exact nO e
     | cons y Vs => induction y using MV.casesOn with
      | int lo => induction Vs using List.casesOn with
       | nil => exact nO e
       | cons z Vs => induction z using MV.casesOn with
        | int hi => induction Vs using List.casesOn with
         | nil => exact k w lo hi rfl e
         | cons _ _ => exact nO e
        | _ => exact nO e
      | _ => exact nO e
    | cons _ _ => exact nO e
  | _ => exact nO e
theorem b1_of {Vs : List MV} {f : List UInt8 → Option MV} {P : Prop} (e : (match Vs with | [.bytes c] => f c | _ => none) = some W) (k : ∀ c,Vs = [.bytes c] → f c = some W → P) : P := by
 induction Vs using List.casesOn with
 | nil => exact nO e
 | cons x Vs => induction x using MV.casesOn with
  | bytes x => induction Vs using List.casesOn with
   | nil => exact k x rfl e
   | cons _ _ => exact nO e
  | _ => exact nO e
theorem bmBytes_ok {b : List UInt8} {m : BM} {vs : List Value} {Vs : List MV} (r : R L fz ρ mh s.heap) (hv : VR L fz ρ v (.bytes b)) (hvs : VRL L fz ρ vs Vs) (e : bmBytes mh b m Vs = some W) :
  wpAny L.M A (call (.builtin (bmId m (.bytes b))) (v :: vs)) (PV L fz ρ s W mh) E s := by
 refine byP fun G kG => ?_
 obtain ⟨t,rfl,hl⟩ := bytesOf hv
 induction m using BM.casesOn with
 | upper =>
  induction Vs using List.casesOn with
  | nil =>
   obtain rfl := sI e
   cases hvs
   have hlen : (b.map upperB).length ≤ LIM := by rw [List.length_map]; exact hl
   exact kG (show wpAny _ _ (call (.builtin "bytes.upper") _) _ _ _ from call_gives Y.slot_upper (typeIs_bytes _ _ _) Y.entry_upper (Y.args_upper _) (gives_upper _ _) ⟨by rw [List.size_toArray]; exact limS hlen,.tok r (.bytes hlen .nil) _⟩)
  | cons _ _ => exact nO e
 | strip =>
  refine b1_of e fun cs hc e' => ?_
  obtain rfl := sI e'
  obtain ⟨x,rfl,hx⟩ := vrl1 (hc ▸ hvs)
  obtain ⟨t1,rfl,_⟩ := bytesOf hx
  have hlen : (stripR (stripL b cs) cs).length ≤ LIM := Nat.le_trans (stripR_len _ _) (Nat.le_trans (stripL_len _ _) hl)
  exact kG (show wpAny _ _ (call (.builtin "bytes.strip") _) _ _ _ from call_gives Y.slot_strip (typeIs_bytes _ _ _) Y.entry_strip (Y.args_strip _ _) (gives_strip _ _ _ _) (strip_made (limS hlen) fun t' k => .tok r (.bytes hlen .nil) k))
 | rstrip =>
  refine b1_of e fun cs hc e' => ?_
  obtain rfl := sI e'
  obtain ⟨x,rfl,hx⟩ := vrl1 (hc ▸ hvs)
  obtain ⟨t1,rfl,_⟩ := bytesOf hx
  have hlen : (stripR b cs).length ≤ LIM := Nat.le_trans (stripR_len _ _) hl
  exact kG (show wpAny _ _ (call (.builtin "bytes.rstrip") _) _ _ _ from call_gives Y.slot_rstrip (typeIs_bytes _ _ _) Y.entry_rstrip (Y.args_rstrip _ _) (gives_rstrip _ _ _ _) (strip_made (limS hlen) fun t' k => .tok r (.bytes hlen .nil) k))
 | find =>
  refine find_of e fun w lo hi hc e' => if_of e' fun h0 e' => ?_
  obtain rfl := sI e'
  obtain ⟨x,y,z,rfl,hx,hy,hz⟩ := vrl3 (hc ▸ hvs)
  obtain ⟨t1,rfl,_⟩ := bytesOf hx
  obtain ⟨t2,rfl⟩ := intOf hy
  obtain ⟨t3,rfl⟩ := intOf hz
  exact kG (show wpAny _ _ (call (.builtin "bytes.find") _) _ _ _ from call_gives Y.slot_find (typeIs_bytes _ _ _) Y.entry_find (Y.args_find _ _ _ _) (gives_find _ _ _ _ _ _ _ _ h0) (.tok r (.int .nil) _))
 | join =>
  refine if_of e fun hb e' => p1 e' fun U hU e' => bi_of e' fun l e1 e2 => bi_of e2 fun bs e4 e3 => if_of e3 fun hz e3 => ?_
  obtain rfl := List.isEmpty_iff.mp hb
  obtain rfl := sI e3
  obtain ⟨x,rfl,hx⟩ := vrl1 (hU ▸ hvs)
  exact kG (bjoin_ok r hx e1 e4 hz)
 | _ => exact nO e
theorem sjoin_ok {t : Tok} {l : List MV} {bs : List (List Nat)} (r : R L fz ρ mh s.heap) (hu : VR L fz ρ u U) (e1 : itemsV mh U = some l) (e2 : asStrs l = some bs) (hz : (bs.map List.length).sum ≤ LIM) :
  wpAny L.M A (call (.builtin "str.join") [.str (mkS []) t,u]) (PV L fz ρ s (.str bs.flatten) mh) E s := by
 obtain rfl := asStrs_of e2
 obtain ⟨a,xs,n,rfl,g,y,_⟩ := listOf r hu e1
 obtain ⟨q,rfl,hq⟩ := str_values y
 refine SC.join (isListOf g) hq (joinOk_of hz) fun t' k => ?_
 rw [join_nil_eq]
 exact .tok r (.str (flatten_le hz) .nil) k
theorem strW_of {b : List Nat} {P : Prop} (e : bmStr mh b .find V = some W) (k : ∀ w,V = .str [w] → b.contains w = false → .int (-1) = W → P) : P := by
 induction V using MV.casesOn with
 | str x => induction x using List.casesOn with
  | nil => exact nO e
  | cons w x => induction x using List.casesOn with
   | nil =>
    have e : (if b.contains w = true then none else some (MV.int (-1))) = some W := e
    by_cases h : b.contains w = true
    ·rw [if_pos h] at e; exact nO e
    ·rw [if_neg h] at e; exact k w rfl (Bool.not_eq_true _ ▸ h) (sI e)
   | cons _ _ => exact nO e
 | _ => exact nO e
theorem bmStr_ok {b : List Nat} {m : BM} (r : R L fz ρ mh s.heap) (hv : VR L fz ρ v (.str b)) (hu : VR L fz ρ u U) (e : bmStr mh b m U = some W) :
  wpAny L.M A (call (.builtin (bmId m (.str b))) [v,u]) (PV L fz ρ s W mh) E s := by
 refine byP fun G kG => ?_
 obtain ⟨t,rfl,hl⟩ := strOf hv
 induction m using BM.casesOn with
 | find =>
  refine strW_of e fun w hw hc hW => ?_
  subst hW
  obtain ⟨t1,rfl,_⟩ := strOf (hw ▸ hu)
  refine kG (SC.find ?_)
  rw [pyFind_str hc]
  exact .tok r (.int .nil) _
 | join =>
  refine if_of e fun hb e' => bi_of e' fun l e1 e2 => bi_of e2 fun bs e4 e3 => if_of e3 fun hz e3 => ?_
  obtain rfl := List.isEmpty_iff.mp hb
  obtain rfl := sI e3
  exact kG (sjoin_ok r hu e1 e4 hz)
 | _ => exact nO e
theorem get_ok {ks : List (List Nat)} {ds : List MV} {x : List Nat} {D : MV} {w : Value} (r : R L fz ρ mh s.heap) (hv : VR L fz ρ v (.dct ks ds)) (hx : VR L fz ρ u (.str x)) (hd : VR L fz ρ w D) :
  wpAny L.M A (call (.builtin "dict.get") [v,u,w]) (PV L fz ρ s ((lookK x ks ds).getD D) mh) E s := by
 obtain ⟨a,kvs,rfl,h1,h2,h3,h4⟩ := dictOf r hv rfl
 obtain ⟨t1,rfl,_⟩ := strOf hx
 have hk := strKind_is L.prog L.w (mkS x) t1
 refine call_meetsIn F.slot_dict_get h2.typeIs F.entry_dict_get (F.args_dict_get_3 _ _ _) (meets_dict_get_default L.knd a hk h1 w) ⟨_,h2.mapOf,?_⟩
 have hlook := VRL.look (f := mkS) (fun O O => mkS_inj) (k := x) h3 h4
 refine .tok r ?_ _
 cases ek : lookK x ks ds with
 | none => rw [hlook.2 ek]; exact hd
 | some V => obtain ⟨y,hy,vy⟩ := hlook.1 V ek; rw [hy]; exact vy
theorem get_of {ks : List (List Nat)} {ds Vs : List MV} {mh' : MH} {P : Prop} (e : bmethV mh (.dct ks ds) .get Vs = some (W,mh')) (k : ∀ x d,Vs = [.str x,d] → some ((lookK x ks ds).getD d,mh) = some (W,mh') → P) : P := by
 induction Vs using List.casesOn with
 | nil => exact nO e
 | cons x Vs => induction x using MV.casesOn with
  | str x => induction Vs using List.casesOn with
   | nil => exact nO e
   | cons d Vs => induction Vs using List.casesOn with
    | nil => exact k x d rfl e
    | cons _ _ => exact nO e
  | _ => exact nO e
theorem bmeth_ok {m : BM} {vs : List Value} {Vs : List MV} {mh' : MH} (rm : Room A k) (r : R L fz ρ mh s.heap) (hv : VR L fz ρ v V) (hvs : VRL L fz ρ vs Vs) (e : bmethV mh V m Vs = some (W,mh')) :
  wpAny L.M A (call (.builtin (bmId m V)) (v :: vs)) (PV L fz ρ s W mh') E s := by
 refine byP fun G kG => ?_
 induction V using MV.casesOn with
 | ref i =>
  refine p1 e fun U hU e' => ?_
  obtain ⟨u,rfl,hu⟩ := vrl1 (hU ▸ hvs)
  exact kG (bmRef_ok r hv hu e')
 | bytes b =>
  refine mp_of e fun w e1 e2 => ?_
  obtain ⟨rfl,rfl⟩ := Prod.mk.inj e2
  exact kG (bmBytes_ok r hv hvs e1)
 | str b =>
  refine p1 e fun U hU e' => mp_of e' fun w e1 e2 => ?_
  obtain ⟨rfl,rfl⟩ := Prod.mk.inj e2
  obtain ⟨u,rfl,hu⟩ := vrl1 (hU ▸ hvs)
  exact kG (bmStr_ok r hv hu e1)
 | dct ks ds =>
  induction m using BM.casesOn with
  | get =>
   refine get_of e fun x d hc e' => ?_
   obtain ⟨y,d,rfl,hx,hd⟩ := vrl2 (hc ▸ hvs)
   obtain ⟨rfl,rfl⟩ := sP e'
   exact kG (get_ok r hv hx hd)
  | _ => exact nO e
 | _ => exact nO e
end
end
section
noncomputable def clsOk (K : Frag) (C : Addr) : Bool :=
 findIn K (.ref C) "__getattribute__" == some (some (.builtin "object.__getattribute__")) && findIn K (.ref C) "__getattr__" == some none &&
 findIn K (.ref C) "__setattr__" == some (some (.builtin "object.__setattr__")) && plainOver K C && (clsIn K C).any (·.hasDict)
noncomputable def attrOk (K : Frag) (C : Addr) (n : Str) : Bool := findIn K (.ref C) n == some none
section
variable {L : Lk} {fz : FZ} {ρ : RHO} {mh : MH} {s : Shared} {A : Around} {k : Nat} {E : Value → Shared → Prop} {v u : Value} {V U W : MV}
theorem clsOk_ga {K C} (h : clsOk K C = true) : findIn K (.ref C) "__getattribute__" = some (some (.builtin "object.__getattribute__")) := by
 simp only [clsOk,Bool.and_eq_true,beq_iff_eq] at h; exact h.1.1.1.1
theorem clsOk_gh {K C} (h : clsOk K C = true) : findIn K (.ref C) "__getattr__" = some none := by
 simp only [clsOk,Bool.and_eq_true,beq_iff_eq] at h; exact h.1.1.1.2
theorem clsOk_sa {K C} (h : clsOk K C = true) : findIn K (.ref C) "__setattr__" = some (some (.builtin "object.__setattr__")) := by
 simp only [clsOk,Bool.and_eq_true,beq_iff_eq] at h; exact h.1.1.2
theorem clsOk_po {K C} (h : clsOk K C = true) : plainOver K C = true := by
 simp only [clsOk,Bool.and_eq_true,beq_iff_eq] at h; exact h.1.2
theorem clsOk_hd {K C} (h : clsOk K C = true) : (clsIn K C).any (·.hasDict) = true := by
 simp only [clsOk,Bool.and_eq_true,beq_iff_eq] at h; exact h.2
theorem refKey_of {prog w} {es : Array DictEntry} {kvs : List (Str × Value)} (hp : Pairs (strKind prog w) es.toList kvs) : es.any (·.refKey) = false := by
 have : ∀ (l : List DictEntry) kvs,Pairs (strKind prog w) l kvs → ∀ e ∈ l,e.refKey = false := fun l kvs hp => by
  induction hp with
  | nil => intro e h; exact nM h
  | cons h1 h2 _ ih =>
   intro e he
   cases he with
   | head => obtain ⟨t,ht⟩ := Value.isStrOf_shape h1; simp [DictEntry.refKey,ht]
   | tail _ q => exact ih e q
 rw [Array.any_eq_false']
 intro e he
 simp [this _ _ hp e (by simpa using he)]
theorem isStr_sym {prog : Program} {w : World} (a n : Str) (t : Tok) : (Value.str a t).isStr n = (strKind prog w).is n (.str a t) := by
 show (a == n) = (strKind prog w).is n (.str a t)
 by_cases q : a = n
 ·subst q; rw [strKind_is]; simp
 ·have : (strKind prog w).is n (.str a t) = false := by
   cases h : (strKind prog w).is n (.str a t) with
   | false => rfl
   | true => exact absurd ((strKind prog w).inj _ _ _ (strKind_is prog w a t) h) q
  rw [this]; simp [q]
set_option tactic.hygienic true in
theorem isStr_eq {prog w} {es : List DictEntry} {kvs : List (Str × Value)} (hp : Pairs (strKind prog w) es kvs) (n : Str) : ∀ e ∈ es,e.key.isStr n = (strKind prog w).is n e.key := by
 induction hp with
 | nil => intro e h; exact nM h
 | cons h1 h2 _ ih =>
  intro e he
  cases he with
  | head =>
   obtain ⟨t,ht⟩ := Value.isStrOf_shape h1
   rename_i kv es kvs _
   rw [ht]
   exact isStr_sym _ n t
  | tail _ q => exact ih e q
theorem lookIn_of {prog w} {o : Obj} {kvs : List (Str × Value)} (h : o.IsDictOf (strKind prog w) kvs) (n : Str) : lookIn n o = some (valueAt kvs n) := by
 obtain ⟨es,ep,hx,hd,hk,hp,hn⟩ := h
 unfold lookIn
 rw [hd]
 dsimp only
 have hf : es.toList.find? (·.key.isStr n) = es.toList.find? fun e => (strKind prog w).is n e.key := by
  have := isStr_eq hp n
  generalize es.toList = l at this
  induction l with
  | nil => rfl
  | cons a l ih =>
   rw [List.find?_cons,List.find?_cons,this a (.head _),ih fun e he => this e (.tail _ he)]
 rw [hf,← hp.find n]
 have hr := refKey_of hp
 rw [← Array.any_toList] at hr
 cases es.toList.find? fun e => (strKind prog w).is n e.key with
 | none => simp [hr]
 | some e => rfl
theorem strHash_eq {prog : Program} {w : World} (n : Str) : (strKind prog w).hash n = PyData.keyHash w.params n := rfl
theorem nsSet_pairs {prog : Program} {w : World} {d : Addr} {kvs : List (Str × Value)} {n : Str} {v : Value} {Q : Unit → Shared → Prop} (hm : s.heap.DictOf (strKind prog w) d kvs)
  (hQ : ∀ h',h'.DictOf (strKind prog w) d (stored kvs n v) → Heap.SameBut d s.heap h' → Q () { s with heap := h',toks := s.toks + 1 }) : wpAny (model prog w) A (nsSet d n v) Q E s := by
 obtain ⟨o,es,ep,ho,hc,hd,hk,hp,hn⟩ := hm
 unfold nsSet
 refine wpAny_bind (wpAny_bind (wpAny_askSetting (wpAny_pure (wpAny_bind (wpAny_mkText (wpAny_bind (wpAny_loadPart ho ?_)))))))
 rw [hd]
 dsimp only
 have hr : aRefKeyMayBeTheName n es = false := by rw [aRefKeyMayBeTheName_at,refKey_of hp,Bool.and_false]
 rw [hr]
 refine wpAny_updatePart ho ?_
 have hes : es.findIdx? (·.key.isStr n) = es.toList.findIdx? fun e => (strKind prog w).is n e.key := by
  have := isStr_eq hp n
  obtain ⟨l⟩ := es
  rw [List.findIdx?_toArray]
  dsimp only at this ⊢
  clear hp hk hd hr
  induction l with
  | nil => rfl
  | cons a l ih => rw [List.findIdx?_cons,List.findIdx?_cons,this a (.head _),ih fun e he => this e (.tail _ he)]
 have hidx := hp.findIdx n
 obtain ⟨c,dd,dt,sl⟩ := o
 dsimp only at hd
 subst hd
 cases hi : es.toList.findIdx? fun e => (strKind prog w).is n e.key with
 | some i =>
  have hput : ∀ hh,Obj.putName n hh (.str n s.toks) v ⟨c,dd,.dict es ep,sl⟩ = ⟨c,dd,.dict (es.modify i fun e => { e with val := v }) ep,sl⟩ := by
   intro hh; simp only [Obj.putName_eq,Obj.putNameByArray,hes,hi]
  refine hQ _ ⟨_,_,ep,(Heap.get?_update_self _ ho (by rw [hput]; rfl)).trans (congrArg some (hput _)),⟨hc.1,hc.2.1,hc.2.2⟩,rfl,hk.modify _ _,?_,?_⟩ (Heap.SameBut.update ..)
  ·rw [stored,if_pos (any_of_findIdx_some (hidx ▸ hi))]
   have := hp.modify hn hi v
   obtain ⟨l⟩ := es
   simpa using this
  ·rw [stored,if_pos (any_of_findIdx_some (hidx ▸ hi)),keys_map_store]; exact hn
 | none =>
  have hput : ∀ hh,Obj.putName n hh (.str n s.toks) v ⟨c,dd,.dict es ep,sl⟩ = ⟨c,dd,.dict (es.push ⟨hh,.str n s.toks,v⟩) (ep + 1),sl⟩ := by
   intro hh; simp only [Obj.putName_eq,Obj.putNameByArray,hes,hi]
  have hkey := strKind_is prog w n s.toks
  have hnot : n ∉ kvs.map (·.1) := not_mem_of_findIdx_none (hidx ▸ hi)
  have hany : ¬ (kvs.any fun kv => decide (kv.1 = n)) = true := by
   rw [List.any_eq_true]; rintro ⟨kv,hkv,he⟩
   exact hnot (List.mem_map.mpr ⟨kv,hkv,of_decide_eq_true he⟩)
  refine hQ _ ⟨_,_,ep + 1,(Heap.get?_update_self _ ho (by rw [hput]; rfl)).trans (congrArg some (hput _)),⟨hc.1,hc.2.1,hc.2.2⟩,rfl,?_,?_,?_⟩ (Heap.SameBut.update ..)
  ·have := hk.push hkey v
   rw [strHash_eq] at this; exact this
  ·rw [stored,if_neg hany]
   rw [Array.toList_push]
   exact hp.append hkey _ v
  ·rw [stored,if_neg hany,List.map_append,List.nodup_append]
   refine ⟨hn,by simp,?_⟩
   intro a ha b hb
   simp only [List.map_cons,List.map_nil,List.mem_singleton] at hb
   subst hb
   exact fun e => hnot (e ▸ ha)
noncomputable def insV (mh : MH) : MV → Option (Nat × List Nat × List MV)
 | .ins c as vs => some (c,as,vs)
 | .ref i => match mh[i]? with
  | some (.ins c as vs) => some (c,as,vs)
  | _ => none
 | _ => none
theorem insOf {c as vs} (r : R L fz ρ mh s.heap) (h : VR L fz ρ v V) (e : insV mh V = some (c,as,vs)) :
  ∃ a d o kvs,v = .ref a ∧ s.heap.get? a = some (instObj (L.clsA c) d) ∧ s.heap.get? d = some o ∧ o.IsDictOf L.knd kvs ∧ kvs.map (·.1) = as.map L.nm ∧ VRL L fz ρ (kvs.map (·.2)) vs := by
 refine byP fun G kG => ?_
 induction V using MV.casesOn with
 | ins c' as' vs' =>
  cases e
  obtain ⟨a,d,o,kvs,e,h1,h2,h3,h4,h5,_⟩ := h.view
  exact kG ⟨a,d,o,kvs,e,r.sub _ _ h1,r.sub _ _ h2,h3,h4,h5⟩
 | ref i =>
  refine pMI e fun c' as' vs' hl e' => ?_
  cases e'
  obtain ⟨p,rfl,h1⟩ := h.view
  obtain ⟨_,h2,kvs,h3,h4,h5⟩ := r.objs _ _ p hl h1
  obtain ⟨o,ho,h3⟩ := Heap.dictOf_iff.mp h3
  exact kG ⟨_,_,o,_,rfl,h2,ho,h3,h4,h5⟩
 | _ => exact nO e
theorem instAt {C a d : Addr} {o : Obj} {h : Heap} (h1 : h.get? a = some (instObj C d)) (h2 : h.get? d = some o) : InstAt h a (instObj C d) C (some o) := ⟨h1,rfl,rfl,h2⟩
theorem VF.handed {v : Value} {V : MV} (h : VF L ρ v V) : handedIn v = true := by
 induction V using MV.casesOn with
 | none => cases (h : v = _); rfl
 | bool b => cases (h : v = _); rfl
 | int i => obtain ⟨_,rfl⟩ := h; rfl
 | str s => obtain ⟨_,rfl,_⟩ := h; rfl
 | bytes b => obtain ⟨_,rfl,_⟩ := h; rfl
 | fn g => cases (h : v = _); rfl
 | ref i => obtain ⟨_,rfl,_⟩ := h; rfl
 | _ => exact h.elim
theorem VD.handed {v : Value} {V : MV} {xs : List Value} {l : List MV} (h : VD L fz v xs l V) : handedIn v = true := by
 induction V using MV.casesOn with
 | tup k => obtain ⟨_,a,n,rfl,_⟩ := h; rfl
 | lst k => obtain ⟨_,a,n,rfl,_⟩ := h; rfl
 | dct ks k => obtain ⟨_,a,o,kvs,rfl,_⟩ := h; rfl
 | ins c as k => obtain ⟨_,a,d,o,kvs,rfl,_⟩ := h; rfl
 | _ => exact h.elim
theorem VRL.handed {vs Vs} (h : VRL L fz ρ vs Vs) : ∀ v ∈ vs,handedIn v = true := by
 induction h with
 | nil => exact fun v h => nomatch h
 | flat a _ ih => exact fun v hv => (List.mem_cons.mp hv).elim (fun q => q ▸ a.handed) (ih v)
 | deep a _ _ _ ih => exact fun v hv => (List.mem_cons.mp hv).elim (fun q => q ▸ a.handed) (ih v)
theorem findObj_value {K : Frag} {C : Addr} {od : Obj} {n : Str} {v : Value} (h1 : clsOk K C = true) (h2 : attrOk K C n = true) (h : lookIn n od = some (some v)) : findObj K C (some od) n = some (.value v) := by
 obtain ⟨cd,hc,hd⟩ := any_some (clsOk_hd h1)
 have h2' : findIn K (.ref C) n = some none := by simpa [attrOk] using h2
 have ho : W.ownOf cd (some od) n = some (some v) := by
  show (if cd.hasDict = true then lookIn n od else some none) = _
  rw [hd,if_pos rfl]; exact h
 delta findObj
 rw [hc,h2']
 show (W.ownOf cd (some od) n).bind _ = _
 rw [ho]; rfl
noncomputable def ClsFacts (L : Lk) (c : Nat) (a : Nat) : Prop := clsOk L.K (L.clsA c) = true ∧ attrOk L.K (L.clsA c) (L.nm a) = true
set_option tactic.hygienic true in
theorem attrV_ins {a : Nat} : attrV mh V a = (insV mh V).bind fun x => lookK a x.2.1 x.2.2 := by
 unfold attrV insV
 induction V using MV.casesOn <;> try rfl
 rename_i i
 dsimp only
 cases h : mh[i]? with
 | none => rfl
 | some m => induction m using MO.casesOn <;> rfl
theorem attr_ok {a : Nat} (r : R L fz ρ mh s.heap) (hv : VR L fz ρ v V) (e : attrV mh V a = some W) (hc : ∀ c as vs,insV mh V = some (c,as,vs) → ClsFacts L c a) :
  wpAny L.M A (getAttr v (L.nm a) true) (PV L fz ρ s W mh) E s := by
 rw [attrV_ins,Option.bind_eq_some_iff] at e
 obtain ⟨⟨c,as,vs⟩,e1,e2⟩ := e
 obtain ⟨x,d,o,kvs,rfl,h1,h2,h3,h4,h5⟩ := insOf r hv e1
 obtain ⟨hc1,hc2⟩ := hc _ _ _ e1
 obtain ⟨y,hy,vy⟩ := (VRL.look (f := L.nm) L.inj (k := a) h4 h5).1 _ e2
 refine get_value (K := L.K) r.inK (instAt h1 h2) (clsOk_ga hc1) (findObj_value hc1 hc2 ((lookIn_of h3 _).trans (by rw [hy]))) ?_ (.tok r vy _)
 exact vy.handed y (.head _)
theorem meth_ok {c : Nat} {as : List Nat} {vs : List MV} {m : Nat} {f : Addr} {pl : Sem Bool} {Q : Value × List Value → Shared → Prop} (r : R L fz ρ mh s.heap) (hv : VR L fz ρ v V) (e : insV mh V = some (c,as,vs)) (hm : m ∉ as)
  (hc : clsOk L.K (L.clsA c) = true) (hf : findIn L.K (.ref (L.clsA c)) (L.nm m) = some (some (.ref f))) (ht : typeIn L.K (.ref f) = some (.type "function")) (h : Q (.ref f,[v]) s) : wpAny L.M A (getMethod v (L.nm m) pl) Q E s := by
 obtain ⟨x,d,o,kvs,rfl,h1,h2,h3,h4,h5⟩ := insOf r hv e
 have hn : lookK m as vs = none := by
  have : ∀ (as : List Nat) (vs : List MV),m ∉ as → lookK m as vs = none := fun as => by
   induction as with
   | nil => intro vs _; rfl
   | cons a as ih =>
    intro vs hm
    induction vs using List.casesOn with
    | nil => rfl
    | cons v vs =>
     simp only [List.mem_cons,not_or] at hm
     rw [lookK,if_neg (Ne.symm hm.1)]
     exact ih vs hm.2
  exact this as vs hm
 refine method_fn (K := L.K) r.inK (instAt h1 h2) (clsOk_ga hc) (clsOk_gh hc) hf ht ?_ h
 show (lookIn (L.nm m) o).map (·.isSome) = some false
 rw [lookIn_of h3,(VRL.look (f := L.nm) L.inj (k := m) h4 h5).2 hn]
 rfl
theorem setAttr_ok {i a : Nat} {c : Nat} {as : List Nat} {vs : List MV} {x : Value} {X : MV} {Q : Unit → Shared → Prop} (r : R L fz ρ mh s.heap) (hv : VR L fz ρ v (.ref i)) (e : mh[i]? = some (.ins c as vs)) (hlim : vs.length < 500) (hx : VR L fz ρ x X)
  (hc : ClsFacts L c a) (h : ∀ s',Good L fz ρ s (mh.set i (.ins c (putK a X as vs).1 (putK a X as vs).2)) fz ρ s' → Q () s') : wpAny L.M A (setAttr v (L.nm a) x) Q E s := by
 obtain ⟨p,rfl,hp⟩ := hv.view
 ·obtain ⟨h0,h1,kvs,h2,h3,h4⟩ := r.objs i _ p e hp
  obtain ⟨o,ho,hd⟩ := Heap.dictOf_iff.mp h2
  obtain ⟨hc1,hc2⟩ := hc
  have hattr : findIn L.K (.ref (L.clsA c)) (L.nm a) = some none := by simpa [attrOk] using hc2
  have I := instAt h1 ho
  refine set_plain (K := L.K) r.inK I (clsOk_sa hc1) ?_
  refine osa_open (K := L.K) (s := { s with toks := s.toks + 1 }) r.inK I (clsOk_po hc1) (r := none) (by unfold takerIn; rw [hattr]; rfl) fun b => ?_
  obtain ⟨cd,hcd,hdd⟩ := any_some (clsOk_hd hc1)
  refine wpAny_bind (wpAny_pure (wpAny_bind (wpAny_bind (wpAny_loadPart h1 (wpAny_bind (Looks.here (s := { s with toks := s.toks + 1 }) (looks_clsIn (K := L.K) (h := s.heap) r.inK hcd) ?_))))))
  rw [hdd]
  refine wpAny_pure (a := some p.2) (wpAny_bind (wpAny_pure (wpAny_bind ?_)))
  refine nsSet_pairs (s := { s with toks := s.toks + 1 }) h2 fun h' hD hS => ?_
  obtain ⟨od,ho',hd'⟩ := Heap.dictOf_iff.mp hD
  have hlen : (stored kvs (L.nm a) x).length ≤ 501 := by
   have := stored_length_le kvs (L.nm a) x
   have e2 := h4.len
   rw [List.length_map] at e2
   lia
  have hne : p.1 ≠ p.2 := fun q => by rw [q,ho] at h1; obtain rfl := sI h1; obtain ⟨_,_,q,_⟩ := hd; cases q.1
  have hput := VRL.put (f := L.nm) L.inj (k := a) hx h3 (by obtain ⟨_,_,_,_,_,_,_,hn⟩ := h2; exact hn.2) h4
  have hb : ∀ b o,b ≠ p.1 → b ≠ p.2 → s.heap.get? b = some o → h'.get? b = some o := fun b o O q g => (hS.2 b q).trans g
  obtain ⟨es,ep,hx1,hx2,hx3⟩ := hd'
  refine wpAny_bind (wpAny_lookBehind ho' (by rw [hx2]; exact pastItsLine_dict (by have e1 := hx3.2.1.length; have e2 : es.toList.length = es.size := (by simp); rw [sizeLine_eq]; lia)) ?_)
  refine wpAny_pure (h _ ⟨⟨_,_,rfl⟩,r.change hp hb ⟨?_,(hS.2 p.1 hne).trans h1,_,hD,hput.1,hput.2⟩,.change hp hb fun b q => ?_⟩)
  ·have := hput.2.len
   rw [List.length_map] at this
   unfold LIM; lia
  ·by_cases hbp : b = p.2
   ·rw [hbp,ho'] at q; exact nO q.symm
   ·rw [hS.2 b hbp] at q; exact q
end
end
section
noncomputable abbrev Sig := List (Str × NameKind)
noncomputable abbrev Vals := List (Option MV)
noncomputable def Apart (fz : FZ) (ρ : RHO) (a : Addr) : Prop := fz a = none ∧ ∀ p ∈ ρ,a ≠ p.1 ∧ a ≠ p.2
section
variable {L : Lk} {fz fz' : FZ} {ρ ρ' : RHO} {mh : MH} {s : Shared} {h h' : Heap} {A : Around} {k : Nat} {E : Value → Shared → Prop} {v u : Value} {V U W : MV} {X : List Addr} {a : Addr} {o : Obj}
theorem Apart.step (x : Apart fz ρ a) (e : h.get? a = some o) (st : Step X fz ρ h fz' ρ' h') : Apart fz' ρ' a := by
 refine ⟨?_,fun p hp => ?_⟩
 ·cases q : fz' a with
  | none => rfl
  | some o' =>
   rcases st.new _ _ q with r | r
   ·rw [x.1] at r; exact nO r
   ·rw [e] at r; exact nO r.symm
 ·obtain ⟨τ,e',ht⟩ := st.pre
  rw [e'] at hp
  rcases List.mem_append.mp hp with r | r
  ·exact x.2 p r
  ·have := ht p r
   exact ⟨fun q => (by rw [q,this.1] at e; exact nO e),fun q => (by rw [q,this.2] at e; exact nO e)⟩
theorem Apart.of_none (r : R L fz ρ mh h) (e : h.get? a = none) : Apart fz ρ a := ⟨r.none_of e,fun p hp => by
 obtain ⟨i,hi,rfl⟩ := List.mem_iff_getElem.mp hp
 have := r.apart_of e (List.getElem?_eq_getElem hi)
 exact ⟨this.1.symm,this.2.symm⟩⟩
theorem R.ext (r : R L fz ρ mh h) (x : Apart fz ρ a) (k : ∀ b o,b ≠ a → h.get? b = some o → h'.get? b = some o) : R L fz ρ mh h' := by
 refine ⟨r.base,fun b o e => k _ _ (fun q => ?_) (r.sub b o e),r.len,fun i m p e e' => (r.objs i m p e e').keep (k _ · ?_) (k _ · ?_) (fun O O e => e) (fun O O e => e),r.apart,r.dist⟩
 ·rw [q,x.1] at e; exact nO e
 ·exact (x.2 p (List.mem_of_getElem? e')).1.symm
 ·exact (x.2 p (List.mem_of_getElem? e')).2.symm
theorem Step.ext (x : a ∈ X) (k : ∀ b o,b ≠ a → h.get? b = some o → h'.get? b = some o) (d : ∃ o,h'.get? a = some o) : Step X fz ρ h fz ρ h' :=
 ⟨fun O O e => e,fun O O e => .inl e,⟨[],(List.append_nil _).symm,fun O e => nomatch e⟩,fun b o e O hx => k b o (fun q => hx (q ▸ x)) e,fun b e => by
  by_cases q : b = a
  ·obtain ⟨o,ho⟩ := d; rw [q,ho] at e; exact nO e.symm
  ·cases w : h.get? b with
   | none => rfl
   | some o => rw [k _ _ q w] at e; exact nO e.symm⟩
theorem Step.tick {h₀ : Heap} {fz₀ ρ₀} (st : Step X fz₀ ρ₀ h₀ fz ρ h) (n : h₀.get? a = none) (k : ∀ b o,b ≠ a → h.get? b = some o → h'.get? b = some o) : Step X fz₀ ρ₀ h₀ fz ρ h' :=
 ⟨st.mono,st.new,st.pre,fun b o e hn hx => k b o (fun q => by rw [q,n] at e; exact nO e) (st.keep b o e hn hx),fun b e => by
  by_cases q : b = a
  ·exact q ▸ n
  ·refine st.dom _ ?_
   cases w : h.get? b with
   | none => rfl
   | some o => rw [k _ _ q w] at e; exact nO e.symm⟩
structure EnvS (env : Env) (ns σ : Sig) : Prop where
 fn : env.scope.kind = .function
 glob : env.globals = mainGlobals
 blt : env.builtins = builtinsNs
 names : env.scope.names = ns
 kinds : ∀ (i : Nat) n k,σ[i]? = some (n,k) → ns.lookup n = some k ∧ (k = .local ∨ k = .cell) ∧ (n == ("__debug__" : Str)) = false
 nodup : (σ.map (·.1)).Nodup
 cellNe : ∀ n c,env.cells.lookup n = some c → c ≠ env.locals
 cellInj : ∀ n n' c,env.cells.lookup n = some c → env.cells.lookup n' = some c → n = n'
theorem EnvS.kind {env ns σ} (x : EnvS env ns σ) {n : Str} : env.kindOf n = ns.lookup n := by unfold Env.kindOf; rw [x.names]
noncomputable def frameOf (env : Env) : List Addr := env.locals :: env.cells.filterMap fun p => env.cells.lookup p.1
theorem frame_mem {env : Env} {a : Addr} (h : a ∈ frameOf env) : a = env.locals ∨ ∃ n,env.cells.lookup n = some a := by
 unfold frameOf at h
 rcases List.mem_cons.mp h with q | q
 ·exact .inl q
 ·obtain ⟨p,_,hp⟩ := List.mem_filterMap.mp q
  exact .inr ⟨p.1,hp⟩
theorem frame_cell {env : Env} {n : Str} {a : Addr} (h : env.cells.lookup n = some a) : a ∈ frameOf env := List.mem_cons_of_mem _ (List.mem_filterMap.mpr ⟨(n,a),mem_of_lookup h,h⟩)
structure EnvR (L : Lk) (fz : FZ) (ρ : RHO) (h : Heap) (env : Env) (σ : Sig) (vals : Vals) : Prop where
 len : vals.length = σ.length
 ns : ∃ m,h.Ns env.locals m ∧ ∀ (i : Nat) n V,σ[i]? = some (n,.local) → vals[i]? = some (some V) → ∃ v,m n = some v ∧ VR L fz ρ v V
 cells : ∀ (i : Nat) n,σ[i]? = some (n,.cell) → ∃ c o,env.cells.lookup n = some c ∧ h.IsCell c o ∧ Apart fz ρ c ∧ ∀ V,vals[i]? = some (some V) → ∃ v,o = some v ∧ VR L fz ρ v V
 apart : Apart fz ρ env.locals
 alive : ∀ n c,env.cells.lookup n = some c → (∃ o,h.get? c = some o) ∧ Apart fz ρ c
theorem alive_dom {h h' : Heap} (d : ∀ b,h'.get? b = none → h.get? b = none) {a : Addr} (e : ∃ o,h.get? a = some o) : ∃ o,h'.get? a = some o := by
 obtain ⟨o,ho⟩ := e
 cases q : h'.get? a with
 | none => rw [d _ q] at ho; exact nO ho
 | some o' => exact ⟨o',rfl⟩
theorem Apart.kept (x : Apart fz ρ a) (st : Step X fz ρ h fz' ρ' h') (hX : a ∉ X) : ∀ o,h.get? a = some o → h'.get? a = some o := fun o e => st.keep a o e (fun p hp => x.2 p hp) hX
theorem EnvR.step {env σ vals} (x : EnvR L fz ρ h env σ vals) (st : Step [] fz ρ h fz' ρ' h') : EnvR L fz' ρ' h' env σ vals := by
 obtain ⟨m,hm,hv⟩ := x.ns
 refine ⟨x.len,⟨m,hm.at' (x.apart.kept st (by simp)),fun i n V e e' => ?_⟩,fun i n e => ?_,?_,?_⟩
 ·obtain ⟨v,h1,h2⟩ := hv i n V e e'; exact ⟨v,h1,h2.step st⟩
 ·obtain ⟨c,o,h1,⟨oc,h2,h2'⟩,h3,h4⟩ := x.cells i n e
  refine ⟨c,o,h1,⟨oc,h3.kept st (by simp) _ h2,h2'⟩,h3.step h2 st,fun V e' => ?_⟩
  obtain ⟨v,h5,h6⟩ := h4 V e'; exact ⟨v,h5,h6.step st⟩
 ·obtain ⟨o,es,ep,ho,_⟩ := hm
  exact x.apart.step ho st
 ·intro n c e
  obtain ⟨⟨o,ho⟩,ap⟩ := x.alive n c e
  exact ⟨alive_dom st.dom ⟨o,ho⟩,ap.step ho st⟩
theorem name_slot {env : Env} {ns σ : Sig} {vals : Vals} {i : Nat} {n : Str} {kd : NameKind} {pos : Pos} {Q : Value → Shared → Prop} (S : EnvS env ns σ) (x : EnvR L fz ρ s.heap env σ vals) (e : σ[i]? = some (n,kd)) (ev : vals[i]? = some (some V))
  (h : ∀ v,VR L fz ρ v V → Q v s) : wpAny L.M A (eval (.Name n pos) env) Q E s := by
 obtain ⟨h1,h2,h3⟩ := S.kinds i n kd e
 refine wpAny_Name ?_ h3
 rcases h2 with rfl | rfl
 ·obtain ⟨m,hm,hv⟩ := x.ns
  obtain ⟨v,e1,e2⟩ := hv i n V e ev
  exact wpAny_loadName_local S.fn (S.kind.trans h1) hm e1 (h v e2)
 ·obtain ⟨c,o,e1,e2,_,e4⟩ := x.cells i n e
  obtain ⟨v,rfl,e5⟩ := e4 V ev
  exact wpAny_loadName_cell S.fn (S.kind.trans h1) e1 e2 (h v e5)
theorem name_glob {env : Env} {ns σ : Sig} {n : Str} {pos : Pos} {Q : Value → Shared → Prop} {w : Value} (S : EnvS env ns σ) (r : R L fz ρ mh s.heap) (hk : ns.lookup n = some .globalImplicit) (hd : (n == ("__debug__" : Str)) = false)
  (e : nsIn L.K mainGlobals n = some (some w)) (h : Q w s) : wpAny L.M A (eval (.Name n pos) env) Q E s := by
 refine Name_function_global S.fn (S.kind.trans hk) ?_ hd
 unfold loadGlobal
 rw [S.glob]
 refine wpAny_bind ((looks_nsIn r.inK e).here ?_)
 exact wpAny_pure h
theorem name_blt {env : Env} {ns σ : Sig} {n : Str} {pos : Pos} {Q : Value → Shared → Prop} {w : Value} (S : EnvS env ns σ) (r : R L fz ρ mh s.heap) (hk : ns.lookup n = some .globalImplicit) (hd : (n == ("__debug__" : Str)) = false)
  (e : nsIn L.K mainGlobals n = some none) (e' : Looks L.M s.heap (nsGet builtinsNs n) (some w)) (h : Q w s) : wpAny L.M A (eval (.Name n pos) env) Q E s := by
 refine Name_function_global S.fn (S.kind.trans hk) ?_ hd
 unfold loadGlobal
 rw [S.glob,S.blt]
 refine wpAny_bind ((looks_nsIn r.inK e).here ?_)
 refine wpAny_bind (e'.here ?_)
 exact wpAny_pure h
theorem store_slot {env : Env} {ns σ : Sig} {vals : Vals} {i : Nat} {n : Str} {kd : NameKind} {Q : Unit → Shared → Prop} (S : EnvS env ns σ) (r : R L fz ρ mh s.heap) (x : EnvR L fz ρ s.heap env σ vals) (e : σ[i]? = some (n,kd)) (hv : VR L fz ρ v V)
  (h : ∀ s',Same s s' → R L fz ρ mh s'.heap → Step (frameOf env) fz ρ s.heap fz ρ s'.heap → EnvR L fz ρ s'.heap env σ (vals.set i (some V)) → Q () s') : wpAny L.M A (storeName env n v) Q E s := by
 obtain ⟨h1,h2,h3⟩ := S.kinds i n kd e
 obtain ⟨m,hm,hmv⟩ := x.ns
 have hi : i < σ.length := (List.getElem?_eq_some_iff.mp e).1
 have hne : ∀ (j : Nat) n' k',σ[j]? = some (n',k') → j ≠ i → n' ≠ n := fun j n' k' e' hj q => by
  subst q
  have a1 : (σ.map (·.1))[j]? = some n' := by rw [List.getElem?_map,e']; rfl
  have a2 : (σ.map (·.1))[i]? = some n' := by rw [List.getElem?_map,e]; rfl
  obtain ⟨l1,q1⟩ := List.getElem?_eq_some_iff.mp a1
  obtain ⟨l2,q2⟩ := List.getElem?_eq_some_iff.mp a2
  exact hj (((List.getElem_inj S.nodup).mp (q1.trans q2.symm)))
 rcases h2 with rfl | rfl
 ·have hp : (env.scope.kind == .class || (env.scope.kind == .module && env.locals != env.globals)) = false := by rw [S.fn]; rfl
  rw [storeName_local (S.kind.trans h1) hp]
  refine wpAny_nsSet hm fun h' hN hS => ?_
  have ex := hS.extBut
  refine h _ ⟨_,_,rfl⟩ (r.ext x.apart ex) (.ext (List.mem_cons_self ..) ex (by obtain ⟨o,_,_,ho,_⟩ := hN; exact ⟨o,ho⟩)) ⟨by rw [List.length_set]; exact x.len,⟨_,hN,fun j n' V' e' ev => ?_⟩,fun j n' e' => ?_,x.apart,fun n c q => by
   obtain ⟨⟨o,ho⟩,ap⟩ := x.alive n c q
   exact ⟨⟨o,ex c o (S.cellNe _ _ q) ho⟩,ap⟩⟩
  ·by_cases hj : j = i
   ·subst hj
    rw [e] at e'; cases e'
    rw [List.getElem?_set_self (by rw [x.len]; exact hi)] at ev
    cases ev
    exact ⟨v,by simp,hv⟩
   ·rw [List.getElem?_set_ne (Ne.symm hj)] at ev
    obtain ⟨v',q1,q2⟩ := hmv j n' V' e' ev
    exact ⟨v',by rw [if_neg (hne j n' _ e' hj)]; exact q1,q2⟩
  ·obtain ⟨c,o,q1,q2,q3,q4⟩ := x.cells j n' e'
   have hj : j ≠ i := fun q => by rw [q,e] at e'; cases e'
   refine ⟨c,o,q1,q2.sameBut hS (S.cellNe _ _ q1),q3,fun V' ev => ?_⟩
   rw [List.getElem?_set_ne (Ne.symm hj)] at ev
   exact q4 V' ev
 ·obtain ⟨c,o,q1,q2,q3,q4⟩ := x.cells i n e
  refine wpAny_storeName_cell S.fn (S.kind.trans h1) q1 q2 fun h' hC hS => ?_
  have ex := hS.extBut
  have hcX : c ∈ frameOf env := frame_cell q1
  refine h _ ⟨_,s.toks,rfl⟩ (r.ext q3 ex) (.ext hcX ex (by obtain ⟨o,ho,_⟩ := hC; exact ⟨o,ho⟩)) ⟨by rw [List.length_set]; exact x.len,⟨m,hm.sameBut hS (Ne.symm (S.cellNe _ _ q1)),fun j n' V' e' ev => ?_⟩,fun j n' e' => ?_,x.apart,fun n' c' q => by
   by_cases hcc : c' = c
   ·subst hcc; obtain ⟨o,ho,_⟩ := hC; exact ⟨⟨o,ho⟩,q3⟩
   ·obtain ⟨⟨o,ho⟩,ap⟩ := x.alive n' c' q; exact ⟨⟨o,ex c' o hcc ho⟩,ap⟩⟩
  ·have hj : j ≠ i := fun q => by rw [q,e] at e'; cases e'
   rw [List.getElem?_set_ne (Ne.symm hj)] at ev
   exact hmv j n' V' e' ev
  ·by_cases hj : j = i
   ·subst hj
    rw [e] at e'; cases e'
    refine ⟨c,_,q1,hC,q3,fun V' ev => ?_⟩
    rw [List.getElem?_set_self (by rw [x.len]; exact hi)] at ev
    cases ev
    exact ⟨v,rfl,hv⟩
   ·obtain ⟨c',o',w1,w2,w3,w4⟩ := x.cells j n' e'
    have hcc : c' ≠ c := fun q => hne j n' _ e' hj (S.cellInj _ _ _ (q ▸ w1) q1)
    refine ⟨c',o',w1,w2.sameBut hS hcc,w3,fun V' ev => ?_⟩
    rw [List.getElem?_set_ne (Ne.symm hj)] at ev
    exact w4 V' ev
end
end
section
structure Cx where
 L : Lk
 T : Text
 C : Callee
 n : Nat
inductive PB (L : Lk) (fz : FZ) (ρ : RHO) (s : Shared) (b : Bool) (mh' : MH) (b' : Bool) (s' : Shared) : Prop where
 | mk (e : b' = b) (fz' : FZ) (ρ' : RHO) (g : Good L fz ρ s mh' fz' ρ' s')
inductive PLs (L : Lk) (fz : FZ) (ρ : RHO) (s : Shared) (Vs : List MV) (mh' : MH) (vs : List Value) (s' : Shared) : Prop where
 | mk (fz' : FZ) (ρ' : RHO) (g : Good L fz ρ s mh' fz' ρ' s') (h : VRL L fz' ρ' vs Vs)
noncomputable def OKE (c : Cx) (env : Env) (σ : Sig) (e : Expr) (me : ME) : Prop := ∀ {A : Around} {E : Value → Shared → Prop} {s : Shared} {fz : FZ} {ρ : RHO} {mh : MH} {vals : Vals} {V : MV} {mh' : MH},Room A (16 * c.n + 1) →
 R c.L fz ρ mh s.heap → EnvR c.L fz ρ s.heap env σ vals → evalE c.T c.C vals mh me = some (V,mh') → wpAny c.L.M A (eval e env) (PV c.L fz ρ s V mh') E s
noncomputable def OKT (c : Cx) (env : Env) (σ : Sig) (e : Expr) (me : ME) : Prop := ∀ {A : Around} {E : Value → Shared → Prop} {s : Shared} {fz : FZ} {ρ : RHO} {mh : MH} {vals : Vals} {b : Bool} {mh' : MH},Room A (16 * c.n + 1) →
 R c.L fz ρ mh s.heap → EnvR c.L fz ρ s.heap env σ vals → evalT c.T c.C vals mh me = some (b,mh') → wpAny c.L.M A (isTrue e env (eval e env)) (PB c.L fz ρ s b mh') E s
noncomputable def OKEs (c : Cx) (env : Env) (σ : Sig) (es : List Expr) (mes : List ME) : Prop := ∀ {A : Around} {E : Value → Shared → Prop} {s : Shared} {fz : FZ} {ρ : RHO} {mh : MH} {vals : Vals} {Vs : List MV} {mh' : MH},Room A (16 * c.n + 1) →
 R c.L fz ρ mh s.heap → EnvR c.L fz ρ s.heap env σ vals → evalEs c.T c.C vals mh mes = some (Vs,mh') → wpAny c.L.M A (spliced (es.map fun e => (false,eval e env))) (PLs c.L fz ρ s Vs mh') E s
section
variable {c : Cx} {env : Env} {ns σ : Sig} {L : Lk} {fz : FZ} {ρ : RHO} {mh mh' : MH} {s : Shared} {A : Around} {k : Nat} {E : Value → Shared → Prop} {v u : Value} {V U W : MV}
theorem wq {M : Model} {t : Sem Value} {s s' : Shared} {m1 : MH} (e : some (W,m1) = some (V,mh')) (h : wpAny M A t (PV L fz ρ s W m1) E s') : wpAny M A t (PV L fz ρ s V mh') E s' := by obtain ⟨rfl,rfl⟩ := sP e; exact h
theorem wqB {M : Model} {t : Sem Bool} {s s' : Shared} {m1 : MH} {b b' : Bool} (e : some (b',m1) = some (b,mh')) (h : wpAny M A t (PB L fz ρ s b' m1) E s') : wpAny M A t (PB L fz ρ s b mh') E s' := by obtain ⟨rfl,rfl⟩ := sP e; exact h
theorem PV.eq {v : Value} {s s' : Shared} {m1 : MH} (e : some (W,m1) = some (V,mh')) (h : PV L fz ρ s W m1 v s') : PV L fz ρ s V mh' v s' := by obtain ⟨rfl,rfl⟩ := sP e; exact h
theorem th {α : Type} {M : Model} {t : Sem α} {P Q : α → Shared → Prop} (h : wpAny M A t P E s) (k : ∀ a s',P a s' → Q a s') : wpAny M A t Q E s := wpAny_mono h k fun O O e => e
theorem oke_none {k pos} : OKE c env σ (.Constant .none k pos) .none := fun rm r x e => by dsimp only [evalE_none] at e; refine wq e ?_; exact wpAny_Constant_none (.here r (.none .nil))
theorem oke_bool {b k pos} : OKE c env σ (.Constant (.bool b) k pos) (.bool b) := fun rm r x e => by dsimp only [evalE_bool] at e; refine wq e ?_; exact wpAny_Constant_bool (.here r (.bool .nil))
theorem oke_int {i k pos} : OKE c env σ (.Constant (.int i) k pos) (.int i) := fun rm r x e => by dsimp only [evalE_int] at e; refine wq e ?_; exact wpAny_Constant_int (.tok r (.int .nil) _)
theorem oke_neg {i k pos pos'} : OKE c env σ (.UnaryOp .USub (.Constant (.int i) k pos) pos') (.int (-i)) := fun rm r x e => by
 dsimp only [evalE_int] at e; refine wq e ?_; exact wpAny_UnaryOp (wpAny_Constant_int (P.neg_int (.tok r (.int .nil) _)))
theorem oke_str {x k pos} (h : x.length ≤ LIM) : OKE c env σ (.Constant (.str (mkS x)) k pos) (.str x) := fun rm r O e => by dsimp only [evalE_str] at e; refine wq e ?_; exact wpAny_Constant_str (.tok r (.str h .nil) _)
theorem oke_bytes {b k pos} (h : b.length ≤ LIM) : OKE c env σ (.Constant (.bytes b) k pos) (.bytes b) := fun rm r O e => by dsimp only [evalE_bytes] at e; refine wq e ?_; exact Constant_bytes (.tok r (.bytes h .nil) _)
theorem oke_loc {i : Nat} {n kd pos} (S : EnvS env ns σ) (h : σ[i]? = some (n,kd)) : OKE c env σ (.Name n pos) (.loc i) := fun {A E s fz ρ mh vals V mh'} rm r x e => by
 dsimp only [evalE_loc] at e
 refine bo_of e fun w hw e => ?_
 refine wq e ?_
 exact name_slot S x h (Option.join_eq_some_iff.mp hw) fun v hv => .here r hv
theorem oke_glo {g : Nat} {n pos w} {V : MV} (S : EnvS env ns σ) (hk : ns.lookup n = some .globalImplicit) (hd : (n == ("__debug__" : Str)) = false) (hg : nsIn c.L.K mainGlobals n = some (some w)) (hv : c.T.vals[g]? = some V)
  (hr : VR c.L (fun a => c.L.K.lookup a) [] w V) : OKE c env σ (.Name n pos) (.glo g) := fun {A E s fz ρ mh vals V' mh'} rm r x e => by
 simp only [evalE_none,evalE_bool,evalE_int,evalE_str,evalE_bytes,evalE_loc,evalE_glo,evalE_tup,evalE_list,evalE_dict,evalE_bin,evalE_cmp,evalE_cmp2,evalE_call,evalE_callv,evalE_make,evalE_bcall,evalE_meth,evalE_bmeth,evalE_attr,evalE_sub,evalE_slice,evalE_comp,evalE_not,evalE_and,evalE_or,evalE_fail,hv] at e
 refine wq e ?_
 exact name_glob S r hk hd hg (.here r (hr.mono (fun a o q => r.base a o q) fun i p q => by simp at q))
theorem evalEs_nil {vals : Vals} {Vs : List MV} (e : evalEs c.T c.C vals mh [] = some (Vs,mh')) : Vs = [] ∧ mh' = mh := by
 simp only [evalEs_nil0,evalEs_cons0] at e; obtain ⟨rfl,rfl⟩ := sP e; exact ⟨rfl,rfl⟩
theorem okes_nil : OKEs c env σ [] [] := fun rm r x e => by
 obtain ⟨rfl,rfl⟩ := evalEs_nil e
 exact spliced_nil ⟨_,_,.refl r,.nil⟩
theorem okes_cons {e es me mes} (h : OKE c env σ e me) (hs : OKEs c env σ es mes) : OKEs c env σ (e :: es) (me :: mes) := fun {A E s fz ρ mh vals Vs mh'} rm r x q => by
 simp only [evalEs_nil0,evalEs_cons0] at q
 refine bd_of q fun v1 mh1 h1 q => ?_
 refine bd_of q fun vs2 mh2 h2 q => ?_
 obtain ⟨rfl,rfl⟩ := sP q
 exact spliced_cons (th (h rm r x h1) fun a s1 ⟨fz1,ρ1,g1,x1⟩ => th (hs rm g1.r (x.step g1.st) h2) fun as s2 ⟨fz2,ρ2,g2,x2⟩ => ⟨fz2,ρ2,g1.trans g2,(x1.step g2.st).cons x2⟩)
noncomputable def plainE : Expr → Bool
 | .Starred .. => false
 | _ => true
theorem starEach_plain : ∀ {es : List Expr},es.all plainE = true → starEach es env = es.map fun e => (false,eval e env)
 | [],_ => rfl
 | e :: r,h => by
  have h := Bool.and_eq_true_iff.mp h
  have st : starEach (e :: r) env = (false,eval e env) :: starEach r env := by
   induction e using PySem.Expr.casesOn with
   | Starred _ _ => exact fF' h.1
   | _ => rfl
  rw [st,starEach_plain h.2]; rfl
theorem backTo_plain {es : List Expr} {pos : Pos} : backTo pos (es.map fun e => (false,eval e env)) = es.map fun e => (false,eval e env) := by
 unfold backTo
 rw [List.map_map]
 rfl
theorem trees_plain {es : List Expr} {pos : Pos} (h : es.all plainE = true) : backTo pos (starEach es env) = es.map fun e => (false,eval e env) := by rw [starEach_plain h,backTo_plain]
theorem evalEs_len {vals : Vals} : ∀ {mes : List ME} {mh : MH} {vs : List MV} {mh1 : MH},evalEs c.T c.C vals mh mes = some (vs,mh1) → vs.length = mes.length
 | [],mh,vs,mh1,q => by obtain ⟨rfl,rfl⟩ := sP q; rfl
 | a :: r,mh,vs,mh1,q => bd_of q fun v1 m1 q1 q => bd_of q fun v2 m2 q2 q => by obtain ⟨rfl,rfl⟩ := sP q; exact congrArg (· + 1) (evalEs_len q2)
theorem oke_tup {es mes k pos} (hp : es.all plainE = true) (hl : mes.length ≤ 1000) (h : OKEs c env σ es mes) : OKE c env σ (.Tuple es k pos) (.tup mes) := fun {A E s fz ρ mh vals V mh'} rm r x e => by
 dsimp only [evalE_tup] at e
 refine bd_of e fun vs mh1 h1 e => ?_
 refine wq e ?_
 refine wpAny_Tuple ?_
 rw [trees_plain hp]
 refine th (h rm r x h1) fun as s1 ⟨fz1,ρ1,g1,x1⟩ => ?_
 have hvs : vs.length ≤ LIM := by rw [evalEs_len h1]; unfold LIM; lia
 exact ⟨by rw [x1.len]; exact limS hvs,.after g1 (.newTup g1.r x1 hvs)⟩
theorem oke_list {m : Bool} {es mes pos} (hp : es.all plainE = true) (hl : mes.length ≤ 1000) (h : OKEs c env σ es mes) : OKE c env σ (.List es pos) (.list m mes) := fun {A E s fz ρ mh vals V mh'} rm r x e => by
 dsimp only [evalE_list] at e
 refine bd_of e fun vs mh1 h1 e => ?_
 refine wpAny_List ?_
 rw [trees_plain hp]
 refine th (h rm r x h1) fun as s1 ⟨fz1,ρ1,g1,x1⟩ => ?_
 have hvs : vs.length ≤ LIM := by rw [evalEs_len h1]; unfold LIM; lia
 refine ⟨by rw [x1.len]; exact limS hvs,.after g1 (.newL (m := m) g1.r x1 ?_)⟩
 unfold Mn.newL
 rw [if_pos hvs]
 exact e
theorem oke_bin {m : Bool} {o l r' pos a b} (h1 : OKE c env σ l a) (h2 : OKE c env σ r' b) : OKE c env σ (.BinOp l o r' pos) (.bin m o a b) := fun {A E s fz ρ mh vals V mh'} rm r x e => by
 dsimp only [evalE_bin] at e
 refine bd_of e fun v1 mh1 e1 e => ?_
 refine bd_of e fun v2 mh2 e2 e => ?_
 exact wpAny_BinOp (th (h1 rm r x e1) fun _ s1 ⟨fz1,ρ1,g1,x1⟩ => th (h2 rm g1.r (x.step g1.st) e2) fun _ s2 ⟨fz2,ρ2,g2,x2⟩ => th (binV_ok rm g2.r (x1.step g2.st) x2 e) fun O s3 q => .after (g1.trans g2) q)
theorem oke_not {l pos a} (h1 : OKE c env σ l a) : OKE c env σ (.UnaryOp .Not l pos) (.not a) := fun {A E s fz ρ mh vals V mh'} rm r x e => by
 dsimp only [evalE_not] at e
 refine bd_of e fun v1 mh1 e1 e => ?_
 refine bo_of e fun b e2 e => ?_
 refine wq e ?_
 exact wpAny_UnaryOp (th (h1 rm r x e1) fun _ s1 ⟨fz1,ρ1,g1,x1⟩ => not_ok g1.r x1 e2 fun t => .after g1 (.tok g1.r (.bool .nil) t))
theorem oke_ite {t l r' pos mt a b} (h0 : OKT c env σ t mt) (h1 : OKE c env σ l a) (h2 : OKE c env σ r' b) : OKE c env σ (.IfExp t l r' pos) (.ite mt a b) := fun {A E s fz ρ mh vals V mh'} rm r x e => by
 simp only [evalE_ite] at e
 refine brB_of e (fun mh1 e1 e => ?_) fun mh1 e1 e => ?_
 ·exact wpAny_IfExp (th (h0 rm r x e1) fun _ s1 ⟨hb,fz1,ρ1,g1⟩ => by subst hb; exact th (h1 rm g1.r (x.step g1.st) e) fun O O q => .after g1 q)
 ·exact wpAny_IfExp (th (h0 rm r x e1) fun _ s1 ⟨hb,fz1,ρ1,g1⟩ => by subst hb; exact th (h2 rm g1.r (x.step g1.st) e) fun O O q => .after g1 q)
noncomputable def notSet : Expr → Bool
 | .Set .. => false
 | _ => true
theorem marks_no {o : CmpOp} {e : Expr} (h : notSet e = true) : behindInMarks o e = false := by induction e using PySem.Expr.casesOn <;> first | rfl | exact fF' h
theorem oke_cmp {o l r' pos a b} (hs : notSet r' = true) (h1 : OKE c env σ l a) (h2 : OKE c env σ r' b) : OKE c env σ (.Compare l [o] [r'] pos) (.cmp o a b) := fun {A E s fz ρ mh vals V mh'} rm r x e => by
 dsimp only [evalE_cmp] at e
 refine bd_of e fun v1 mh1 e1 e => ?_
 refine bd_of e fun v2 mh2 e2 e => ?_
 refine bo_of e fun b e3 e => ?_
 refine wq e ?_
 exact wpAny_Compare1 (th (h1 rm r x e1) fun _ s1 ⟨fz1,ρ1,g1,x1⟩ => th (h2 rm g1.r (x.step g1.st) e2) fun _ s2 ⟨fz2,ρ2,g2,x2⟩ =>
  cmpV_ok rm g2.r (x1.step g2.st) x2 e3 fun t => .after (g1.trans g2) (.tok g2.r (.bool .nil) t)) (marks_no hs)
theorem cmp2_ok {o p l m' r' a b d} {vals : Vals} {α : Type} {chain : Value → Sem α} {Q : α → Shared → Prop} (hs : notSet r' = true) (h1 : OKE c env σ l a) (h2 : OKE c env σ m' b) (h3 : OKE c env σ r' d) (rm : Room A (16 * c.n + 1))
  (r : R c.L fz ρ mh s.heap) (x : EnvR c.L fz ρ s.heap env σ vals) (e : evalE c.T c.C vals mh (.cmp2 o p a b d) = some (V,mh'))
  (hc : ∀ {s1 left},(wpAny c.L.M A (eval m' env) (fun rv s2 => wpAny c.L.M A (compareOp o left rv) (fun cv s3 => wpAny c.L.M A (truthy cv) (fun t s4 => if t = true then wpAny c.L.M A (eval r' env) (fun rv2 s5 => wpAny c.L.M A (compareOp p rv rv2) (fun cv2 s6 => ∃ b',cv2 = .bool b' ∧ ∃ fz' ρ',Good c.L fz ρ s mh' fz' ρ' s6 ∧ V = .bool b') E s5) E s4
    else (cv = .bool false ∧ V = .bool false ∧ ∃ fz' ρ',Good c.L fz ρ s mh' fz' ρ' s4)) E s3) E s2) E s1) → wpAny c.L.M A (chain left) Q E s1) :
  wpAny c.L.M A (eval l env >>= chain) Q E s := by
 dsimp only [evalE_cmp2] at e
 refine bd_of e fun v1 mh1 e1 e => ?_
 refine bd_of e fun v2 mh2 e2 e => ?_
 refine wpAny_bind (th (h1 rm r x e1) fun left s1 ⟨fz1,ρ1,g1,x1⟩ => hc (th (h2 rm g1.r (x.step g1.st) e2) fun rv s2 ⟨fz2,ρ2,g2,x2⟩ => ?_))
 refine bo_of e fun tt e3 e => cmpV_ok rm g2.r (x1.step g2.st) x2 e3 fun t => wpAny_truthy_bool ?_
 have g3 : Good c.L fz ρ s mh2 fz2 ρ2 { s2 with toks := t } := (g1.trans g2).trans (.tok g2.r t)
 refine cond_of e (fun ht e' => ?_) fun ht e' => ?_
 ·subst ht
  rw [if_pos rfl]
  refine bd_of e' fun v3 mh3 e4 e => ?_
  refine th (h3 rm g3.r ((x.step g1.st).step (g2.trans (.tok g2.r t)).st) e4) fun rv2 s5 ⟨fz4,ρ4,g4,x4⟩ => ?_
  refine bo_of e fun b e5 e => ?_
  obtain ⟨rfl,rfl⟩ := sP e
  exact cmpV_ok rm g4.r (x2.step g4.st) x4 e5 fun t' => ⟨b,rfl,_,_,(g3.trans g4).trans (.tok g4.r t'),rfl⟩
 ·subst ht
  obtain ⟨rfl,rfl⟩ := sP e'
  rw [if_neg Bool.false_ne_true]
  exact ⟨rfl,rfl,_,_,g3⟩
theorem marked2 {o p : CmpOp} {m' r' : Expr} (hs : notSet r' = true) : markedEach [o,p] [m',r'] (evalEach [m',r'] env) = [eval m' env,eval r' env] := by
 show [eval m' env,markedBehindIn p r' (eval r' env)] = _
 rw [markedBehindIn_of_false (marks_no hs)]
theorem wpAny_releasing {M : Model} {vs keep : List Value} {Q : Unit → Shared → Prop} (h : Q () s) : wpAny M A (release vs keep) Q E s := fun Γ p O => by rw [Sem.wp_release]; exact h
theorem oke_cmp2 {o p l m' r' pos a b d} (hs : notSet r' = true) (h1 : OKE c env σ l a) (h2 : OKE c env σ m' b) (h3 : OKE c env σ r' d) : OKE c env σ (.Compare l [o,p] [m',r'] pos) (.cmp2 o p a b d) := fun {A E s fz ρ mh vals V mh'} rm r x e => by
 show wpAny c.L.M A (eval l env >>= fun left => compareChain pos left [o,p] (markedEach [o,p] [m',r'] (evalEach [m',r'] env))) _ E s
 rw [marked2 hs]
 refine cmp2_ok hs h1 h2 h3 rm r x e fun {s1 left} h => ?_
 show wpAny c.L.M A (holding [left] (eval m' env) >>= fun rv => standAt pos >>= fun O => holding [left,rv] (compareOp o left rv) >>= fun cv => release [left,rv] [cv] >>= fun O => holding [cv,rv] (truthy cv) >>= fun t =>
  if t = true then compareChain pos rv [p] [eval r' env] else pure cv) _ E s1
 refine wpAny_bind (wpAny_holding (th h fun rv s2 h2' => wpAny_bind (wpAny_standAt (wpAny_bind (wpAny_holding (th h2' fun cv s3 h3' => wpAny_bind (wpAny_releasing (wpAny_bind (wpAny_holding (th h3' fun t s4 h4 => ?_))))))))))
 induction t using Bool.casesOn with
 | true =>
  rw [if_pos rfl] at h4 ⊢
  show wpAny c.L.M A (holding [rv] (eval r' env) >>= fun rv2 => standAt pos >>= fun O => operate [rv,rv2] (compareOp p rv rv2)) _ E s4
  refine wpAny_bind (wpAny_holding (th h4 fun rv2 s5 h5 => wpAny_bind (wpAny_standAt (wpAny_operateT (th h5 fun cv2 s6 ⟨b',q1,fz',ρ',q2,q3⟩ => ?_)))))
  subst q1; subst q3
  exact ⟨fz',ρ',q2,.bool .nil⟩
 | false =>
  rw [if_neg Bool.false_ne_true] at h4 ⊢
  obtain ⟨rfl,rfl,fz',ρ',q⟩ := h4
  exact wpAny_pure ⟨fz',ρ',q,.bool .nil⟩
theorem evalT_cmp2 {vals : Vals} {o p a b d} {bb : Bool} (e : evalT c.T c.C vals mh (.cmp2 o p a b d) = some (bb,mh')) : evalE c.T c.C vals mh (.cmp2 o p a b d) = some (.bool bb,mh') := by
 rw [evalT_value rfl] at e
 refine bd_of e fun w mh1 e1 e => ?_
 have hw : ∃ b',w = .bool b' := by
  dsimp only [evalE_cmp2] at e1
  refine bd_of e1 fun O O O e1 => bd_of e1 fun O O O e1 => bo_of e1 fun O O e1 => cond_of e1 (fun O e1 => bd_of e1 fun O O O e1 => bo_of e1 fun O O e1 => ?_) fun O e1 => ?_
  ·obtain ⟨rfl,rfl⟩ := sP e1; exact ⟨_,rfl⟩
  ·obtain ⟨rfl,rfl⟩ := sP e1; exact ⟨_,rfl⟩
 obtain ⟨b',rfl⟩ := hw
 obtain ⟨rfl,rfl⟩ := sP e
 exact e1
theorem okt_cmp2 {o p l m' r' pos a b d} (hs : notSet r' = true) (h1 : OKE c env σ l a) (h2 : OKE c env σ m' b) (h3 : OKE c env σ r' d) : OKT c env σ (.Compare l [o,p] [m',r'] pos) (.cmp2 o p a b d) := fun {A E s fz ρ mh vals bb mh'} rm r x e => by
 replace e := evalT_cmp2 e
 rw [arm_isTrue_Compare,marked2 hs]
 refine cmp2_ok hs h1 h2 h3 rm r x e fun {s1 left} h => ?_
 show wpAny c.L.M A (holding [left] (eval m' env) >>= fun rv => standAt pos >>= fun O => holding [left,rv] (compareOp o left rv) >>= fun cv => release [left,rv] [cv] >>= fun O => holding [cv,rv] (truthy cv) >>= fun t =>
  if t = true then testChain pos rv [p] [eval r' env] else pure false) _ E s1
 refine wpAny_bind (wpAny_holding (th h fun rv s2 h2' => wpAny_bind (wpAny_standAt (wpAny_bind (wpAny_holding (th h2' fun cv s3 h3' => wpAny_bind (wpAny_releasing (wpAny_bind (wpAny_holding (th h3' fun t s4 h4 => ?_))))))))))
 induction t using Bool.casesOn with
 | true =>
  rw [if_pos rfl] at h4 ⊢
  show wpAny c.L.M A (holding [rv] (eval r' env) >>= fun rv2 => standAt pos >>= fun O => operate [rv,rv2] (compareOp p rv rv2) >>= fun cv2 => holding [cv2] (truthy cv2)) _ E s4
  refine wpAny_bind (wpAny_holding (th h4 fun rv2 s5 h5 => wpAny_bind (wpAny_standAt (wpAny_bind (wpAny_operateT (th h5 fun cv2 s6 ⟨b',q1,fz',ρ',q2,q3⟩ => ?_))))))
  subst q1; cases q3
  exact wpAny_holding (wpAny_truthy_bool ⟨rfl,fz',ρ',q2⟩)
 | false =>
  rw [if_neg Bool.false_ne_true] at h4 ⊢
  obtain ⟨rfl,q1,fz',ρ',q⟩ := h4
  cases q1
  exact wpAny_pure ⟨rfl,fz',ρ',q⟩
end
end
section
noncomputable def opT (c : Cx) (op : BoolOp) (vals : Vals) (mh : MH) (mes : List ME) : Option (Bool × MH) := match op with
 | .And => allT c.T c.C vals mh mes
 | .Or => anyT c.T c.C vals mh mes
noncomputable def opV (c : Cx) (op : BoolOp) (vals : Vals) (mh : MH) (mes : List ME) : Option (MV × MH) := match op with
 | .And => evalAnd c.T c.C vals mh mes
 | .Or => evalOr c.T c.C vals mh mes
noncomputable def OKA (c : Cx) (env : Env) (σ : Sig) (op : BoolOp) (es : List Expr) (mes : List ME) : Prop := ∀ {A : Around} {E : Value → Shared → Prop} {s : Shared} {fz : FZ} {ρ : RHO} {mh : MH} {vals : Vals} {b : Bool} {mh' : MH},Room A (16 * c.n + 1) →
 R c.L fz ρ mh s.heap → EnvR c.L fz ρ s.heap env σ vals → opT c op vals mh mes = some (b,mh') → wpAny c.L.M A (allTrue op es env) (PB c.L fz ρ s b mh') E s
noncomputable def OKB (c : Cx) (env : Env) (σ : Sig) (op : BoolOp) (es : List Expr) (mes : List ME) : Prop := ∀ {A : Around} {E : Value → Shared → Prop} {s : Shared} {fz : FZ} {ρ : RHO} {mh : MH} {vals : Vals} {V : MV} {mh' : MH} {pos : Pos},Room A (16 * c.n + 1) →
 R c.L fz ρ mh s.heap → EnvR c.L fz ρ s.heap env σ vals → opV c op vals mh mes = some (V,mh') → wpAny c.L.M A (eval (.BoolOp op es pos) env) (PV c.L fz ρ s V mh') E s
section
variable {c : Cx} {env : Env} {ns σ : Sig} {L : Lk} {fz : FZ} {ρ : RHO} {mh mh' : MH} {s : Shared} {A : Around} {k : Nat} {E : Value → Shared → Prop} {v u : Value} {V U W : MV}
theorem PB.after {fz₁ ρ₁ s₁ mh₁ s₂} {b b' : Bool} (g : Good L fz ρ s mh₁ fz₁ ρ₁ s₁) (x : PB L fz₁ ρ₁ s₁ b mh' b' s₂) : PB L fz ρ s b mh' b' s₂ := by
 obtain ⟨q,fz',ρ',g'⟩ := x; exact ⟨q,fz',ρ',g.trans g'⟩
theorem okt_not {l pos a} (h : OKT c env σ l a) : OKT c env σ (.UnaryOp .Not l pos) (.not a) := fun {A E s fz ρ mh vals b mh'} rm r x e => by
 rw [evalT_not] at e
 refine bd_of e fun b1 mh1 e1 e => wqB e ?_
 exact wpAny_isTrue_Not (th (h rm r x e1) fun _ s1 ⟨hb,_,_,q⟩ => ⟨congrArg not hb,_,_,q⟩)
theorem okt_ite {t l r' pos mt a b} (h0 : OKT c env σ t mt) (h1 : OKT c env σ l a) (h2 : OKT c env σ r' b) : OKT c env σ (.IfExp t l r' pos) (.ite mt a b) := fun {A E s fz ρ mh vals bb mh'} rm r x e => by
 rw [evalT_ite] at e
 rw [arm_isTrue_IfExp]
 refine brB_of e (fun mh1 e1 e => ?_) fun mh1 e1 e => ?_
 ·refine wpAny_bind (th (h0 rm r x e1) fun b0 s1 ⟨hb,fz1,ρ1,g1⟩ => ?_)
  subst hb
  exact th (h1 rm g1.r (x.step g1.st) e) fun O O q => .after g1 q
 ·refine wpAny_bind (th (h0 rm r x e1) fun b0 s1 ⟨hb,fz1,ρ1,g1⟩ => ?_)
  subst hb
  exact th (h2 rm g1.r (x.step g1.st) e) fun O O q => .after g1 q
theorem oka_nil_and : OKA c env σ .And [] [] := fun {A E s fz ρ mh vals bb mh'} rm r x e => wqB e (wpAny_allTrue_And_nil ⟨rfl,_,_,.refl r⟩)
theorem oka_nil_or : OKA c env σ .Or [] [] := fun {A E s fz ρ mh vals bb mh'} rm r x e => wqB e (wpAny_allTrue_Or_nil ⟨rfl,_,_,.refl r⟩)
theorem oka_cons_and {e es me mes} (h : OKT c env σ e me) (hs : OKA c env σ .And es mes) : OKA c env σ .And (e :: es) (me :: mes) := fun {A E s fz ρ mh vals bb mh'} rm r x q => by
 refine brB_of (allT_cons.symm.trans q) (fun mh1 e1 q => ?_) fun mh1 e1 q => ?_
 ·refine wpAny_allTrue_And_cons (th (h rm r x e1) fun b0 s1 ⟨hb,fz1,ρ1,g1⟩ => ?_)
  subst hb
  exact th (hs rm g1.r (x.step g1.st) q) fun O O q => .after g1 q
 ·refine wqB q (wpAny_allTrue_And_cons (th (h rm r x e1) fun b0 s1 ⟨hb,fz1,ρ1,g1⟩ => ?_))
  subst hb
  exact ⟨rfl,fz1,ρ1,g1⟩
theorem oka_cons_or {e es me mes} (h : OKT c env σ e me) (hs : OKA c env σ .Or es mes) : OKA c env σ .Or (e :: es) (me :: mes) := fun {A E s fz ρ mh vals bb mh'} rm r x q => by
 refine brB_of (anyT_cons.symm.trans q) (fun mh1 e1 q => ?_) fun mh1 e1 q => ?_
 ·refine wqB q (wpAny_allTrue_Or_cons (th (h rm r x e1) fun b0 s1 ⟨hb,fz1,ρ1,g1⟩ => ?_))
  subst hb
  exact ⟨rfl,fz1,ρ1,g1⟩
 ·refine wpAny_allTrue_Or_cons (th (h rm r x e1) fun b0 s1 ⟨hb,fz1,ρ1,g1⟩ => ?_)
  subst hb
  exact th (hs rm g1.r (x.step g1.st) q) fun O O q => .after g1 q
theorem okt_and {es mes pos} (h : OKA c env σ .And es mes) : OKT c env σ (.BoolOp .And es pos) (.and mes) := fun {A E s fz ρ mh vals bb mh'} rm r x e => by
 rw [evalT_and] at e
 exact wpAny_isTrue_BoolOp (h rm r x e)
theorem okt_or {es mes pos} (h : OKA c env σ .Or es mes) : OKT c env σ (.BoolOp .Or es pos) (.or mes) := fun {A E s fz ρ mh vals bb mh'} rm r x e => by
 rw [evalT_or] at e
 exact wpAny_isTrue_BoolOp (h rm r x e)
theorem okt_cmp {o l r' pos a b} (hs : notSet r' = true) (h1 : OKE c env σ l a) (h2 : OKE c env σ r' b) : OKT c env σ (.Compare l [o] [r'] pos) (.cmp o a b) := fun {A E s fz ρ mh vals bb mh'} rm r x e => by
 rw [evalT_value rfl] at e
 refine bd_of e fun w mhw e0 e => ?_
 dsimp only [evalE_cmp] at e0
 refine bd_of e0 fun v1 mh1 e1 e0 => ?_
 refine bd_of e0 fun v2 mh2 e2 e0 => ?_
 refine bo_of e0 fun b e3 e0 => ?_
 obtain ⟨rfl,rfl⟩ := sP e0
 obtain ⟨rfl,rfl⟩ := sP e
 exact wpAny_isTrue_Compare1 (th (h1 rm r x e1) fun _ s1 ⟨fz1,ρ1,g1,x1⟩ => th (h2 rm g1.r (x.step g1.st) e2) fun _ s2 ⟨fz2,ρ2,g2,x2⟩ =>
  cmpV_ok rm g2.r (x1.step g2.st) x2 e3 fun t => wpAny_truthy_bool ⟨rfl,_,_,(g1.trans g2).trans (.tok g2.r t)⟩) (marks_no hs)
noncomputable def valueT : Expr → Bool
 | .UnaryOp .Not .. => false
 | .BoolOp .. => false
 | .IfExp .. => false
 | .Compare .. => false
 | _ => true
set_option tactic.hygienic true in
theorem isTrue_value {e : Expr} {whole : Sem Value} (h : valueT e = true) : isTrue e env whole = (do let v ← whole; standAt e.pos; holding [v] (truthy v)) := by
 induction e using PySem.Expr.casesOn <;> first | rfl | exact fF' h | skip
 rename_i op x pos
 induction op using PySem.UnaryOp.casesOn <;> first | rfl | exact fF' h
theorem okt_value {e me} (he : valueT e = true) (hm : valueM me = true) (h : OKE c env σ e me) : OKT c env σ e me := fun {A E s fz ρ mh vals bb mh'} rm r x q => by
 rw [evalT_value hm] at q
 refine bd_of q fun w mh1 e1 q => ?_
 refine bo_of q fun b e2 q => ?_
 obtain ⟨rfl,rfl⟩ := sP q
 refine wpAny_isTrue_value (th (h rm r x e1) fun _ s1 ⟨fz1,ρ1,g1,x1⟩ => truthy_ok g1.r x1 e2 fun t => ⟨rfl,_,_,g1.trans (.tok g1.r t)⟩) (isTrue_value he)
theorem okb_one {op e me} (h : OKE c env σ e me) : OKB c env σ op [e] [me] := fun {A E s fz ρ mh vals V mh' pos} rm r x q => by
 refine BoolOp_one (h rm r x ?_)
 induction op using PySem.BoolOp.casesOn <;> exact q
theorem okb_and {e e2 es me me2 mes} (h : OKE c env σ e me) (hs : OKB c env σ .And (e2 :: es) (me2 :: mes)) : OKB c env σ .And (e :: e2 :: es) (me :: me2 :: mes) := fun {A E s fz ρ mh vals V mh' pos} rm r x q => by
 refine bd_of (evalAnd_cons.symm.trans q) fun w mh1 e1 q => ?_
 refine BoolOp_and (th (h rm r x e1) fun v1 s1 ⟨fz1,ρ1,g1,x1⟩ => ?_)
 refine bo_of q fun t0 e3 q => truthy_ok g1.r x1 e3 fun t => ?_
 have g := g1.trans (.tok g1.r t)
 induction t0 using Bool.casesOn with
 | true => exact th (hs rm g.r (x.step g.st) q) fun O O z => .after g z
 | false => exact .eq q (.after g1 (.tok g1.r x1 t))
theorem okb_or {e e2 es me me2 mes} (h : OKE c env σ e me) (hs : OKB c env σ .Or (e2 :: es) (me2 :: mes)) : OKB c env σ .Or (e :: e2 :: es) (me :: me2 :: mes) := fun {A E s fz ρ mh vals V mh' pos} rm r x q => by
 refine bd_of (evalOr_cons.symm.trans q) fun w mh1 e1 q => ?_
 refine BoolOp_or (th (h rm r x e1) fun v1 s1 ⟨fz1,ρ1,g1,x1⟩ => ?_)
 refine bo_of q fun t0 e3 q => truthy_ok g1.r x1 e3 fun t => ?_
 have g := g1.trans (.tok g1.r t)
 induction t0 using Bool.casesOn with
 | true => exact .eq q (.after g1 (.tok g1.r x1 t))
 | false => exact th (hs rm g.r (x.step g.st) q) fun O O z => .after g z
theorem oke_and {es mes pos} (h : OKB c env σ .And es mes) : OKE c env σ (.BoolOp .And es pos) (.and mes) := fun {A E s fz ρ mh vals V mh'} rm r x e => h rm r x e
theorem oke_or {es mes pos} (h : OKB c env σ .Or es mes) : OKE c env σ (.BoolOp .Or es pos) (.or mes) := fun {A E s fz ρ mh vals V mh'} rm r x e => h rm r x e
noncomputable def notSuper : Expr → Bool
 | .Call (.Name id _) [] [] _ => id != ("super" : Str)
 | _ => true
theorem base_plain {o : Expr} {attr : Str} {whole : Sem Value} (h : notSuper o = true) : attributeBase o attr env whole = whole := by
 induction o using PySem.Expr.casesOn with
 | Call f args kws pos =>
  induction f using PySem.Expr.casesOn with
  | Name id p =>
   induction args using List.casesOn with
   | nil => induction kws using List.casesOn with
    | nil => exact if_pos (by rw [show (id != ("super" : Str)) = true from h]; rfl)
    | cons _ _ => rfl
   | cons _ _ => rfl
  | _ => rfl
 | _ => rfl
structure TextOK (L : Lk) (T : Text) : Prop where
 attr : ∀ (k : Nat) r a,T.cls[k]? = some r → r.data.contains a = true → ClsFacts L k a
 meth : ∀ (k : Nat) r m f,T.cls[k]? = some r → r.meths.lookup m = some f → clsOk L.K (L.clsA k) = true ∧ findIn L.K (.ref (L.clsA k)) (L.nm m) = some (some (.ref (L.fnA f))) ∧ typeIn L.K (.ref (L.fnA f)) = some (.type "function") ∧ keepIn L.K (.ref (L.fnA f)) = true
 keep : ∀ (f : Nat) r,T.fns[f]? = some r → keepIn L.K (.ref (L.fnA f)) = true
set_option tactic.hygienic true in
theorem clsV_ins {V : MV} : clsV mh V = (insV mh V).map fun x => (x.1,x.2.1) := by
 unfold clsV insV
 induction V using MV.casesOn <;> try rfl
 rename_i i
 dsimp only
 cases h : mh[i]? with
 | none => rfl
 | some m => induction m using MO.casesOn <;> rfl
theorem dataOk_facts {T : Text} {a : Nat} (H : TextOK L T) (e : dataOk T mh V a = true) : ∀ k as vs,insV mh V = some (k,as,vs) → ClsFacts L k a := fun k as vs h => by
 unfold dataOk at e
 rw [clsV_ins,h] at e
 simp only [Option.map_some] at e
 refine byP fun G kG => ?_
 generalize hr : T.cls[k]? = x at e
 induction x using Option.casesOn with
 | none => exact fF' e
 | some r => exact kG (H.attr k r a hr e)
theorem oke_attr {o pos me a} {n : Str} (H : TextOK c.L c.T) (hn : n = c.L.nm a) (hb : notSuper o = true) (h : OKE c env σ o me) : OKE c env σ (.Attribute o n pos) (.attr me a) := fun {A E s fz ρ mh vals V mh'} rm r x e => by
 subst hn
 dsimp only [evalE_attr] at e
 refine bd_of e fun w mh1 e1 e => ?_
 refine if_of e fun hd e => ?_
 refine bo_of e fun z e2 e => ?_
 refine wq e ?_
 show wpAny c.L.M A (attributeBase o (c.L.nm a) env (eval o env) >>= fun ov => standAt pos.atName >>= fun O => holding [ov] (getAttr ov (c.L.nm a) true) >>= fun rr => letTemporaryGo o ov rr >>= fun O => pure rr) _ E s
 rw [base_plain hb]
 refine wpAny_bind (th (h rm r x e1) fun ov s1 ⟨fz1,ρ1,g1,x1⟩ => wpAny_bind (wpAny_standAt (wpAny_bind (wpAny_holding (th (attr_ok g1.r x1 e2 (dataOk_facts H hd)) fun rr s2 z => wpAny_bind (wpAny_letTemporaryGo (wpAny_pure (.after g1 z))))))))
theorem oke_sub {o i pos mo mi} (h1 : OKE c env σ o mo) (h2 : OKE c env σ i mi) : OKE c env σ (.Subscript o i pos) (.sub mo mi) := fun {A E s fz ρ mh vals V mh'} rm r x e => by
 dsimp only [evalE_sub] at e
 refine bd_of e fun w mh1 e1 e => ?_
 refine bd_of e fun w2 mh2 e2 e => ?_
 refine bo_of e fun z e3 e => ?_
 refine wq e ?_
 exact Subscript_ (th (h1 rm r x e1) fun ov s1 ⟨fz1,ρ1,g1,x1⟩ => th (h2 rm g1.r (x.step g1.st) e2) fun iv s2 ⟨fz2,ρ2,g2,x2⟩ => th (item_ok g2.r (x1.step g2.st) x2 e3) fun O O q => .after (g1.trans g2) q)
noncomputable def OKP (c : Cx) (env : Env) (σ : Sig) (e : Option Expr) (me : ME) : Prop := match e with
 | none => me = .none
 | some e => OKE c env σ e me
theorem okp_eval {e me} {vals : Vals} (h : OKP c env σ e me) (rm : Room A (16 * c.n + 1)) (r : R c.L fz ρ mh s.heap) (x : EnvR c.L fz ρ s.heap env σ vals) (q : evalE c.T c.C vals mh me = some (V,mh')) : wpAny c.L.M A (evalPart e env) (PV c.L fz ρ s V mh') E s := by
 induction e using Option.casesOn with
 | none =>
  have : me = .none := h
  subst this
  dsimp only [evalE_none] at q
  obtain ⟨rfl,rfl⟩ := sP q
  exact wpAny_pure (.here r (.none .nil))
 | some e => exact h rm r x q
theorem oke_slice {m : Bool} {o lo hi p pos mo mlo mhi} (h1 : OKE c env σ o mo) (h2 : OKP c env σ lo mlo) (h3 : OKP c env σ hi mhi) : OKE c env σ (.Subscript o (.Slice lo hi none p) pos) (.slice m mo mlo mhi) := fun {A E s fz ρ mh vals V mh'} rm r x e => by
 dsimp only [evalE_slice] at e
 refine bd_of e fun w mh1 e1 e => ?_
 refine bd_of e fun w2 mh2 e2 e => ?_
 refine bd_of e fun w3 mh3 e3 e => ?_
 refine Subscript_ (th (h1 rm r x e1) fun ov s1 ⟨fz1,ρ1,g1,x1⟩ => wpAny_Slice (th (okp_eval h2 rm g1.r (x.step g1.st) e2) fun lv s2 ⟨fz2,ρ2,g2,x2⟩ =>
  th (okp_eval h3 rm g2.r ((x.step g1.st).step g2.st) e3) fun hv s3 ⟨fz3,ρ3,g3,x3⟩ => wpAny_pure ?_))
 exact th (slice_ok g3.r ((x1.step g2.st).step g3.st) (x2.step g3.st) x3 e) fun O O q => .after ((g1.trans g2).trans g3) q
theorem any_plain {es : List Expr} : (es.map fun e => ((false,eval e env) : Bool × Sem Value)).any (·.1) = false := by
 induction es with
 | nil => rfl
 | cons a r ih => rw [List.map_cons,List.any_cons,ih]; rfl
theorem evalArgs_all {M : Model} {f : Value} {es : List Expr} {Q : Args → Shared → Prop} (h : wpAny M A (spliced (es.map fun e => (false,eval e env))) (fun vs s' => Q ⟨vs,[]⟩ s') E s) : wpAny M A (evalArgs f true (es.map fun e => (false,eval e env)) []) Q E s := by
 induction es using List.casesOn with
 | nil =>
  intro Γ p hΓ
  exact evalArgs_nil3 (Q := Q) (h Γ p hΓ) Γ p hΓ
 | cons e r => exact evalArgs_plain h
theorem callW {es : List Expr} {pos : Pos} {f : Value} {first : List Value} {Q : Value → Shared → Prop} (hk : keepIn L.K f = true) (hp : es.all plainE = true)
  (h : wpAny L.M A (spliced (es.map fun e => (false,eval e env))) (fun vs s1 => L.K.In s1.heap ∧ wpAny L.M A (call f (first ++ vs)) Q E s1) E s) : wpAny L.M A (callWith pos f first (backTo pos (starEach es env)) (backToKw pos (keywordEach [] env))) Q E s := by
 show wpAny L.M A (callWith pos f first (backTo pos (starEach es env)) []) Q E s
 rw [trees_plain hp]
 exact callWith_of (P := L.K.In) (by rw [any_plain]; rfl) (keeps_K hk) (evalArgs_all h)
theorem callWB {es : List Expr} {pos : Pos} {id : String} {first : List Value} {Q : Value → Shared → Prop} (hp : es.all plainE = true)
  (h : wpAny L.M A (spliced (es.map fun e => (false,eval e env))) (fun vs s1 => wpAny L.M A (call (.builtin id) (first ++ vs)) Q E s1) E s) : wpAny L.M A (callWith pos (.builtin id) first (backTo pos (starEach es env)) (backToKw pos (keywordEach [] env))) Q E s := by
 show wpAny L.M A (callWith pos (.builtin id) first (backTo pos (starEach es env)) []) Q E s
 rw [trees_plain hp]
 exact callWith_builtin any_plain (evalArgs_all h)
theorem callWT {es : List Expr} {pos : Pos} {T : String} {first : List Value} {Q : Value → Shared → Prop} (hp : es.all plainE = true)
  (h : wpAny L.M A (spliced (es.map fun e => (false,eval e env))) (fun vs s1 => wpAny L.M A (call (.type T) (first ++ vs)) Q E s1) E s) : wpAny L.M A (callWith pos (.type T) first (backTo pos (starEach es env)) (backToKw pos (keywordEach [] env))) Q E s := by
 show wpAny L.M A (callWith pos (.type T) first (backTo pos (starEach es env)) []) Q E s
 rw [trees_plain hp]
 exact PySem.callWith_type any_plain (evalArgs_all h)
structure BltOK (L : Lk) : Prop where
 none : ∀ b,nsIn L.K mainGlobals (biN b) = some none
 val : ∀ b h,L.K.In h → Looks L.M h (nsGet builtinsNs (biN b)) (some (biV b))
 rangeN : nsIn L.K mainGlobals "range" = some Option.none
 rangeV : ∀ h,L.K.In h → Looks L.M h (nsGet builtinsNs "range") (some (.type "range"))
 enumN : nsIn L.K mainGlobals "enumerate" = some Option.none
 enumV : ∀ h,L.K.In h → Looks L.M h (nsGet builtinsNs "enumerate") (some (.type "enumerate"))
theorem biN_dbg (b : BI) : (biN b == ("__debug__" : Str)) = false := by induction b using BI.casesOn <;> decide +kernel
theorem oke_bcall {b : BI} {es mes p pos} (S : EnvS env ns σ) (B : BltOK c.L) (hk : ns.lookup (biN b) = some .globalImplicit) (hp : es.all plainE = true) (h : OKEs c env σ es mes) : OKE c env σ (.Call (.Name (biN b) p) es [] pos) (.bcall b mes) := fun {A E s fz ρ mh vals V mh'} rm r x e => by
 dsimp only [evalE_bcall] at e
 refine bd_of e fun vs mh1 e1 e => ?_
 refine bo_of e fun w e2 e => ?_
 refine wq e ?_
 refine wpAny_Call_Name_kw (name_blt S r hk (biN_dbg b) (B.none b) (B.val b _ r.inK) ?_)
 have key : wpAny c.L.M A (spliced (es.map fun e => (false,eval e env))) (fun vs s1 => wpAny c.L.M A (call (biV b) ([] ++ vs)) (PV c.L fz ρ s w mh1) E s1) E s :=
  th (h rm r x e1) fun as s1 ⟨fz1,ρ1,g1,x1⟩ => th (bcall_ok rm g1.r x1 e2) fun O O q => .after g1 q
 induction b using BI.casesOn <;> first | exact callWB hp key | exact callWT hp key
theorem methW {o : Expr} {name : Str} {es : List Expr} {apos pos : Pos} {Q : Value → Shared → Prop} (hb : notSuper o = true) (hn : es.length < 30) (hp : es.all plainE = true) (hl : (apos.endLine == pos.line) = true)
  (h : wpAny L.M A (eval o env) (fun ov s1 => ∀ pl,wpAny L.M A (getMethod ov name pl) (fun fx s2 => wpAny L.M A (callWith pos fx.1 fx.2 (backTo pos (starEach es env)) (backToKw pos (keywordEach [] env))) Q E s2) E s1) E s) :
  wpAny L.M A (eval (.Call (.Attribute o name apos) es [] pos) env) Q E s := by
 rw [arm_eval_Call,base_plain hb]
 refine wpAny_bind (th h fun ov s1 h1 => wpAny_bind (wpAny_standAt ?_))
 have hform : methodCallForm (es.length + ([] : List Keyword).length) (backTo pos (starEach es env)) (backToKw pos (keywordEach [] env)) = true := by
  rw [trees_plain hp]
  have h1 : ((es.map fun e => ((false,eval e env) : Bool × Sem Value)).all fun x => !x.1) = true := by
   clear hp hn h h1
   induction es with
   | nil => rfl
   | cons a r ih => rw [List.map_cons,List.all_cons,ih]; rfl
  unfold methodCallForm
  rw [h1]
  show (true && true && decide (es.length + 0 + 0 < 30)) = true
  simpa using hn
 unfold methodCall
 rw [hform]
 refine wpAny_bind (wpAny_holding ?_)
 unfold calleeOf
 rw [if_pos rfl]
 refine th (h1 _) fun fx s2 h2 => ?_
 have hpos : methodCallPos true o env apos pos = pure pos := by unfold methodCallPos; simp [hl]
 exact wpAny_bind (wpAny_of_eq hpos h2)
theorem oke_bmeth {m : BM} {o : Expr} {es mo mes apos pos} {n : Str} (hnm : n = bmN m) (hb : notSuper o = true) (hn : es.length < 30) (hp : es.all plainE = true) (hl : (apos.endLine == pos.line) = true) (h0 : OKE c env σ o mo) (h : OKEs c env σ es mes) :
  OKE c env σ (.Call (.Attribute o n apos) es [] pos) (.bmeth mo m mes) := fun {A E s fz ρ mh vals V mh'} rm r x e => by
 subst hnm
 dsimp only [evalE_bmeth] at e
 refine bd_of e fun w mh1 e1 e => ?_
 refine if_of e fun hok e => ?_
 refine bd_of e fun vs mh2 e2 e => ?_
 refine methW hb hn hp hl (th (h0 rm r x e1) fun ov s1 ⟨fz1,ρ1,g1,x1⟩ pl => bmGet g1.r x1 hok ?_)
 refine callWB hp (th (h rm g1.r (x.step g1.st) e2) fun as s2 ⟨fz2,ρ2,g2,x2⟩ => th (bmeth_ok rm g2.r (x1.step g2.st) x2 e) fun O O q => .after (g1.trans g2) q)
noncomputable def SoundC (L : Lk) (C : Callee) (n : Nat) : Prop := ∀ {A : Around} {s : Shared} {f : Nat} {vs : List Value} {Vs : List MV} {fz : FZ} {ρ : RHO} {mh mh' : MH} {V : MV},Room A (16 * n) → R L fz ρ mh s.heap → VRL L fz ρ vs Vs → C f Vs mh = some (V,mh') →
 codeAny L.M A (.call (.ref (L.fnA f)) ⟨vs,[]⟩) (fun r s' => ∃ v,r = .ok (.ret v) ∧ PV L fz ρ s V mh' v s') s
theorem VD.closed {v : Value} {V : MV} {xs : List Value} {l : List MV} (h : VD L fz v xs l V) (e : cB V = true) : cL l = true := by
 induction V using MV.casesOn with
 | tup k => exact h.1 ▸ e
 | lst k => exact h.1 ▸ e
 | dct ks k => exact h.1 ▸ e
 | ins c as k => exact h.1 ▸ e
 | _ => exact h.elim
theorem closed_vr {vs : List Value} {Vs : List MV} (h : VRL L fz ρ vs Vs) : cL Vs = true → VRL L fz [] vs Vs := by
 have cons2 : ∀ {V : MV} {Vs : List MV},cL (V :: Vs) = true → cB V = true ∧ cL Vs = true := fun h => Bool.and_eq_true_iff.mp h
 induction h with
 | nil => exact fun O => .nil
 | flat h _ ih => exact fun e => .flat (h.mono fun i q => by rw [q] at e; exact fF' (cons2 e).1) (ih (cons2 e).2)
 | deep h _ _ ia ih => exact fun e => .deep h (ia (h.closed (cons2 e).1)) (ih (cons2 e).2)
theorem R.empty (r : R L fz ρ mh s.heap) : R L fz [] [] s.heap := ⟨r.base,r.sub,rfl,fun i m p e => by simp at e,fun i p e => by simp at e,fun i j p q e => by simp at e⟩
theorem PV.beside {v : Value} {s' : Shared} (r : R L fz ρ mh s.heap) (x : PV L fz [] s V [] v s') : PV L fz ρ s V mh v s' := by
 obtain ⟨fz',ρ',⟨g1,g2,g3⟩,g4⟩ := x
 have hρ : ρ' = [] := List.length_eq_zero_iff.mp g2.len
 subst hρ
 have keep : ∀ b o,s.heap.get? b = some o → s'.heap.get? b = some o := fun b o e => g3.keep b o e (fun p hp => nomatch hp) (by simp)
 refine ⟨fz',ρ,⟨g1,⟨g2.base,g2.sub,r.len,fun i m p e e' => (r.objs i m p e e').keep (keep _) (keep _) g3.mono (fun O O e => e),fun i p e => ?_,r.dist⟩,⟨g3.mono,g3.new,⟨[],(List.append_nil _).symm,fun O h => nomatch h⟩,fun b o e O O => keep b o e,g3.dom⟩⟩,g4.mono (fun O O e => e) fun i p e => by simp at e⟩
 have h1 := r.apart i p e
 have h2 := r.alive e
 constructor
 ·cases q : fz' p.1 with
  | none => rfl
  | some o =>
   rcases g3.new _ _ q with w | w
   ·rw [h1.1] at w; exact nO w
   ·rw [w] at h2; exact fF' h2.1
 ·cases q : fz' p.2 with
  | none => rfl
  | some o =>
   rcases g3.new _ _ q with w | w
   ·rw [h1.2] at w; exact nO w
   ·rw [w] at h2; exact fF' h2.2
theorem callC_ok {C : Callee} {n f : Nat} {vs : List Value} {Vs : List MV} (H : SoundC L C n) (rm : Room A (16 * n)) (r : R L fz ρ mh s.heap) (hv : VRL L fz ρ vs Vs) (e : callC C f Vs mh = some (V,mh')) :
  codeAny L.M A (.call (.ref (L.fnA f)) ⟨vs,[]⟩) (fun r s' => ∃ v,r = .ok (.ret v) ∧ PV L fz ρ s V mh' v s') s := by
 refine cond_of e (fun hc e => bd_of e fun w m e1 e => if_of e fun hm e => ?_) fun O e => H rm r hv e
 obtain ⟨rfl,rfl⟩ := sP e
 obtain rfl := List.isEmpty_iff.mp hm
 exact codeAny_mono (H rm r.empty (closed_vr hv hc) e1) fun rr s' ⟨v,q1,q2⟩ => ⟨v,q1,.beside r q2⟩
theorem call_own {C : Callee} {n f : Nat} {vs : List Value} {Vs : List MV} (H : SoundC L C n) (rm : Room A (16 * n)) (r : R L fz ρ mh s.heap) (hv : VRL L fz ρ vs Vs) (e : callC C f Vs mh = some (V,mh')) :
  wpAny L.M A (call (.ref (L.fnA f)) vs) (PV L fz ρ s V mh') E s :=
 wpAny_call (codeAny_mono (callC_ok H rm r hv e) fun rr s' ⟨v,q1,q2⟩ => by subst q1; exact q2)
theorem oke_call {f : Nat} {es mes p pos} {n : Str} {fr : FnRec} (S : EnvS env ns σ) (H : TextOK c.L c.T) (HC : SoundC c.L c.C c.n) (hk : ns.lookup n = some .globalImplicit) (hd : (n == ("__debug__" : Str)) = false) (hg : nsIn c.L.K mainGlobals n = some (some (.ref (c.L.fnA f))))
  (hf : c.T.fns[f]? = some fr) (hp : es.all plainE = true) (h : OKEs c env σ es mes) : OKE c env σ (.Call (.Name n p) es [] pos) (.call f mes) := fun {A E s fz ρ mh vals V mh'} rm r x e => by
 dsimp only [evalE_call] at e
 refine bd_of e fun vs mh1 e1 e => ?_
 refine wpAny_Call_Name_kw (name_glob S r hk hd hg ?_)
 refine callW (H.keep f fr hf) hp (th (h rm r x e1) fun as s1 ⟨fz1,ρ1,g1,x1⟩ => ⟨g1.r.inK,?_⟩)
 exact th (call_own HC (rm.le (Nat.le_succ _)) g1.r x1 e) fun O O q => .after g1 q
theorem oke_callv {i : Nat} {es mes p pos} {n : Str} {kd} (S : EnvS env ns σ) (H : TextOK c.L c.T) (HC : SoundC c.L c.C c.n) (hi : σ[i]? = some (n,kd)) (hp : es.all plainE = true) (h : OKEs c env σ es mes)
  (hlt : ∀ f vs mh x,c.C f vs mh = some x → ∃ fr,c.T.fns[f]? = some fr) : OKE c env σ (.Call (.Name n p) es [] pos) (.callv i mes) := fun {A E s fz ρ mh vals V mh'} rm r x e => by
 dsimp only [evalE_callv] at e
 refine bo_of e fun f hvf e => bo_of hvf fun V0 hV hf => ?_
 have hV0 : V0 = .fn f := by induction V0 using MV.casesOn <;> cases hf; rfl
 subst hV0
 refine bd_of e fun vs mh1 e1 e => ?_
 have hfr : ∃ fr,c.T.fns[f]? = some fr := cond_of e (fun O e => bd_of e fun w m q e => hlt _ _ _ _ q) fun O q => hlt _ _ _ _ q
 obtain ⟨fr,hfr⟩ := hfr
 refine wpAny_Call_Name_kw (name_slot S x hi (Option.join_eq_some_iff.mp hV) fun v hv => ?_)
 cases (hv.view : v = _)
 refine callW (H.keep f fr hfr) hp (th (h rm r x e1) fun as s1 ⟨fz1,ρ1,g1,x1⟩ => ⟨g1.r.inK,?_⟩)
 exact th (call_own HC (rm.le (Nat.le_succ _)) g1.r x1 e) fun O O q => .after g1 q
theorem oke_meth {m : Nat} {o : Expr} {es mo mes apos pos} {n : Str} (H : TextOK c.L c.T) (HC : SoundC c.L c.C c.n) (hnm : n = c.L.nm m) (hb : notSuper o = true) (hn : es.length < 30) (hp : es.all plainE = true) (hl : (apos.endLine == pos.line) = true)
  (h0 : OKE c env σ o mo) (h : OKEs c env σ es mes) : OKE c env σ (.Call (.Attribute o n apos) es [] pos) (.meth mo m mes) := fun {A E s fz ρ mh vals V mh'} rm r x e => by
 subst hnm
 dsimp only [evalE_meth] at e
 refine bd_of e fun w mh1 e1 e => ?_
 refine bo_of e fun f hf e => ?_
 refine bd_of e fun vs mh2 e2 e => ?_
 unfold methF at hf
 rw [clsV_ins] at hf
 refine bo_of hf fun p hcls hf => cond_of hf (fun O q => nomatch q) fun hcon hf => bo_of hf fun kr hk hf2 => ?_
 obtain ⟨⟨k',as',ws⟩,hins,rfl⟩ := Option.map_eq_some_iff.mp hcls
 obtain ⟨q1,q2,q3,q4⟩ := H.meth _ _ _ _ hk hf2
 refine methW hb hn hp hl (th (h0 rm r x e1) fun ov s1 ⟨fz1,ρ1,g1,x1⟩ pl => meth_ok g1.r x1 hins (by simpa using hcon) q1 q2 q3 ?_)
 refine callW q4 hp (th (h rm g1.r (x.step g1.st) e2) fun as s2 ⟨fz2,ρ2,g2,x2⟩ => ⟨g2.r.inK,?_⟩)
 exact th (call_own HC (rm.le (Nat.le_succ _)) g2.r ((x1.step g2.st).cons x2) e) fun O O q => .after (g1.trans g2) q
end
end
section
inductive KeysE : List (Option Expr) → List (List Nat) → Prop
 | nil : KeysE [] []
 | cons {x k pos es ks} : KeysE es ks → KeysE (some (.Constant (.str (mkS x)) k pos) :: es) (x :: ks)
theorem KeysE.len {es ks} (h : KeysE es ks) : es.length = ks.length := by
 induction h with
 | nil => rfl
 | cons _ ih => simp [ih]
noncomputable def pairTrees (env : Env) (pos : Pos) (keys : List (Option Expr)) (es : List Expr) : List (Sem Value × Sem Value) :=
 (keys.filterMap fun k => k.map fun k => eval k env).zip (es.map fun e => do let x ← eval e env; standAt pos; pure x)
inductive KeysAre : List Value → List (List Nat) → Prop
 | nil : KeysAre [] []
 | cons {t x vs ks} : KeysAre vs ks → KeysAre (.str (mkS x) t :: vs) (x :: ks)
noncomputable def OKDs (c : Cx) (env : Env) (σ : Sig) (es : List Expr) (mes : List ME) : Prop := ∀ {A : Around} {E : Value → Shared → Prop} {s : Shared} {fz : FZ} {ρ : RHO} {mh : MH} {vals : Vals} {Vs : List MV} {mh' : MH} {keys ks} {pos : Pos},Room A (16 * c.n + 1) →
 KeysE keys ks → ks.length = mes.length → R c.L fz ρ mh s.heap → EnvR c.L fz ρ s.heap env σ vals → evalEs c.T c.C vals mh mes = some (Vs,mh') →
 wpAny c.L.M A (evalPairs (pairTrees env pos keys es)) (fun ps s' => KeysAre (ps.map (·.1)) ks ∧ PLs c.L fz ρ s Vs mh' (ps.map (·.2)) s') E s
section
variable {c : Cx} {env : Env} {ns σ : Sig} {L : Lk} {fz : FZ} {ρ : RHO} {mh mh' : MH} {s : Shared} {A : Around} {k : Nat} {E : Value → Shared → Prop} {v u : Value} {V U W : MV}
theorem okds_nil : OKDs c env σ [] [] := fun {A E s fz ρ mh vals Vs mh' keys ks pos} rm hk hl r x e => by
 obtain ⟨rfl,rfl⟩ := evalEs_nil e
 cases hk with
 | nil => exact evalPairs_nil ⟨.nil,_,_,.refl r,.nil⟩
 | cons _ => cases hl
theorem okds_cons {e es me mes} (h : OKE c env σ e me) (hs : OKDs c env σ es mes) : OKDs c env σ (e :: es) (me :: mes) := fun {A E s fz ρ mh vals Vs mh' keys ks pos} rm hk hl r x q => by
 cases hk with
 | nil => cases hl
 | @cons w kd p es' ks' hk =>
  simp only [evalEs_nil0,evalEs_cons0] at q
  refine bd_of q fun v1 mh1 h1 q => ?_
  refine bd_of q fun vs2 mh2 h2 q => ?_
  obtain ⟨rfl,rfl⟩ := sP q
  refine evalPairs_cons (wpAny_Constant_str ?_)
  refine wpAny_bind (th (h rm (Good.tok r (s.toks + 1)).r (x.step (Good.tok r (s.toks + 1)).st) h1) fun a s1 ⟨fz1,ρ1,g1,x1⟩ => wpAny_bind (wpAny_standAt (wpAny_pure ?_)))
  have g1' := (Good.tok r (s.toks + 1)).trans g1
  refine th (hs rm hk (by simpa using hl) g1'.r (x.step g1'.st) h2) fun as s2 ⟨q1,fz2,ρ2,g2,x2⟩ => ?_
  exact ⟨.cons q1,fz2,ρ2,g1'.trans g2,(x1.step g2.st).cons x2⟩
theorem keys_carry {prog w} {ps : List (Value × Value)} {ks : List (List Nat)} (h : KeysAre (ps.map (·.1)) ks) : Carries (strKind prog w) ps ((ks.map mkS).zip (ps.map (·.2))) ∧ ((ks.map mkS).zip (ps.map (·.2))).map (·.1) = ks.map mkS ∧ ((ks.map mkS).zip (ps.map (·.2))).map (·.2) = ps.map (·.2) := by
 generalize hv : ps.map (·.1) = vs at h
 induction h generalizing ps with
 | nil => obtain rfl := List.map_eq_nil_iff.mp hv; exact ⟨trivial,rfl,rfl⟩
 | cons h ih =>
  induction ps using List.casesOn with
  | nil => cases hv
  | cons p ps =>
   obtain ⟨k,v⟩ := p
   injection hv with e1 e2
   obtain ⟨a,b,d⟩ := ih e2
   obtain rfl := e1
   exact ⟨⟨strKind_is prog w _ _,rfl,a⟩,congrArg (_ :: ·) b,congrArg (_ :: ·) d⟩
theorem pair_shape {keys : List (Option Expr)} {ks : List (List Nat)} (hk : KeysE keys ks) : ∀ {es : List Expr} {pos : Pos},keys.length = es.length →
  (evalEachOpt keys env).zip ((evalEach es env).map fun v => do let x ← v; standAt pos; pure x) = (pairTrees env pos keys es).map fun p => (some p.1,p.2) := by
 induction hk with
 | nil => intro es pos hl; induction es using List.casesOn with
  | nil => rfl
  | cons _ _ => cases hl
 | cons hk ih =>
  intro es pos hl
  induction es using List.casesOn with
  | nil => cases hl
  | cons e es =>
   have := ih (es := es) (pos := pos) (by simpa using hl)
   show (_ :: (evalEachOpt _ env).zip ((evalEach es env).map _)) = _ :: (pairTrees env pos _ es).map _
   rw [this]
   rfl
theorem ne_sys (r : R L fz ρ mh s.heap) (hs : (L.K.lookup mainGlobals).isSome = true) : (s.heap.objs.size == sysModules) = false := by
 rw [beq_eq_false_iff_ne]
 intro q
 obtain ⟨o,ho⟩ := Option.isSome_iff_exists.mp hs
 have := Heap.lt_size (r.sub _ _ (r.base _ _ ho))
 rw [q] at this
 exact absurd this (by decide)
set_option tactic.hygienic true in
theorem dict_done {m : Bool} {fz₁ : FZ} {ρ₁ : RHO} {mh₁ : MH} {s₁ : Shared} {d : Addr} {h' : Heap} {t : Nat} {kvs : List (Str × Value)} {ks : List (List Nat)} {vs : List MV} (g : Good L fz ρ s mh₁ fz₁ ρ₁ s₁) (hd : s.heap.get? d = none) (ha : Apart fz₁ ρ₁ d) (hsys : (d == sysModules) = false)
  (hD : h'.DictOf L.knd d kvs) (hS : Heap.SameBut d s₁.heap h') (e1 : kvs.map (·.1) = ks.map mkS) (e2 : VRL L fz₁ ρ₁ (kvs.map (·.2)) vs) (hl : vs.length ≤ LIM)
  (e : (if m then some (MV.ref mh₁.length,mh₁ ++ [.dct ks vs]) else some (.dct ks vs,mh₁)) = some (V,mh')) : PV L fz ρ s V mh' (.ref d) { s₁ with heap := h',toks := t } := by
 obtain ⟨o,ho,hx⟩ := Heap.dictOf_iff.mp hD
 have r' : R L fz₁ ρ₁ mh₁ h' := g.r.ext ha hS.extBut
 have st' : Step [] fz ρ s.heap fz₁ ρ₁ h' := g.st.tick hd hS.extBut
 have sm : Same s { s₁ with heap := h',toks := t } := g.same.trans ⟨_,_,rfl⟩
 induction m using Bool.casesOn with
 | true =>
  obtain ⟨rfl,rfl⟩ := sP e
  refine ⟨fz₁,ρ₁ ++ [(d,d)],⟨sm,r'.grow (p := (d,d)) (m := .dct ks vs) ⟨rfl,hl,hsys,kvs,hD,e1,e2⟩ ⟨ha.1,ha.1⟩ (fun i q eq => ?_),st'.grow ⟨hd,hd⟩⟩,?_⟩
  ·have := ha.2 q (List.mem_of_getElem? eq)
   exact ⟨this.1.symm,this.1.symm,this.2.symm,this.2.symm⟩
  ·rw [← g.r.len]
   exact .ref (p := (d,d)) (by rw [List.getElem?_append_right (Nat.le_refl _)]; simp) .nil
 | false =>
  obtain ⟨rfl,rfl⟩ := sP e
  refine ⟨fz₁.add d o,ρ₁,⟨sm,r'.freeze ho (fun i p eq => ?_) ha.1,⟨fun a q x => FZ.add_mono ha.1 _ _ (st'.mono a q x),fun a q x => ?_,st'.pre,st'.keep,st'.dom⟩⟩,?_⟩
  ·have := ha.2 p (List.mem_of_getElem? eq)
   exact ⟨this.1.symm,this.2.symm⟩
  ·unfold FZ.add at x; split at x
   ·rename_i hb; exact .inr (hb ▸ hd)
   ·exact st'.new _ _ x
  ·exact .dct FZ.add_self hsys hx e1 hl (e2.mono (FZ.add_mono ha.1) fun O O e => e) .nil
theorem oke_dict {m : Bool} {keys es ks mes pos} (hsys : (c.L.K.lookup mainGlobals).isSome = true) (hk : KeysE keys ks) (hl : keys.length = es.length) (hl2 : ks.length = mes.length) (hn : (ks.map mkS).Nodup) (hle : es.length ≤ 15) (h : OKDs c env σ es mes) :
  OKE c env σ (.Dict keys es pos) (.dict m ks mes) := fun {A E s fz ρ mh vals V mh'} rm r x e => by
 dsimp only [evalE_dict] at e
 refine bd_of e fun vs mh1 e1 e => ?_
 have hvl := evalEs_len e1
 have hdn := get?_size s.heap
 have hsz := ne_sys r hsys
 cases hk with
 | nil =>
  induction es using List.casesOn with
  | cons _ _ => cases hl
  | nil =>
   induction mes using List.casesOn with
   | cons _ _ => cases hl2
   | nil =>
    obtain ⟨rfl,rfl⟩ := evalEs_nil e1
    refine wpAny_Dict_empty ?_
    have g0 : Good c.L fz ρ s _ fz ρ { s with heap := s.heap.push { cls := .type "dict",data := .dict #[] } } := .keeps r (fun O O e => Heap.get?_push_of_some _ e) s.toks
    exact dict_done (m := m) (s₁ := { s with heap := s.heap.push { cls := .type "dict",data := .dict #[] } }) g0 hdn (Apart.of_none r hdn) hsz (Heap.DictOf.new s.heap) (Heap.SameBut.refl _ _) rfl .nil (Nat.zero_le _) e (t := s.toks)
 | @cons w kd p keys ks hk =>
  induction es using List.casesOn with
  | nil => cases hl
  | cons e0 es =>
   have hk' := KeysE.cons (x := w) (k := kd) (pos := p) hk
   refine wpAny_Dict_pairs (knd := c.L.knd) (pair_shape hk' hl) (by intro q; cases q) ?_ ?_
   ·unfold pairTrees
    rw [List.length_zip,List.length_map]
    lia
   ·have g0 : Good c.L fz ρ s mh fz ρ { s with heap := s.heap.push { cls := .type "dict",data := .dict #[] } } := .keeps r (fun O O e => Heap.get?_push_of_some _ e) s.toks
    refine th (h rm hk' hl2 g0.r (x.step g0.st) e1) fun ps s1 ⟨q1,fz1,ρ1,g1,x1⟩ => ?_
    obtain ⟨c1,c2,c3⟩ := keys_carry (prog := c.L.prog) (w := c.L.w) q1
    have ha0 : Apart fz ρ s.heap.objs.size := Apart.of_none r hdn
    have hD0 : (s.heap.push { cls := .type "dict",data := .dict #[] }).DictOf c.L.knd s.heap.objs.size [] := Heap.DictOf.new _
    obtain ⟨o,ho,hx⟩ := Heap.dictOf_iff.mp hD0
    refine ⟨_,c1,Heap.dictOf_iff.mpr ⟨o,ha0.kept g1.st (by simp) _ ho,hx⟩,fun h' hD hS => ?_⟩
    rw [merged_nil_of_nodup _ (by rw [c2]; exact hn)] at hD
    exact dict_done (m := m) (g0.trans g1) hdn (ha0.step ho g1.st) hsz hD hS c2 (by rw [c3]; exact x1) (by rw [hvl,← hl2]; simp only [List.length_cons] at hl hle ⊢; have := hk.len; unfold LIM; lia) e
theorem under_make {C : Addr} {rest : List Value} (rm : Room A (k + 1)) : Room (A.under (.builtin "type.__call__" ⟨.ref C :: rest,[]⟩)) k := by
 have h1 : (Code.builtin "type.__call__" ⟨.ref C :: rest,[]⟩).weight ≤ 1 := Nat.le_of_ble_eq_true (by kernel_rfl)
 have h2 : (Code.builtin "type.__call__" ⟨.ref C :: rest,[]⟩).cUnits ≤ 5 := Nat.le_of_ble_eq_true (by kernel_rfl)
 have := rm.dp; have := rm.un
 exact ⟨rm.hd,by show A.depth + _ + k ≤ 900; lia,by show A.units + _ + 5 * k ≤ 9000; lia⟩
structure ClsMake (L : Lk) (T : Text) (g : Nat) (r : ClsRec) : Prop where
 made : makesIn L.K (L.clsA g) = true
 init : findIn L.K (.ref (L.clsA g)) "__init__" = some (some (.ref (L.fnA r.init)))
 fn : typeIn L.K (.ref (L.fnA r.init)) = some (.type "function")
 keep : keepIn L.K (.ref (L.clsA g)) = true
theorem emptyDictOf {prog w} (h : Heap) : (h.push emptyDict).DictOf (strKind prog w) h.objs.size [] := Heap.DictOf.new h
theorem nil_get {α : Type} {i : Nat} {p : α} (h : ([] : List α)[i]? = some p) : False := by simp at h
set_option tactic.hygienic true in
theorem frz_done {s s1 s' : Shared} {x d : Addr} {g : Nat} {as : List Nat} {ws : List MV} {fz' : FZ} {ρ' : RHO} (hne : x ≠ d) (hd0 : s.heap.get? d = none) (hx0 : s.heap.get? x = none) (kp : ∀ b o,s.heap.get? b = some o → s1.heap.get? b = some o) (sm : Same s s1)
  (gd : Good L fz [(x,d)] s1 [.ins g as ws] fz' ρ' s') (hcw : cL ws = true) : PV L fz [] s (.ins g as ws) [] (.ref x) s' := by
 obtain ⟨q2,q3,q4⟩ := gd
 obtain ⟨τ,hρ,_⟩ := q4.pre
 have hlen := q3.len
 rw [hρ,List.length_append] at hlen
 obtain rfl := List.length_eq_zero_iff.mp (Nat.succ.inj ((Nat.add_comm _ _).trans hlen))
 obtain rfl := hρ
 obtain ⟨w1,w2,kvs,w3,w4,w5⟩ := q3.objs 0 _ _ rfl rfl
 obtain ⟨od,w6,w7⟩ := Heap.dictOf_iff.mp w3
 have hap : fz' x = none ∧ fz' d = none := q3.apart 0 _ rfl
 have w5' := closed_vr w5 hcw
 have r2 := q3.empty.freeze w2 (fun i p e => (nil_get e).elim) hap.1
 have hap2 : (fz'.add x (instObj (L.clsA g) d)) d = none := by unfold FZ.add; rw [if_neg hne.symm]; exact hap.2
 have r3 := r2.freeze w6 (fun i p e => (nil_get e).elim) hap2
 have hmono : ∀ a o,fz' a = some o → ((fz'.add x (instObj (L.clsA g) d)).add d od) a = some o := fun a o q => FZ.add_mono hap2 _ _ (FZ.add_mono hap.1 _ _ q)
 have back : ∀ b,s1.heap.get? b = none → s.heap.get? b = none := dom_of_keeps kp
 refine ⟨(fz'.add x (instObj (L.clsA g) d)).add d od,[],⟨sm.trans q2,r3,⟨fun a o q => hmono _ _ (q4.mono _ _ q),fun a o q => ?_,⟨[],rfl,fun O h => nomatch h⟩,fun b o q O O => ?_,fun b q => back _ (q4.dom _ q)⟩⟩,?_⟩
 ·unfold FZ.add at q
  split at q
  ·rename_i hb; exact .inr (hb ▸ hd0)
  ·split at q
   ·rename_i hb; exact .inr (hb ▸ hx0)
   ·exact (q4.new _ _ q).imp id (back _)
 ·refine q4.keep _ _ (kp _ _ q) (fun p hp => ?_) (List.not_mem_nil)
  obtain rfl := List.mem_singleton.mp hp
  exact ⟨fun z => (by rw [z,hx0] at q; exact nO q),fun z => (by rw [z,hd0] at q; exact nO q)⟩
 ·refine .ins (d := d) (o := od) ?_ FZ.add_self w7 w4 w1 (w5'.mono hmono fun O O e => e) .nil
  unfold FZ.add; rw [if_neg hne,if_pos rfl]
theorem oneIns_eq {m : MH} {p : Nat × List Nat × List MV} (h : oneIns m = some p) : m = [.ins p.1 p.2.1 p.2.2] := by
 induction m using List.casesOn with
 | nil => exact nO h
 | cons x m => induction x using MO.casesOn with
  | ins z as ws => induction m using List.casesOn with
   | nil => obtain rfl := sI h; rfl
   | cons _ _ => exact nO h
  | _ => exact nO h
theorem isNone_eq (h : isNoneV V = true) : V = .none := by induction V using MV.casesOn <;> first | rfl | exact fF' h
theorem make_ok {C : Callee} {T : Text} {n g : Nat} {rr : ClsRec} {vs : List Value} {Vs : List MV} (H : SoundC L C n) (M : ClsMake L T g rr) (hg : T.cls[g]? = some rr) (rm : Room A (16 * n + 1)) (r : R L fz ρ mh s.heap) (hv : VRL L fz ρ vs Vs) (e : makeC T C g Vs mh = some (V,mh')) :
  wpAny L.M A (call (.ref (L.clsA g)) vs) (PV L fz ρ s V mh') E s := by
 refine wpAny_call ?_
 obtain ⟨h,gg,dr,t,os⟩ := s
 dsimp only at r
 refine make_core (makes_of r.inK M.made) (looks_findIn r.inK M.init) (fun self => bind_fn r.inK self M.fn) (.inl rfl) ?_
 have hd0 : h.get? h.objs.size = none := get?_size h
 have hx0 : h.get? (h.objs.size + 1) = none := by
  cases q : h.get? (h.objs.size + 1) with
  | none => rfl
  | some o => have := Heap.lt_size q; exact absurd this (by show ¬ h.objs.size + 1 < h.objs.size; lia)
 have hsz : (h.push emptyDict).objs.size = h.objs.size + 1 := Heap.size_push ..
 have hgx : ((h.push emptyDict).push (instObj (L.clsA g) h.objs.size)).get? (h.objs.size + 1) = some (instObj (L.clsA g) h.objs.size) := by
  rw [← hsz]; exact Heap.get?_push_size _ rfl
 have hgd : ((h.push emptyDict).push (instObj (L.clsA g) h.objs.size)).DictOf L.knd h.objs.size [] := (emptyDictOf h).push _
 have kp : ∀ b o,h.get? b = some o → ((h.push emptyDict).push (instObj (L.clsA g) h.objs.size)).get? b = some o := fun b o q => Heap.get?_push_of_some _ (Heap.get?_push_of_some _ q)
 generalize hh1 : (h.push emptyDict).push (instObj (L.clsA g) h.objs.size) = h1 at hgx hgd kp
 have r1 : R L fz ρ mh h1 := r.keeps kp
 have hOR : ∀ ρ',OR L fz ρ' h1 (h.objs.size + 1,h.objs.size) (.ins g [] []) := fun ρ' => ⟨Nat.zero_le _,hgx,[],hgd,rfl,.nil⟩
 have hfz : fz (h.objs.size + 1) = none ∧ fz h.objs.size = none := ⟨r.none_of hx0,r.none_of hd0⟩
 refine bo_of e fun rr' hg' e => ?_
 rw [hg] at hg'
 obtain rfl := sI hg'
 generalize hX : h.objs.size + 1 = x at hx0 hgx hOR hfz ⊢
 generalize hD : h.objs.size = d at hd0 hgd hgx hOR hfz ⊢
 have hne : x ≠ d := fun q => Nat.succ_ne_self _ (hX.trans (q.trans hD.symm))
 refine cond_of e (fun hfr e => if_of e fun hcl e => bd_of e fun w m e1 e => if_of e fun hw e => bo_of e fun p hp e => if_of e fun hz e' => ?_) fun hfr e => bd_of e fun w m e1 e => if_of e fun hw e' => ?_
 ·obtain rfl := isNone_eq hw
  obtain rfl := oneIns_eq hp
  obtain ⟨z,as,ws⟩ := p
  obtain ⟨hzg,hcw⟩ := hz
  obtain rfl : g = z := hzg.symm
  have rg : R L fz [(x,d)] [.ins g [] []] h1 := (R.empty (s := ⟨h1,gg,dr,t,os⟩) r1).grow (hOR []) hfz (fun i q e => (nil_get e).elim)
  have hargs : VRL L fz [(x,d)] (.ref x :: vs) (.ref 0 :: Vs) := .ref (p := (x,d)) rfl ((closed_vr hv hcl).mono (fun O O e => e) fun i p e => (nil_get e).elim)
  refine codeAny_mono (H (s := ⟨h1,gg,dr,t,os⟩) (under_make rm) rg hargs e1) fun r0 s' ⟨v,q1,fz',ρ',gd,q5⟩ => ?_
  subst q1
  exact ⟨noneOf q5,PV.eq e' (PV.beside (s := ⟨h,gg,dr,t,os⟩) r (frz_done hne hd0 hx0 kp ⟨_,_,rfl⟩ gd hcw))⟩
 ·obtain rfl := isNone_eq hw
  have rg : R L fz (ρ ++ [(x,d)]) (mh ++ [.ins g [] []]) h1 := r1.grow (hOR ρ) hfz fun i q eq => by
   have a1 := r.apart_of hx0 eq
   have a2 := r.apart_of hd0 eq
   exact ⟨a1.1,a2.1,a1.2,a2.2⟩
  have gd : Good L fz ρ ⟨h,gg,dr,t,os⟩ (mh ++ [.ins g [] []]) fz (ρ ++ [(x,d)]) ⟨h1,gg,dr,t,os⟩ := ⟨⟨_,_,rfl⟩,rg,(Step.keeps kp).grow ⟨hx0,hd0⟩⟩
  have hix : (ρ ++ [(x,d)])[mh.length]? = some (x,d) := by rw [← r.len,List.getElem?_append_right (Nat.le_refl _)]; simp
  refine codeAny_mono (H (s := ⟨h1,gg,dr,t,os⟩) (under_make rm) rg (.ref (p := (x,d)) hix (hv.step gd.st)) e1) fun r0 s' ⟨v,q1,fz',ρ',q2,q5⟩ => ?_
  subst q1
  exact ⟨noneOf q5,PV.eq e' ⟨fz',ρ',gd.trans q2,.ref (p := (x,d)) (q2.st.rho hix) .nil⟩⟩
theorem oke_make {g : Nat} {es mes p pos} {n : Str} {rr : ClsRec} (S : EnvS env ns σ) (HC : SoundC c.L c.C c.n) (M : ClsMake c.L c.T g rr) (hc : c.T.cls[g]? = some rr) (hk : ns.lookup n = some .globalImplicit) (hd : (n == ("__debug__" : Str)) = false)
  (hg : nsIn c.L.K mainGlobals n = some (some (.ref (c.L.clsA g)))) (hp : es.all plainE = true) (h : OKEs c env σ es mes) : OKE c env σ (.Call (.Name n p) es [] pos) (.make g mes) := fun {A E s fz ρ mh vals V mh'} rm r x e => by
 dsimp only [evalE_make] at e
 refine bd_of e fun vs mh1 e1 e => ?_
 refine wpAny_Call_Name_kw (name_glob S r hk hd hg ?_)
 refine callW M.keep hp (th (h rm r x e1) fun as s1 ⟨fz1,ρ1,g1,x1⟩ => ⟨g1.r.inK,?_⟩)
 exact th (make_ok HC M hc rm g1.r x1 e) fun O O q => .after g1 q
end
end
section
structure GoodX (X : List Addr) (L : Lk) (fz : FZ) (ρ : RHO) (s : Shared) (mh' : MH) (fz' : FZ) (ρ' : RHO) (s' : Shared) : Prop where
 same : Same s s'
 r : R L fz' ρ' mh' s'.heap
 st : Step X fz ρ s.heap fz' ρ' s'.heap
theorem GoodX.trans {X L fz ρ s mh₁ fz₁ ρ₁ s₁ mh₂ fz₂ ρ₂ s₂} (a : GoodX X L fz ρ s mh₁ fz₁ ρ₁ s₁) (b : GoodX X L fz₁ ρ₁ s₁ mh₂ fz₂ ρ₂ s₂) : GoodX X L fz ρ s mh₂ fz₂ ρ₂ s₂ := ⟨a.same.trans b.same,b.r,a.st.trans b.st⟩
theorem Good.x {X L fz ρ s mh₁ fz₁ ρ₁ s₁} (a : Good L fz ρ s mh₁ fz₁ ρ₁ s₁) : GoodX X L fz ρ s mh₁ fz₁ ρ₁ s₁ := ⟨a.same,a.r,a.st.weaken (fun O h => nomatch h)⟩
inductive PX (L : Lk) (env : Env) (σ : Sig) (fz : FZ) (ρ : RHO) (s : Shared) (st : St) (s' : Shared) : Prop where
 | mk (fz' : FZ) (ρ' : RHO) (g : GoodX (frameOf env) L fz ρ s st.2 fz' ρ' s') (x : EnvR L fz' ρ' s'.heap env σ st.1)
noncomputable def OKS (c : Cx) (env : Env) (σ : Sig) (t : Expr) (mt : MT) : Prop := ∀ {A : Around} {E : Value → Shared → Prop} {s : Shared} {fz : FZ} {ρ : RHO} {mh : MH} {vals : Vals} {v : Value} {V : MV} {st : St},Room A (16 * c.n + 1) →
 R c.L fz ρ mh s.heap → EnvR c.L fz ρ s.heap env σ vals → VR c.L fz ρ v V → storeT c.T c.C V (vals,mh) mt = some st → wpAny c.L.M A (assign t env v) (fun O => PX c.L env σ fz ρ s st) E s
noncomputable def OKSs (c : Cx) (env : Env) (σ : Sig) (ts : List Expr) (mts : List MT) : Prop := ∀ {A : Around} {E : Value → Shared → Prop} {s : Shared} {fz : FZ} {ρ : RHO} {mh : MH} {vals : Vals} {vs : List Value} {Vs : List MV} {st : St},Room A (16 * c.n + 1) →
 R c.L fz ρ mh s.heap → EnvR c.L fz ρ s.heap env σ vals → VRL c.L fz ρ vs Vs → storeTs c.T c.C Vs (vals,mh) mts = some st → wpAny c.L.M A (assignInOrder (ts.map fun t => assign t env) vs) (fun O => PX c.L env σ fz ρ s st) E s
section
variable {c : Cx} {env : Env} {ns σ : Sig} {L : Lk} {fz : FZ} {ρ : RHO} {mh mh' : MH} {s : Shared} {A : Around} {k : Nat} {E : Value → Shared → Prop} {v u : Value} {V U W : MV}
theorem wqX {M : Model} {t : Sem Unit} {s s' : Shared} {a b : St} (e : some a = some b) (h : wpAny M A t (fun O => PX L env σ fz ρ s a) E s') : wpAny M A t (fun O => PX L env σ fz ρ s b) E s' := by obtain rfl := sI e; exact h
theorem PX.after {fz₁ ρ₁ s₁ mh₁ s₂} {st : St} (g : GoodX (frameOf env) L fz ρ s mh₁ fz₁ ρ₁ s₁) (x : PX L env σ fz₁ ρ₁ s₁ st s₂) : PX L env σ fz ρ s st s₂ := by
 obtain ⟨fz',ρ',g',x'⟩ := x; exact ⟨fz',ρ',g.trans g',x'⟩
theorem bind_slot {vals : Vals} {i : Nat} {n : Str} {kd : NameKind} (S : EnvS env ns σ) (r : R L fz ρ mh s.heap) (x : EnvR L fz ρ s.heap env σ vals) (e : σ[i]? = some (n,kd)) (hv : VR L fz ρ v V) :
  wpAny L.M A (storeName env n v) (fun O => PX L env σ fz ρ s (vals.set i (some V),mh)) E s :=
 store_slot S r x e hv fun s' h1 h2 h3 h4 => ⟨fz,ρ,⟨h1,h2,h3⟩,h4⟩
theorem oks_name {i : Nat} {n : Str} {kd : NameKind} {pos} (S : EnvS env ns σ) (e : σ[i]? = some (n,kd)) : OKS c env σ (.Name n pos) (.name i) := fun {A E s fz ρ mh vals v V st} rm r x hv q =>
 if_of q fun O q => wqX q (wpAny_assign_Name (bind_slot S r x e hv))
theorem storeTs_nil {T : Text} {C : Callee} {Vs : List MV} {a : St} : storeTs T C Vs a [] = if Vs.isEmpty = true then some a else none := by induction Vs using List.casesOn <;> rfl
theorem storeTs_cons {T : Text} {C : Callee} {V : MV} {Vs : List MV} {a : St} {t ts} : storeTs T C (V :: Vs) a (t :: ts) = bo (storeT T C V a t) fun s => storeTs T C Vs s ts := rfl
theorem okss_nil : OKSs c env σ [] [] := fun {A E s fz ρ mh vals vs Vs st} rm r x hv q =>
 if_of (storeTs_nil.symm.trans q) fun O q => wqX q (wpAny_pure ⟨fz,ρ,(Good.refl r).x,x⟩)
theorem okss_cons {t ts mt mts} (h : OKS c env σ t mt) (hs : OKSs c env σ ts mts) : OKSs c env σ (t :: ts) (mt :: mts) := fun {A E s fz ρ mh vals vs Vs st} rm r x hv q => by
 induction Vs using List.casesOn with
 | nil => exact nO q
 | cons V' Vs' =>
  obtain ⟨v,vs',rfl,h1,h2⟩ := hv.unconsR
  refine bo_of (storeTs_cons.symm.trans q) fun st1 e1 q => ?_
  refine wpAny_bind (wpAny_holding (th (h rm r x h1 e1) fun _ s1 ⟨fz1,ρ1,g1,x1⟩ => ?_))
  exact th (hs rm g1.r x1 (h2.step g1.st) q) fun O O z => .after g1 z
theorem assignEach_plain : ∀ {es : List Expr},es.all plainE = true → assignEach es env = es.map fun e => (false,assign e env)
 | [],_ => rfl
 | e :: r,h => by
  have h := Bool.and_eq_true_iff.mp h
  have st : assignEach (e :: r) env = (false,assign e env) :: assignEach r env := by
   induction e using PySem.Expr.casesOn with
   | Starred _ _ => exact fF' h.1
   | _ => rfl
  rw [st,assignEach_plain h.2]; rfl
theorem storeTs_len {T : Text} {C : Callee} : ∀ {mts : List MT} {Vs : List MV} {st st' : St},storeTs T C Vs st mts = some st' → Vs.length = mts.length
 | [],[],_,_,_ => rfl
 | [],_ :: _,_,_,q => nomatch q
 | _ :: _,[],_,_,q => nomatch q
 | _ :: _,_ :: _,_,_,q => bo_of (storeTs_cons.symm.trans q) fun O O q => congrArg (· + 1) (storeTs_len q)
theorem findIdx_plain {ts : List Expr} : (ts.map fun e => ((false,assign e env) : Bool × (Value → Sem Unit))).findIdx? (·.1) = none := by
 induction ts with
 | nil => rfl
 | cons a r ih =>
  rw [List.map_cons,List.findIdx?_cons,ih]; rfl
theorem unpack_ok {ts mts n pos T xs Vs} {vals : Vals} {st : St} (rm : Room A (16 * c.n + 1)) (hp : ts.all plainE = true) (hl : ts.length = mts.length) (h : OKSs c env σ ts mts) (r : R c.L fz ρ mh s.heap) (x : EnvR c.L fz ρ s.heap env σ vals)
  (hT : s.heap.IsTuple T (List.toArray xs)) (y : VRL c.L fz ρ xs Vs) (q : storeTs c.T c.C Vs (vals,mh) mts = some st) : wpAny c.L.M A (assign (.Tuple ts n pos) env (.ref T)) (fun O => PX c.L env σ fz ρ s st) E s := by
 have hsz : (List.toArray xs).size = xs.length := List.size_toArray
 refine wpAny_assign_Tuple rm.hd hT (by rw [assignEach_plain hp,List.length_map,hsz,y.len,storeTs_len q,hl]) (by rw [assignEach_plain hp]; exact findIdx_plain) fun h' hE => ?_
 rw [assignEach_plain hp,List.map_map]
 have kp : ∀ b o,s.heap.get? b = some o → h'.get? b = some o := fun b o e => hE b o (fun q => by rw [q,get?_size] at e; exact nO e) e
 have g0 : Good c.L fz ρ s mh fz ρ { s with heap := h' } := .keeps r kp s.toks
 exact th (h rm g0.r (x.step g0.st) y q) fun O O z => .after g0.x z
theorem tupV_eq {l : List MV} (h : tupV V = some l) : V = .tup l := by induction V using MV.casesOn <;> first | exact nO h | (obtain rfl := sI h; rfl)
theorem refV_eq {i : Nat} (h : refV V = some i) : V = .ref i := by induction V using MV.casesOn <;> first | exact nO h | (obtain rfl := sI h; rfl)
theorem oks_tup {ts mts k pos} (hp : ts.all plainE = true) (hl : ts.length = mts.length) (h : OKSs c env σ ts mts) : OKS c env σ (.Tuple ts k pos) (.tup mts) := fun {A E s fz ρ mh vals v V st} rm r x hv q => by
 refine bo_of (show bo _ _ = _ from q) fun l hV q => ?_
 obtain rfl := tupV_eq hV
 obtain ⟨a,xs,n,rfl,g,y,_⟩ := tupOf r hv
 exact unpack_ok rm hp hl h r x (isTupleOf g) y q
theorem insAt_eq {i : Nat} {p : Nat × List Nat × List MV} (h : insAt mh i = some p) : mh[i]? = some (.ins p.1 p.2.1 p.2.2) :=
 pMI h fun c as vs e h => by obtain rfl := sI h; exact e
theorem oks_attr {o pos mo a} {n : Str} (H : TextOK c.L c.T) (hn : n = c.L.nm a) (h : OKE c env σ o mo) : OKS c env σ (.Attribute o n pos) (.attr mo a) := fun {A E s fz ρ mh vals v V st} rm r x hv q => by
 subst hn
 refine bd_of (storeT_attr.symm.trans q) fun w mh1 e1 q => bo_of q fun i hw q => if_of q fun hd q => bo_of q fun p hm q => if_of q fun hlim q => wqX q ?_
 obtain rfl := refV_eq hw
 have hm := insAt_eq hm
 rw [assign_Attribute]
 refine wpAny_bind (wpAny_holding (th (h rm r x e1) fun ov s1 ⟨fz1,ρ1,g1,x1⟩ => wpAny_bind (wpAny_standAt (wpAny_bind (wpAny_holding ?_)))))
 have hf := dataOk_facts (mh := mh1) (V := .ref i) H hd p.1 p.2.1 p.2.2 (by simp only [insV,hm])
 exact setAttr_ok g1.r x1 hm hlim (hv.step g1.st) hf fun s2 g2 => wpAny_releasing ⟨fz1,ρ1,(g1.trans g2).x,(x.step g1.st).step g2.st⟩
theorem setItem_list_plain {l : Addr} {xs : List Value} {n : Nat} {k : Int} {t : Tok} {v : Value} {Q : Unit → Shared → Prop} (hl : s.heap.get? l = some (seqObj "list" xs n)) (h0 : 0 ≤ k) (hfit : k < 2 ^ 63) (hn : k < xs.toArray.size)
  (hQ : ∀ h',(∃ n',h'.get? l = some (seqObj "list" (xs.set k.toNat v) n')) → Heap.SameBut l s.heap h' → Q () { s with heap := h' }) : wpAny (model L.prog L.w) A (setItem (.ref l) (.int k t) v) Q E s := by
 have hT : s.TypeIs (.ref l) "list" := ⟨_,hl,rfl⟩
 unfold setItem
 try with_reducible refine wpAny_holding ?_
 first | refine wpAny_bind (wpAny_pure ?_) | skip
 refine wpAny_bind (wpAny_sequenceKey hT (by decide) ?_)
 refine wpAny_bind (wpAny_callSpecial?_slot (name := Str.ofString "__setitem__") hT slot_list_setitem
  (wpAny_call_entry slot_list_setitem hT entry_list_setitem ?_ (args_list_setitem _ _ _)))
 show wpAny _ _ (PySem.Builtin.List.listSubscript? (.int k t) >>= _) _ _ s
 refine wpAny_bind (wpAny_listSubscript_int (fitsIndex_of h0 hfit) ?_)
 clear hfit
 obtain ⟨j,rfl⟩ := Int.eq_ofNat_of_zero_le h0
 have hj : j < xs.toArray.size := Int.ofNat_lt.mp hn
 have hx' : xs.toArray[j]? = some xs.toArray[j] := Array.getElem?_eq_getElem hj
 show wpAny _ _ ((seqItemAt l j >>= fun r => pure (r.map (j, ·))) >>= _) _ _ s
 refine wpAny_bind (wpAny_bind (wpAny_seqItemAt hl rfl (wpAny_pure ?_)))
 rw [hx']
 show wpAny _ _ (setSeqItemAt l j v >>= _) _ _ s
 have hfin : (s.heap.update l (Obj.mapSeq (·.setIfInBounds j v))).get? l = some (seqObj "list" (xs.set j v) n) := by
  refine (Heap.get?_update_self _ hl rfl).trans ?_
  simp [Obj.mapSeq,seqObj]
 refine wpAny_bind (wpAny_setSeqItemAt hl rfl ?_)
 first
  | exact wpAny_bind (wpAny_pure (wpAny_pure ⟨.none,rfl,wpAny_pure (hQ _ ⟨_,hfin⟩ (Heap.SameBut.update ..))⟩))
  | exact wpAny_pure ⟨.none,rfl,wpAny_pure (hQ _ ⟨_,hfin⟩ (Heap.SameBut.update ..))⟩
theorem putD_ok {i : Nat} {w : List Nat} {ks : List (List Nat)} {vs : List MV} {iv ov : Value} {X : MV} {Q : Unit → Shared → Prop} (r : R L fz ρ mh s.heap) (ho : VR L fz ρ ov (.ref i)) (hi : VR L fz ρ iv (.str w)) (hv : VR L fz ρ v X) (hm : mh[i]? = some (.dct ks vs)) (hlim : vs.length < 500)
  (h : ∀ s',Good L fz ρ s (mh.set i (.dct (putK w X ks vs).1 (putK w X ks vs).2)) fz ρ s' → Q () s') : wpAny L.M A (setItem ov iv v) Q E s := by
 obtain ⟨t,rfl,_⟩ := strOf hi
 obtain ⟨p,rfl,hp⟩ := refOf ho
 obtain ⟨q1,q2,q3,kvs,q4,q5,q6⟩ := r.objs i _ p hm hp
 have hput := VRL.put (f := mkS) (fun O O => mkS_inj) (k := w) hv q5 (by obtain ⟨_,_,_,_,_,_,_,hn⟩ := q4; exact hn.2) q6
 have hkl : kvs.length = vs.length := (List.length_map _).symm.trans q6.len
 have hll : (putK w X ks vs).2.length ≤ LIM := by
  rw [← hput.2.len,List.length_map]
  exact Nat.le_trans (stored_length_le kvs (mkS w) v) (by rw [hkl]; unfold LIM; lia)
 refine wpAny_setItem_pairs (knd := L.knd) (strKind_is _ _ _ _) q4 (fun h' hD hS => ?_) (limS (by rw [hkl]; exact q2))
 have ex : ∀ b o,b ≠ p.1 → b ≠ p.2 → s.heap.get? b = some o → h'.get? b = some o := fun b o z O gg => (hS.2 b z).trans gg
 obtain ⟨od,ho',_⟩ := Heap.dictOf_iff.mp hD
 exact h _ ⟨⟨_,_,rfl⟩,r.change hp ex ⟨q1,hll,q3,_,hD,hput.1,hput.2⟩,.change hp ex fun b z => by
  by_cases hb : b = p.1
  ·rw [hb,ho'] at z; exact nO z.symm
  ·rw [hS.2 b hb] at z; exact z⟩
theorem putL_ok {i : Nat} {w : Int} {l : List MV} {iv ov : Value} {X : MV} {Q : Unit → Shared → Prop} (r : R L fz ρ mh s.heap) (ho : VR L fz ρ ov (.ref i)) (hi : VR L fz ρ iv (.int w)) (hv : VR L fz ρ v X) (hm : mh[i]? = some (.lst l)) (hlim : 0 ≤ w ∧ w < l.length)
  (h : ∀ s',Good L fz ρ s (mh.set i (.lst (l.set w.toNat X))) fz ρ s' → Q () s') : wpAny L.M A (setItem ov iv v) Q E s := by
 obtain ⟨t,rfl⟩ := intOf hi
 obtain ⟨p,rfl,hp⟩ := refOf ho
 obtain ⟨q1,q2,xs,n,q3,q4⟩ := r.objs i _ p hm hp
 have hsz : xs.toArray.size = xs.length := List.size_toArray
 unfold LIM at q2
 have hxl := q4.len
 refine setItem_list_plain q3 hlim.1 (by lia) (by lia) fun h' hD hS => ?_
 have ex : ∀ b o,b ≠ p.1 → b ≠ p.2 → s.heap.get? b = some o → h'.get? b = some o := fun b o z O gg => (hS.2 b z).trans gg
 obtain ⟨n',ho'⟩ := hD
 exact h _ ⟨⟨_,s.toks,rfl⟩,r.change hp ex ⟨q1,by rw [List.length_set]; unfold LIM; exact q2,xs.set w.toNat v,n',ho',q4.set hv w.toNat⟩,.change hp ex fun b z => by
  by_cases hb : b = p.1
  ·rw [hb,ho'] at z; exact nO z.symm
  ·rw [hS.2 b hb] at z; exact z⟩
theorem setSub_ok {i : Nat} {I : MV} {iv ov : Value} {X : MV} {Q : Unit → Shared → Prop} (r : R L fz ρ mh s.heap) (ho : VR L fz ρ ov (.ref i)) (hi : VR L fz ρ iv I) (hv : VR L fz ρ v X) (e : setSub mh i I X = some mh')
  (h : ∀ s',Good L fz ρ s mh' fz ρ s' → Q () s') : wpAny L.M A (setItem ov iv v) Q E s := by
 refine byP fun G kG => ?_
 induction I using MV.casesOn with
 | str x => exact pMD e fun ks vs hm e => if_of e fun hl e => kG (putD_ok r ho hi hv hm hl (sI e ▸ h))
 | int x => exact pML e fun l hm e => if_of e fun hl e => kG (putL_ok r ho hi hv hm hl (sI e ▸ h))
 | _ => exact nO e
theorem oks_sub {o i pos mo mi} (h1 : OKE c env σ o mo) (h2 : OKE c env σ i mi) : OKS c env σ (.Subscript o i pos) (.sub mo mi) := fun {A E s fz ρ mh vals v V st} rm r x hv q => by
 refine bd_of (storeT_sub.symm.trans q) fun w mh1 e1 q => bo_of q fun j hw q => bd_of q fun z mh2 e2 q => bo_of q fun mh3 hm q => wqX q ?_
 obtain rfl := refV_eq hw
 rw [assign_Subscript]
 refine wpAny_bind (wpAny_holding (th (h1 rm r x e1) fun ov s1 ⟨fz1,ρ1,g1,x1⟩ => wpAny_bind (wpAny_holding (th (h2 rm g1.r (x.step g1.st) e2) fun iv s2 ⟨fz2,ρ2,g2,x2⟩ => wpAny_bind (wpAny_standAt (wpAny_bind (wpAny_holding ?_)))))))
 exact setSub_ok g2.r (x1.step g2.st) x2 ((hv.step g1.st).step g2.st) hm fun s3 g3 => wpAny_releasing ⟨fz2,ρ2,((g1.trans g2).trans g3).x,((x.step g1.st).step g2.st).step g3.st⟩
end
end
section
noncomputable def ownsTuples (n : String) : Bool := ["enumerate", "zip", "dict_itemiterator", "dict_reverseitemiterator", "odict_iterator", "itertools.zip_longest", "itertools.pairwise"].contains n
inductive Src (L : Lk) (A : Around) (fz : FZ) (ρ : RHO) (I : Addr) (l : List MV) (h : Heap) : Prop where
 | mk (fp : List Addr) (P : Nat → Value → Prop) (St : Nat → Heap → Prop) (w : Walks L.prog L.w A I fp [I] l.length P St) (t : St 0 h) (f : ∀ b ∈ fp,b = I ∨ (∃ o,fz b = some o) ∨ l = []) (p : ∀ i v V,P i v → l[i]? = some V → VR L fz ρ v V) (a : ∀ i h,St i h → ∃ o n,h.get? I = some o ∧ o.cls = .type n ∧ ownsTuples n = false)
section
variable {c : Cx} {env : Env} {ns σ : Sig} {L : Lk} {fz : FZ} {ρ : RHO} {mh mh' : MH} {s : Shared} {A : Around} {k : Nat} {E : Value → Shared → Prop} {v u : Value} {V U W : MV}
inductive PI (L : Lk) (A : Around) (fz : FZ) (ρ : RHO) (s : Shared) (l : List MV) (it : Value) (s' : Shared) : Prop where
 | mk (e : it = .ref s.heap.objs.size) (p : ∃ o,s' = { s with heap := s.heap.push o }) (w : ∀ A' : Around,A'.handled = none → Src L A' fz ρ s.heap.objs.size l s'.heap)
theorem iter_tup {l : List MV} (hh : A.handled = none) (r : R L fz ρ mh s.heap) (hv : VR L fz ρ v (.tup l)) : wpAny L.M A (pyIter v) (PI L A fz ρ s l) E s := by
 obtain ⟨a,xs,n,rfl,h1,h3,h2⟩ := hv.view
 have g := r.sub _ _ h1
 have hne : a ≠ s.heap.objs.size := fun q => by rw [q,get?_size] at g; exact nO g
 have hsz : xs.toArray.size = l.length := (List.size_toArray).trans h3.len
 have W : ∀ A' : Around,A'.handled = none → Walks L.prog L.w A' s.heap.objs.size [s.heap.objs.size,a] [s.heap.objs.size] l.length _ _ := fun A' hA' => hsz ▸ Walks.tuple (prog := L.prog) (w := L.w) hA' s.heap.objs.size a hne xs.toArray
 refine wpAny_pyIter_tuple (isTupleOf g) ⟨rfl,⟨_,rfl⟩,fun A' hA' => ⟨_,_,_,W A' hA',⟨⟨_,Heap.get?_push_size _ rfl,rfl,rfl⟩,isTupleOf (Heap.get?_push_of_some _ g)⟩,fun b hb => ?_,fun i v V hp hl => ?_,fun i h st => by obtain ⟨⟨o,ho,hc,_⟩,_⟩ := st; exact ⟨o,_,ho,hc,by decide⟩⟩⟩
 ·rcases List.mem_cons.mp hb with rfl | hb
  ·exact .inl rfl
  ·obtain rfl := List.mem_singleton.mp hb; exact .inr (.inl ⟨_,h1⟩)
 ·obtain ⟨y,hy,vy⟩ := h3.get hl
  rw [List.getElem?_toArray,hy] at hp
  obtain rfl := sI hp; exact vy
theorem iter_lst {l : List MV} (hh : A.handled = none) (r : R L fz ρ mh s.heap) (hv : VR L fz ρ v (.lst l)) : wpAny L.M A (pyIter v) (PI L A fz ρ s l) E s := by
 obtain ⟨a,xs,n,rfl,h1,h3,h2⟩ := hv.view
 have g := r.sub _ _ h1
 have hne : a ≠ s.heap.objs.size := fun q => by rw [q,get?_size] at g; exact nO g
 have hsz : xs.toArray.size = l.length := (List.size_toArray).trans h3.len
 have W : ∀ A' : Around,A'.handled = none → Walks L.prog L.w A' s.heap.objs.size [s.heap.objs.size,a] [s.heap.objs.size] l.length _ _ := fun A' hA' => hsz ▸ Walks.list (prog := L.prog) (w := L.w) hA' s.heap.objs.size a hne xs.toArray
 refine wpAny_pyIter_list (isListOf g) ⟨rfl,⟨_,rfl⟩,fun A' hA' => ⟨_,_,_,W A' hA',⟨⟨_,Heap.get?_push_size _ rfl,rfl,rfl⟩,isListOf (Heap.get?_push_of_some _ g)⟩,fun b hb => ?_,fun i v V hp hl => ?_,fun i h st => by obtain ⟨⟨o,ho,hc,_⟩,_⟩ := st; exact ⟨o,_,ho,hc,by decide⟩⟩⟩
 ·rcases List.mem_cons.mp hb with rfl | hb
  ·exact .inl rfl
  ·obtain rfl := List.mem_singleton.mp hb; exact .inr (.inl ⟨_,h1⟩)
 ·obtain ⟨y,hy,vy⟩ := h3.get hl
  rw [List.getElem?_toArray,hy] at hp
  obtain rfl := sI hp; exact vy
theorem iter_str {x : List Nat} (hh : A.handled = none) (r : R L fz ρ mh s.heap) (hv : VR L fz ρ v (.str x)) : wpAny L.M A (pyIter v) (PI L A fz ρ s (x.map fun c => MV.str [c])) E s := by
 obtain ⟨t,rfl,hl⟩ := strOf hv
 have hlen : (mkS x).cps.size = (x.map fun c => MV.str [c]).length := by simp [mkS]
 have fin : ∀ (o : Obj) (ty : String),ownsTuples ty = false → (∀ A' : Around,A'.handled = none → Walks L.prog L.w A' s.heap.objs.size [s.heap.objs.size] [s.heap.objs.size] (mkS x).cps.size (SignAt (mkS x)) (fun i h => h.IsStrIter s.heap.objs.size ty (mkS x) t i)) →
   (s.heap.push o).IsStrIter s.heap.objs.size ty (mkS x) t 0 → PI L A fz ρ s (x.map fun c => MV.str [c]) (.ref s.heap.objs.size) { s with heap := s.heap.push o } := fun o ty hty hW hSt => by
  refine ⟨rfl,⟨o,rfl⟩,fun A' hA' => ⟨_,_,_,hlen ▸ hW A' hA',hSt,fun b hb => .inl (List.mem_singleton.mp hb),fun i v V hp hl => ?_,fun i h st => by obtain ⟨o,ho,hc,_⟩ := st; exact ⟨o,_,ho,hc,hty⟩⟩⟩
  obtain ⟨ch,u,hc,rfl⟩ := hp
  rw [List.getElem?_map] at hl
  have : x[i]? = some ch := by simpa [mkS] using hc
  rw [this] at hl
  obtain rfl := sI hl
  exact .str (by unfold LIM; simp) .nil
 cases ha : (mkS x).cps.all (· < 128)
 ·exact wpAny_pyIter_wide ha (fin _ _ (by decide) (fun A' hA => Walks.strWide hA _ _ t) ⟨_,Heap.get?_push_size _ rfl,rfl,rfl⟩)
 ·exact wpAny_pyIter_ascii ha (fin _ _ (by decide) (fun A' hA => Walks.strAscii hA _ _ t) ⟨_,Heap.get?_push_size _ rfl,rfl,rfl⟩)
theorem iter_bytes {x : List UInt8} (hh : A.handled = none) (r : R L fz ρ mh s.heap) (hv : VR L fz ρ v (.bytes x)) : wpAny L.M A (pyIter v) (PI L A fz ρ s (x.map fun c => MV.int (c.toNat : Int))) E s := by
 obtain ⟨t,rfl,hl⟩ := bytesOf hv
 have hsz : x.toArray.size = (x.map fun c => MV.int (c.toNat : Int)).length := by simp
 have W : ∀ A' : Around,A'.handled = none → Walks L.prog L.w A' s.heap.objs.size [s.heap.objs.size] [s.heap.objs.size] (x.map fun c => MV.int (c.toNat : Int)).length _ _ := fun A' hA' => hsz ▸ KBw.walks (prog := L.prog) (w := L.w) hA' s.heap.objs.size x.toArray t
 refine KBw.pyIter_bytes ⟨rfl,⟨_,rfl⟩,fun A' hA' => ⟨_,_,_,W A' hA',⟨_,Heap.get?_push_size _ rfl,rfl,rfl⟩,fun b hb => .inl (List.mem_singleton.mp hb),fun i v V hp hl => ?_,fun i h st => by obtain ⟨o,ho,hc,_⟩ := st; exact ⟨o,_,ho,hc,by decide⟩⟩⟩
 obtain ⟨ch,u,hc,rfl⟩ := hp
 rw [List.getElem?_map] at hl
 have : x[i]? = some ch := by simpa using hc
 rw [this] at hl
 obtain rfl := sI hl
 exact .int .nil
theorem iter_dct {i : Nat} (hh : A.handled = none) (r : R L fz ρ mh s.heap) (hv : VR L fz ρ v (.ref i)) (hm : mh[i]? = some (.dct [] [])) : wpAny L.M A (pyIter v) (PI L A fz ρ s []) E s := by
 obtain ⟨p,rfl,h1⟩ := refOf hv
 obtain ⟨_,_,h2,kvs,h3,h4,h5⟩ := r.objs i _ p hm h1
 obtain ⟨o,es,ep,ho,hx,hd,hk,hp,hn⟩ := h3
 obtain rfl := List.map_eq_nil_iff.mp h4
 have hA0 : s.heap.DictAt L.knd p.1 [] ep := ⟨o,es,ho,hx,hd,hk,hp,hn⟩
 have hne : p.1 ≠ s.heap.objs.size := fun q => by rw [q,get?_size] at ho; exact nO ho
 exact wpAny_pyIter_dict h2 hA0 ⟨rfl,⟨_,rfl⟩,fun A' hA' => ⟨_,_,_,Walks.dictKeys (prog := L.prog) (w := L.w) (knd := L.knd) hA' s.heap.objs.size p.1 hne [] ep,⟨⟨_,Heap.get?_push_size _ rfl,rfl,rfl⟩,⟨o,es,Heap.get?_push_of_some _ ho,hx,hd,hk,hp,hn⟩⟩,
  fun b hb => .inr (.inr rfl),fun i v V hp hl => (nil_get hl).elim,fun i h st => by obtain ⟨⟨o,ho,hc,_⟩,_⟩ := st; exact ⟨o,_,ho,hc,by decide⟩⟩⟩
theorem iter0_of {m : Option MO} {α : Type} {x : Option α} {r : α} {P : Prop} (h : (match m with | some (.dct [] []) => x | _ => none) = some r) (k : m = some (.dct [] []) → x = some r → P) : P := by
 induction m using Option.casesOn with
 | none => exact nO h
 | some m => induction m using MO.casesOn with
  | dct ks vs => induction ks using List.casesOn with
   | nil => induction vs using List.casesOn with
    | nil => exact k rfl h
    | cons _ _ => exact nO h
   | cons _ _ => exact nO h
  | _ => exact nO h
theorem iter_ok {l : List MV} (hh : A.handled = none) (r : R L fz ρ mh s.heap) (hv : VR L fz ρ v V) (e : iterV mh V = some l) : wpAny L.M A (pyIter v) (PI L A fz ρ s l) E s := by
 refine byP fun G kG => ?_
 induction V using MV.casesOn with
 | tup l' => obtain rfl := sI e; exact kG (iter_tup hh r hv)
 | lst l' => obtain rfl := sI e; exact kG (iter_lst hh r hv)
 | str l' => obtain rfl := sI e; exact kG (iter_str hh r hv)
 | bytes l' => obtain rfl := sI e; exact kG (iter_bytes hh r hv)
 | ref i =>
  refine iter0_of e fun hm e => ?_
  obtain rfl := sI e
  exact kG (iter_dct hh r hv hm)
 | _ => exact nO e
theorem fp_keep {X : List Addr} {fz₀ fz' : FZ} {ρ' : RHO} {h h' : Heap} {mh' : MH} {fp : List Addr} {I : Addr} {l : List MV} (hfp : ∀ b ∈ fp,b = I ∨ (∃ o,fz₀ b = some o) ∨ l = []) (hl : l ≠ []) (m : ∀ a o,fz₀ a = some o → fz a = some o) (r : R L fz ρ mh h) (r' : R L fz' ρ' mh' h') (st : Step X fz ρ h fz' ρ' h')
  (apI : Apart fz ρ I) (hX : I ∉ X) : ∀ b ∈ fp,∀ o,h.get? b = some o → h'.get? b = some o := fun b hb o e => by
 rcases hfp b hb with rfl | ⟨o',q⟩ | q
 ·exact apI.kept st hX o e
 ·have h1 := m _ _ q
  obtain rfl := sI (e.symm.trans (r.sub _ _ h1))
  exact r'.sub _ _ (st.mono _ _ h1)
 ·exact absurd q hl
theorem fp_ext {fz₀ : FZ} {h h' : Heap} {fp : List Addr} {I a : Addr} {l : List MV} (hfp : ∀ b ∈ fp,b = I ∨ (∃ o,fz₀ b = some o) ∨ l = []) (hl : l ≠ []) (m : ∀ a o,fz₀ a = some o → fz a = some o) (ha : fz a = none) (hne : I ≠ a)
  (k : ∀ b o,b ≠ a → h.get? b = some o → h'.get? b = some o) : ∀ b ∈ fp,∀ o,h.get? b = some o → h'.get? b = some o := fun b hb o e => by
 rcases hfp b hb with rfl | ⟨o',q⟩ | q
 ·exact k _ _ hne e
 ·exact k _ _ (fun z => by have := m _ _ q; rw [z,ha] at this; exact nO this) e
 ·exact absurd q hl
set_option backward.match.sparseCases true in
theorem letOwned_ok {M : Model} {target : Expr} {I : Addr} {o : Obj} {n : String} {v : Value} {Q : Unit → Shared → Prop} (h : s.heap.get? I = some o) (hc : o.cls = .type n) (hn : ownsTuples n = false) (q : Q () s) : wpAny M A (letOwnedTupleGo target (.ref I) v) Q E s := by
 have key : wpAny M A (do
   let (.ref r,.ref a) := (Value.ref I,v) | return
   let o ← load r
   match o.cls,o.data with
   | .type n,.fields vs =>
    if ["enumerate", "zip", "dict_itemiterator", "dict_reverseitemiterator", "odict_iterator", "itertools.zip_longest", "itertools.pairwise"].contains n && vs[0]? == some (rawInt a) then
     rule "for.unpacks-the-owned-tuple"
     updateField r 0 .none
   | _,_ => pure () : Sem Unit) Q E s := by
  induction v using PySem.Value.casesOn <;> try exact wpAny_pure q
  refine wpAny_bind (wpAny_load h ?_)
  rw [hc]
  cases o.data <;> try exact wpAny_pure q
  dsimp only
  have : (["enumerate", "zip", "dict_itemiterator", "dict_reverseitemiterator", "odict_iterator", "itertools.zip_longest", "itertools.pairwise"].contains n) = false := hn
  rw [this,Bool.false_and,if_neg Bool.false_ne_true]
  exact wpAny_pure q
 induction target using PySem.Expr.casesOn with
 | Tuple _ _ _ => exact key
 | List _ _ => exact key
 | _ => exact wpAny_pure q
noncomputable def nextEnd (D : Shared → Prop) (K : Value → Shared → Prop) : Option Value → Shared → Prop
 | none => D
 | some v => K v
theorem letOwned_ex {M : Model} {target : Expr} {I : Addr} {v : Value} {Q : Unit → Shared → Prop} (h : ∃ o n,s.heap.get? I = some o ∧ o.cls = .type n ∧ ownsTuples n = false) (q : Q () s) : wpAny M A (letOwnedTupleGo target (.ref I) v) Q E s :=
 let ⟨_,_,h,hc,hn⟩ := h
 letOwned_ok h hc hn q
theorem less1 {i n : Nat} (h : i < n) : n + 1 - (i + 1) < n + 1 - i := Nat.sub_lt_sub_left (Nat.lt_succ_of_lt h) (Nat.lt_succ_self i)
noncomputable def testsOf (cenv : Env) (ifs : List Expr) : Sem Bool := forIn ifs true fun c r => if r = true then do let ok ← isTrue c cenv (eval c cenv); pure (ForInStep.yield ok) else pure (ForInStep.yield r)
theorem compLoop_tests {elt target iter : Expr} {ifs : List Expr} {scope : Scope} {pos : Pos} {it acc : Value} {cenv : Env} {Rr : Result → Shared → Prop} (Iv : Nat → Shared → Prop)
  (turn : ∀ n s (K : Shared → Prop) (E : Value → Shared → Prop),Iv n s → (∀ m s,m < n → Iv m s → K s) → wpAny L.M A (pyNext it) (nextEnd (Rr (.ok .next)) fun v s₁ =>
    wpAny L.M A (letOwnedTupleGo target it v) (fun O s₁' => wpAny L.M A (assign target cenv v) (fun O s₂ =>
     wpAny L.M A (testsOf cenv ifs) (fun ok s₃ =>
      cond ok (wpAny L.M A (eval elt cenv) (fun x s₄ => wpAny L.M A (call (.builtin "list.append") [acc,x]) (fun O => K) E s₄) E s₃)
      (K s₃)) E s₂) E s₁') E s₁) E s)
  (n : Nat) (h : Iv n s) : codeAny L.M A (.compLoop (.ListComp elt [⟨target,iter,ifs,0⟩] scope pos) 0 it acc cenv) Rr s := by
 refine codeAny_loop rfl Iv (fun n s hI => ?_) n h
 show wpAny _ A ((compTurn (.ListComp elt [⟨target,iter,ifs,0⟩] scope pos) 0 it acc cenv).onRaise (fun x => do noteFrame x cenv; theTreesLotGoes x)) _ _ s
 refine wpAny_noted ?_
 rw [compTurn_list]
 refine wpAny_bind (wpAny_standAt (wpAny_bind (wpAny_mono (turn n s (fun s => ∃ m,m < n ∧ Iv m s) _ hI fun m s a b => ⟨m,a,b⟩) (fun r s₁ h₁ => ?_) fun O O h' => h')))
 induction r using Option.casesOn with
 | none => exact wpAny_pure h₁
 | some v =>
  refine wpAny_bind (wpAny_mono h₁ (fun O s₁' h₁' => ?_) fun O O h' => h')
  refine wpAny_bind (wpAny_mono h₁' (fun O s₂ h₂ => wpAny_bind (wpAny_mono h₂ (fun ok s₃ h₃ => ?_) fun O O h' => h')) fun O O h' => h')
  induction ok using Bool.casesOn with
  | false => exact wpAny_pure ⟨rfl,h₃⟩
  | true =>
   exact wpAny_bind (wpAny_bind (wpAny_mono h₃ (fun x s₄ h₄ => wpAny_bind (wpAny_mono h₄ (fun O s₅ h₅ => wpAny_pure (wpAny_pure ⟨rfl,h₅⟩)) fun O O h' => h')) fun O O h' => h'))
end
end
section
section
variable {c : Cx} {env : Env} {ns σ : Sig} {L : Lk} {fz : FZ} {ρ : RHO} {mh mh' : MH} {s : Shared} {A : Around} {k : Nat} {E : Value → Shared → Prop} {v u : Value} {V U W : MV}
theorem EnvR.ext {env : Env} {σ : Sig} {vals : Vals} {h h' : Heap} {a : Addr} (x : EnvR L fz ρ h env σ vals) (k : ∀ b o,b ≠ a → h.get? b = some o → h'.get? b = some o) (h1 : env.locals ≠ a) (h2 : ∀ n c,env.cells.lookup n = some c → c ≠ a) : EnvR L fz ρ h' env σ vals := by
 obtain ⟨m,hm,hv⟩ := x.ns
 refine ⟨x.len,⟨m,hm.at' fun o => k _ o h1,hv⟩,fun i n e => ?_,x.apart,fun n c q => by
  obtain ⟨⟨o,ho⟩,ap⟩ := x.alive n c q; exact ⟨⟨o,k c o (h2 n c q) ho⟩,ap⟩⟩
 obtain ⟨c,o,q1,⟨oc,q2,q2'⟩,q3,q4⟩ := x.cells i n e
 exact ⟨c,o,q1,⟨oc,k _ _ (h2 _ _ q1) q2,q2'⟩,q3,q4⟩
theorem store_local {env : Env} {ns σ : Sig} {vals : Vals} {i : Nat} {n : Str} {Q : Unit → Shared → Prop} (S : EnvS env ns σ) (r : R L fz ρ mh s.heap) (x : EnvR L fz ρ s.heap env σ vals) (e : σ[i]? = some (n,.local)) (hv : VR L fz ρ v V)
  (h : ∀ s',Same s s' → R L fz ρ mh s'.heap → (∀ b o,b ≠ env.locals → s.heap.get? b = some o → s'.heap.get? b = some o) → (∃ o,s'.heap.get? env.locals = some o) → EnvR L fz ρ s'.heap env σ (vals.set i (some V)) → Q () s') : wpAny L.M A (storeName env n v) Q E s := by
 obtain ⟨h1,h2,h3⟩ := S.kinds i n _ e
 obtain ⟨m,hm,hmv⟩ := x.ns
 have hi : i < σ.length := (List.getElem?_eq_some_iff.mp e).1
 have hne : ∀ (j : Nat) n' k',σ[j]? = some (n',k') → j ≠ i → n' ≠ n := fun j n' k' e' hj q => by
  subst q
  have a1 : (σ.map (·.1))[j]? = some n' := by rw [List.getElem?_map,e']; rfl
  have a2 : (σ.map (·.1))[i]? = some n' := by rw [List.getElem?_map,e]; rfl
  obtain ⟨l1,q1⟩ := List.getElem?_eq_some_iff.mp a1
  obtain ⟨l2,q2⟩ := List.getElem?_eq_some_iff.mp a2
  exact hj ((List.getElem_inj S.nodup).mp (q1.trans q2.symm))
 have hp : (env.scope.kind == .class || (env.scope.kind == .module && env.locals != env.globals)) = false := by rw [S.fn]; rfl
 rw [storeName_local (S.kind.trans h1) hp]
 refine wpAny_nsSet hm fun h' hN hS => ?_
 have ex := hS.extBut
 refine h _ ⟨_,_,rfl⟩ (r.ext x.apart ex) ex (by obtain ⟨o,_,_,ho,_⟩ := hN; exact ⟨o,ho⟩) ⟨by rw [List.length_set]; exact x.len,⟨_,hN,fun j n' V' e' ev => ?_⟩,fun j n' e' => ?_,x.apart,fun n c q => by
   obtain ⟨⟨o,ho⟩,ap⟩ := x.alive n c q
   exact ⟨⟨o,ex c o (S.cellNe _ _ q) ho⟩,ap⟩⟩
 ·by_cases hj : j = i
  ·subst hj
   rw [e] at e'; cases e'
   rw [List.getElem?_set_self (by rw [x.len]; exact hi)] at ev
   cases ev
   exact ⟨v,by simp,hv⟩
  ·rw [List.getElem?_set_ne (Ne.symm hj)] at ev
   obtain ⟨v',q1,q2⟩ := hmv j n' V' e' ev
   exact ⟨v',by rw [if_neg (hne j n' _ e' hj)]; exact q1,q2⟩
 ·obtain ⟨c,o,q1,q2,q3,q4⟩ := x.cells j n' e'
  have hj : j ≠ i := fun q => by rw [q,e] at e'; cases e'
  refine ⟨c,o,q1,q2.sameBut hS (S.cellNe _ _ q1),q3,fun V' ev => ?_⟩
  rw [List.getElem?_set_ne (Ne.symm hj)] at ev
  exact q4 V' ev
inductive PLoc (L : Lk) (env : Env) (σ : Sig) (fz : FZ) (ρ : RHO) (mh : MH) (s : Shared) (vals' : Vals) (s' : Shared) : Prop where
 | mk (m : Same s s') (r : R L fz ρ mh s'.heap) (k : ∀ b o,b ≠ env.locals → s.heap.get? b = some o → s'.heap.get? b = some o) (x : EnvR L fz ρ s'.heap env σ vals')
theorem stores_local (S : EnvS env ns σ) : ∀ {ts : List Expr} {i : Nat} {vs : List Value} {Vs : List MV} {s : Shared} {pre caps w : Vals},(∀ (j : Nat) t,ts[j]? = some t → ∃ n pos,t = .Name n pos ∧ σ[i + j]? = some (n,.local)) → ts.length = vs.length →
  R L fz ρ mh s.heap → EnvR L fz ρ s.heap env σ (pre ++ w ++ caps) → VRL L fz ρ vs Vs → pre.length = i → w.length = vs.length →
  wpAny L.M A (assignInOrder (ts.map fun t => assign t env) vs) (fun O => PLoc L env σ fz ρ mh s (pre ++ Vs.map some ++ caps)) E s
 | [],i,vs,Vs,s,pre,caps,w,ht,hl,r,x,hv,hp,hw => by
  induction vs using List.casesOn with
  | cons _ _ => cases hl
  | nil =>
   cases hv
   have : w = [] := List.length_eq_zero_iff.mp hw
   subst this
   exact wpAny_pure ⟨.refl s,r,fun O O O e => e,by simpa using x⟩
 | t :: ts,i,vs,Vs,s,pre,caps,w,ht,hl,r,x,hv,hp,hw => by
  induction vs using List.casesOn with
  | nil => cases hl
  | cons v vs =>
   obtain ⟨V,Vs',rfl,h1,h2⟩ := hv.uncons
   obtain ⟨n,pos,rfl,e⟩ := ht 0 t rfl
   induction w using List.casesOn with
   | nil => cases hw
   | cons w0 w =>
    refine wpAny_bind (wpAny_holding (wpAny_assign_Name (store_local S r x (by simpa using e) h1 fun s1 q1 q2 q3 q4 q5 => ?_)))
    have hset : (pre ++ (w0 :: w) ++ caps).set i (some V) = (pre ++ [some V]) ++ w ++ caps := by
     subst hp
     rw [List.append_assoc,List.set_append_right _ _ (Nat.le_refl _),Nat.sub_self]
     simp
    rw [hset] at q5
    refine th (stores_local S (i := i + 1) (fun j t' h' => by
     have := ht (j + 1) t' (by simpa using h')
     rwa [show i + (j + 1) = i + 1 + j by lia] at this) (by simpa using hl) q2 q5 h2 (by simp [hp]) (by simpa using hw)) fun _ s2 ⟨z1,z2,z3,z4⟩ => ⟨q1.trans z1,z2,fun b o hb e => z3 b o hb (q3 b o hb e),by simpa using z4⟩
inductive TgtE (σ : Sig) : Expr → Nat → Prop
 | one {n pos} : σ[0]? = some (n,.local) → TgtE σ (.Name n pos) 1
 | many {ts k pos} : ts.all plainE = true → ts.length ≠ 1 → (∀ (j : Nat) t,ts[j]? = some t → ∃ n pos,t = .Name n pos ∧ σ[0 + j]? = some (n,.local)) → TgtE σ (.Tuple ts k pos) ts.length
theorem bindT_of {nt : Nat} {b : Vals} {P : Prop} (hn : nt ≠ 1) (e : bindT nt V = some b) (k : ∀ l,V = .tup l → l.length = nt → l.map some = b → P) : P := by
 have e : (match (generalizing := false) V with | .tup l => if l.length = nt then some (l.map some) else none | _ => none) = some b := by
  match nt,hn with
  | 0,_ => exact e
  | 1,h => exact absurd rfl h
  | n + 2,_ => exact e
 exact pT e fun l hV e => if_of e fun hl e => k l hV hl (sI e)
theorem tgt_ok {t : Expr} {nt : Nat} {b caps w : Vals} (S : EnvS env ns σ) (T : TgtE σ t nt) (hh : A.handled = none) (r : R L fz ρ mh s.heap) (x : EnvR L fz ρ s.heap env σ (w ++ caps)) (hw : w.length = nt) (hv : VR L fz ρ v V) (e : bindT nt V = some b) :
  wpAny L.M A (assign t env v) (fun O => PLoc L env σ fz ρ mh s (b ++ caps)) E s := by
 cases T with
 | one h1 =>
  simp only [bindT] at e
  obtain rfl := sI e
  induction w using List.casesOn with
  | nil => cases hw
  | cons w0 w =>
   have hw' : w = [] := by simpa using hw
   subst hw'
   refine wpAny_assign_Name (store_local S r x h1 hv fun s1 q1 q2 q3 q4 q5 => ⟨q1,q2,q3,by simpa using q5⟩)
 | @many ts k pos hp hne ht =>
  have e' : ∃ l,V = .tup l ∧ l.length = ts.length ∧ b = l.map some := by
   refine bindT_of (fun q => hne q) e fun l hV hl hb => ⟨l,hV,hl,hb.symm⟩
  obtain ⟨l,rfl,hl,rfl⟩ := e'
  obtain ⟨a,xs,n,rfl,g,y,_⟩ := tupOf r hv
  have hsz : xs.toArray.size = xs.length := List.size_toArray
  refine wpAny_assign_Tuple hh (isTupleOf g) (by rw [assignEach_plain hp,List.length_map,hsz,y.len,hl]) (by rw [assignEach_plain hp]; exact findIdx_plain) fun h' hE => ?_
  rw [assignEach_plain hp,List.map_map]
  have kp : ∀ b o,s.heap.get? b = some o → h'.get? b = some o := fun b o e => hE b o (fun q => by rw [q,get?_size] at e; exact nO e) e
  have g0 : Good L fz ρ s mh fz ρ { s with heap := h' } := .keeps r kp s.toks
  exact th (stores_local (i := 0) (pre := []) (w := w) (caps := caps) S ht (by rw [y.len,hl]) g0.r (x.step g0.st) y rfl (by rw [hw,y.len,hl])) fun _ s2 ⟨z1,z2,z3,z4⟩ => ⟨g0.same.trans z1,z2,fun b o hb e => z3 b o hb (kp b o e),z4⟩
inductive CondE (c : Cx) (env : Env) (σ : Sig) : List Expr → List ME → Prop
 | none : CondE c env σ [] []
 | one {e me} : OKT c env σ e me → CondE c env σ [e] [me]
theorem cond_ok {ifs : List Expr} {conds : List ME} {vals : Vals} {b : Bool} (H : CondE c env σ ifs conds) (rm : Room A (16 * c.n + 1)) (r : R c.L fz ρ mh s.heap) (x : EnvR c.L fz ρ s.heap env σ vals) (e : allT c.T c.C vals mh conds = some (b,mh')) :
  wpAny c.L.M A (testsOf env ifs) (PB c.L fz ρ s b mh') E s := by
 cases H with
 | none => exact wqB e (wpAny_tests_nil ⟨rfl,_,_,.refl r⟩)
 | one h =>
  refine wpAny_tests_one (h rm r x ?_)
  exact brB_of (allT_cons.symm.trans e) (fun m e1 e => by obtain ⟨rfl,rfl⟩ := sP e; exact e1) fun m e1 e => by obtain ⟨rfl,rfl⟩ := sP e; exact e1
end
end
section
theorem folded_plain {e : Expr} {env : Env} (h : notSet e = true) (x : Value) : foldedSetIterable e env x = pure x := by
 induction e using PySem.Expr.casesOn <;> first | rfl | exact fF' h
noncomputable def clOf (env : Env) : List (Str × NameKind) → List (Str × Addr) → List (Str × Addr)
 | [],acc => acc
 | (n,k) :: r,acc => clOf env r (if k == .free then (n,(env.cells.lookup n).getD 0) :: acc else acc)
theorem closure_eq {env : Env} {scope : Scope} (h : ∀ x ∈ scope.names,x.2 = .free → ∃ c,env.cells.lookup x.1 = some c) : closureFor scope env = pure (clOf env scope.names []) := by
 have key : ∀ (names : List (Str × NameKind)) (acc : List (Str × Addr)),(∀ x ∈ names,x.2 = .free → ∃ c,env.cells.lookup x.1 = some c) →
   (forIn names acc fun x cs => (if x.2 == .free then (do let a ← cellOf env x.1; pure (ForInStep.yield ((x.1,a) :: cs))) else pure (ForInStep.yield cs) : Sem (ForInStep (List (Str × Addr))))) = pure (clOf env names acc) := fun names => by
  induction names with
  | nil => intro acc _; rfl
  | cons x r ih =>
   intro acc h
   obtain ⟨n,k⟩ := x
   rw [List.forIn_cons]
   by_cases hk : k = .free
   ·subst hk
    obtain ⟨c,hc⟩ := h (n,.free) (.head _) rfl
    have e : cellOf env n = pure c := by unfold cellOf; rw [hc]
    dsimp only
    rw [if_pos (beq_self_eq_true _),e]
    show (forIn r ((n,c) :: acc) _ : Sem _) = _
    rw [ih _ fun y hy => h y (.tail _ hy)]
    show _ = pure (clOf env r (if (NameKind.free == .free) = true then _ else _))
    rw [if_pos (beq_self_eq_true _),hc]; rfl
   ·have hb : (k == NameKind.free) = false := by simpa using hk
    dsimp only
    rw [if_neg (by rw [hb]; exact Bool.false_ne_true)]
    show (forIn r acc _ : Sem _) = _
    rw [ih _ fun y hy => h y (.tail _ hy)]
    show _ = pure (clOf env r (if (k == NameKind.free) = true then _ else _))
    rw [if_neg (by rw [hb]; exact Bool.false_ne_true)]
 have := key scope.names [] h
 unfold closureFor
 refine Eq.trans ?_ this
 rw [bind_pure]
theorem clOf_mem {env : Env} : ∀ {names : List (Str × NameKind)} {acc : List (Str × Addr)} {n c},(∀ x ∈ names,x.2 = .free → ∃ c,env.cells.lookup x.1 = some c) → (n,c) ∈ clOf env names acc → (n,c) ∈ acc ∨ ((n,NameKind.free) ∈ names ∧ env.cells.lookup n = some c)
 | [],acc,n,c,_,h => .inl h
 | (m,k) :: r,acc,n,c,hf,h => by
  rcases clOf_mem (fun x hx => hf x (.tail _ hx)) h with q | ⟨q1,q2⟩
  ·by_cases hk : k = .free
   ·subst hk
    rw [if_pos (beq_self_eq_true _)] at q
    cases q with
    | head => obtain ⟨c,hc⟩ := hf (m,.free) (.head _) rfl; right; rw [hc]; exact ⟨.head _,rfl⟩
    | tail _ q => exact .inl q
   ·rw [if_neg (by simpa using hk)] at q; exact .inl q
  ·exact .inr ⟨.tail _ q1,q2⟩
theorem clOf_acc {env : Env} : ∀ {names : List (Str × NameKind)} {acc : List (Str × Addr)} {x},x ∈ acc → x ∈ clOf env names acc
 | [],acc,x,h => h
 | (m,k) :: r,acc,x,h => by
  unfold clOf
  split
  ·exact clOf_acc (.tail _ h)
  ·exact clOf_acc h
theorem clOf_has {env : Env} : ∀ {names : List (Str × NameKind)} {acc : List (Str × Addr)} {n},(n,NameKind.free) ∈ names → (n,(env.cells.lookup n).getD 0) ∈ clOf env names acc
 | (m,k) :: r,acc,n,h => by
  cases h with
  | head => unfold clOf; rw [if_pos (beq_self_eq_true _)]; exact clOf_acc (.head _)
  | tail _ h => unfold clOf; exact clOf_has h
theorem clOf_lookup {env : Env} {names : List (Str × NameKind)} (hf : ∀ x ∈ names,x.2 = .free → ∃ c,env.cells.lookup x.1 = some c) {n : Str} (h : (n,NameKind.free) ∈ names) : (clOf env names []).lookup n = env.cells.lookup n := by
 have h1 := clOf_has (env := env) (acc := []) h
 have : ∃ c,(clOf env names []).lookup n = some c := by
  generalize clOf env names [] = l at h1
  induction l with
  | nil => exact nM h1
  | cons a l ih =>
   obtain ⟨k,v⟩ := a
   rw [List.lookup_cons]
   cases hb : n == k with
   | true => exact ⟨v,rfl⟩
   | false =>
    cases h1 with
    | head => simp at hb
    | tail _ q => exact ih q
 obtain ⟨c,hc⟩ := this
 rcases clOf_mem hf (mem_of_lookup hc) with q | ⟨_,q⟩
 ·exact nM q
 ·rw [hc,q]
structure CompS (ns σ : Sig) (scope : Scope) (caps : List Nat) (nt : Nat) (nsC σc : Sig) : Prop where
 fn : scope.kind = .function
 noCell : ∀ y ∈ scope.names,y.2 ≠ .cell
 loc : ∀ x ∈ scope.names,x.2 = .local → scope.names.lookup x.1 = some .local
 names : nsC = scope.names.map fun x => if (x.2 == .free && ns.lookup x.1 == some .cell) then (x.1,.cell) else x
 free : ∀ x ∈ scope.names,x.2 = .free → ∃ i : Nat,σ[i]? = some (x.1,NameKind.cell)
 len : σc.length = nt + caps.length
 tgts : ∀ j,j < nt → ∃ n,σc[j]? = some (n,NameKind.local)
 caps : ∀ j i,caps[j]? = some i → ∃ n,σ[i]? = some (n,NameKind.cell) ∧ σc[nt + j]? = some (n,NameKind.cell) ∧ (n,NameKind.free) ∈ scope.names
 kinds : ∀ (i : Nat) n k,σc[i]? = some (n,k) → nsC.lookup n = some k ∧ (k = .local ∨ k = .cell) ∧ (n == ("__debug__" : Str)) = false
 nodup : (σc.map (·.1)).Nodup
section
variable {c : Cx} {env : Env} {ns σ : Sig} {L : Lk} {fz : FZ} {ρ : RHO} {mh mh' : MH} {s : Shared} {A : Around} {k : Nat} {E : Value → Shared → Prop} {v u : Value} {V U W : MV}
theorem capsOf_get {vals : Vals} : ∀ {caps : List Nat} {j i : Nat},caps[j]? = some i → (capsOf vals caps)[j]? = some (vals[i]?).join
 | a :: r,0,i,h => by simp at h; subst h; rfl
 | a :: r,j + 1,i,h => by simpa [capsOf] using capsOf_get (caps := r) (j := j) (by simpa using h)
theorem capsOf_len {vals : Vals} : ∀ {caps : List Nat},(capsOf vals caps).length = caps.length
 | [] => rfl
 | a :: r => by simp [capsOf,capsOf_len (caps := r)]
theorem comp_env {vals : Vals} {scope : Scope} {caps : List Nat} {nt : Nat} {nsC σc : Sig} {C : Addr} {h' : Heap} (S : EnvS env ns σ) (Q : CompS ns σ scope caps nt nsC σc) (x : EnvR L fz ρ h' env σ vals) (hC : h'.Ns C fun O => none) (hap : Apart fz ρ C)
  (hfr : ∀ n k,(n,NameKind.free) ∈ scope.names → env.cells.lookup n = some k → k ≠ C) :
  closureFor scope env = pure (clOf env scope.names []) ∧ EnvS (compEnvC scope (clOf env scope.names []) C env) nsC σc ∧ EnvR L fz ρ h' (compEnvC scope (clOf env scope.names []) C env) σc (List.replicate nt none ++ capsOf vals caps) := by
 have hf : ∀ x ∈ scope.names,x.2 = .free → ∃ c,env.cells.lookup x.1 = some c := fun y hy hk => by
  obtain ⟨i,hi⟩ := Q.free y hy hk
  obtain ⟨c,o,q1,_⟩ := x.cells i _ hi
  exact ⟨c,q1⟩
 have hin : ∀ n k,(clOf env scope.names []).lookup n = some k → env.cells.lookup n = some k := fun n k h => by
  rcases clOf_mem hf (mem_of_lookup h) with q | ⟨_,q⟩
  ·cases q
  ·exact q
 have hin2 : ∀ n k,(clOf env scope.names []).lookup n = some k → (n,NameKind.free) ∈ scope.names := fun n k h => by
  rcases clOf_mem hf (mem_of_lookup h) with q | ⟨q,_⟩
  ·cases q
  ·exact q
 refine ⟨closure_eq hf,⟨Q.fn,S.glob,S.blt,?_,Q.kinds,Q.nodup,fun n k h => hfr n k (hin2 n k h) (hin n k h),fun n n' k h h' => S.cellInj n n' k (hin _ _ h) (hin _ _ h')⟩,⟨?_,⟨_,hC,fun i n V e e' => ?_⟩,fun i n e => ?_,hap,fun n k h => x.alive n k (hin n k h)⟩⟩
 ·rw [Q.names]
  show (relabel scope env).names = _
  unfold relabel
  dsimp only
  refine List.map_congr_left fun y O => ?_
  obtain ⟨n,k⟩ := y
  rw [S.fn,S.kind]
  induction k using PySem.NameKind.casesOn <;> simp
 ·rw [List.length_append,List.length_replicate,capsOf_len,Q.len]
 ·exfalso
  have hi : i < nt := by
   rcases Nat.lt_or_ge i nt with h | h
   ·exact h
   ·obtain ⟨j,rfl⟩ := Nat.exists_eq_add_of_le h
    have hl := (List.getElem?_eq_some_iff.mp e).1
    rw [Q.len] at hl
    have hj : j < caps.length := Nat.lt_of_add_lt_add_left hl
    obtain ⟨m,_,q2,_⟩ := Q.caps j caps[j] (List.getElem?_eq_getElem hj)
    rw [q2] at e; cases e
  rw [List.getElem?_append_left (by simpa using hi),List.getElem?_replicate] at e'
  rw [if_pos hi] at e'
  cases e'
 ·have hi : nt ≤ i := by
   rcases Nat.lt_or_ge i nt with h | h
   ·obtain ⟨m,q⟩ := Q.tgts i h; rw [q] at e; cases e
   ·exact h
  obtain ⟨j,rfl⟩ := Nat.exists_eq_add_of_le hi
  have hl := (List.getElem?_eq_some_iff.mp e).1
  rw [Q.len] at hl
  have hj : j < caps.length := Nat.lt_of_add_lt_add_left hl
  obtain ⟨m,q1,q2,q3⟩ := Q.caps j caps[j] (List.getElem?_eq_getElem hj)
  rw [q2] at e; cases e
  obtain ⟨cc,o,w1,w2,w3,w4⟩ := x.cells _ _ q1
  refine ⟨cc,o,(clOf_lookup hf q3).trans w1,w2,w3,fun V e' => ?_⟩
  rw [List.getElem?_append_right (by simp),List.length_replicate,Nat.add_sub_cancel_left,capsOf_get (List.getElem?_eq_getElem hj)] at e'
  refine w4 V ?_
  cases hv : vals[caps[j]]? with
  | none => rw [hv] at e'; cases e'
  | some z => rw [hv] at e'; simpa using e'
noncomputable def compOne (T : Text) (C : Callee) (elt : ME) (conds : List ME) : List (Option MV) → MH → Option (Option MV × MH) := fun vs mh => brB (allT T C vs mh conds) (fun mh => bd (evalE T C vs mh elt) fun y mh => some (some y,mh)) fun mh => some (none,mh)
structure CompF (c : Cx) (cenv : Env) (σc : Sig) (fz₀ : FZ) (ρ₀ : RHO) (s₀ : Shared) (I D : Addr) (St : Nat → Heap → Prop) (nt : Nat) (capsV : Vals) (one : List (Option MV) → MH → Option (Option MV × MH)) (l : List MV) (mhf : MH) (Yall : List MV) (i : Nat) (s : Shared)
  (fz : FZ) (ρ : RHO) (mh : MH) (w : Vals) (ys : List Value) (Ys : List MV) (n : Nat) (zs : List MV) : Prop where
 same : Same s₀ s
 r : R c.L fz ρ mh s.heap
 st : Step [] fz₀ ρ₀ s₀.heap fz ρ s.heap
 x : EnvR c.L fz ρ s.heap cenv σc (w ++ capsV)
 wl : w.length = nt
 it : St i s.heap
 le : i ≤ l.length
 d : s.heap.get? D = some (seqObj "list" ys n)
 y : VRL c.L fz ρ ys Ys
 yl : Ys.length ≤ i
 apD : Apart fz ρ D
 apI : Apart fz ρ I
 go : compGo one nt capsV (l.drop i) mh = some (zs,mhf)
 all : Ys ++ zs = Yall
inductive CompI (c : Cx) (cenv : Env) (σc : Sig) (fz₀ : FZ) (ρ₀ : RHO) (s₀ : Shared) (I D : Addr) (St : Nat → Heap → Prop) (nt : Nat) (capsV : Vals) (one : List (Option MV) → MH → Option (Option MV × MH)) (l : List MV) (mhf : MH) (Yall : List MV) (i : Nat) (s : Shared) : Prop where
 | mk (fz : FZ) (ρ : RHO) (mh : MH) (w : Vals) (ys : List Value) (Ys : List MV) (n : Nat) (zs : List MV) (h : CompF c cenv σc fz₀ ρ₀ s₀ I D St nt capsV one l mhf Yall i s fz ρ mh w ys Ys n zs)
inductive CI (n : Nat) (I : Nat → Shared → Prop) (k : Nat) (s : Shared) : Prop where
 | mk (i : Nat) (e : k = n + 1 - i) (h : I i s)
theorem compGo_cons {one : List (Option MV) → MH → Option (Option MV × MH)} {nt : Nat} {caps : Vals} {x : MV} {r : List MV} : compGo one nt caps (x :: r) mh = bo (bindT nt x) fun b => bd (one (b ++ caps) mh) fun y mh => bd (compGo one nt caps r mh) fun ys mh => some (withO y ys,mh) := rfl
section loop
variable {cenv : Env} {nsC σc : Sig} {fz₀ : FZ} {ρ₀ : RHO} {s₀ : Shared} {I D : Addr} {fp : List Addr} {P : Nat → Value → Prop} {St : Nat → Heap → Prop} {nt : Nat} {capsV : Vals} {l : List MV} {mhf : MH} {Yall : List MV} {one : List (Option MV) → MH → Option (Option MV × MH)}
theorem comp_end {s s' s2 : Shared} {fz fz3 : FZ} {ρ ρ3 : RHO} {mh mh3 : MH} {w b : Vals} {ys : List Value} {Ys : List MV} {n i : Nat} {zs zs' : List MV} (H : CompF c cenv σc fz₀ ρ₀ s₀ I D St nt capsV one l mhf Yall i s fz ρ mh w ys Ys n zs) (hi : i < l.length) (ne : l ≠ [])
  (W : Walks c.L.prog c.L.w A I fp [I] l.length P St) (hfp : ∀ b ∈ fp,b = I ∨ (∃ o,fz₀ b = some o) ∨ l = []) (r2 : R c.L fz ρ mh s2.heap) (sm : Same s s2) (st2 : Step [] fz₀ ρ₀ s₀.heap fz ρ s2.heap) (x2 : EnvR c.L fz ρ s2.heap cenv σc (b ++ capsV)) (hS : St (i + 1) s2.heap) (g : Good c.L fz ρ s2 mh3 fz3 ρ3 s')
  (hI : ∃ o,s2.heap.get? I = some o) (hD : s2.heap.get? D = some (seqObj "list" ys n)) {Yall' : List MV} (hgo : compGo one nt capsV (l.drop (i + 1)) mh3 = some (zs',mhf)) (hall : Ys ++ zs' = Yall') : CompF c cenv σc fz₀ ρ₀ s₀ I D St nt capsV one l mhf Yall' (i + 1) s' fz3 ρ3 mh3 b ys Ys n zs' := by
 obtain ⟨oI,hI⟩ := hI
 refine ⟨(H.same.trans sm).trans g.same,g.r,st2.trans g.st,x2.step g.st,?_,W.frame _ _ _ hS (fp_keep hfp ne H.st.mono r2 g.r g.st H.apI (List.not_mem_nil)),hi,H.apD.kept g.st (List.not_mem_nil) _ hD,H.y.step g.st,Nat.le_succ_of_le H.yl,H.apD.step hD g.st,H.apI.step hI g.st,hgo,hall⟩
 have h1 := x2.len; have h2 := H.x.len; have h3 := H.wl
 rw [List.length_append] at h1 h2
 lia
theorem comp_app {s4 : Shared} {fz : FZ} {ρ : RHO} {mh : MH} {b : Vals} {ys : List Value} {Ys : List MV} {n i n5 tk : Nat} {zs : List MV} {Yall' : List MV} {h5 : Heap} (F : CompF c cenv σc fz₀ ρ₀ s₀ I D St nt capsV one l mhf Yall' (i + 1) s4 fz ρ mh b ys Ys n zs) (ne : l ≠ [])
  (W : Walks c.L.prog c.L.w A I fp [I] l.length P St) (hfp : ∀ b ∈ fp,b = I ∨ (∃ o,fz₀ b = some o) ∨ l = []) (hD : s₀.heap.get? D = none) (hID : I ≠ D) (hDC : D ≠ cenv.locals) (hcc : ∀ n k,cenv.cells.lookup n = some k → k ≠ D) (k : ∀ b o,b ≠ D → s4.heap.get? b = some o → h5.get? b = some o)
  (hd : h5.get? D = some (seqObj "list" (ys ++ [v]) n5)) (hv : VR c.L fz ρ v V) (hl : Ys.length ≤ i) (hall : Ys ++ V :: zs = Yall) : CompF c cenv σc fz₀ ρ₀ s₀ I D St nt capsV one l mhf Yall (i + 1) { s4 with heap := h5,toks := tk } fz ρ mh b (ys ++ [v]) (Ys ++ [V]) n5 zs :=
 ⟨F.same.trans ⟨_,_,rfl⟩,F.r.ext F.apD k,F.st.tick hD k,F.x.ext k (Ne.symm hDC) hcc,F.wl,W.frame _ _ _ F.it (fp_ext hfp ne F.st.mono F.apD.1 hID k),F.le,hd,F.y.append hv,by rw [List.length_append]; exact Nat.succ_le_succ hl,F.apD,F.apI,F.go,by rw [List.append_assoc]; exact hall⟩
theorem comp_loop {elt target iter : Expr} {ifs : List Expr} {scope : Scope} {pos : Pos} {melt : ME} {conds : List ME}
  {Rr : Result → Shared → Prop} (rm : Room A (16 * c.n + 1)) (S : EnvS cenv nsC σc) (Tg : TgtE σc target nt) (W : Walks c.L.prog c.L.w A I fp [I] l.length P St)
  (hfp : ∀ b ∈ fp,b = I ∨ (∃ o,fz₀ b = some o) ∨ l = []) (hP : ∀ i v V,P i v → l[i]? = some V → VR c.L fz₀ ρ₀ v V) (hal : ∀ i h,St i h → ∃ o n,h.get? I = some o ∧ o.cls = .type n ∧ ownsTuples n = false)
  (hI : s₀.heap.get? I = none) (hD : s₀.heap.get? D = none) (hC : s₀.heap.get? cenv.locals = none) (hID : I ≠ D) (hIC : I ≠ cenv.locals) (hDC : D ≠ cenv.locals) (hcc : ∀ n k,cenv.cells.lookup n = some k → k ≠ I ∧ k ≠ D) (hlim : l.length ≤ LIM)
  (hE : OKE c cenv σc elt melt) (hCo : CondE c cenv σc ifs conds)
  (fin : ∀ s,CompI c cenv σc fz₀ ρ₀ s₀ I D St nt capsV (compOne c.T c.C melt conds) l mhf Yall l.length s → ∀ h' tk,(∀ b o,b ≠ I → s.heap.get? b = some o → h'.get? b = some o) → Rr (.ok .next) { s with heap := h',toks := tk })
  {s : Shared} (h0 : CompI c cenv σc fz₀ ρ₀ s₀ I D St nt capsV (compOne c.T c.C melt conds) l mhf Yall 0 s) :
  codeAny c.L.M A (.compLoop (.ListComp elt [⟨target,iter,ifs,0⟩] scope pos) 0 (.ref I) (.ref D) cenv) Rr s := by
 refine compLoop_tests (CI l.length (CompI c cenv σc fz₀ ρ₀ s₀ I D St nt capsV (compOne c.T c.C melt conds) l mhf Yall)) ?_ (l.length + 1) ⟨0,rfl,h0⟩
 intro k s K E hyp kK
 refine byP fun P kP => ?_
 obtain ⟨i,hk,fz,ρ,mh,w,ys,Ys,n,zs,H⟩ := hyp
 rcases Nat.lt_or_ge i l.length with hi | hi
 ·have ne : l ≠ [] := fun q => by rw [q] at hi; cases hi
  have hgo := H.go
  rw [List.drop_eq_getElem_cons hi] at hgo
  refine bo_of (compGo_cons.symm.trans hgo) fun b hb hgo => bd_of hgo fun y mh2 hone hgo => bd_of hgo fun zs' mh3 hrest hgo => ?_
  obtain ⟨rfl,rfl⟩ := sP hgo
  refine kP (W.item i _ _ _ hi H.it fun v h1 t1 hPv hS1 hk1 => letOwned_ex (hal _ _ hS1) ?_)
  clear kP
  have hk1' : ∀ b o,b ≠ I → s.heap.get? b = some o → h1.get? b = some o := fun b o hb e => hk1 b o (fun q => hb (List.mem_singleton.mp q)) e
  have vv : VR c.L fz ρ v l[i] := (hP i v _ hPv (List.getElem?_eq_getElem hi)).step H.st
  refine wpAny_mono (tgt_ok (s := { s with heap := h1,toks := t1 }) (E := E) S Tg rm.hd (H.r.ext H.apI hk1') (H.x.ext hk1' (Ne.symm hIC) fun n k h => (hcc n k h).1) H.wl vv hb) (fun O s2 z => ?_) fun O O e => e
  refine byP fun P kP => ?_
  obtain ⟨b1,b2,b3,b4⟩ := z
  obtain ⟨oI,nI,hoI,_⟩ := hal _ _ hS1
  have st2 : Step [] fz₀ ρ₀ s₀.heap fz ρ s2.heap := (H.st.tick hI hk1').tick hC b3
  have hS2 : St (i + 1) s2.heap := W.frame _ _ _ hS1 (fp_ext hfp ne H.st.mono H.x.apart.1 hIC b3)
  have gD2 : s2.heap.get? D = some (seqObj "list" ys n) := b3 _ _ hDC (hk1' _ _ (Ne.symm hID) H.d)
  have hIa : ∃ o,s2.heap.get? I = some o := ⟨_,b3 _ _ hIC hoI⟩
  have sm2 : Same s s2 := by obtain ⟨_,_,rfl⟩ := b1; exact ⟨_,_,rfl⟩
  refine brB_of (show brB _ _ _ = _ from hone) (fun mhc hcond hone => bd_of hone fun yv mhe helt hone => ?_) fun mhc hcond hone => ?_
  ·obtain ⟨rfl,rfl⟩ := sP hone
   refine kP (wpAny_mono (cond_ok hCo rm b2 b4 hcond) (fun ok s3 z => ?_) fun O O e => e)
   clear kP
   refine byP fun P kP => ?_
   obtain ⟨rfl,fz3,ρ3,g3⟩ := z
   refine kP (wpAny_mono (hE rm g3.r (b4.step g3.st) helt) (fun yval s4 z => ?_) fun O O e => e)
   clear kP
   refine byP fun P kP => ?_
   obtain ⟨fz4,ρ4,g4,vy⟩ := z
   have F := comp_end H hi ne W hfp b2 sm2 st2 b4 hS2 (g3.trans g4) hIa gD2 hrest rfl
   have hyl := H.yl
   refine kP (wpAny_list_append_plain ⟨n,F.d⟩ (fun h5 hP5 hS5 => ?_) (by rw [List.size_toArray,F.y.len]; exact limS (Nat.le_trans hyl (Nat.le_trans (Nat.le_of_lt hi) hlim))))
   obtain ⟨n5,hP5⟩ := hP5
   exact kK _ _ (hk ▸ less1 hi) ⟨i + 1,rfl,_,_,_,_,_,_,_,_,comp_app (n5 := n5) F ne W hfp hD hID hDC (fun n k h => (hcc n k h).2) hS5.extBut (by rw [hP5]; simp) vy hyl (H.all ▸ rfl)⟩
  ·obtain ⟨rfl,rfl⟩ := sP hone
   refine kP (wpAny_mono (cond_ok hCo rm b2 b4 hcond) (fun ok s3 z => ?_) fun O O e => e)
   clear kP
   obtain ⟨rfl,fz3,ρ3,g3⟩ := z
   exact kK _ _ (hk ▸ less1 hi) ⟨i + 1,rfl,_,_,_,_,_,_,_,_,comp_end H hi ne W hfp b2 sm2 st2 b4 hS2 g3 hIa gD2 hrest H.all⟩
 ·obtain rfl : i = l.length := Nat.le_antisymm H.le hi
  exact kP (W.done _ _ _ H.it fun h1 t1 hk1 => fin s ⟨_,_,_,_,_,_,_,_,H⟩ h1 t1 fun b o hb e => hk1 b o (fun q => hb (List.mem_singleton.mp q)) e)
end loop
end
end
section
section
variable {c : Cx} {env : Env} {ns σ : Sig} {L : Lk} {fz : FZ} {ρ : RHO} {mh mh' : MH} {s : Shared} {A : Around} {k : Nat} {E : Value → Shared → Prop} {v u : Value} {V U W : MV}
theorem get?_ge {h : Heap} {a : Addr} (ha : h.objs.size ≤ a) : h.get? a = none := by
 cases e : h.get? a with
 | none => rfl
 | some o' => exact absurd (Heap.lt_size e) (Nat.not_lt.mpr ha)
theorem comp_block {scope : Scope} {caps : List Nat} {nt : Nat} {nsC σc : Sig} {vals : Vals} {target iter elt : Expr} {ifs : List Expr} {pos : Pos} {melt : ME} {conds : List ME} {l : List MV} {Ys : List MV} {s₁ s₂ : Shared} {it : Value}
  {RR : Value → Addr → Result → Shared → Prop} {E' : Value → Shared → Prop} (rm : Room A (16 * c.n + 1)) (S : EnvS env ns σ) (Q : CompS ns σ scope caps nt nsC σc) (Tg : TgtE σc target nt) (r : R c.L fz ρ mh s₁.heap) (x : EnvR c.L fz ρ s₁.heap env σ vals)
  (hPI : PI c.L A fz ρ s₁ l it s₂) (hlim : l.length ≤ LIM) (hE : ∀ cenv,EnvS cenv nsC σc → OKE c cenv σc elt melt) (hCo : ∀ cenv,EnvS cenv nsC σc → CondE c cenv σc ifs conds)
  (hgo : compGo (compOne c.T c.C melt conds) nt (capsOf vals caps) l mh = some (Ys,mh'))
  (hRR : ∀ D C s' fz' ρ' ys n m',s₁.heap.get? D = none → s₁.heap.get? C = none → D ≠ C → s'.heap.Ns C m' → Same s₁ s' → R c.L fz' ρ' mh' s'.heap → Step [] fz ρ s₁.heap fz' ρ' s'.heap → s'.heap.get? D = some (seqObj "list" ys n) → VRL c.L fz' ρ' ys Ys →
   Apart fz' ρ' D → Apart fz' ρ' C → Ys.length ≤ LIM → RR (.ref D) C (.ok .next) s') :
  wpAny c.L.M A (newList []) (fun acc s₃ => wpAny c.L.M A (newFunctionEnv scope env.globals (clOf env scope.names []) [] env.qual none .none (some env)) (fun cenv s₄ =>
   codeAny c.L.M A (.compStart (.ListComp elt [⟨target,iter,ifs,0⟩] scope pos) 0 it acc { cenv with scope := relabel scope env }) (RR acc cenv.locals) s₄) E' s₃) E' s₂ := by
 obtain ⟨rfl,⟨oI,rfl⟩,hSrc⟩ := hPI
 obtain ⟨fp,P,St,W,hst,hfp,hP,hal⟩ := hSrc A rm.hd
 refine wpAny_newObj_type (wpAny_newFunctionEnv Q.noCell (by intro y hy; simp at hy) (fun h₁ hns₁ hsb₁ => ?_) Q.fn)
 dsimp only at hns₁ hsb₁ ⊢
 generalize hH2 : (s₁.heap.push oI).push { cls := .type "list",dict := none,data := .seq ([] : List Value).toArray } = H2 at hns₁ hsb₁ ⊢
 have hDz : (s₁.heap.push oI).objs.size = s₁.heap.objs.size + 1 := Heap.size_push ..
 have hCz : H2.objs.size = s₁.heap.objs.size + 2 := by rw [← hH2,Heap.size_push,hDz]
 rw [hDz]
 rw [hCz] at hns₁ hsb₁ ⊢
 have nI : s₁.heap.get? s₁.heap.objs.size = none := get?_size _
 have nD : s₁.heap.get? (s₁.heap.objs.size + 1) = none := get?_ge (Nat.le_succ _)
 have nC : s₁.heap.get? (s₁.heap.objs.size + 2) = none := get?_ge (Nat.le_add_right _ 2)
 have kH2 : ∀ b o,(s₁.heap.push oI).get? b = some o → H2.get? b = some o := fun b o e => hH2 ▸ Heap.get?_push_of_some _ e
 have neC : ∀ (b : Addr) o,H2.get? b = some o → b ≠ s₁.heap.objs.size + 2 := fun b o e q => by
  have := Heap.lt_size e; rw [hCz] at this; rw [q] at this; exact Nat.lt_irrefl _ this
 have k3 : ∀ b o,H2.get? b = some o → h₁.get? b = some o := fun b o e => hsb₁.extBut b o (neC b o e) (Heap.get?_push_of_some _ e)
 have k2 : ∀ b o,(s₁.heap.push oI).get? b = some o → h₁.get? b = some o := fun b o e => k3 b o (kH2 b o e)
 have k1 : ∀ b o,s₁.heap.get? b = some o → h₁.get? b = some o := fun b o e => k2 b o (Heap.get?_push_of_some _ e)
 have gD : h₁.get? (s₁.heap.objs.size + 1) = some (seqObj "list" [] 0) := k3 _ _ (by rw [← hH2,← hDz]; exact Heap.get?_push_size _ rfl)
 have hst₁ : St 0 h₁ := W.frame _ _ _ hst fun b O o e => k2 b o e
 have g1 : Good c.L fz ρ s₁ mh fz ρ { s₁ with heap := h₁,toks := s₁.toks + ([] : List (Str × Value)).length } := .keeps r k1 _
 have apC : Apart fz ρ (s₁.heap.objs.size + 2) := Apart.of_none r nC
 have apD : Apart fz ρ (s₁.heap.objs.size + 1) := Apart.of_none r nD
 have apI : Apart fz ρ s₁.heap.objs.size := Apart.of_none r nI
 have alive : ∀ n k,(n,NameKind.free) ∈ scope.names → env.cells.lookup n = some k → ∃ o,s₁.heap.get? k = some o := fun n k hn hk => by
  obtain ⟨i,hi⟩ := Q.free (n,.free) hn rfl
  obtain ⟨cc,o,q1,⟨oc,q2,_⟩,_⟩ := x.cells i _ hi
  rw [q1] at hk; obtain rfl := sI hk
  exact ⟨oc,q2⟩
 have neOf : ∀ n k a,(n,NameKind.free) ∈ scope.names → env.cells.lookup n = some k → s₁.heap.get? a = none → k ≠ a := fun n k a hn hk ha q => by
  obtain ⟨o,ho⟩ := alive n k hn hk
  rw [q,ha] at ho; exact nO ho
 obtain ⟨e1,e2,e3⟩ := comp_env (h' := h₁) S Q (x.step g1.st) hns₁ apC fun n k hn hk => neOf n k _ hn hk nC
 have hcl : ∀ n k,(clOf env scope.names []).lookup n = some k → (n,NameKind.free) ∈ scope.names ∧ env.cells.lookup n = some k := fun n k h => by
  have hf : ∀ x ∈ scope.names,x.2 = .free → ∃ c,env.cells.lookup x.1 = some c := fun y hy hk => by
   obtain ⟨i,hi⟩ := Q.free y hy hk
   obtain ⟨c,o,q1,_⟩ := x.cells i _ hi
   exact ⟨c,q1⟩
  rcases clOf_mem hf (mem_of_lookup h) with q | q
  ·exact nM q
  ·exact q
 have loop : codeAny c.L.M A (.compLoop (.ListComp elt [⟨target,iter,ifs,0⟩] scope pos) 0 (.ref s₁.heap.objs.size) (.ref (s₁.heap.objs.size + 1)) (compEnvC scope (clOf env scope.names []) (s₁.heap.objs.size + 2) env))
   (RR (.ref (s₁.heap.objs.size + 1)) (s₁.heap.objs.size + 2)) { s₁ with heap := h₁,toks := s₁.toks + ([] : List (Str × Value)).length } := by
  refine comp_loop (s₀ := s₁) (Yall := Ys) (mhf := mh') (capsV := capsOf vals caps) rm e2 Tg W hfp hP hal nI nD nC (fun q => absurd (show (s₁.heap.objs.size : Nat) = s₁.heap.objs.size + 1 from q) (Nat.succ_ne_self _).symm) (by intro q; simp [compEnvC] at q) (by intro q; simp [compEnvC] at q)
   (fun n k h => ⟨neOf n k _ (hcl n k h).1 (hcl n k h).2 nI,neOf n k _ (hcl n k h).1 (hcl n k h).2 nD⟩) hlim (hE _ e2) (hCo _ e2) (fun s' H h' tk hk => ?_) ?_
  ·obtain ⟨fz',ρ',mh1,w,ys,Ys',n,zs,H⟩ := H
   have hz : zs = [] ∧ mh' = mh1 := by have := H.go; rw [List.drop_length] at this; obtain ⟨rfl,rfl⟩ := sP this; exact ⟨rfl,rfl⟩
   obtain ⟨rfl,rfl⟩ := hz
   obtain rfl := (List.append_nil _).symm.trans H.all
   obtain ⟨m',hm',_⟩ := H.x.ns
   have hne : (s₁.heap.objs.size + 2 : Nat) ≠ s₁.heap.objs.size := Nat.ne_of_gt (Nat.lt_add_of_pos_right (by decide))
   have hne1 : (s₁.heap.objs.size + 1 : Nat) ≠ s₁.heap.objs.size := Nat.succ_ne_self _
   exact hRR _ _ _ fz' ρ' ys n m' nD nC (fun q => absurd (show (s₁.heap.objs.size + 1 : Nat) = s₁.heap.objs.size + 2 from q) (Nat.ne_of_lt (Nat.lt_succ_self _))) (hm'.at' fun o e => hk _ o hne e) (H.same.trans ⟨_,_,rfl⟩) (H.r.ext H.apI hk) (H.st.tick nI hk) (hk _ _ hne1 H.d) H.y H.apD H.x.apart (Nat.le_trans H.yl hlim)
  ·exact ⟨fz,ρ,mh,List.replicate nt none,[],[],0,Ys,g1.same,g1.r,g1.st,e3,List.length_replicate,hst₁,Nat.zero_le _,gD,.nil,Nat.le_refl _,apD,apI,hgo,rfl⟩
 exact codeAny_compStart_list loop (W.self 0 _ _ _ hst₁ loop)
set_option tactic.hygienic true in
theorem list_done {fz₁ : FZ} {ρ₁ : RHO} {s₁ : Shared} {D : Addr} {ys : List Value} {n : Nat} {Ys : List MV} (g : Good L fz ρ s mh' fz₁ ρ₁ s₁) (hd : s.heap.get? D = none) (ha : Apart fz₁ ρ₁ D) (ho : s₁.heap.get? D = some (seqObj "list" ys n)) (hy : VRL L fz₁ ρ₁ ys Ys) (hl : Ys.length ≤ LIM) :
  PV L fz ρ s (.lst Ys) mh' (.ref D) s₁ := by
 refine ⟨fz₁.add D (seqObj "list" ys n),ρ₁,⟨g.same,g.r.freeze ho (fun i p eq => ?_) ha.1,⟨fun a q x => FZ.add_mono ha.1 _ _ (g.st.mono a q x),fun a q x => ?_,g.st.pre,g.st.keep,g.st.dom⟩⟩,?_⟩
 ·have := ha.2 p (List.mem_of_getElem? eq)
  exact ⟨this.1.symm,this.2.symm⟩
 ·unfold FZ.add at x; split at x
  ·rename_i hb; exact .inr (hb ▸ hd)
  ·exact g.st.new _ _ x
 ·exact .lst FZ.add_self hl (hy.mono (FZ.add_mono ha.1) fun O O e => e) .nil
theorem oke_comp {scope : Scope} {caps : List Nat} {nt : Nat} {nsC σc : Sig} {target iter elt : Expr} {ifs : List Expr} {pos : Pos} {miter melt : ME} {conds : List ME} (S : EnvS env ns σ) (Q : CompS ns σ scope caps nt nsC σc) (Tg : TgtE σc target nt) (hs : notSet iter = true)
  (hI : OKE c env σ iter miter) (hE : ∀ cenv,EnvS cenv nsC σc → OKE c cenv σc elt melt) (hCo : ∀ cenv,EnvS cenv nsC σc → CondE c cenv σc ifs conds) :
  OKE c env σ (.ListComp elt [⟨target,iter,ifs,0⟩] scope pos) (.comp nt caps melt miter conds) := fun {A E s fz ρ mh vals V mh'} rm r x e => by
 dsimp only [evalE_comp] at e
 refine bd_of e fun w mh1 e1 e => ?_
 refine bo_of e fun l hl e => ?_
 refine if_of e fun hlim e => ?_
 refine bd_of e fun ys mh2 hgo e => ?_
 refine wq e ?_
 rw [eval_ListComp]
 have hclos : closureFor scope env = pure (clOf env scope.names []) := closure_eq fun y hy hk => by
  obtain ⟨i,hi⟩ := Q.free y hy hk
  obtain ⟨c,o,q1,_⟩ := x.cells i _ hi
  exact ⟨c,q1⟩
 refine wpAny_comprehension_free (use := none) rfl (folded_plain hs) hclos Q.fn Q.loc (th (hI rm r x e1) fun iv s₁ ⟨fz1,ρ1,g1,x1⟩ => th (iter_ok rm.hd g1.r x1 hl) fun it s₂ hPI => ?_)
 refine comp_block (RR := fun acc C => compPost c.L.M A E none _ acc C) rm S Q Tg g1.r (x.step g1.st) hPI hlim hE hCo hgo fun D C s' fz' ρ' ys' n m' q1 q2 q3 q4 q5 q6 q7 q8 q9 q10 q11 q12 => ⟨m',q4,fun h' hS => ?_⟩
 have hex := hS.extBut
 have gd : Good c.L fz1 ρ1 s₁ mh2 fz' ρ' { s' with heap := h' } := ⟨by obtain ⟨_,_,rfl⟩ := q5; exact ⟨_,_,rfl⟩,q6.ext q11 hex,q7.tick q2 hex⟩
 exact .after g1 (list_done gd q1 q10 (hex _ _ q3 q8) q9 q12)
end
end
section
noncomputable def PE (L : Lk) (fz : FZ) (ρ : RHO) (f : Flow) : Fl → Prop
 | .next => f = .next
 | .ret V => ∃ v,f = .ret v ∧ VR L fz ρ v V
inductive PF (L : Lk) (env : Env) (σ : Sig) (fz : FZ) (ρ : RHO) (s : Shared) (fl : Fl) (st : St) (f : Flow) (s' : Shared) : Prop where
 | mk (fz' : FZ) (ρ' : RHO) (g : GoodX (frameOf env) L fz ρ s st.2 fz' ρ' s') (x : EnvR L fz' ρ' s'.heap env σ st.1) (h : PE L fz' ρ' f fl)
noncomputable def OKSt (c : Cx) (env : Env) (σ : Sig) (t : Stmt) (mt : MS) : Prop := ∀ {A : Around} {E : Value → Shared → Prop} {s : Shared} {fz : FZ} {ρ : RHO} {mh : MH} {vals : Vals} {fl : Fl} {st : St},Room A (16 * c.n + 1) →
 R c.L fz ρ mh s.heap → EnvR c.L fz ρ s.heap env σ vals → execS c.T c.C (vals,mh) mt = some (fl,st) → wpAny c.L.M A (exec t env) (PF c.L env σ fz ρ s fl st) E s
noncomputable def OKStB (c : Cx) (env : Env) (σ : Sig) (t : List Stmt) (mt : List MS) : Prop := ∀ {A : Around} {E : Value → Shared → Prop} {s : Shared} {fz : FZ} {ρ : RHO} {mh : MH} {vals : Vals} {fl : Fl} {st : St},Room A (16 * c.n + 1) →
 R c.L fz ρ mh s.heap → EnvR c.L fz ρ s.heap env σ vals → execB c.T c.C (vals,mh) mt = some (fl,st) → wpAny c.L.M A (execs t env) (PF c.L env σ fz ρ s fl st) E s
section
variable {c : Cx} {env : Env} {ns σ : Sig} {L : Lk} {fz : FZ} {ρ : RHO} {mh mh' : MH} {s : Shared} {A : Around} {k : Nat} {E : Value → Shared → Prop} {v u : Value} {V U W : MV}
theorem PF.after {fz₁ ρ₁ s₁ mh₁ s₂ fl st f} (g : GoodX (frameOf env) L fz ρ s mh₁ fz₁ ρ₁ s₁) (x : PF L env σ fz₁ ρ₁ s₁ fl st f s₂) : PF L env σ fz ρ s fl st f s₂ := by
 obtain ⟨fz',ρ',g',e,q⟩ := x; exact ⟨fz',ρ',g.trans g',e,q⟩
theorem wqF {M : Model} {t : Sem Flow} {s s' : Shared} {a b : St} {f g : Fl} (e : some (f,a) = some (g,b)) (h : wpAny M A t (PF L env σ fz ρ s f a) E s') : wpAny M A t (PF L env σ fz ρ s g b) E s' := by obtain ⟨rfl,rfl⟩ := sP e; exact h
theorem PF.eq {s s' : Shared} {a b : St} {f g : Fl} {fl : Flow} (e : some (f,a) = some (g,b)) (h : PF L env σ fz ρ s f a fl s') : PF L env σ fz ρ s g b fl s' := by obtain ⟨rfl,rfl⟩ := sP e; exact h
theorem okst_fail {t : Stmt} : OKSt c env σ t .fail := fun rm r x e => nomatch e
theorem okb_nil : OKStB c env σ [] [] := fun {A E s fz ρ mh vals fl st} rm r x e => wqF e (wpAny_execs_nil ⟨fz,ρ,(Good.refl r).x,x,rfl⟩)
set_option tactic.hygienic true in
theorem okb_cons {t ts mt mts} (h : OKSt c env σ t mt) (hs : OKStB c env σ ts mts) : OKStB c env σ (t :: ts) (mt :: mts) := fun {A E s fz ρ mh vals fl st} rm r x e => by
 refine bd_of (execB_cons.symm.trans e) fun f0 st1 e1 e => wpAny_execs_cons (th (h rm r x e1) fun f s1 ⟨fz1,ρ1,g1,x1,hf⟩ => ?_)
 induction f0 using Fl.casesOn with
 | next =>
  cases (hf : f = .next)
  exact th (hs rm g1.r x1 e) fun O O q => .after g1 q
 | ret V =>
  obtain ⟨v,rfl,hv⟩ := hf
  exact PF.eq e ⟨fz1,ρ1,g1,x1,v,rfl,hv⟩
noncomputable def notComp : Expr → Bool
 | .ListComp .. => false
 | .SetComp .. => false
 | .DictComp .. => false
 | _ => true
theorem swaps_no {e : Expr} {t : Option Expr} {n : Nat} (h : notComp e = true) : swapsWith e t n env = pure false := by
 induction e using PySem.Expr.casesOn <;> first | rfl | exact fF' h
theorem quiet_ok {Q : Flow → Shared → Prop} (hq : quietV V = true) (hv : VR L fz ρ v V) : v = .none ∨ ∃ i t,v = .int i t := by
 induction V using MV.casesOn <;> first | exact .inl (noneOf hv) | (obtain ⟨t,rfl⟩ := intOf hv; exact .inr ⟨_,_,rfl⟩) | exact fF' hq
theorem okst_expr {e pos me} (S : EnvS env ns σ) (hc : notComp e = true) (h : OKE c env σ e me) : OKSt c env σ (.Expr e pos) (.expr me) := fun {A E s fz ρ mh vals fl st} rm r x q => by
 have hi : interactive env = false := by unfold interactive; rw [S.fn]; rfl
 refine bd_of (execS_expr.symm.trans q) fun V mh1 e1 q => if_of q fun hq q => wqF q (wpAny_Expr (th (h rm r x e1) fun v s1 ⟨fz1,ρ1,g1,x1⟩ => ?_) hi (swaps_no hc))
 have hP : PF c.L env σ fz ρ s .next (vals,mh1) .next s1 := ⟨fz1,ρ1,g1.x,x.step g1.st,rfl⟩
 rcases quiet_ok (Q := fun O O => True) hq x1 with rfl | ⟨i,t,rfl⟩
 ·exact hP
 ·exact hP
theorem okst_ret {e pos me} (h : OKE c env σ e me) : OKSt c env σ (.Return (some e) pos) (.ret me) := fun {A E s fz ρ mh vals fl st} rm r x q =>
 bd_of (execS_ret.symm.trans q) fun V mh1 e1 q => wqF q (wpAny_Return_some (th (h rm r x e1) fun v s1 ⟨fz1,ρ1,g1,x1⟩ => ⟨fz1,ρ1,g1.x,x.step g1.st,v,rfl,x1⟩))
theorem okst_retN {pos} : OKSt c env σ (.Return none pos) (.ret .none) := fun {A E s fz ρ mh vals fl st} rm r x q =>
 wqF (show some (Fl.ret .none,(vals,mh)) = _ from q) (wpAny_Return_none ⟨fz,ρ,(Good.refl r).x,x,_,rfl,.none .nil⟩)
theorem okst_if {t a b pos mt ma mb} (h0 : OKT c env σ t mt) (h1 : OKStB c env σ a ma) (h2 : OKStB c env σ b mb) : OKSt c env σ (.If t a b pos) (.iff mt ma mb) := fun {A E s fz ρ mh vals fl st} rm r x q => by
 refine brB_of (execS_iff.symm.trans q) (fun mh1 e1 q => ?_) fun mh1 e1 q => ?_
 ·refine wpAny_If (th (h0 rm r x e1) fun b s1 ⟨hb,fz1,ρ1,g1⟩ => ?_)
  subst hb
  exact th (h1 rm g1.r (x.step g1.st) q) fun O O z => .after g1.x z
 ·refine wpAny_If (th (h0 rm r x e1) fun b s1 ⟨hb,fz1,ρ1,g1⟩ => ?_)
  subst hb
  exact th (h2 rm g1.r (x.step g1.st) q) fun O O z => .after g1.x z
set_option tactic.hygienic true in
theorem okst_try {b h0 hs pos mb} (h1 : OKStB c env σ b mb) : OKSt c env σ (.Try b (h0 :: hs) [] [] pos) (.try mb) := fun {A E s fz ρ mh vals fl st} rm r x q => by
 refine wpAny_Try_except (th (h1 rm r x (execS_try.symm.trans q)) fun f s1 z => ?_)
 obtain ⟨fz1,ρ1,g1,x1,hf⟩ := z
 induction fl using Fl.casesOn with
 | next =>
  cases (hf : f = .next)
  exact wpAny_execs_nil ⟨fz1,ρ1,g1,x1,rfl⟩
 | ret V =>
  obtain ⟨v,rfl,hv⟩ := hf
  exact ⟨fz1,ρ1,g1,x1,v,rfl,hv⟩
theorem each_one {t : Expr} (h : plainE t = true) : (assignEach [t] env).map (·.2) = [assign t env] := by
 rw [assignEach_plain (es := [t]) (by simp [h])]; rfl
theorem okst_assign {t value pos mt me} (hp : plainE t = true) (hs : swapsWithSole [t] value pos.line env = pure false) (hw : swappedStores [t] value env = pure none) (ht : OKS c env σ t mt) (he : OKE c env σ value me) :
  OKSt c env σ (.Assign [t] value pos) (.assign mt me) := fun {A E s fz ρ mh vals fl st} rm r x q => by
 refine bd_of (execS_assign.symm.trans q) fun V mh1 e1 q => bo_of q fun st1 e2 q => wqF q (wpAny_Assign_stores (th (he rm r x e1) fun v s1 ⟨fz1,ρ1,g1,x1⟩ => ?_) hs hw)
 rw [each_one hp]
 exact th (ht rm g1.r (x.step g1.st) x1 e2) fun _ s2 ⟨fz2,ρ2,g2,x2⟩ => ⟨fz2,ρ2,g1.x.trans g2,x2,rfl⟩
noncomputable def dum (ns : Sig) : Env := { (default : Env) with scope := { kind := .function,names := ns,isGenerator := false,isCoroutine := false } }
theorem swap_dum {targets : List Expr} {value : Expr} (S : EnvS env ns σ) : swappedStores targets value env = swappedStores targets value (dum ns) := by
 obtain ⟨⟨k,n,g,co,m⟩,l,gl,cs,q,f,cd,fr,b⟩ := env
 cases (S.fn : k = _)
 cases (S.names : n = _)
 rfl
theorem swapsWith_dum {value : Expr} {target : Option Expr} {n : Nat} (S : EnvS env ns σ) : swapsWith value target n env = swapsWith value target n (dum ns) := by
 obtain ⟨⟨k,n,g,co,m⟩,l,gl,cs,q,f,cd,fr,b⟩ := env
 cases (S.fn : k = _)
 cases (S.names : n = _)
 rfl
noncomputable def pureO {α : Type} : Sem α → Option α
 | .pure a => some a
 | _ => none
theorem pureO_eq {α : Type} {x : Sem α} {a : α} (h : pureO x = some a) : x = pure a := by induction x using PySem.Sem.casesOn <;> first | exact nO h | (obtain rfl := sI h; rfl)
end
end
section
section
variable {c : Cx} {env : Env} {ns σ : Sig} {L : Lk} {fz : FZ} {ρ : RHO} {mh mh' : MH} {s : Shared} {A : Around} {k : Nat} {E : Value → Shared → Prop} {v u : Value} {V U W : MV}
noncomputable def setAll (vals : Vals) : List (Nat × Str) → List MV → Vals
 | p :: ps,V :: Vs => setAll (vals.set p.1 (some V)) ps Vs
 | _,_ => vals
theorem setAll_set {i : Nat} {x : Option MV} : ∀ {ps : List (Nat × Str)} {Vs : List MV} {vals : Vals},i ∉ ps.map (·.1) → setAll (vals.set i x) ps Vs = (setAll vals ps Vs).set i x
 | [],_,_,_ => rfl
 | _ :: _,[],_,_ => rfl
 | p :: ps,V :: Vs,vals,h => by
  show setAll ((vals.set i x).set p.1 (some V)) ps Vs = (setAll (vals.set p.1 (some V)) ps Vs).set i x
  rw [List.set_comm _ _ (fun (q : i = p.1) => h (by rw [q]; exact .head _)),setAll_set fun q => h (.tail _ q)]
theorem setAll_snoc {p : Nat × Str} {V : MV} : ∀ {ps : List (Nat × Str)} {Vs : List MV} {vals : Vals},ps.length = Vs.length → setAll vals (ps ++ [p]) (Vs ++ [V]) = (setAll vals ps Vs).set p.1 (some V)
 | [],[],_,_ => rfl
 | p' :: ps,V' :: Vs,vals,h => setAll_snoc (ps := ps) (Vs := Vs) (vals := vals.set p'.1 (some V')) (Nat.succ.inj h)
theorem setAll_rev : ∀ {ps : List (Nat × Str)} {Vs : List MV} {vals : Vals},(ps.map (·.1)).Nodup → ps.length = Vs.length → setAll vals ps.reverse Vs.reverse = setAll vals ps Vs
 | [],[],_,_,_ => rfl
 | p :: ps,V :: Vs,vals,hn,h => by
  rw [List.reverse_cons,List.reverse_cons,setAll_snoc (by rw [List.length_reverse,List.length_reverse]; exact Nat.succ.inj h),setAll_rev (List.nodup_cons.mp hn).2 (Nat.succ.inj h)]
  exact (setAll_set (List.nodup_cons.mp hn).1).symm
theorem storeTs_names {T : Text} {C : Callee} : ∀ {ps : List (Nat × Str)} {Vs : List MV} {vals : Vals} {st : St},storeTs T C Vs (vals,mh) (ps.map fun p => .name p.1) = some st → ps.length = Vs.length ∧ st = (setAll vals ps Vs,mh)
 | [],[],_,_,h => by obtain ⟨rfl,rfl⟩ := sP h; exact ⟨rfl,rfl⟩
 | [],_ :: _,_,_,h => nomatch h
 | _ :: _,[],_,_,h => nomatch h
 | p :: ps,V :: Vs,vals,st,h => bo_of (storeTs_cons.symm.trans h) fun st1 e1 h => if_of (storeT_name.symm.trans e1) fun O e1 => by
  obtain rfl := sI e1
  obtain ⟨h1,h2⟩ := storeTs_names h
  exact ⟨congrArg (· + 1) h1,h2⟩
theorem bind_all (S : EnvS env ns σ) {ps : List (Nat × Str)} : ∀ {vs : List Value} {Vs : List MV} {vals : Vals} {s : Shared},(∀ p ∈ ps,∃ k,σ[p.1]? = some (p.2,k)) → ps.length = Vs.length → R L fz ρ mh s.heap → EnvR L fz ρ s.heap env σ vals → VRL L fz ρ vs Vs →
  wpAny L.M A (assignInOrder (ps.map fun p => bindName env p.2) vs) (fun O => PX L env σ fz ρ s (setAll vals ps Vs,mh)) E s := by
 induction ps with
 | nil =>
  intro vs Vs vals s _ hl r x hv
  obtain rfl := List.length_eq_zero_iff.mp hl.symm
  obtain rfl := List.length_eq_zero_iff.mp hv.len
  exact wpAny_pure ⟨fz,ρ,(Good.refl r).x,x⟩
 | cons p ps ih =>
  intro vs Vs vals s hp hl r x hv
  induction Vs using List.casesOn with
  | nil => cases hl
  | cons V Vs =>
   obtain ⟨v,vs',rfl,h1,h2⟩ := hv.unconsR
   obtain ⟨k,hk⟩ := hp p (.head _)
   exact wpAny_bind (wpAny_holding (bindName_ (store_slot S r x hk h1 fun s' q1 q2 q3 q4 => th (ih (fun q hq => hp q (.tail _ hq)) (Nat.succ.inj hl) q2 q4 h2) fun O O z => PX.after ⟨q1,q2,q3⟩ z)))
theorem okst_swap {ts k tpos value pos me} {ps : List (Nat × Str)} (S : EnvS env ns σ) (hs : swapsWithSole [.Tuple ts k tpos] value pos.line env = pure false) (hw : swappedStores [.Tuple ts k tpos] value env = pure (some (ps.map (·.2)))) (hp : ∀ p ∈ ps,∃ k,σ[p.1]? = some (p.2,k)) (hn : (ps.map (·.1)).Nodup)
  (he : OKE c env σ value me) : OKSt c env σ (.Assign [.Tuple ts k tpos] value pos) (.assign (.tup (ps.map fun p => .name p.1)) me) := fun {A E s fz ρ mh vals fl st} rm r x q => by
 refine bd_of (execS_assign.symm.trans q) fun V mh1 e1 q => bo_of q fun st1 e2 q => wqF q (Assign_Tuple_swapped (th (he rm r x e1) fun v s1 ⟨fz1,ρ1,g1,x1⟩ => ?_) hs hw)
 refine bo_of (storeT_tup.symm.trans e2) fun l hV e2 => ?_
 obtain rfl := tupV_eq hV
 obtain ⟨hl,hst⟩ := storeTs_names e2
 subst hst
 obtain ⟨T,xs,n,rfl,g,y,_⟩ := tupOf g1.r x1
 have hsz : (ps.map (·.2)).length = xs.toArray.size := by rw [List.size_toArray,y.len,← hl,List.length_map]
 have e3 : (ps.map (·.2)).reverse.map (fun n => bindName env n) = ps.reverse.map fun p => bindName env p.2 := by rw [← List.map_reverse,List.map_map]; rfl
 rw [hsz,e3]
 refine unpackItems_tuple rm.hd (isTupOf g) fun h' hE => ?_
 have kp : ∀ b o,s1.heap.get? b = some o → h'.get? b = some o := fun b o e => hE b o (fun q => by rw [q,get?_size] at e; exact nO e) e
 have g0 : Good c.L fz1 ρ1 s1 mh1 fz1 ρ1 { s1 with heap := h' } := .keeps g1.r kp s1.toks
 have B := bind_all (A := A) (E := E) (ps := ps.reverse) (vs := xs.reverse) (Vs := l.reverse) S (fun p h => hp p (List.mem_reverse.mp h)) (by rw [List.length_reverse,List.length_reverse]; exact hl) g0.r ((x.step g1.st).step g0.st) y.reverse
 rw [setAll_rev hn hl] at B
 refine th B fun O s2 z => ?_
 obtain ⟨fz2,ρ2,g2,x2⟩ := PX.after (g1.trans g0).x z
 exact ⟨fz2,ρ2,g2,x2,rfl⟩
noncomputable def flowEnd (K : Shared → Prop) (F : Flow → Shared → Prop) : Flow → Shared → Prop
 | .next => K
 | .cont => K
 | .brk => F .next
 | .ret v => F (.ret v)
theorem while_turns {Q : Flow → Shared → Prop} {test : Expr} {body : List Stmt} {pos : Pos} {E' : Value → Shared → Prop} (I : Nat → Shared → Prop)
  (turn : ∀ n s (K : Shared → Prop) (F : Flow → Shared → Prop) (E : Value → Shared → Prop),I n s → (∀ m s,m < n → I m s → K s) → (∀ f s,Q f s → F f s) →
   wpAny L.M A (isTrue test env (eval test env)) (fun b s₂ => cond b (wpAny L.M A (execs body env) (flowEnd K F) E s₂) (F .next s₂)) E s)
  (n : Nat) (h : I n s) : wpAny L.M A (exec (.While test body [] pos) env) Q E' s := by
 refine wpAny_While (codeAny_whileLoop I (fun n s hI => ?_) n h)
 refine wpAny_mono (turn n s (fun s => ∃ m,m < n ∧ I m s) Q _ hI (fun m s a b => ⟨m,a,b⟩) fun O O h => h) (fun b s₁ h => ?_) fun O O h => h
 induction b using Bool.casesOn with
 | false => exact wpAny_execs_nil h
 | true =>
  refine wpAny_mono h (fun f s₃ h => ?_) fun O O h => h
  induction f using PySem.Flow.casesOn <;> exact h
inductive WI (c : Cx) (env : Env) (σ : Sig) (fz : FZ) (ρ : RHO) (s : Shared) (mt : ME) (mb : List MS) (r : Fl × St) (n : Nat) (s' : Shared) : Prop where
 | mk (st' : St) (p : PX c.L env σ fz ρ s st' s') (q : loopW (fun s => evalT c.T c.C s.1 s.2 mt) (fun s => execB c.T c.C s mb) n st' = some r)
set_option tactic.hygienic true in
theorem okst_while {t body pos mt mb} (ht : OKT c env σ t mt) (hb : OKStB c env σ body mb) : OKSt c env σ (.While t body [] pos) (.while mt mb) := fun {A E s fz ρ mh vals fl st} rm r x q => by
 refine while_turns (WI c env σ fz ρ s mt mb (fl,st)) (fun n s' K F E hyp kK kF => ?_) LIM ⟨(vals,mh),⟨fz,ρ,(Good.refl r).x,x⟩,execS_while.symm.trans q⟩
 refine byP fun P kP => ?_
 obtain ⟨st',⟨fz',ρ',g,x'⟩,hl⟩ := hyp
 induction n using Nat.casesOn with
 | zero => exact nO hl
 | succ n =>
  refine brB_of (loopW_succ.symm.trans hl) (fun mh1 e1 hl => bd_of hl fun f0 st1 e2 hl => ?_) fun mh1 e1 hl => ?_
  ·refine kP (wpAny_mono (ht rm g.r x' e1) (fun b s2 z => ?_) fun O O e => e)
   clear kP
   refine byP fun P kP => ?_
   obtain ⟨rfl,fz1,ρ1,g1⟩ := z
   refine kP (wpAny_mono (hb rm g1.r (x'.step g1.st) e2) (fun f s3 z => ?_) fun O O e => e)
   clear kP
   refine byP fun P kP => ?_
   obtain ⟨fz2,ρ2,g2,x2,hf⟩ := z
   have g3 := (g.trans g1.x).trans g2
   induction f0 using Fl.casesOn with
   | next =>
    obtain rfl : f = .next := hf
    exact kP (kK _ _ (Nat.lt_succ_self n) ⟨st1,⟨fz2,ρ2,g3,x2⟩,hl⟩)
   | ret V =>
    obtain ⟨v,rfl,hv⟩ := hf
    exact kP (kF _ _ (PF.eq hl ⟨fz2,ρ2,g3,x2,v,rfl,hv⟩))
  ·refine kP (wpAny_mono (ht rm g.r x' e1) (fun b s2 z => ?_) fun O O e => e)
   obtain ⟨rfl,fz1,ρ1,g1⟩ := z
   exact kF _ _ (PF.eq hl ⟨fz1,ρ1,g.trans g1.x,x'.step g1.st,rfl⟩)
theorem not_frame {h : Heap} {vals : Vals} {a : Addr} (x : EnvR L fz ρ h env σ vals) (n : h.get? a = none) : a ∉ frameOf env := fun q => by
 rcases frame_mem q with rfl | ⟨m,hm⟩
 ·obtain ⟨m,⟨o,_,_,ho,_⟩,_⟩ := x.ns; rw [ho] at n; exact nO n.symm
 ·obtain ⟨⟨o,ho⟩,_⟩ := x.alive m a hm; rw [ho] at n; exact nO n.symm
theorem EnvR.extNew {h h' h0 : Heap} {vals : Vals} {a : Addr} (x : EnvR L fz ρ h env σ vals) (hX : a ∉ frameOf env) (k : ∀ b o,b ≠ a → h.get? b = some o → h'.get? b = some o) : EnvR L fz ρ h' env σ vals :=
 x.ext k (fun q => hX (q ▸ List.mem_cons_self ..)) fun n c q w => hX (w ▸ frame_cell q)
theorem GoodX.tick {X : List Addr} {s₁ s₂ : Shared} {a : Addr} (g : GoodX X L fz ρ s mh' fz' ρ' s₁) (n : s.heap.get? a = none) (ap : Apart fz' ρ' a) (k : ∀ b o,b ≠ a → s₁.heap.get? b = some o → s₂.heap.get? b = some o) (sm : Same s₁ s₂) : GoodX X L fz ρ s mh' fz' ρ' s₂ :=
 ⟨g.same.trans sm,g.r.ext ap k,g.st.tick n k⟩
inductive EI (c : Cx) (env : Env) (σ : Sig) (fz : FZ) (ρ : RHO) (s : Shared) (wr : List Addr) (St' : Nat → Heap → Prop) (i : Nat) (st : St) (s' : Shared) : Prop where
 | mk (fz' : FZ) (ρ' : RHO) (g : GoodX (frameOf env) c.L fz ρ s st.2 fz' ρ' s') (x : EnvR c.L fz' ρ' s'.heap env σ st.1) (t : St' i s'.heap) (p : ∀ a ∈ wr,Apart fz' ρ' a)
noncomputable def forL (c : Cx) (mt : MT) (mb : List MS) : List MV → St → Option (Fl × St) := loopF (fun v s => storeT c.T c.C v s mt) (fun s => execB c.T c.C s mb)
theorem for_turns {R : Result → Shared → Prop} {target : Expr} {it : Value} {body : List Stmt} (I : Nat → Shared → Prop)
  (turn : ∀ n s (K : Shared → Prop) (F : Flow → Shared → Prop) (E : Value → Shared → Prop),I n s → (∀ m s,m < n → I m s → K s) → (∀ f s,R (.ok f) s → F f s) →
   wpAny L.M A (pyNext it) (nextEnd (F .next) fun v s₁ => wpAny L.M A (letOwnedTupleGo target it v) (fun O s₁' => wpAny L.M A (assign target env v) (fun O s₂ => wpAny L.M A (execs body env) (flowEnd K F) E s₂) E s₁') E s₁) E s)
  (n : Nat) (h : I n s) : codeAny L.M A (.forLoop target it body [] env) R s := by
 refine codeAny_forLoop_any I (fun n s hI => ?_) n h
 refine wpAny_mono (turn n s (fun s => ∃ m,m < n ∧ I m s) (fun f => R (.ok f)) _ hI (fun m s a b => ⟨m,a,b⟩) fun O O h => h) (fun r s₁ h₁ => ?_) fun O O h => h
 induction r using Option.casesOn with
 | none => exact wpAny_execs_nil h₁
 | some v =>
  refine wpAny_mono h₁ (fun O s₁' h => wpAny_mono h (fun O s₂ h => wpAny_mono h (fun f s₃ h => ?_) fun O O h => h) fun O O h => h) fun O O h => h
  induction f using PySem.Flow.casesOn <;> exact h
inductive FI (c : Cx) (env : Env) (σ : Sig) (fz : FZ) (ρ : RHO) (s : Shared) (wr : List Addr) (St' : Nat → Heap → Prop) (n : Nat) (q : Nat → St → Prop) (k : Nat) (s' : Shared) : Prop where
 | mk (i : Nat) (st' : St) (e : k = n + 1 - i) (le : i ≤ n) (t : EI c env σ fz ρ s wr St' i st' s') (h : q i st')
set_option tactic.hygienic true in
theorem for_loop {t : Expr} {mt : MT} {body : List Stmt} {mb : List MS} {I : Addr} {fp : List Addr} {P : Nat → Value → Prop} {St' : Nat → Heap → Prop} {l : List MV} {fl : Fl} {st : St} {vals : Vals} {s s₂ : Shared} (rm : Room A (16 * c.n + 1)) (hS : OKS c env σ t mt) (hB : OKStB c env σ body mb)
  (W : Walks c.L.prog c.L.w A I fp [I] l.length P St') (hfp : ∀ b ∈ fp,b = I ∨ (∃ o,fz b = some o) ∨ l = []) (hP : ∀ i v V,P i v → l[i]? = some V → VR c.L fz ρ v V) (hal : ∀ i h,St' i h → ∃ o n,h.get? I = some o ∧ o.cls = .type n ∧ ownsTuples n = false)
  (hI : s.heap.get? I = none) (hIX : I ∉ frameOf env) (apI : Apart fz ρ I) (g : GoodX (frameOf env) c.L fz ρ s mh fz ρ s₂) (x : EnvR c.L fz ρ s₂.heap env σ vals) (hst : St' 0 s₂.heap)
  (q : forL c mt mb l (vals,mh) = some (fl,st)) :
  codeAny c.L.M A (.forLoop t (.ref I) body [] env) (fun r s' => match r with | .ok f => PF c.L env σ fz ρ s fl st f s' | .error e => cameBackBy c.L.M A env E e s') s₂ := by
 refine for_turns (FI c env σ fz ρ s [I] St' l.length fun i st' => forL c mt mb (l.drop i) st' = some (fl,st)) ?_ (l.length + 1)
  ⟨0,(vals,mh),rfl,Nat.zero_le _,⟨fz,ρ,g,x,hst,fun a ha => List.mem_singleton.mp ha ▸ apI⟩,q⟩
 intro k s' K F E hyp kK kF
 refine byP fun P kP => ?_
 obtain ⟨i,st',hk,hil,⟨fz',ρ',g',x',hst',apI⟩,hq⟩ := hyp
 have apI := apI I (.head _)
 rcases Nat.lt_or_ge i l.length with hi | hi
 ·have ne : l ≠ [] := fun q => by rw [q] at hi; cases hi
  rw [List.drop_eq_getElem_cons hi] at hq
  refine bo_of (loopF_cons.symm.trans hq) fun st2 e2 hq => bd_of hq fun f0 st4 e4 hq => kP ?_
  clear kP
  refine W.item i _ _ _ hi hst' fun v h1 t1 hPv hS1 hk1 => letOwned_ex (hal _ _ hS1) ?_
  have hk1' : ∀ b o,b ≠ I → s'.heap.get? b = some o → h1.get? b = some o := fun b o hb e => hk1 b o (fun q => hb (List.mem_singleton.mp q)) e
  have g1 : GoodX (frameOf env) c.L fz ρ s st'.2 fz' ρ' { s' with heap := h1,toks := t1 } := g'.tick hI apI hk1' ⟨_,_,rfl⟩
  have vv : VR c.L fz' ρ' v l[i] := (hP i v _ hPv (List.getElem?_eq_getElem hi)).step g'.st
  refine wpAny_mono (hS (s := { s' with heap := h1,toks := t1 }) rm g1.r (x'.extNew (h0 := h1) hIX hk1') vv e2) (fun O s3 z => ?_) fun O O e => e
  refine byP fun P kP => ?_
  obtain ⟨fz3,ρ3,g3,x3⟩ := z
  refine kP ?_
  clear kP
  refine wpAny_mono (hB rm g3.r x3 e4) (fun f s4 z => ?_) fun O O e => e
  refine byP fun P kP => ?_
  obtain ⟨fz4,ρ4,g4,x4,hf⟩ := z
  have g5 := g3.trans g4
  induction f0 using Fl.casesOn with
  | next =>
   obtain rfl : f = .next := hf
   obtain ⟨oI,nI,hoI,hcI,hnI⟩ := hal _ _ hS1
   exact kP (kK _ _ (hk ▸ less1 hi) ⟨i + 1,st4,rfl,hi,⟨fz4,ρ4,g1.trans g5,x4,W.frame _ _ _ hS1 (fp_keep hfp ne g'.st.mono g1.r g4.r g5.st apI hIX),fun a ha => List.mem_singleton.mp ha ▸ apI.step hoI g5.st⟩,hq⟩)
  | ret V =>
   obtain ⟨v,rfl,hv⟩ := hf
   exact kP (kF _ _ (PF.eq hq ⟨fz4,ρ4,g1.trans g5,x4,v,rfl,hv⟩))
 ·obtain rfl : i = l.length := Nat.le_antisymm hil hi
  refine kP (W.done _ _ _ hst' fun h1 t1 hk1 => ?_)
  have hk1' : ∀ b o,b ≠ I → s'.heap.get? b = some o → h1.get? b = some o := fun b o hb e => hk1 b o (fun q => hb (List.mem_singleton.mp q)) e
  rw [List.drop_length] at hq
  exact kF _ _ (PF.eq hq ⟨fz',ρ',g'.tick hI apI hk1' ⟨_,_,rfl⟩,x'.extNew (h0 := h1) hIX hk1',rfl⟩)
end
end
section
section
variable {c : Cx} {env : Env} {ns σ : Sig} {L : Lk} {fz fz' : FZ} {ρ ρ' : RHO} {mh mh' : MH} {s : Shared} {h h' : Heap} {A : Around} {k : Nat} {E : Value → Shared → Prop} {v u : Value} {V U W : MV} {X wr : List Addr}
theorem R.extL (r : R L fz ρ mh h) (x : ∀ a ∈ wr,Apart fz ρ a) (k : ∀ b o,b ∉ wr → h.get? b = some o → h'.get? b = some o) : R L fz ρ mh h' := by
 refine ⟨r.base,fun b o e => k _ _ (fun q => ?_) (r.sub b o e),r.len,fun i m p e e' => (r.objs i m p e e').keep (k _ · ?_) (k _ · ?_) (fun O O e => e) (fun O O e => e),r.apart,r.dist⟩
 ·rw [(x b q).1] at e; exact nO e
 ·exact fun q => ((x _ q).2 p (List.mem_of_getElem? e')).1 rfl
 ·exact fun q => ((x _ q).2 p (List.mem_of_getElem? e')).2 rfl
theorem Step.tickL {h₀ : Heap} {fz₀ ρ₀} (st : Step X fz₀ ρ₀ h₀ fz ρ h) (n : ∀ a ∈ wr,h₀.get? a = none) (k : ∀ b o,b ∉ wr → h.get? b = some o → h'.get? b = some o) : Step X fz₀ ρ₀ h₀ fz ρ h' :=
 ⟨st.mono,st.new,st.pre,fun b o e hn hx => k b o (fun q => by rw [n b q] at e; exact nO e) (st.keep b o e hn hx),fun b e => by
  by_cases q : b ∈ wr
  ·exact n b q
  ·refine st.dom _ ?_
   cases w : h.get? b with
   | none => rfl
   | some o => rw [k _ _ q w] at e; exact nO e.symm⟩
theorem EnvR.extL {vals : Vals} (x : EnvR L fz ρ h env σ vals) (hX : ∀ a ∈ wr,a ∉ frameOf env) (k : ∀ b o,b ∉ wr → h.get? b = some o → h'.get? b = some o) : EnvR L fz ρ h' env σ vals := by
 have hl : env.locals ∉ wr := fun q => hX _ q (List.mem_cons_self ..)
 have hc : ∀ n c,env.cells.lookup n = some c → c ∉ wr := fun n c e q => hX _ q (frame_cell e)
 obtain ⟨m,hm,hv⟩ := x.ns
 refine ⟨x.len,⟨m,hm.at' fun o => k _ o hl,hv⟩,fun i n e => ?_,x.apart,fun n c q => by
  obtain ⟨⟨o,ho⟩,ap⟩ := x.alive n c q; exact ⟨⟨o,k c o (hc n c q) ho⟩,ap⟩⟩
 obtain ⟨c,o,q1,⟨oc,q2,q2'⟩,q3,q4⟩ := x.cells i n e
 exact ⟨c,o,q1,⟨oc,k _ _ (hc _ _ q1) q2,q2'⟩,q3,q4⟩
theorem GoodX.tickL {s₁ s₂ : Shared} (g : GoodX X L fz ρ s mh' fz' ρ' s₁) (n : ∀ a ∈ wr,s.heap.get? a = none) (ap : ∀ a ∈ wr,Apart fz' ρ' a) (k : ∀ b o,b ∉ wr → s₁.heap.get? b = some o → s₂.heap.get? b = some o) (sm : Same s₁ s₂) : GoodX X L fz ρ s mh' fz' ρ' s₂ :=
 ⟨g.same.trans sm,g.r.extL ap k,g.st.tickL n k⟩
theorem okst_for {t ie body pos mt mi mb} (hs : notSet ie = true) (hS : OKS c env σ t mt) (hI : OKE c env σ ie mi) (hB : OKStB c env σ body mb) : OKSt c env σ (.For t ie body [] pos) (.for mt mi mb) := fun {A E s fz ρ mh vals fl st} rm r x q => by
 refine bd_of (execS_for.symm.trans q) fun V mh1 e1 q => bo_of q fun l hl q => ?_
 refine wpAny_For (th (hI rm r x e1) fun iv s1 ⟨fz1,ρ1,g1,x1⟩ => th (iter_ok rm.hd g1.r x1 hl) fun it s2 hPI => ?_) (folded_plain hs)
 obtain ⟨rfl,⟨oI,rfl⟩,hSrc⟩ := hPI
 obtain ⟨fp,P,St,W,hst,hfp,hP,hal⟩ := hSrc A rm.hd
 have nI : s1.heap.get? s1.heap.objs.size = none := get?_size _
 have xe := x.step g1.st
 have g0 : Good c.L fz1 ρ1 s1 mh1 fz1 ρ1 { s1 with heap := s1.heap.push oI } := .keeps g1.r (fun O O e => Heap.get?_push_of_some _ e) s1.toks
 refine codeAny_mono (for_loop (E := E) rm hS hB W hfp hP hal nI (not_frame xe nI) (Apart.of_none g1.r nI) g0.x (xe.step g0.st) hst q) fun rr s' z => ?_
 induction rr using Except.casesOn with
 | ok f => exact PF.after g1.x z
 | error e => exact z
theorem bltT {T : String} {es mes p pos} {n : Str} {vals : Vals} {Q : Value → Shared → Prop} (S : EnvS env ns σ) (r : R c.L fz ρ mh s.heap) (hk : ns.lookup n = some .globalImplicit) (hd : (n == ("__debug__" : Str)) = false) (h1 : nsIn c.L.K mainGlobals n = some none) (h2 : ∀ h,c.L.K.In h → Looks c.L.M h (nsGet builtinsNs n) (some (.type T)))
  (hp : es.all plainE = true) (rm : Room A (16 * c.n + 1)) (x : EnvR c.L fz ρ s.heap env σ vals) (h : OKEs c env σ es mes) {Vs : List MV} (e1 : evalEs c.T c.C vals mh mes = some (Vs,mh'))
  (hq : ∀ vs s1 fz1 ρ1,Good c.L fz ρ s mh' fz1 ρ1 s1 → VRL c.L fz1 ρ1 vs Vs → wpAny c.L.M A (call (.type T) vs) Q E s1) : wpAny c.L.M A (eval (.Call (.Name n p) es [] pos) env) Q E s := by
 refine wpAny_Call_Name_kw (name_blt S r hk hd h1 (h2 _ r.inK) (callWT hp (th (h rm r x e1) fun as s1 ⟨fz1,ρ1,g1,x1⟩ => ?_)))
 exact hq as s1 fz1 ρ1 g1 x1
theorem evalEs_one {vals : Vals} {me : ME} (e : evalE c.T c.C vals mh me = some (V,mh')) : evalEs c.T c.C vals mh [me] = some ([V],mh') := by
 show bd (evalE c.T c.C vals mh me) _ = _
 rw [e]; rfl
theorem intV_eq {n : Int} (h : intV V = some n) : V = .int n := by induction V using MV.casesOn <;> first | exact nO h | (obtain rfl := sI h; rfl)
theorem okst_forR {t ie body pos p cpos mt mi mb} (S : EnvS env ns σ) (B : BltOK c.L) (hk : ns.lookup ("range" : Str) = some .globalImplicit) (hp : plainE ie = true) (hS : OKS c env σ t mt) (hI : OKE c env σ ie mi) (hB : OKStB c env σ body mb) :
  OKSt c env σ (.For t (.Call (.Name "range" p) [ie] [] cpos) body [] pos) (.forR mt mi mb) := fun {A E s fz ρ mh vals fl st} rm r x q => by
 refine bd_of (execS_forR.symm.trans q) fun V0 mh1 e1 q => bo_of q fun n hV q => if_of q fun hn qq => ?_
 obtain rfl := intV_eq hV
 obtain ⟨N,rfl⟩ := Int.eq_ofNat_of_zero_le hn.1
 refine wpAny_For (bltT S r hk (by decide +kernel) B.rangeN B.rangeV (by simp [hp]) rm x (okes_cons hI okes_nil) (evalEs_one e1) fun vs s1 fz1 ρ1 g1 x1 => ?_) (fun O => rfl)
 obtain ⟨v0,vs',rfl,y1,y2⟩ := x1.unconsR
 cases y2
 obtain ⟨t0,rfl⟩ := intOf y1
 refine call_range_1 ?_
 have hz : (s1.heap.push { cls := .type "range",data := .fields #[.int 0 s1.toks,.int (N : Int) t0,.int 1 (s1.toks + 1)] }).objs.size = s1.heap.objs.size + 1 := Heap.size_push ..
 have hLim : (N : Int) ≤ 1048576 := hn.2
 refine wpAny_pyIter_range (IsRange.new _ _ _ _ _ _ _) (small_one (by lia) (by lia) (by lia) (by lia)) ?_
 have hsz : Builtin.Range.rangeSize 0 (N : Int) 1 = N := by rw [rangeSize_one]; split <;> lia
 rw [hsz]
 dsimp only
 have nI : s1.heap.get? (s1.heap.push { cls := .type "range",data := .fields #[.int 0 s1.toks,.int (N : Int) t0,.int 1 (s1.toks + 1)] }).objs.size = none := get?_ge (by rw [hz]; exact Nat.le_succ _)
 have xe := x.step g1.st
 have g0 : Good c.L fz1 ρ1 s1 mh1 fz1 ρ1 { s1 with heap := (s1.heap.push { cls := .type "range",data := .fields #[.int 0 s1.toks,.int (N : Int) t0,.int 1 (s1.toks + 1)] }).push { cls := .type "range_iterator",data := .fields #[rawInt 0,rawInt N,rawInt 1] },toks := s1.toks + 1 + 1 } :=
  .keeps g1.r (fun O O e => Heap.get?_push_of_some _ (Heap.get?_push_of_some _ e)) _
 have hlen : (rangeL (N : Int)).length = N := by simp [rangeL]
 have W := Walks.range (prog := c.L.prog) (w := c.L.w) (A := A) rm.hd (s1.heap.push { cls := .type "range",data := .fields #[.int 0 s1.toks,.int (N : Int) t0,.int 1 (s1.toks + 1)] }).objs.size 0 1 N
 generalize hIz : (s1.heap.push { cls := .type "range",data := .fields #[.int 0 s1.toks,.int (N : Int) t0,.int 1 (s1.toks + 1)] }).objs.size = I at W nI ⊢
 have W' : Walks c.L.prog c.L.w A I [I] [I] (rangeL (N : Int)).length (fun i v => ∃ t,v = .int (0 + i * 1) t) (fun i h => IsRangeIter h I (0 + (i : Nat) * 1) ((N : Int) - (i : Nat)) 1) := by rw [hlen]; exact W
 refine codeAny_mono (for_loop (E := E) rm hS hB W' (fun b hb => .inl (by simpa using hb)) (fun i v V hPv hl => ?_) (fun i h hst => ⟨_,_,hst,rfl,by decide⟩) nI (not_frame xe nI) (Apart.of_none g1.r nI) g0.x (xe.step g0.st) ?_ qq) fun rr s' z => ?_
 ·obtain ⟨t1,rfl⟩ := hPv
  have hi : i < N := by have := (List.getElem?_eq_some_iff.mp hl).1; rwa [hlen] at this
  have hg : (rangeL (N : Int))[i]? = some (MV.int (i : Int)) := by simp [rangeL,List.getElem?_range hi]
  rw [hg] at hl
  obtain rfl := sI hl
  have e0 : (0 : Int) + (i : Int) * 1 = i := by lia
  rw [e0]
  exact .int .nil
 ·have e1 : (0 : Int) + ((0 : Nat) : Int) * 1 = 0 := by lia
  have e2 : (N : Int) - ((0 : Nat) : Int) = N := by lia
  show IsRangeIter _ _ _ _ _
  unfold IsRangeIter
  rw [e1,e2,← hIz]
  exact Heap.get?_push_size _ rfl
 ·induction rr using Except.casesOn with
  | ok f => exact PF.after g1.x z
  | error e => exact z
set_option tactic.hygienic true in
theorem okst_assign_comp {y : Str} {py : Pos} {i kd} {scope : Scope} {caps : List Nat} {nt : Nat} {nsC σc : Sig} {target iter elt : Expr} {ifs : List Expr} {pos spos : Pos} {miter melt : ME} {conds : List ME} (S : EnvS env ns σ) (hi : σ[i]? = some (y,kd))
  (hsw : swapsWith (.ListComp elt [⟨target,iter,ifs,0⟩] scope pos) (some (.Name y py)) spos.line env = pure true) (Q : CompS ns σ scope caps nt nsC σc) (Tg : TgtE σc target nt) (hs : notSet iter = true)
  (hI : OKE c env σ iter miter) (hE : ∀ cenv,EnvS cenv nsC σc → OKE c cenv σc elt melt) (hCo : ∀ cenv,EnvS cenv nsC σc → CondE c cenv σc ifs conds) :
  OKSt c env σ (.Assign [.Name y py] (.ListComp elt [⟨target,iter,ifs,0⟩] scope pos) spos) (.assign (.name i) (.comp nt caps melt miter conds)) := fun {A E s fz ρ mh vals fl st} rm r x q => by
 refine bd_of (execS_assign.symm.trans q) fun V mh2 e0 q => bo_of q fun st1 e2 q => if_of (storeT_name.symm.trans e2) fun O e2 => ?_
 refine bd_of (evalE_comp.symm.trans e0) fun w mh1 e1 e0 => bo_of e0 fun l hl e0 => if_of e0 fun hlim e0 => bd_of e0 fun ys mh3 hgo e0 => ?_
 cases e0; cases e2; cases q
 rw [exec_Assign_Name_used _ _ _ _ hsw]
 refine wpAny_bind (wpAny_standAt (wpAny_bind ?_))
 show wpAny _ A (do let _ ← comprehension (.ListComp elt [⟨target,iter,ifs,0⟩] scope pos) scope env _ (newList []) false (eval iter env) (some (assign (.Name y py) env))) _ _ s
 have hclos : closureFor scope env = pure (clOf env scope.names []) := closure_eq fun y hy hk => by
  obtain ⟨i,hi⟩ := Q.free y hy hk
  obtain ⟨c,o,q1,_⟩ := x.cells i _ hi
  exact ⟨c,q1⟩
 refine wpAny_bind (wpAny_mono (wpAny_comprehension_free (use := some (assign (.Name y py) env)) (Q := fun O s' => PF c.L env σ fz ρ s .next ((vals.set i (some (.lst ys))),mh2) .next s') rfl (folded_plain hs) hclos Q.fn Q.loc
  (th (hI rm r x e1) fun iv s₁ ⟨fz1,ρ1,g1,x1⟩ => th (iter_ok rm.hd g1.r x1 hl) fun it s₂ hPI => ?_)) (fun O s' hq => wpAny_pure (wpAny_pure hq)) fun O O e => e)
 have xe := x.step g1.st
 refine comp_block (RR := fun acc C => compPost c.L.M A E (some (assign (.Name y py) env)) (fun O s' => PF c.L env σ fz ρ s .next ((vals.set i (some (.lst ys))),mh2) .next s') acc C) rm S Q Tg g1.r xe hPI hlim hE hCo hgo
  fun D C s' fz' ρ' ys' n m' q1 q2 q3 q4 q5 q6 q7 q8 q9 q10 q11 q12 => ?_
 show wpAny _ A (assign (.Name y py) env (.ref D)) _ _ _
 have gd : Good c.L fz1 ρ1 s₁ mh2 fz' ρ' s' := ⟨q5,q6,q7⟩
 have rF := q6.freeze q8 (fun i p eq => by have := q10.2 p (List.mem_of_getElem? eq); exact ⟨this.1.symm,this.2.symm⟩) q10.1
 have gF : Good c.L fz1 ρ1 s₁ mh2 (fz'.add D (seqObj "list" ys' n)) ρ' s' := ⟨q5,rF,⟨fun a q x => FZ.add_mono q10.1 _ _ (q7.mono a q x),fun a q x => by
  unfold FZ.add at x; split at x
  ·rename_i hb; exact .inr (hb ▸ q1)
  ·exact q7.new _ _ x,q7.pre,q7.keep,q7.dom⟩⟩
 have apC : Apart (fz'.add D (seqObj "list" ys' n)) ρ' C := ⟨by unfold FZ.add; rw [if_neg (Ne.symm q3)]; exact q11.1,q11.2⟩
 have vD : VR c.L (fz'.add D (seqObj "list" ys' n)) ρ' (.ref D) (.lst ys) := .lst FZ.add_self q12 (q9.mono (FZ.add_mono q10.1) fun O O e => e) .nil
 have xF := xe.step gF.st
 have nfC : C ∉ frameOf env := not_frame xe q2
 obtain ⟨oC,_,_,hoC,_⟩ := id q4
 refine wpAny_assign_Name (store_slot S rF xF hi vD fun s'' h1 h2 h3 h4 => ⟨m',q4.at' fun o e => h3.keep C o e apC.2 nfC,fun h' hS => ?_⟩)
 have hex := hS.extBut
 have gT : GoodX (frameOf env) c.L fz1 ρ1 s₁ mh2 (fz'.add D (seqObj "list" ys' n)) ρ' s'' := gF.x.trans ⟨h1,h2,h3⟩
 exact ⟨_,_,g1.x.trans (gT.tick q2 apC hex ⟨h',s''.toks,rfl⟩),h4.extNew (h0 := h') nfC hex,rfl⟩
end
end
section
section
variable {c : Cx} {env : Env} {ns σ : Sig} {L : Lk} {fz fz' : FZ} {ρ ρ' : RHO} {mh mh' : MH} {s : Shared} {h h' : Heap} {A : Around} {k : Nat} {E : Value → Shared → Prop} {v u : Value} {V U W : MV} {X wr : List Addr}
theorem enumL_get : ∀ {l : List MV} {k i : Nat} {x : MV},l[i]? = some x → (enumL l k)[i]? = some (.tup [.int ((k + i : Nat) : Int),x])
 | a :: r,k,0,x,h => by obtain rfl := sI h; rfl
 | a :: r,k,i + 1,x,h => by
  have := enumL_get (k := k + 1) (i := i) (x := x) (by simpa using h)
  show (enumL r (k + 1))[i]? = _
  rw [this,show k + 1 + i = k + (i + 1) by lia]
theorem enumL_len : ∀ {l : List MV} {k : Nat},(enumL l k).length = l.length
 | [],_ => rfl
 | a :: r,k => by simp [enumL,enumL_len (l := r)]
set_option tactic.hygienic true in
theorem forE_loop {ts : List Expr} {mts : List MT} {n : Nat} {tpos : Pos} {body : List Stmt} {mb : List MS} {e it l : Addr} {xs : List Value} {Vs : List MV} {fl : Fl} {st : St} {vals : Vals} {s s₂ : Shared} (rm : Room A (16 * c.n + 1)) (hp : ts.all plainE = true) (hl : ts.length = mts.length)
  (hS : OKSs c env σ ts mts) (hB : OKStB c env σ body mb) (hei : e ≠ it) (hle : l ≠ e) (hli : l ≠ it) (hfl : ∃ o,fz l = some o) (hv : VRL c.L fz ρ xs Vs) (hN : ∀ a ∈ [e,it],s.heap.get? a = none) (hX : ∀ a ∈ [e,it],a ∉ frameOf env)
  (ap : ∀ a ∈ [e,it],Apart fz ρ a) (g : GoodX (frameOf env) c.L fz ρ s mh fz ρ s₂) (x : EnvR c.L fz ρ s₂.heap env σ vals) (he : IsEnum s₂.heap e it 0 .none) (hit : s₂.heap.IsListIter it l 0) (hL : s₂.heap.IsList l (List.toArray xs))
  (q : forL c (.tup mts) mb (enumL Vs 0) (vals,mh) = some (fl,st)) :
  codeAny c.L.M A (.forLoop (.Tuple ts n tpos) (.ref e) body [] env) (fun r s' => match r with | .ok f => PF c.L env σ fz ρ s fl st f s' | .error e => cameBackBy c.L.M A env E e s') s₂ := by
 have W := WalksT.enumerate (prog := c.L.prog) (w := c.L.w) (A := A) rm.hd e it l hei hle hli (List.toArray xs)
 have hsz : (List.toArray xs).size = Vs.length := List.size_toArray.trans hv.len
 rw [hsz] at W
 generalize hS1 : (fun (i : Nat) (h : Heap) => (∃ old,IsEnum h e it i old) ∧ h.IsListIter it l i ∧ h.IsList l (List.toArray xs)) = St' at W
 generalize hM1 : (fun (i : Nat) (T : Addr) (h : Heap) => (∃ x,IsEnumOut h e it ((i : Int) + 1) x T) ∧ h.IsListIter it l (i + 1) ∧ h.IsList l (List.toArray xs) ∧ T ≠ e ∧ T ≠ it) = Mid at W
 have hst : St' 0 s₂.heap := by subst hS1; exact ⟨⟨_,he⟩,hit,hL⟩
 have hAl : ∀ i h,St' i h → ∀ a ∈ [e,it],∃ o,h.get? a = some o := by
  subst hS1
  rintro i h ⟨⟨old,q⟩,⟨o,q2,_⟩,_⟩ a ha
  rcases List.mem_cons.mp ha with rfl | ha
  ·exact ⟨_,q⟩
  ·obtain rfl := List.mem_singleton.mp ha; exact ⟨o,q2⟩
 clear hS1 hM1 he hit hL
 have hlen : (enumL Vs 0).length = Vs.length := enumL_len
 refine for_turns (FI c env σ fz ρ s [e,it] St' Vs.length fun i st' => forL c (.tup mts) mb ((enumL Vs 0).drop i) st' = some (fl,st)) ?_ (Vs.length + 1)
  ⟨0,(vals,mh),rfl,Nat.zero_le _,⟨fz,ρ,g,x,hst,ap⟩,q⟩
 intro k s' K F E hyp kK kF
 refine byP fun P kP => ?_
 obtain ⟨i,st',hk,hil,⟨fz',ρ',g',x',hst',ap'⟩,hq⟩ := hyp
 rcases Nat.lt_or_ge i Vs.length with hi | hi
 ·have hVi : Vs[i]? = some Vs[i] := List.getElem?_eq_getElem hi
  have hil' : i < (enumL Vs 0).length := by rw [hlen]; exact hi
  have hg : (enumL Vs 0)[i] = .tup [.int (i : Int),Vs[i]] := by
   have := enumL_get (k := 0) hVi
   rw [List.getElem?_eq_getElem hil',Nat.zero_add] at this
   exact Option.some.inj this
  rw [List.drop_eq_getElem_cons hil',hg] at hq
  refine bo_of (loopF_cons.symm.trans hq) fun st2 e2 hq => bd_of hq fun f0 st4 e4 hq => ?_
  obtain ⟨xv,hxi,vv⟩ := hv.get hVi
  refine kP (W.item i _ _ _ hi hst' fun T vs h1 t1 hPt hT0 hTup hMid hk1 => ?_)
  clear kP
  refine byP fun P kP => ?_
  obtain ⟨ti,xv',hxv,rfl⟩ := hPt
  obtain rfl : xv = xv' := Option.some.inj (hxi.symm.trans (by simpa using hxv))
  have hTw := W.apart i T h1 hMid
  refine kP (W.go _ _ _ i T { s' with heap := h1,toks := t1 } _ _ hMid fun h2 hS2 hk2 => ?_)
  clear kP
  have kk : ∀ b o,b ∉ [e,it] → s'.heap.get? b = some o → h2.get? b = some o := fun b o hb z => hk2 b o hb (hk1 b o hb z)
  have g1 : GoodX (frameOf env) c.L fz ρ s st'.2 fz' ρ' { s' with heap := h2,toks := t1 } := g'.tickL hN ap' kk ⟨_,_,rfl⟩
  refine wpAny_mono (unpack_ok (s := { s' with heap := h2,toks := t1 }) rm hp hl hS g1.r (x'.extL hX kk) (hTup.at fun o z => hk2 T o hTw z) (.int (vv.step g'.st)) e2) (fun O s3 z => ?_) fun O O e => e
  refine byP fun P kP => ?_
  obtain ⟨fz3,ρ3,g3,x3⟩ := z
  refine kP (wpAny_mono (hB rm g3.r x3 e4) (fun f s4 z => ?_) fun O O e => e)
  clear kP
  refine byP fun P kP => ?_
  obtain ⟨fz4,ρ4,g4,x4,hf⟩ := z
  have g5 := g3.trans g4
  induction f0 using Fl.casesOn with
  | next =>
   obtain rfl : f = .next := hf
   refine kP (kK _ _ (hk ▸ less1 hi) ⟨i + 1,st4,rfl,hi,⟨fz4,ρ4,g1.trans g5,x4,W.frame _ _ _ hS2 fun b hb o ee => ?_,fun a ha => ?_⟩,hq⟩)
   ·rcases List.mem_cons.mp hb with rfl | hb
    ·exact g5.st.keep _ _ ee (ap' _ (.head _)).2 (hX _ (.head _))
    rcases List.mem_cons.mp hb with rfl | hb
    ·exact g5.st.keep _ _ ee (ap' _ (.tail _ (.head _))).2 (hX _ (.tail _ (.head _)))
    obtain rfl := List.mem_singleton.mp hb
    obtain ⟨ol,hol⟩ := hfl
    have h1 := g'.st.mono _ _ hol
    obtain rfl := sI (ee.symm.trans (g1.r.sub _ _ h1))
    exact g4.r.sub _ _ (g5.st.mono _ _ h1)
   ·obtain ⟨o,ho⟩ := hAl _ _ hS2 a ha
    exact (ap' a ha).step ho g5.st
  | ret V =>
   obtain ⟨v,rfl,hv⟩ := hf
   exact kP (kF _ _ (PF.eq hq ⟨fz4,ρ4,g1.trans g5,x4,v,rfl,hv⟩))
 ·have hil : i = Vs.length := Nat.le_antisymm hil hi
  subst hil
  refine kP (W.done _ _ _ hst' fun h1 t1 hk1 => ?_)
  rw [List.drop_of_length_le (Nat.le_of_eq hlen)] at hq
  exact kF _ _ (PF.eq hq ⟨fz',ρ',g'.tickL hN ap' hk1 ⟨_,_,rfl⟩,x'.extL hX hk1,rfl⟩)
theorem lstV_eq {l : List MV} (h : lstV V = some l) : V = .lst l := by induction V using MV.casesOn <;> first | exact nO h | (obtain rfl := sI h; rfl)
theorem okst_forE {ts ie n tpos body pos p cpos mts mi mb} (S : EnvS env ns σ) (B : BltOK c.L) (hk : ns.lookup ("enumerate" : Str) = some .globalImplicit) (hpi : plainE ie = true) (hp : ts.all plainE = true) (hl : ts.length = mts.length) (hS : OKSs c env σ ts mts) (hI : OKE c env σ ie mi) (hB : OKStB c env σ body mb) :
  OKSt c env σ (.For (.Tuple ts n tpos) (.Call (.Name "enumerate" p) [ie] [] cpos) body [] pos) (.forE (.tup mts) mi mb) := fun {A E s fz ρ mh vals fl st} rm r x q => by
 refine bd_of (execS_forE.symm.trans q) fun V0 mh1 e1 q => bo_of q fun l hV qq => ?_
 obtain rfl := lstV_eq hV
 refine wpAny_For (bltT S r hk (by decide +kernel) B.enumN B.enumV (by simp [hpi]) rm x (okes_cons hI okes_nil) (evalEs_one e1) fun vs s1 fz1 ρ1 g1 x1 => ?_) (fun O => rfl)
 obtain ⟨v0,vs',rfl,y1,y2⟩ := x1.unconsR
 cases List.length_eq_zero_iff.mp (y2.len : _ = 0)
 obtain ⟨a,xs,m,rfl,hfa,y,hlim⟩ := y1.view
 have ga := g1.r.sub _ _ hfa
 refine call_enumerate_list (isListOf ga) fun h' he hi hz hk => ?_
 have lt := Heap.lt_size ga
 have hne1 : a ≠ s1.heap.objs.size + 1 := fun q => by rw [q,get?_ge (Nat.le_succ _)] at ga; exact nO ga
 have hne0 : a ≠ s1.heap.objs.size := fun q => by rw [q,get?_size] at ga; exact nO ga
 refine wpAny_pyIter_enum he ?_
 have xe := x.step g1.st
 have nN : ∀ b ∈ [s1.heap.objs.size + 1,s1.heap.objs.size],s1.heap.get? b = none := fun b hb => by
  rcases List.mem_cons.mp hb with rfl | hb
  ·exact get?_ge (Nat.le_succ _)
  ·obtain rfl := List.mem_singleton.mp hb; exact get?_size _
 have g0 : Good c.L fz1 ρ1 s1 mh1 fz1 ρ1 { s1 with heap := h' } := .keeps g1.r hk s1.toks
 refine codeAny_mono (forE_loop (E := E) rm hp hl hS hB (Nat.succ_ne_self _) hne1 hne0 ⟨_,hfa⟩ y nN (fun b hb => not_frame xe (nN b hb)) (fun b hb => Apart.of_none g1.r (nN b hb)) g0.x (xe.step g0.st) he hi ((isListOf ga).at fun o z => hk _ _ z) qq) fun rr s' z => ?_
 induction rr using Except.casesOn with
 | ok f => exact PF.after g1.x z
 | error e => exact z
end
end
section
section
variable {c : Cx} {env : Env} {ns σ : Sig} {L : Lk} {fz fz' : FZ} {ρ ρ' : RHO} {mh mh' : MH} {s : Shared} {h h' : Heap} {A : Around} {k : Nat} {E : Value → Shared → Prop} {v u : Value} {V U W : MV} {X : List Addr} {n av : Nat}
open Classical in
noncomputable def fzT (fz : FZ) (h : Heap) (ρ : RHO) (n av : Nat) : FZ := fun a => match fz a with
 | some o => some o
 | none => if ∃ j p,n ≤ j ∧ j ≠ av ∧ ρ[j]? = some p ∧ (a = p.1 ∨ a = p.2) then h.get? a else none
theorem fzT_mono (a : Addr) (o : Obj) (e : fz a = some o) : fzT fz h ρ n av a = some o := by unfold fzT; rw [e]
theorem fzT_new {a : Addr} {p : Addr × Addr} {j : Nat} (r : R L fz ρ mh h) (h1 : n ≤ j) (h2 : j ≠ av) (h3 : ρ[j]? = some p) (h4 : a = p.1 ∨ a = p.2) : fzT fz h ρ n av a = h.get? a := by
 have ha : fz a = none := by rcases h4 with rfl | rfl; exact (r.apart j p h3).1; exact (r.apart j p h3).2
 unfold fzT
 rw [ha]
 exact if_pos ⟨j,p,h1,h2,h3,h4⟩
theorem fzT_old {a : Addr} {p : Addr × Addr} {i : Nat} (r : R L fz ρ mh h) (h1 : i < n ∨ i = av) (h3 : ρ[i]? = some p) (h4 : a = p.1 ∨ a = p.2) : fzT fz h ρ n av a = none := by
 have ha : fz a = none := by rcases h4 with rfl | rfl; exact (r.apart i p h3).1; exact (r.apart i p h3).2
 unfold fzT
 rw [ha]
 refine if_neg ?_
 rintro ⟨j,q,q1,q2,q3,q4⟩
 have hij : i ≠ j := by rcases h1 with z | z <;> lia
 have d := r.dist i j p q h3 q3 hij
 rcases h4 with rfl | rfl <;> rcases q4 with z | z
 ·exact d.1 z
 ·exact d.2.1 z
 ·exact d.2.2.1 z
 ·exact d.2.2.2 z
set_option tactic.hygienic true in
theorem fzT_some {a : Addr} {o : Obj} (e : fzT fz h ρ n av a = some o) : fz a = some o ∨ (h.get? a = some o ∧ ∃ j p,n ≤ j ∧ ρ[j]? = some p ∧ (a = p.1 ∨ a = p.2)) := by
 unfold fzT at e
 generalize fz a = x at e
 induction x using Option.casesOn with
 | some o' => obtain rfl := sI e; exact .inl rfl
 | none =>
  dsimp only at e
  split at e
  ·rename_i q
   obtain ⟨j,p,q1,_,q3,q4⟩ := q
   exact .inr ⟨e,j,p,q1,q3,q4⟩
  ·exact nO e
theorem VD.under {v : Value} {V : MV} {xs : List Value} {l : List MV} (h : VD L fz v xs l V) (e : underB n V = true) : underL n l = true := by
 induction V using MV.casesOn with
 | tup k => exact h.1 ▸ e
 | lst k => exact h.1 ▸ e
 | dct ks k => exact h.1 ▸ e
 | ins c as k => exact h.1 ▸ e
 | _ => exact h.elim
theorem under_vr {vs : List Value} {Vs : List MV} (x : VRL L fz ρ vs Vs) : underL n Vs = true → VRL L fz (ρ.take n) vs Vs := by
 have cons2 : ∀ {V : MV} {Vs : List MV},underL n (V :: Vs) = true → underB n V = true ∧ underL n Vs = true := fun h => Bool.and_eq_true_iff.mp h
 induction x with
 | nil => exact fun O => .nil
 | flat h _ ih => exact fun e => .flat (h.mono fun i q p hp => by rw [q] at e; rw [List.getElem?_take_of_lt (of_decide_eq_true (cons2 e).1)]; exact hp) (ih (cons2 e).2)
 | deep h _ _ ia ih => exact fun e => .deep h (ia (h.under (cons2 e).1)) (ih (cons2 e).2)
theorem OR.under {p : Addr × Addr} {m : MO} (x : OR L fz ρ h p m) (e : underO n m = true) : OR L fz (ρ.take n) h p m := by
 induction m using MO.casesOn with
 | lst l => obtain ⟨a,b,xs,k,g,y⟩ := x; exact ⟨a,b,xs,k,g,under_vr y e⟩
 | dct ks vs => obtain ⟨a,b,d,kvs,g,q,y⟩ := x; exact ⟨a,b,d,kvs,g,q,under_vr y e⟩
 | ins c as vs => obtain ⟨a,g,kvs,d,q,y⟩ := x; exact ⟨a,g,kvs,d,q,under_vr y e⟩
theorem R.cut (r : R L fz ρ mh h) (hu : (mh.take n).all (underO n) = true) : R L (fzT fz h ρ n av) (ρ.take n) (mh.take n) h where
 base := fun a o e => fzT_mono a o (r.base a o e)
 sub := fun a o e => by
  rcases fzT_some e with q | q
  ·exact r.sub a o q
  ·exact q.1
 len := by rw [List.length_take,List.length_take,r.len]
 objs := fun i m p e e' => by
  have hi : i < n := by have := (List.getElem?_eq_some_iff.mp e).1; rw [List.length_take] at this; exact (Nat.lt_min.mp this).1
  rw [List.getElem?_take_of_lt hi] at e e'
  have hm : m ∈ mh.take n := List.mem_of_getElem? (by rw [List.getElem?_take_of_lt hi]; exact e)
  exact ((r.objs i m p e e').under (List.all_eq_true.mp hu m hm)).keep (fun O e => e) (fun O e => e) fzT_mono fun O O e => e
 apart := fun i p e => by
  have hi : i < n := by have := (List.getElem?_eq_some_iff.mp e).1; rw [List.length_take] at this; exact (Nat.lt_min.mp this).1
  rw [List.getElem?_take_of_lt hi] at e
  exact ⟨fzT_old r (.inl hi) e (.inl rfl),fzT_old r (.inl hi) e (.inr rfl)⟩
 dist := fun i j p q e e' hij => by
  have hi : i < n := by have := (List.getElem?_eq_some_iff.mp e).1; rw [List.length_take] at this; exact (Nat.lt_min.mp this).1
  have hj : j < n := by have := (List.getElem?_eq_some_iff.mp e').1; rw [List.length_take] at this; exact (Nat.lt_min.mp this).1
  rw [List.getElem?_take_of_lt hi] at e
  rw [List.getElem?_take_of_lt hj] at e'
  exact r.dist i j p q e e' hij
theorem mapO_vr {f : MV → Option MV} (hf : ∀ v V W,f V = some W → VR L fz ρ v V → VR L fz' ρ' v W) : ∀ {Vs Ws : List MV} {vs : List Value},mapO f Vs = some Ws → VRL L fz ρ vs Vs → VRL L fz' ρ' vs Ws ∧ Ws.length = Vs.length := by
 intro Vs
 induction Vs with
 | nil => intro Ws vs e x; obtain rfl := sI e; obtain rfl := List.length_eq_zero_iff.mp x.len; exact ⟨.nil,rfl⟩
 | cons V Vs ih =>
  intro Ws vs e x
  obtain ⟨v,vs',rfl,x1,x2⟩ := x.unconsR
  refine bo_of e fun W e1 e => bo_of e fun Ws' e2 e => ?_
  obtain rfl := sI e
  obtain ⟨y1,y2⟩ := ih e2 x2
  exact ⟨(hf _ _ _ e1 x1).cons y1,congrArg (· + 1) y2⟩
set_option tactic.hygienic true in
theorem frz_vr (r : R L fz ρ mh h) : ∀ (k : Nat) (v : Value) (V W : MV),frz mh n av k V = some W → VR L fz ρ v V → VR L (fzT fz h ρ n av) (ρ.take n) v W
 | 0,_,_,_,e,_ => nomatch e
 | k + 1,v,V,W,e,x => by
  have ih := frz_vr r k
  have many : ∀ {Vs Ws : List MV} {vs : List Value},mapO (frz mh n av k) Vs = some Ws → VRL L fz ρ vs Vs → VRL L (fzT fz h ρ n av) (ρ.take n) vs Ws ∧ Ws.length = Vs.length := mapO_vr ih
  refine cond_of e (fun hc e2 => ?_) fun hc e2 => ?_
  ·obtain rfl := sI e2
   have x' := closed_vr x (by show (cB V && true) = true; rw [hc]; rfl)
   exact x'.mono fzT_mono fun i p e => (nil_get e).elim
  clear e
  induction V using MV.casesOn with
  | ref i =>
   obtain ⟨p,rfl,hp⟩ := x.view
   dsimp only at e2
   split at e2
   ·rename_i hi
    obtain rfl := sI e2
    exact .ref (by rw [List.getElem?_take_of_lt hi]; exact hp) .nil
   ·rename_i hi
    have hi : n ≤ i := Nat.le_of_not_lt hi
    split at e2
    ·exact nO e2
    ·rename_i hav
     have g1 := fzT_new (n := n) (av := av) (a := p.1) r hi hav hp (.inl rfl)
     have g2 := fzT_new (n := n) (av := av) (a := p.2) r hi hav hp (.inr rfl)
     split at e2
     ·rename_i l hm
      refine bo_of e2 fun l' e1 e => ?_
      obtain rfl := sI e
      obtain ⟨q1,q2,xs,z,q3,q4⟩ := r.objs i _ p hm hp
      obtain ⟨y1,y2⟩ := many e1 q4
      exact .lst (g1.trans q3) (by rw [y2]; exact q2) y1 .nil
     ·rename_i ks vs hm
      refine bo_of e2 fun l' e1 e => ?_
      obtain rfl := sI e
      obtain ⟨q1,q2,q3,kvs,q4,q5,q6⟩ := r.objs i _ p hm hp
      obtain ⟨y1,y2⟩ := many e1 q6
      obtain ⟨o,ho,hd⟩ := Heap.dictOf_iff.mp q4
      exact .dct (g1.trans ho) q3 hd q5 (by rw [y2]; exact q2) y1 .nil
     ·rename_i c as vs hm
      refine bo_of e2 fun l' e1 e => ?_
      obtain rfl := sI e
      obtain ⟨q1,q2,kvs,q4,q5,q6⟩ := r.objs i _ p hm hp
      obtain ⟨y1,y2⟩ := many e1 q6
      obtain ⟨o,ho,hd⟩ := Heap.dictOf_iff.mp q4
      exact .ins (g1.trans q2) (g2.trans ho) hd q5 (by rw [y2]; exact q1) y1 .nil
     ·exact nO e2
  | tup l =>
   refine bo_of e2 fun l' e1 e => ?_
   obtain rfl := sI e
   obtain ⟨a,xs,z,rfl,g,y,hl⟩ := x.view
   obtain ⟨y1,y2⟩ := many e1 y
   exact .tup (fzT_mono _ _ g) (by rw [y2]; exact hl) y1 .nil
  | lst l =>
   refine bo_of e2 fun l' e1 e => ?_
   obtain rfl := sI e
   obtain ⟨a,xs,z,rfl,g,y,hl⟩ := x.view
   obtain ⟨y1,y2⟩ := many e1 y
   exact .lst (fzT_mono _ _ g) (by rw [y2]; exact hl) y1 .nil
  | dct ks l =>
   refine bo_of e2 fun l' e1 e => ?_
   obtain rfl := sI e
   obtain ⟨a,o,kvs,rfl,g,q1,q2,q3,y,hl⟩ := x.view
   obtain ⟨y1,y2⟩ := many e1 y
   exact .dct (fzT_mono _ _ g) q1 q2 q3 (by rw [y2]; exact hl) y1 .nil
  | ins c as l =>
   refine bo_of e2 fun l' e1 e => ?_
   obtain rfl := sI e
   obtain ⟨a,d,o,kvs,rfl,g,g',q2,q3,y,hl⟩ := x.view
   obtain ⟨y1,y2⟩ := many e1 y
   exact .ins (fzT_mono _ _ g) (fzT_mono _ _ g') q2 q3 (by rw [y2]; exact hl) y1 .nil
  | _ => exact fF' hc.symm
theorem Step.cut {X : List Addr} {fz₀ : FZ} {ρ₀ : RHO} {h₀ : Heap} (st : Step X fz₀ ρ₀ h₀ fz ρ h) (hX : ∀ a ∈ X,h₀.get? a = none) (hn : ρ₀.length = n) : Step [] fz₀ ρ₀ h₀ (fzT fz h ρ n av) (ρ.take n) h := by
 obtain ⟨τ,e,ht⟩ := st.pre
 refine ⟨fun a o q => fzT_mono _ _ (st.mono a o q),fun a o q => ?_,⟨[],?_,fun O h => nomatch h⟩,fun b o q h1 O => st.keep b o q h1 fun hb => (by rw [hX b hb] at q; exact nO q),st.dom⟩
 ·rcases fzT_some q with q | ⟨q,j,p,h1,h2,h3⟩
  ·exact st.new _ _ q
  ·right
   rw [e,List.getElem?_append_right (by lia)] at h2
   have := ht p (List.mem_of_getElem? h2)
   rcases h3 with rfl | rfl
   ·exact this.1
   ·exact this.2
 ·rw [e,← hn,List.take_left,List.append_nil]
theorem finish_ok {keep : Bool} {X : List Addr} {fz₀ : FZ} {ρ₀ : RHO} {mh₀ : MH} {s s' : Shared} (g : GoodX X L fz₀ ρ₀ s mh fz ρ s') (hX : ∀ a ∈ X,s.heap.get? a = none) (hl : ρ₀.length = mh₀.length) (hv : VR L fz ρ v V) (e : finish keep mh₀.length V mh = some (W,mh')) : PV L fz₀ ρ₀ s W mh' v s' := by
 obtain ⟨τ,eτ,hτ⟩ := g.st.pre
 have htk : ρ.take mh₀.length = ρ₀ := by rw [eτ,← hl,List.take_left]
 refine if_of e fun hu e => cond_of e (fun hk e => ?_) fun hk e => ?_
 ·refine bo_of e fun i hi e => if_of e fun hin e => bo_of e fun p hp e => bo_of e fun ws hws e => ?_
  obtain ⟨rfl,rfl⟩ := sP e
  obtain rfl := refV_eq hi
  obtain ⟨q,rfl,hq⟩ := hv.view
  have hm : mh[i]? = some (.dct p.1 p.2) := by
   exact pMD hp fun ks vs z hp => by obtain rfl := sI hp; exact z
  obtain ⟨z1,z2,z3,kvs,z4,z5,z6⟩ := g.r.objs i _ q hm hq
  have rc := g.r.cut (av := i) hu
  have sc := g.st.cut (av := i) hX hl
  obtain ⟨y1,y2⟩ := mapO_vr (frz_vr g.r 64) hws z6
  rw [htk] at rc sc y1
  have fresh : s.heap.get? q.1 = none ∧ s.heap.get? q.2 = none := by
   rw [eτ,List.getElem?_append_right (by lia)] at hq
   exact hτ q (List.mem_of_getElem? hq)
  have hix : (ρ₀ ++ [q])[mh₀.length]? = some q := by rw [← hl,List.getElem?_append_right (Nat.le_refl _),Nat.sub_self]; rfl
  refine ⟨_,ρ₀ ++ [q],⟨g.same,rc.grow (p := q) (m := .dct p.1 ws) ⟨z1,by rw [y2]; exact z2,z3,kvs,z4,z5,y1⟩ ⟨fzT_old g.r (.inr rfl) hq (.inl rfl),fzT_old g.r (.inr rfl) hq (.inr rfl)⟩ (fun j w hw => ?_),sc.grow fresh⟩,.ref hix .nil⟩
  have hj : j < mh₀.length := by have := (List.getElem?_eq_some_iff.mp hw).1; lia
  have hw' : ρ[j]? = some w := by rw [← List.getElem?_take_of_lt hj,htk]; exact hw
  exact g.r.dist j i w q hw' hq (by lia)
 ·refine bo_of e fun w hw e => ?_
  obtain ⟨rfl,rfl⟩ := sP e
  have rc := g.r.cut (av := mh.length) hu
  have sc := g.st.cut (av := mh.length) hX hl
  have y := frz_vr (n := mh₀.length) (av := mh.length) g.r 64 _ _ _ hw hv
  rw [htk] at rc sc y
  exact ⟨_,ρ₀,⟨g.same,rc,sc⟩,y⟩
end
end
section
section bind
variable {kindOf : Str → Option NameKind}
theorem bindL_other {n : Str} : ∀ {names : List Str} {vs : List Value} {m : Str → Option Value},n ∉ names → bindL kindOf (names.zip vs) m n = m n
 | [],_,_,_ => rfl
 | _ :: _,[],_,_ => rfl
 | a :: names,v :: vs,m,h => by
  show bindL kindOf (names.zip vs) _ n = _
  rw [bindL_other fun q => h (.tail _ q)]
  split
  ·exact if_neg fun (q : n = a) => h (q ▸ .head _)
  ·rfl
theorem bindC_other {n : Str} : ∀ {names : List Str} {vs : List Value} {m : Str → Option Value},n ∉ names → bindC kindOf (names.zip vs) m n = m n
 | [],_,_,_ => rfl
 | _ :: _,[],_,_ => rfl
 | a :: names,v :: vs,m,h => by
  show bindC kindOf (names.zip vs) _ n = _
  rw [bindC_other fun q => h (.tail _ q)]
  split
  ·rfl
  ·exact if_neg fun (q : n = a) => h (q ▸ .head _)
theorem bindL_at {n : Str} {v : Value} (hk : kindOf n = some .local) : ∀ {names : List Str} {vs : List Value} {m : Str → Option Value} {i : Nat},names.Nodup → names[i]? = some n → vs[i]? = some v → bindL kindOf (names.zip vs) m n = some v
 | a :: names,w :: vs,m,0,hn,h1,h2 => by
  cases h1; obtain rfl := sI h2
  show bindL kindOf (names.zip vs) _ n = _
  rw [bindL_other (List.nodup_cons.mp hn).1,if_pos hk]
  exact if_pos rfl
 | a :: names,w :: vs,m,i + 1,hn,h1,h2 => bindL_at hk (names := names) (vs := vs) (i := i) (List.nodup_cons.mp hn).2 h1 h2
 | [],_,_,_,_,h1,_ => (nil_get h1).elim
 | _ :: _,[],_,_,_,_,h2 => (nil_get h2).elim
theorem bindC_at {n : Str} {v : Value} (hk : kindOf n ≠ some .local) : ∀ {names : List Str} {vs : List Value} {m : Str → Option Value} {i : Nat},names.Nodup → names[i]? = some n → vs[i]? = some v → bindC kindOf (names.zip vs) m n = some v
 | a :: names,w :: vs,m,0,hn,h1,h2 => by
  cases h1; obtain rfl := sI h2
  show bindC kindOf (names.zip vs) _ n = _
  rw [bindC_other (List.nodup_cons.mp hn).1,if_neg hk]
  exact if_pos rfl
 | a :: names,w :: vs,m,i + 1,hn,h1,h2 => bindC_at hk (names := names) (vs := vs) (i := i) (List.nodup_cons.mp hn).2 h1 h2
 | [],_,_,_,_,h1,_ => (nil_get h1).elim
 | _ :: _,[],_,_,_,_,h2 => (nil_get h2).elim
end bind
structure FnFacts (L : Lk) (T : Text) (f : Nat) (fr : FnRec) (o : Obj) (fd : FuncData) (body : List Stmt) (σ : Sig) (dv : List Value) : Prop where
 at_ : L.K.lookup (L.fnA f) = some o
 data : o.data = .func fd
 code : codeIn L.K fd.code fd.qualname = true
 bodyE : fd.body = .stmts body
 clo : fd.closure = []
 co : fd.scope.isCoroutine = false
 gen : fd.scope.isGenerator = false
 kind : fd.scope.kind = .function
 glob : fd.globals = mainGlobals
 blt : fd.builtins = builtinsNs
 kinds : ∀ (i : Nat) n k,σ[i]? = some (n,k) → fd.scope.names.lookup n = some k ∧ (k = .local ∨ k = .cell) ∧ (n == ("__debug__" : Str)) = false
 nodup : (σ.map (·.1)).Nodup
 slots : σ.length = fr.nslots
 args : fr.nargs ≤ fr.nslots
 dflt : VRL L (fun a => L.K.lookup a) [] dv fr.dflt
 bind : ∀ (s : Shared) (vals : List Value),L.K.In s.heap → vals.length ≤ fr.nargs → fr.nargs ≤ vals.length + fr.dflt.length → BindsTo s fd ⟨vals,[]⟩ (((σ.map (·.1)).take fr.nargs).zip (vals ++ dv.drop (vals.length + fr.dflt.length - fr.nargs)))
 ok : ∀ (C : Callee) (n : Nat) (env : Env),SoundC L C n → (∀ f vs mh x,C f vs mh = some x → ∃ fr,T.fns[f]? = some fr) → EnvS env fd.scope.names σ → OKStB ⟨L,T,C,n⟩ env σ body fr.body
section
variable {L : Lk} {T : Text} {fz : FZ} {ρ : RHO} {mh mh' : MH} {s : Shared} {A : Around} {V : MV}
theorem callEnvS {f fr o fd body σ dv} (F : FnFacts L T f fr o fd body σ dv) {a : Addr} {m cm : Str → Option Value} {s₁ : Shared} (x : InCallC s (callEnvC fd s.heap.objs.size a).locals m (callEnvC fd s.heap.objs.size a).cells cm s₁) : EnvS (callEnvC fd s.heap.objs.size a) fd.scope.names σ :=
 ⟨F.kind,F.glob,F.blt,rfl,F.kinds,F.nodup,fun n c h => Nat.ne_of_gt (x.above n c (mem_of_lookup h)),fun n n' c h h' => name_of_addr x.apart (mem_of_lookup h) (mem_of_lookup h')⟩
theorem callEnvR {f fr o fd body σ dv} (F : FnFacts L T f fr o fd body σ dv) {a : Addr} {vs : List Value} {Vs : List MV} {s₁ : Shared} (r : R L fz ρ mh s.heap) (hv : VRL L fz ρ vs Vs) (hl : Vs.length = fr.nargs)
  (x : InCallC s (callEnvC fd s.heap.objs.size a).locals (bindL (callEnvC fd s.heap.objs.size a).kindOf (((σ.map (·.1)).take fr.nargs).zip vs) fun O => none) (callEnvC fd s.heap.objs.size a).cells (bindC (callEnvC fd s.heap.objs.size a).kindOf (((σ.map (·.1)).take fr.nargs).zip vs) fun O => none) s₁) :
  EnvR L fz ρ s₁.heap (callEnvC fd s.heap.objs.size a) σ (Vs.map some ++ List.replicate (fr.nslots - fr.nargs) none) := by
 have apN : ∀ b,s.heap.objs.size ≤ b → Apart fz ρ b := fun b hb => Apart.of_none r (get?_ge hb)
 have arg : ∀ (i : Nat) n k V,σ[i]? = some (n,k) → (Vs.map some ++ List.replicate (fr.nslots - fr.nargs) none)[i]? = some (some V) → ((σ.map (·.1)).take fr.nargs)[i]? = some n ∧ ∃ v,vs[i]? = some v ∧ VR L fz ρ v V := fun i n k V e e' => by
  have hi : i < Vs.length := by
   rcases Nat.lt_or_ge i Vs.length with h | h
   ·exact h
   ·rw [List.getElem?_append_right (by rw [List.length_map]; exact h)] at e'
    have := List.mem_of_getElem? e'
    exact nomatch List.eq_of_mem_replicate this
  rw [List.getElem?_append_left (by rw [List.length_map]; exact hi),List.getElem?_map] at e'
  obtain ⟨W,hW,hq⟩ := Option.map_eq_some_iff.mp e'
  obtain rfl := sI hq
  refine ⟨?_,hv.get hW⟩
  rw [List.getElem?_take_of_lt (hl ▸ hi),List.getElem?_map,e]; rfl
 have nd : ((σ.map (·.1)).take fr.nargs).Nodup := F.nodup.sublist (List.take_sublist ..)
 refine ⟨?_,⟨_,x.toInCall.ns,fun i n V e e' => ?_⟩,fun i n e => ?_,apN _ x.toInCall.fresh,fun n c h => ?_⟩
 ·rw [List.length_append,List.length_map,List.length_replicate,F.slots,hl]; first | exact (Nat.add_sub_cancel' F.args).symm | exact Nat.add_sub_cancel' F.args
 ·obtain ⟨h1,v,h2,h3⟩ := arg i n _ V e e'
  exact ⟨v,bindL_at (F.kinds i n _ e).1 nd h1 h2,h3⟩
 ·obtain ⟨c,hc⟩ := Option.isSome_iff_exists.mp (cellsFrom_some fd.scope.names (s.heap.objs.size + 1) [] (.inl (F.kinds i n _ e).1))
  refine ⟨c,_,hc,x.cell n c hc,apN c (Nat.le_trans x.toInCall.fresh (Nat.le_of_lt (x.above n c (mem_of_lookup hc)))),fun V e' => ?_⟩
  obtain ⟨h1,v,h2,h3⟩ := arg i n _ V e e'
  have hk : (callEnvC fd s.heap.objs.size a).kindOf n ≠ some .local := by
   show fd.scope.names.lookup n ≠ _
   rw [(F.kinds i n _ e).1]; decide
  exact ⟨v,bindC_at hk nd h1 h2,h3⟩
 ·obtain ⟨o,ho,_⟩ := x.cell n c h
  exact ⟨⟨o,ho⟩,apN c (Nat.le_trans x.toInCall.fresh (Nat.le_of_lt (x.above n c (mem_of_lookup h))))⟩
theorem callEnv_fresh {fd : FuncData} {a : Addr} {m cm : Str → Option Value} {s₁ : Shared} (x : InCallC s (callEnvC fd s.heap.objs.size a).locals m (callEnvC fd s.heap.objs.size a).cells cm s₁) : ∀ b ∈ frameOf (callEnvC fd s.heap.objs.size a),s.heap.get? b = none := fun b hb => by
 rcases frame_mem hb with rfl | ⟨n,hn⟩
 ·exact get?_ge x.toInCall.fresh
 ·exact get?_ge (Nat.le_trans x.toInCall.fresh (Nat.le_of_lt (x.above n b (mem_of_lookup hn))))
theorem arg_len {v d n : Nat} (h1 : v ≤ n) (h2 : n ≤ v + d) : v + (d - (v + d - n)) = n := by lia
set_option tactic.hygienic true in
theorem fn_ok {f fr o fd body σ dv C n} (F : FnFacts L T f fr o fd body σ dv) (N : ∀ h,L.K.In h → h.NoLimit) (H : SoundC L C n) (Hf : ∀ f vs mh x,C f vs mh = some x → ∃ fr,T.fns[f]? = some fr) {vs : List Value} {Vs : List MV} (rm : Room A (16 * (n + 1))) (r : R L fz ρ mh s.heap) (hv : VRL L fz ρ vs Vs) (e : runF T C fr Vs mh = some (V,mh')) :
  codeAny L.M A (.call (.ref (L.fnA f)) ⟨vs,[]⟩) (fun r s' => ∃ v,r = .ok (.ret v) ∧ PV L fz ρ s V mh' v s') s := by
 refine if_of e fun hlen e => bd_of e fun fl st e1 e => ?_
 have hvl := hv.len
 have ho := r.sub _ _ (r.base _ _ F.at_)
 refine codeAny_call_function rm.depth ho F.data F.co F.gen F.bodyE (codeRec_of r.inK F.code) (F.bind s vs r.inK (Nat.le_trans (Nat.le_of_eq hvl) hlen.1) (by rw [hvl]; exact hlen.2) _ _ _ _ ?_)
 rw [F.clo]
 have hd := F.dflt.mono (fz' := fz) (ρ' := ρ) (fun a o q => r.base a o q) fun i p q => (nil_get q).elim
 have hvd := hv.append (hd.drop (Vs.length + fr.dflt.length - fr.nargs))
 rw [hvl]
 refine wpAny_newFunctionEnv_cells F.kind (fun y hy => ?_) fun env he s₁ x => ?_
 ·have hm : y.1 ∈ (σ.map (·.1)).take fr.nargs := (List.of_mem_zip hy).1
  obtain ⟨q,hq,hqe⟩ := List.mem_map.mp (List.mem_of_mem_take hm)
  obtain ⟨i,hi⟩ := List.mem_iff_getElem?.mp hq
  obtain ⟨h1,h2,_⟩ := F.kinds i q.1 q.2 hi
  rw [hqe] at h1
  rcases h2 with h2 | h2
  ·exact .inl (h1.trans (congrArg some h2))
  ·exact .inr ⟨h1.trans (congrArg some h2),cellsFrom_some _ _ _ (.inl (h1.trans (congrArg some h2)))⟩
 ·subst he
  have r1 : R L fz ρ mh s₁.heap := r.keeps x.toInCall.keep
  have S := callEnvS F x
  have x1 := callEnvR (a := L.fnA f) F r hvd (by rw [List.length_append,List.length_drop]; exact arg_len hlen.1 hlen.2) x
  have g1 : GoodX (frameOf (callEnvC fd s.heap.objs.size (L.fnA f))) L fz ρ s mh fz ρ s₁ := ⟨x.toInCall.same,r1,.keeps x.toInCall.keep⟩
  refine ⟨N _ r1.inK,codeAny_func (th (F.ok C n _ H Hf S (Room.deeper (rm.le (Nat.add_le_add_left (by decide : 2 ≤ 16) (16 * n)))) r1 x1 e1) fun f0 s' ⟨fz',ρ',g,x',hf⟩ => ?_)⟩
  have gg := g1.trans g
  induction fl using Fl.casesOn with
  | next =>
   cases (hf : f0 = .next)
   exact ⟨_,rfl,finish_ok gg (callEnv_fresh x) r.len (.none .nil) e⟩
  | ret W =>
   obtain ⟨w,rfl,hw⟩ := hf
   exact ⟨_,rfl,finish_ok gg (callEnv_fresh x) r.len hw e⟩
theorem sound (N : ∀ h,L.K.In h → h.NoLimit) (F : ∀ f fr,T.fns[f]? = some fr → ∃ o fd body σ dv,FnFacts L T f fr o fd body σ dv) (n : Nat) : SoundC L (mcall T n) n := by
 induction n with
 | zero => exact fun O O O e => nomatch e
 | succ n ih =>
  exact fun {A s f vs Vs fz ρ mh mh' V} rm r hv e => bo_of e fun fr hfr e => by
   obtain ⟨o,fd,body,σ,dv,ff⟩ := F f fr hfr
   refine fn_ok ff N ih (fun f vs mh x h => ?_) rm r hv e
   induction n using Nat.casesOn with
   | zero => exact nO h
   | succ n => exact bo_of h fun fr hfr O => ⟨fr,hfr⟩
end
end
section
noncomputable def ok0 (b : Bool) : Option Unit := if b = true then some () else none
section views
noncomputable def vName (e : PySem.Expr) : Option (Str) := @PySem.Expr.casesOn (fun O => Option (Str)) e (fun O O O => none) (fun O O O => none) (fun O O O O => none) (fun O O O => none) (fun O O O O => none) (fun O O O O => none) (fun O O O => none) (fun O O O => none) (fun O O O O => none) (fun O O O O => none) (fun O O O O O => none) (fun O O O O => none) (fun O O => none) (fun O O => none) (fun O O => none) (fun O O O O => none) (fun O O O O => none) (fun O O O O => none) (fun O O => none) (fun O O O => none) (fun O O O => none) (fun O O O => none) (fun O O => none) (fun x0 O => some x0) (fun O O => none) (fun O O O => none) (fun O O O O => none)
theorem vName_k {P : PySem.Expr → Prop} {e : PySem.Expr} {n : Str} (h : vName e = some n) (k : ∀ p1,P (.Name n p1)) : P e := by
 induction e using PySem.Expr.casesOn with
 | Name x0 x1 => obtain rfl := sI h; exact k x1
 | _ => exact nO h
noncomputable def vConst (e : PySem.Expr) : Option (Const) := @PySem.Expr.casesOn (fun O => Option (Const)) e (fun O O O => none) (fun O O O => none) (fun O O O O => none) (fun O O O => none) (fun O O O O => none) (fun O O O O => none) (fun O O O => none) (fun O O O => none) (fun O O O O => none) (fun O O O O => none) (fun O O O O O => none) (fun O O O O => none) (fun O O => none) (fun O O => none) (fun O O => none) (fun O O O O => none) (fun O O O O => none) (fun O O O O => none) (fun O O => none) (fun x0 O O => some x0) (fun O O O => none) (fun O O O => none) (fun O O => none) (fun O O => none) (fun O O => none) (fun O O O => none) (fun O O O O => none)
theorem vConst_k {P : PySem.Expr → Prop} {e : PySem.Expr} {n : Const} (h : vConst e = some n) (k : ∀ p1 p2,P (.Constant n p1 p2)) : P e := by
 induction e using PySem.Expr.casesOn with
 | Constant x0 x1 x2 => obtain rfl := sI h; exact k x1 x2
 | _ => exact nO h
noncomputable def vUn (e : PySem.Expr) : Option (UnaryOp × Expr) := @PySem.Expr.casesOn (fun O => Option (UnaryOp × Expr)) e (fun O O O => none) (fun O O O => none) (fun O O O O => none) (fun x0 x1 O => some (x0,x1)) (fun O O O O => none) (fun O O O O => none) (fun O O O => none) (fun O O O => none) (fun O O O O => none) (fun O O O O => none) (fun O O O O O => none) (fun O O O O => none) (fun O O => none) (fun O O => none) (fun O O => none) (fun O O O O => none) (fun O O O O => none) (fun O O O O => none) (fun O O => none) (fun O O O => none) (fun O O O => none) (fun O O O => none) (fun O O => none) (fun O O => none) (fun O O => none) (fun O O O => none) (fun O O O O => none)
theorem vUn_k {P : PySem.Expr → Prop} {e : PySem.Expr} {n : UnaryOp × Expr} (h : vUn e = some n) (k : ∀ p2,P (.UnaryOp n.1 n.2 p2)) : P e := by
 induction e using PySem.Expr.casesOn with
 | UnaryOp x0 x1 x2 => obtain rfl := sI h; exact k x2
 | _ => exact nO h
noncomputable def vTup (e : PySem.Expr) : Option (List Expr) := @PySem.Expr.casesOn (fun O => Option (List Expr)) e (fun O O O => none) (fun O O O => none) (fun O O O O => none) (fun O O O => none) (fun O O O O => none) (fun O O O O => none) (fun O O O => none) (fun O O O => none) (fun O O O O => none) (fun O O O O => none) (fun O O O O O => none) (fun O O O O => none) (fun O O => none) (fun O O => none) (fun O O => none) (fun O O O O => none) (fun O O O O => none) (fun O O O O => none) (fun O O => none) (fun O O O => none) (fun O O O => none) (fun O O O => none) (fun O O => none) (fun O O => none) (fun O O => none) (fun x0 O O => some x0) (fun O O O O => none)
theorem vTup_k {P : PySem.Expr → Prop} {e : PySem.Expr} {n : List Expr} (h : vTup e = some n) (k : ∀ p1 p2,P (.Tuple n p1 p2)) : P e := by
 induction e using PySem.Expr.casesOn with
 | Tuple x0 x1 x2 => obtain rfl := sI h; exact k x1 x2
 | _ => exact nO h
noncomputable def vList (e : PySem.Expr) : Option (List Expr) := @PySem.Expr.casesOn (fun O => Option (List Expr)) e (fun O O O => none) (fun O O O => none) (fun O O O O => none) (fun O O O => none) (fun O O O O => none) (fun O O O O => none) (fun O O O => none) (fun O O O => none) (fun O O O O => none) (fun O O O O => none) (fun O O O O O => none) (fun O O O O => none) (fun O O => none) (fun O O => none) (fun O O => none) (fun O O O O => none) (fun O O O O => none) (fun O O O O => none) (fun O O => none) (fun O O O => none) (fun O O O => none) (fun O O O => none) (fun O O => none) (fun O O => none) (fun x0 O => some x0) (fun O O O => none) (fun O O O O => none)
theorem vList_k {P : PySem.Expr → Prop} {e : PySem.Expr} {n : List Expr} (h : vList e = some n) (k : ∀ p1,P (.List n p1)) : P e := by
 induction e using PySem.Expr.casesOn with
 | List x0 x1 => obtain rfl := sI h; exact k x1
 | _ => exact nO h
noncomputable def vDict (e : PySem.Expr) : Option (List (Option Expr) × List Expr) := @PySem.Expr.casesOn (fun O => Option (List (Option Expr) × List Expr)) e (fun O O O => none) (fun O O O => none) (fun O O O O => none) (fun O O O => none) (fun O O O O => none) (fun O O O O => none) (fun x0 x1 O => some (x0,x1)) (fun O O O => none) (fun O O O O => none) (fun O O O O => none) (fun O O O O O => none) (fun O O O O => none) (fun O O => none) (fun O O => none) (fun O O => none) (fun O O O O => none) (fun O O O O => none) (fun O O O O => none) (fun O O => none) (fun O O O => none) (fun O O O => none) (fun O O O => none) (fun O O => none) (fun O O => none) (fun O O => none) (fun O O O => none) (fun O O O O => none)
theorem vDict_k {P : PySem.Expr → Prop} {e : PySem.Expr} {n : List (Option Expr) × List Expr} (h : vDict e = some n) (k : ∀ p2,P (.Dict n.1 n.2 p2)) : P e := by
 induction e using PySem.Expr.casesOn with
 | Dict x0 x1 x2 => obtain rfl := sI h; exact k x2
 | _ => exact nO h
noncomputable def vBin (e : PySem.Expr) : Option (Expr × Operator × Expr) := @PySem.Expr.casesOn (fun O => Option (Expr × Operator × Expr)) e (fun O O O => none) (fun O O O => none) (fun x0 x1 x2 O => some (x0,x1,x2)) (fun O O O => none) (fun O O O O => none) (fun O O O O => none) (fun O O O => none) (fun O O O => none) (fun O O O O => none) (fun O O O O => none) (fun O O O O O => none) (fun O O O O => none) (fun O O => none) (fun O O => none) (fun O O => none) (fun O O O O => none) (fun O O O O => none) (fun O O O O => none) (fun O O => none) (fun O O O => none) (fun O O O => none) (fun O O O => none) (fun O O => none) (fun O O => none) (fun O O => none) (fun O O O => none) (fun O O O O => none)
theorem vBin_k {P : PySem.Expr → Prop} {e : PySem.Expr} {n : Expr × Operator × Expr} (h : vBin e = some n) (k : ∀ p3,P (.BinOp n.1 n.2.1 n.2.2 p3)) : P e := by
 induction e using PySem.Expr.casesOn with
 | BinOp x0 x1 x2 x3 => obtain rfl := sI h; exact k x3
 | _ => exact nO h
noncomputable def vBool (e : PySem.Expr) : Option (BoolOp × List Expr) := @PySem.Expr.casesOn (fun O => Option (BoolOp × List Expr)) e (fun x0 x1 O => some (x0,x1)) (fun O O O => none) (fun O O O O => none) (fun O O O => none) (fun O O O O => none) (fun O O O O => none) (fun O O O => none) (fun O O O => none) (fun O O O O => none) (fun O O O O => none) (fun O O O O O => none) (fun O O O O => none) (fun O O => none) (fun O O => none) (fun O O => none) (fun O O O O => none) (fun O O O O => none) (fun O O O O => none) (fun O O => none) (fun O O O => none) (fun O O O => none) (fun O O O => none) (fun O O => none) (fun O O => none) (fun O O => none) (fun O O O => none) (fun O O O O => none)
theorem vBool_k {P : PySem.Expr → Prop} {e : PySem.Expr} {n : BoolOp × List Expr} (h : vBool e = some n) (k : ∀ p2,P (.BoolOp n.1 n.2 p2)) : P e := by
 induction e using PySem.Expr.casesOn with
 | BoolOp x0 x1 x2 => obtain rfl := sI h; exact k x2
 | _ => exact nO h
noncomputable def vIf (e : PySem.Expr) : Option (Expr × Expr × Expr) := @PySem.Expr.casesOn (fun O => Option (Expr × Expr × Expr)) e (fun O O O => none) (fun O O O => none) (fun O O O O => none) (fun O O O => none) (fun O O O O => none) (fun x0 x1 x2 O => some (x0,x1,x2)) (fun O O O => none) (fun O O O => none) (fun O O O O => none) (fun O O O O => none) (fun O O O O O => none) (fun O O O O => none) (fun O O => none) (fun O O => none) (fun O O => none) (fun O O O O => none) (fun O O O O => none) (fun O O O O => none) (fun O O => none) (fun O O O => none) (fun O O O => none) (fun O O O => none) (fun O O => none) (fun O O => none) (fun O O => none) (fun O O O => none) (fun O O O O => none)
theorem vIf_k {P : PySem.Expr → Prop} {e : PySem.Expr} {n : Expr × Expr × Expr} (h : vIf e = some n) (k : ∀ p3,P (.IfExp n.1 n.2.1 n.2.2 p3)) : P e := by
 induction e using PySem.Expr.casesOn with
 | IfExp x0 x1 x2 x3 => obtain rfl := sI h; exact k x3
 | _ => exact nO h
noncomputable def vCmp (e : PySem.Expr) : Option (Expr × List CmpOp × List Expr) := @PySem.Expr.casesOn (fun O => Option (Expr × List CmpOp × List Expr)) e (fun O O O => none) (fun O O O => none) (fun O O O O => none) (fun O O O => none) (fun O O O O => none) (fun O O O O => none) (fun O O O => none) (fun O O O => none) (fun O O O O => none) (fun O O O O => none) (fun O O O O O => none) (fun O O O O => none) (fun O O => none) (fun O O => none) (fun O O => none) (fun x0 x1 x2 O => some (x0,x1,x2)) (fun O O O O => none) (fun O O O O => none) (fun O O => none) (fun O O O => none) (fun O O O => none) (fun O O O => none) (fun O O => none) (fun O O => none) (fun O O => none) (fun O O O => none) (fun O O O O => none)
theorem vCmp_k {P : PySem.Expr → Prop} {e : PySem.Expr} {n : Expr × List CmpOp × List Expr} (h : vCmp e = some n) (k : ∀ p3,P (.Compare n.1 n.2.1 n.2.2 p3)) : P e := by
 induction e using PySem.Expr.casesOn with
 | Compare x0 x1 x2 x3 => obtain rfl := sI h; exact k x3
 | _ => exact nO h
noncomputable def vCall0 (e : PySem.Expr) : Option (Expr × List Expr × List Keyword × Pos) := @PySem.Expr.casesOn (fun O => Option (Expr × List Expr × List Keyword × Pos)) e (fun O O O => none) (fun O O O => none) (fun O O O O => none) (fun O O O => none) (fun O O O O => none) (fun O O O O => none) (fun O O O => none) (fun O O O => none) (fun O O O O => none) (fun O O O O => none) (fun O O O O O => none) (fun O O O O => none) (fun O O => none) (fun O O => none) (fun O O => none) (fun O O O O => none) (fun x0 x1 x2 x3 => some (x0,x1,x2,x3)) (fun O O O O => none) (fun O O => none) (fun O O O => none) (fun O O O => none) (fun O O O => none) (fun O O => none) (fun O O => none) (fun O O => none) (fun O O O => none) (fun O O O O => none)
theorem vCall0_k {P : PySem.Expr → Prop} {e : PySem.Expr} {n : Expr × List Expr × List Keyword × Pos} (h : vCall0 e = some n) (k : P (.Call n.1 n.2.1 n.2.2.1 n.2.2.2)) : P e := by
 induction e using PySem.Expr.casesOn with
 | Call x0 x1 x2 x3 => obtain rfl := sI h; exact k
 | _ => exact nO h
noncomputable def vAttr (e : PySem.Expr) : Option (Expr × Str × Pos) := @PySem.Expr.casesOn (fun O => Option (Expr × Str × Pos)) e (fun O O O => none) (fun O O O => none) (fun O O O O => none) (fun O O O => none) (fun O O O O => none) (fun O O O O => none) (fun O O O => none) (fun O O O => none) (fun O O O O => none) (fun O O O O => none) (fun O O O O O => none) (fun O O O O => none) (fun O O => none) (fun O O => none) (fun O O => none) (fun O O O O => none) (fun O O O O => none) (fun O O O O => none) (fun O O => none) (fun O O O => none) (fun x0 x1 x2 => some (x0,x1,x2)) (fun O O O => none) (fun O O => none) (fun O O => none) (fun O O => none) (fun O O O => none) (fun O O O O => none)
theorem vAttr_k {P : PySem.Expr → Prop} {e : PySem.Expr} {n : Expr × Str × Pos} (h : vAttr e = some n) (k : P (.Attribute n.1 n.2.1 n.2.2)) : P e := by
 induction e using PySem.Expr.casesOn with
 | Attribute x0 x1 x2 => obtain rfl := sI h; exact k
 | _ => exact nO h
noncomputable def vSub (e : PySem.Expr) : Option (Expr × Expr) := @PySem.Expr.casesOn (fun O => Option (Expr × Expr)) e (fun O O O => none) (fun O O O => none) (fun O O O O => none) (fun O O O => none) (fun O O O O => none) (fun O O O O => none) (fun O O O => none) (fun O O O => none) (fun O O O O => none) (fun O O O O => none) (fun O O O O O => none) (fun O O O O => none) (fun O O => none) (fun O O => none) (fun O O => none) (fun O O O O => none) (fun O O O O => none) (fun O O O O => none) (fun O O => none) (fun O O O => none) (fun O O O => none) (fun x0 x1 O => some (x0,x1)) (fun O O => none) (fun O O => none) (fun O O => none) (fun O O O => none) (fun O O O O => none)
theorem vSub_k {P : PySem.Expr → Prop} {e : PySem.Expr} {n : Expr × Expr} (h : vSub e = some n) (k : ∀ p2,P (.Subscript n.1 n.2 p2)) : P e := by
 induction e using PySem.Expr.casesOn with
 | Subscript x0 x1 x2 => obtain rfl := sI h; exact k x2
 | _ => exact nO h
noncomputable def vSlice0 (e : PySem.Expr) : Option (Option Expr × Option Expr × Option Expr) := @PySem.Expr.casesOn (fun O => Option (Option Expr × Option Expr × Option Expr)) e (fun O O O => none) (fun O O O => none) (fun O O O O => none) (fun O O O => none) (fun O O O O => none) (fun O O O O => none) (fun O O O => none) (fun O O O => none) (fun O O O O => none) (fun O O O O => none) (fun O O O O O => none) (fun O O O O => none) (fun O O => none) (fun O O => none) (fun O O => none) (fun O O O O => none) (fun O O O O => none) (fun O O O O => none) (fun O O => none) (fun O O O => none) (fun O O O => none) (fun O O O => none) (fun O O => none) (fun O O => none) (fun O O => none) (fun O O O => none) (fun x0 x1 x2 O => some (x0,x1,x2))
theorem vSlice0_k {P : PySem.Expr → Prop} {e : PySem.Expr} {n : Option Expr × Option Expr × Option Expr} (h : vSlice0 e = some n) (k : ∀ p3,P (.Slice n.1 n.2.1 n.2.2 p3)) : P e := by
 induction e using PySem.Expr.casesOn with
 | Slice x0 x1 x2 x3 => obtain rfl := sI h; exact k x3
 | _ => exact nO h
noncomputable def vComp0 (e : PySem.Expr) : Option (Expr × List Comprehension × Scope) := @PySem.Expr.casesOn (fun O => Option (Expr × List Comprehension × Scope)) e (fun O O O => none) (fun O O O => none) (fun O O O O => none) (fun O O O => none) (fun O O O O => none) (fun O O O O => none) (fun O O O => none) (fun O O O => none) (fun x0 x1 x2 O => some (x0,x1,x2)) (fun O O O O => none) (fun O O O O O => none) (fun O O O O => none) (fun O O => none) (fun O O => none) (fun O O => none) (fun O O O O => none) (fun O O O O => none) (fun O O O O => none) (fun O O => none) (fun O O O => none) (fun O O O => none) (fun O O O => none) (fun O O => none) (fun O O => none) (fun O O => none) (fun O O O => none) (fun O O O O => none)
theorem vComp0_k {P : PySem.Expr → Prop} {e : PySem.Expr} {n : Expr × List Comprehension × Scope} (h : vComp0 e = some n) (k : ∀ p3,P (.ListComp n.1 n.2.1 n.2.2 p3)) : P e := by
 induction e using PySem.Expr.casesOn with
 | ListComp x0 x1 x2 x3 => obtain rfl := sI h; exact k x3
 | _ => exact nO h
noncomputable def wAssign (e : PySem.Stmt) : Option (List Expr × Expr × Pos) := @PySem.Stmt.casesOn (fun O => Option (List Expr × Expr × Pos)) e (fun O O O O O O O O O O => none) (fun O O O O O O O O O O => none) (fun O O O O O O O O O O O => none) (fun O O => none) (fun O O => none) (fun x0 x1 x2 => some (x0,x1,x2)) (fun O O O O O O O => none) (fun O O O O => none) (fun O O O O O => none) (fun O O O O O => none) (fun O O O O O => none) (fun O O O O => none) (fun O O O O => none) (fun O O O => none) (fun O O O => none) (fun O O O => none) (fun O O O => none) (fun O O O O O => none) (fun O O O O O => none) (fun O O O => none) (fun O O => none) (fun O O O O => none) (fun O O => none) (fun O O => none) (fun O O => none) (fun O => none) (fun O => none) (fun O => none)
theorem wAssign_k {P : PySem.Stmt → Prop} {e : PySem.Stmt} {n : List Expr × Expr × Pos} (h : wAssign e = some n) (k : P (.Assign n.1 n.2.1 n.2.2)) : P e := by
 induction e using PySem.Stmt.casesOn with
 | Assign x0 x1 x2 => obtain rfl := sI h; exact k
 | _ => exact nO h
noncomputable def wExpr (e : PySem.Stmt) : Option (Expr) := @PySem.Stmt.casesOn (fun O => Option (Expr)) e (fun O O O O O O O O O O => none) (fun O O O O O O O O O O => none) (fun O O O O O O O O O O O => none) (fun O O => none) (fun O O => none) (fun O O O => none) (fun O O O O O O O => none) (fun O O O O => none) (fun O O O O O => none) (fun O O O O O => none) (fun O O O O O => none) (fun O O O O => none) (fun O O O O => none) (fun O O O => none) (fun O O O => none) (fun O O O => none) (fun O O O => none) (fun O O O O O => none) (fun O O O O O => none) (fun O O O => none) (fun O O => none) (fun O O O O => none) (fun O O => none) (fun O O => none) (fun x0 O => some x0) (fun O => none) (fun O => none) (fun O => none)
theorem wExpr_k {P : PySem.Stmt → Prop} {e : PySem.Stmt} {n : Expr} (h : wExpr e = some n) (k : ∀ p1,P (.Expr n p1)) : P e := by
 induction e using PySem.Stmt.casesOn with
 | Expr x0 x1 => obtain rfl := sI h; exact k x1
 | _ => exact nO h
noncomputable def wRet (e : PySem.Stmt) : Option (Option Expr) := @PySem.Stmt.casesOn (fun O => Option (Option Expr)) e (fun O O O O O O O O O O => none) (fun O O O O O O O O O O => none) (fun O O O O O O O O O O O => none) (fun x0 O => some x0) (fun O O => none) (fun O O O => none) (fun O O O O O O O => none) (fun O O O O => none) (fun O O O O O => none) (fun O O O O O => none) (fun O O O O O => none) (fun O O O O => none) (fun O O O O => none) (fun O O O => none) (fun O O O => none) (fun O O O => none) (fun O O O => none) (fun O O O O O => none) (fun O O O O O => none) (fun O O O => none) (fun O O => none) (fun O O O O => none) (fun O O => none) (fun O O => none) (fun O O => none) (fun O => none) (fun O => none) (fun O => none)
theorem wRet_k {P : PySem.Stmt → Prop} {e : PySem.Stmt} {n : Option Expr} (h : wRet e = some n) (k : ∀ p1,P (.Return n p1)) : P e := by
 induction e using PySem.Stmt.casesOn with
 | Return x0 x1 => obtain rfl := sI h; exact k x1
 | _ => exact nO h
noncomputable def wIf (e : PySem.Stmt) : Option (Expr × List Stmt × List Stmt) := @PySem.Stmt.casesOn (fun O => Option (Expr × List Stmt × List Stmt)) e (fun O O O O O O O O O O => none) (fun O O O O O O O O O O => none) (fun O O O O O O O O O O O => none) (fun O O => none) (fun O O => none) (fun O O O => none) (fun O O O O O O O => none) (fun O O O O => none) (fun O O O O O => none) (fun O O O O O => none) (fun O O O O O => none) (fun O O O O => none) (fun x0 x1 x2 O => some (x0,x1,x2)) (fun O O O => none) (fun O O O => none) (fun O O O => none) (fun O O O => none) (fun O O O O O => none) (fun O O O O O => none) (fun O O O => none) (fun O O => none) (fun O O O O => none) (fun O O => none) (fun O O => none) (fun O O => none) (fun O => none) (fun O => none) (fun O => none)
theorem wIf_k {P : PySem.Stmt → Prop} {e : PySem.Stmt} {n : Expr × List Stmt × List Stmt} (h : wIf e = some n) (k : ∀ p3,P (.If n.1 n.2.1 n.2.2 p3)) : P e := by
 induction e using PySem.Stmt.casesOn with
 | If x0 x1 x2 x3 => obtain rfl := sI h; exact k x3
 | _ => exact nO h
noncomputable def wWhile (e : PySem.Stmt) : Option (Expr × List Stmt × List Stmt) := @PySem.Stmt.casesOn (fun O => Option (Expr × List Stmt × List Stmt)) e (fun O O O O O O O O O O => none) (fun O O O O O O O O O O => none) (fun O O O O O O O O O O O => none) (fun O O => none) (fun O O => none) (fun O O O => none) (fun O O O O O O O => none) (fun O O O O => none) (fun O O O O O => none) (fun O O O O O => none) (fun O O O O O => none) (fun x0 x1 x2 O => some (x0,x1,x2)) (fun O O O O => none) (fun O O O => none) (fun O O O => none) (fun O O O => none) (fun O O O => none) (fun O O O O O => none) (fun O O O O O => none) (fun O O O => none) (fun O O => none) (fun O O O O => none) (fun O O => none) (fun O O => none) (fun O O => none) (fun O => none) (fun O => none) (fun O => none)
theorem wWhile_k {P : PySem.Stmt → Prop} {e : PySem.Stmt} {n : Expr × List Stmt × List Stmt} (h : wWhile e = some n) (k : ∀ p3,P (.While n.1 n.2.1 n.2.2 p3)) : P e := by
 induction e using PySem.Stmt.casesOn with
 | While x0 x1 x2 x3 => obtain rfl := sI h; exact k x3
 | _ => exact nO h
noncomputable def wFor (e : PySem.Stmt) : Option (Expr × Expr × List Stmt × List Stmt) := @PySem.Stmt.casesOn (fun O => Option (Expr × Expr × List Stmt × List Stmt)) e (fun O O O O O O O O O O => none) (fun O O O O O O O O O O => none) (fun O O O O O O O O O O O => none) (fun O O => none) (fun O O => none) (fun O O O => none) (fun O O O O O O O => none) (fun O O O O => none) (fun O O O O O => none) (fun x0 x1 x2 x3 O => some (x0,x1,x2,x3)) (fun O O O O O => none) (fun O O O O => none) (fun O O O O => none) (fun O O O => none) (fun O O O => none) (fun O O O => none) (fun O O O => none) (fun O O O O O => none) (fun O O O O O => none) (fun O O O => none) (fun O O => none) (fun O O O O => none) (fun O O => none) (fun O O => none) (fun O O => none) (fun O => none) (fun O => none) (fun O => none)
theorem wFor_k {P : PySem.Stmt → Prop} {e : PySem.Stmt} {n : Expr × Expr × List Stmt × List Stmt} (h : wFor e = some n) (k : ∀ p4,P (.For n.1 n.2.1 n.2.2.1 n.2.2.2 p4)) : P e := by
 induction e using PySem.Stmt.casesOn with
 | For x0 x1 x2 x3 x4 => obtain rfl := sI h; exact k x4
 | _ => exact nO h
noncomputable def wTry (e : PySem.Stmt) : Option (List Stmt × List ExceptHandler × List Stmt × List Stmt) := @PySem.Stmt.casesOn (fun O => Option (List Stmt × List ExceptHandler × List Stmt × List Stmt)) e (fun O O O O O O O O O O => none) (fun O O O O O O O O O O => none) (fun O O O O O O O O O O O => none) (fun O O => none) (fun O O => none) (fun O O O => none) (fun O O O O O O O => none) (fun O O O O => none) (fun O O O O O => none) (fun O O O O O => none) (fun O O O O O => none) (fun O O O O => none) (fun O O O O => none) (fun O O O => none) (fun O O O => none) (fun O O O => none) (fun O O O => none) (fun x0 x1 x2 x3 O => some (x0,x1,x2,x3)) (fun O O O O O => none) (fun O O O => none) (fun O O => none) (fun O O O O => none) (fun O O => none) (fun O O => none) (fun O O => none) (fun O => none) (fun O => none) (fun O => none)
theorem wTry_k {P : PySem.Stmt → Prop} {e : PySem.Stmt} {n : List Stmt × List ExceptHandler × List Stmt × List Stmt} (h : wTry e = some n) (k : ∀ p4,P (.Try n.1 n.2.1 n.2.2.1 n.2.2.2 p4)) : P e := by
 induction e using PySem.Stmt.casesOn with
 | Try x0 x1 x2 x3 x4 => obtain rfl := sI h; exact k x4
 | _ => exact nO h
noncomputable def vOne {α : Type} : List α → Option α
 | [x] => some x
 | _ => none
theorem vOne_k {α : Type} {P : List α → Prop} {l : List α} {x : α} (h : vOne l = some x) (k : P [x]) : P l := by
 induction l using List.casesOn with
 | nil => exact nO h
 | cons a r => induction r using List.casesOn with
  | nil => obtain rfl := sI h; exact k
  | cons b r => exact nO h
noncomputable def vCons {α : Type} : List α → Option (α × List α)
 | x :: r => some (x,r)
 | [] => none
theorem vCons_k {α : Type} {P : List α → Prop} {l : List α} {x : α × List α} (h : vCons l = some x) (k : P (x.1 :: x.2)) : P l := by
 induction l using List.casesOn with
 | nil => exact nO h
 | cons a r => obtain rfl := sI h; exact k
noncomputable def vNil {α : Type} (l : List α) : Option Unit := if l.isEmpty = true then some () else none
theorem vNil_k {α : Type} {P : List α → Prop} {l : List α} {x : Unit} (h : vNil l = some x) (k : P []) : P l := by
 induction l using List.casesOn with
 | nil => exact k
 | cons a r => exact nO h
noncomputable def vNoneE {α : Type} (l : Option α) : Option Unit := if l.isNone = true then some () else none
theorem vNoneE_k {α : Type} {P : Option α → Prop} {l : Option α} {x : Unit} (h : vNoneE l = some x) (k : P none) : P l := by
 induction l using Option.casesOn with
 | none => exact k
 | some a => exact nO h
theorem elim_of {α γ : Type} {P : Prop} {x : Option α} {a r : γ} {f : α → γ} (h : x.elim a f = r) (k0 : x = none → a = r → P) (k1 : ∀ y,x = some y → f y = r → P) : P := by
 induction x using Option.casesOn with
 | none => exact k0 rfl h
 | some y => exact k1 y rfl h
theorem beq_k {α : Type} [BEq α] [LawfulBEq α] {P : α → Prop} {a b : α} (h : (a == b) = true) (k : P b) : P a := eq_of_beq h ▸ k
noncomputable def vCall (e : Expr) : Option (Expr × List Expr × Pos) := bo (vCall0 e) fun p => bo (vNil p.2.2.1) fun O => some (p.1,p.2.1,p.2.2.2)
theorem vCall_k {P : Expr → Prop} {e : Expr} {n : Expr × List Expr × Pos} (h : vCall e = some n) (k : P (.Call n.1 n.2.1 [] n.2.2)) : P e :=
 bo_of h fun O h1 h => bo_of h fun O h2 h => vCall0_k h1 (vNil_k h2 (P := fun l => P (.Call _ _ l _)) (by obtain rfl := sI h; exact k))
noncomputable def vSlice (e : Expr) : Option (Option Expr × Option Expr) := bo (vSlice0 e) fun p => bo (vNoneE p.2.2) fun O => some (p.1,p.2.1)
theorem vSlice_k {P : Expr → Prop} {e : Expr} {n : Option Expr × Option Expr} (h : vSlice e = some n) (k : ∀ p,P (.Slice n.1 n.2 none p)) : P e :=
 bo_of h fun O h1 h => bo_of h fun O h2 h => vSlice0_k h1 fun p => vNoneE_k h2 (P := fun l => P (.Slice _ _ l p)) (by obtain rfl := sI h; exact k p)
noncomputable def vComp (e : Expr) : Option (Expr × Expr × Expr × List Expr × Scope) := bo (vComp0 e) fun p => bo (vOne p.2.1) fun g => bo (ok0 (g.is_async == 0)) fun O => some (p.1,g.target,g.iter,g.ifs,p.2.2)
theorem vComp_k {P : Expr → Prop} {e : Expr} {n : Expr × Expr × Expr × List Expr × Scope} (h : vComp e = some n) (k : ∀ p,P (.ListComp n.1 [⟨n.2.1,n.2.2.1,n.2.2.2.1,0⟩] n.2.2.2.2 p)) : P e :=
 bo_of h fun O h1 h => bo_of h fun g h2 h => bo_of h fun O h3 h => vComp0_k h1 fun p => vOne_k h2 (P := fun l => P (.ListComp _ l _ p)) (by
  obtain rfl := sI h
  obtain ⟨t,i,ifs,a⟩ := g
  exact if_of h3 fun h3 O => beq_k h3 (P := fun a => P (.ListComp _ [⟨t,i,ifs,a⟩] _ p)) (k p))
noncomputable def cInt (k : Const) : Option Int := @Const.casesOn (fun O => Option Int) k none (fun O => none) (fun i => some i) (fun O => none) (fun O O => none) (fun O => none) (fun O => none) none
theorem cInt_k {P : Const → Prop} {k : Const} {i : Int} (h : cInt k = some i) (q : P (.int i)) : P k := by
 induction k using PySem.Const.casesOn with
 | int j => obtain rfl := sI h; exact q
 | _ => exact nO h
noncomputable def tupT (m : MT) : Option (List MT) := @MT.casesOn (fun O => Option (List MT)) m (fun O => none) (fun O O => none) (fun O O => none) (fun ts => some ts)
theorem tupT_k {P : MT → Prop} {m : MT} {l : List MT} (h : tupT m = some l) (k : P (.tup l)) : P m := by
 induction m using MT.casesOn with
 | tup ts => obtain rfl := sI h; exact k
 | _ => exact nO h
noncomputable def namT (m : MT) : Option Nat := @MT.casesOn (fun O => Option Nat) m (fun i => some i) (fun O O => none) (fun O O => none) (fun O => none)
theorem namT_k {P : MT → Prop} {m : MT} {l : Nat} (h : namT m = some l) (k : P (.name l)) : P m := by
 induction m using MT.casesOn with
 | name i => obtain rfl := sI h; exact k
 | _ => exact nO h
end views
noncomputable def ok (b : Bool) : Option Unit := if b = true then some () else none
theorem ok_of {b : Bool} {P : Prop} (h : ok b = some ()) (k : b = true → P) : P := if_of h fun hb O => k hb
noncomputable def valB (L : Lk) (w : Value) : MV → Bool
 | .none => (match w with | .none => true | _ => false)
 | .int i => (match w with | .int j _ => i == j | _ => false)
 | .str s => (match w with | .str t _ => t == mkS s && decide (s.length ≤ LIM) | _ => false)
 | .bytes b => (match w with | .bytes t _ => t == b.toArray && decide (b.length ≤ LIM) | _ => false)
 | .fn g => (match w with | .ref a => a == L.fnA g | _ => false)
 | _ => false
noncomputable def valsB (L : Lk) : List Value → List MV → Bool
 | [],[] => true
 | w :: ws,V :: Vs => valB L w V && valsB L ws Vs
 | _,_ => false
noncomputable def tupO (L : Lk) (w : Value) : Option (List Value) := match w with
 | .ref a => (match L.K.lookup a with
  | some ⟨.type T,none,.seq xs n,sl⟩ => if T = "tuple" ∧ sl = #[] then some xs.toList else none
  | _ => none)
 | _ => none
noncomputable def gvB (L : Lk) (w : Value) (V : MV) : Bool := valB L w V || (match V with
 | .tup l => decide (l.length ≤ LIM) && (tupO L w).any fun xs => valsB L xs l
 | _ => false)
noncomputable def gvsB (L : Lk) : List Value → List MV → Bool
 | [],[] => true
 | w :: ws,V :: Vs => gvB L w V && gvsB L ws Vs
 | _,_ => false
noncomputable def refB (w : Option (Option Value)) (a : Addr) : Bool := match w with
 | some (some (.ref b)) => b == a
 | _ => false
noncomputable def plainB (n : Str) : Bool := !(n == ("__debug__" : Str))
noncomputable def globB (ns : Sig) (n : Str) : Bool := ns.lookup n == some .globalImplicit
noncomputable def slotB (σ : Sig) (i : Nat) (n : Str) : Bool := match σ[i]? with
 | some p => p.1 == n
 | none => false
noncomputable def sigB (ns σ : Sig) : Bool := (σ.all fun p => ns.lookup p.1 == some p.2 && (p.2 == .local || p.2 == .cell) && plainB p.1) && decide (σ.map (·.1)).Nodup
noncomputable def keysB : List (Option Expr) → List (List Nat) → Bool
 | [],[] => true
 | k :: es,x :: ks => (k.bind vConst == some (.str (mkS x))) && keysB es ks
 | _,_ => false
noncomputable def tgsB : List Expr → Sig → Bool
 | [],_ => true
 | t :: ts,p :: σ => (vName t == some p.1 && p.2 == .local) && tgsB ts σ
 | _,_ => false
noncomputable def tgtB (σ : Sig) (t : Expr) (nt : Nat) : Bool := (vName t).elim ((vTup t).elim false fun ts => ts.all plainE && nt == ts.length && !(ts.length == 1) && tgsB ts σ) fun O => nt == 1 && tgsB [t] σ
noncomputable def tgtNames (t : Expr) : List Str := (vName t).elim ((vTup t).elim [] fun ts => ts.filterMap vName) fun n => [n]
noncomputable def sigC (σ : Sig) (t : Expr) (caps : List Nat) : Sig := (tgtNames t).map (fun n => (n,.local)) ++ caps.map fun i => (((σ[i]?).map (·.1)).getD Str.empty,.cell)
noncomputable def nsOf (ns : Sig) (sc : Scope) : Sig := sc.names.map fun x => if (x.2 == .free && ns.lookup x.1 == some .cell) then (x.1,.cell) else x
noncomputable def compB (ns σ : Sig) (sc : Scope) (caps : List Nat) (nt : Nat) (σc : Sig) : Bool :=
 sc.kind == .function && (sc.names.all fun x => !(x.2 == .cell) && (!(x.2 == .local) || sc.names.lookup x.1 == some .local) && (!(x.2 == .free) || σ.contains (x.1,.cell))) &&
 σc.length == nt + caps.length && (σc.take nt).all (fun p => p.2 == .local) && (caps.zip (σc.drop nt)).all (fun p => p.2.2 == .cell && σ[p.1]? == some p.2 && sc.names.contains (p.2.1,.free)) && sigB (nsOf ns sc) σc
noncomputable def isNoneM (m : ME) : Bool := match m with
 | .none => true
 | _ => false
noncomputable def isCompM (m : ME) : Bool := match m with
 | .comp .. => true
 | _ => false
section chk
variable (L : Lk) (T : Text)
mutual
noncomputable def chkE (ns σ : Sig) (e : Expr) : ME → Option Unit
 | .none => bo (vConst e) fun k => ok (k == .none)
 | .bool b => bo (vConst e) fun k => ok (k == .bool b)
 | .int i => (vConst e).elim (bo (vUn e) fun p => bo (vConst p.2) fun k => bo (cInt k) fun j => ok (p.1 == .USub && i == -j)) fun k => ok (k == .int i)
 | .str s => bo (vConst e) fun k => ok (k == .str (mkS s) && decide (s.length ≤ LIM))
 | .bytes b => bo (vConst e) fun k => ok (k == .bytes b && decide (b.length ≤ LIM))
 | .loc i => bo (vName e) fun n => ok (slotB σ i n)
 | .glo g => bo (vName e) fun n => bo (nsIn L.K mainGlobals n) fun ow => bo ow fun w => bo T.vals[g]? fun V => ok (globB ns n && plainB n && gvB L w V)
 | .tup mes => bo (vTup e) fun es => bo (ok (es.all plainE && decide (mes.length ≤ 1000))) fun O => chkEs ns σ es mes
 | .list _ mes => bo (vList e) fun es => bo (ok (es.all plainE && decide (mes.length ≤ 1000))) fun O => chkEs ns σ es mes
 | .dict _ ks mes => bo (vDict e) fun p => bo (ok (keysB p.1 ks && p.1.length == p.2.length && ks.length == mes.length && decide (ks.map mkS).Nodup && decide (p.2.length ≤ 15))) fun O => chkEs ns σ p.2 mes
 | .bin _ o a b => bo (vBin e) fun p => bo (ok (p.2.1 == o)) fun O => bo (chkE ns σ p.1 a) fun O => chkE ns σ p.2.2 b
 | .not a => bo (vUn e) fun p => bo (ok (p.1 == .Not)) fun O => chkE ns σ p.2 a
 | .and mes => bo (vBool e) fun p => bo (ok (p.1 == .And && !mes.isEmpty)) fun O => chkEs ns σ p.2 mes
 | .or mes => bo (vBool e) fun p => bo (ok (p.1 == .Or && !mes.isEmpty)) fun O => chkEs ns σ p.2 mes
 | .ite t a b => bo (vIf e) fun p => bo (chkE ns σ p.1 t) fun O => bo (chkE ns σ p.2.1 a) fun O => chkE ns σ p.2.2 b
 | .cmp o a b => bo (vCmp e) fun p => bo (vOne p.2.1) fun o' => bo (vOne p.2.2) fun r => bo (ok (o' == o && notSet r)) fun O => bo (chkE ns σ p.1 a) fun O => chkE ns σ r b
 | .cmp2 o q a b d => bo (vCmp e) fun p => bo (vCons p.2.1) fun o' => bo (vOne o'.2) fun q' => bo (vCons p.2.2) fun m => bo (vOne m.2) fun r =>
   bo (ok (o'.1 == o && q' == q && notSet r)) fun O => bo (chkE ns σ p.1 a) fun O => bo (chkE ns σ m.1 b) fun O => chkE ns σ r d
 | .call f mes => bo (vCall e) fun p => bo (vName p.1) fun n => bo (ok (globB ns n && plainB n && refB (nsIn L.K mainGlobals n) (L.fnA f) && (T.fns[f]?).isSome && p.2.1.all plainE)) fun O => chkEs ns σ p.2.1 mes
 | .callv i mes => bo (vCall e) fun p => bo (vName p.1) fun n => bo (ok (slotB σ i n && p.2.1.all plainE)) fun O => chkEs ns σ p.2.1 mes
 | .make g mes => bo (vCall e) fun p => bo (vName p.1) fun n => bo (ok (globB ns n && plainB n && refB (nsIn L.K mainGlobals n) (L.clsA g) && (T.cls[g]?).isSome && p.2.1.all plainE)) fun O => chkEs ns σ p.2.1 mes
 | .bcall b mes => bo (vCall e) fun p => bo (vName p.1) fun n => bo (ok (n == biN b && globB ns (biN b) && p.2.1.all plainE)) fun O => chkEs ns σ p.2.1 mes
 | .meth mo m mes => bo (vCall e) fun p => bo (vAttr p.1) fun q => bo (ok (q.2.1 == L.nm m && notSuper q.1 && decide (p.2.1.length < 30) && p.2.1.all plainE && (q.2.2.endLine == p.2.2.line))) fun O => bo (chkE ns σ q.1 mo) fun O => chkEs ns σ p.2.1 mes
 | .bmeth mo m mes => bo (vCall e) fun p => bo (vAttr p.1) fun q => bo (ok (q.2.1 == bmN m && notSuper q.1 && decide (p.2.1.length < 30) && p.2.1.all plainE && (q.2.2.endLine == p.2.2.line))) fun O => bo (chkE ns σ q.1 mo) fun O => chkEs ns σ p.2.1 mes
 | .attr mo a => bo (vAttr e) fun q => bo (ok (q.2.1 == L.nm a && notSuper q.1)) fun O => chkE ns σ q.1 mo
 | .sub mo mi => bo (vSub e) fun p => bo (chkE ns σ p.1 mo) fun O => chkE ns σ p.2 mi
 | .slice _ mo mlo mhi => bo (vSub e) fun p => bo (vSlice p.2) fun q => bo (chkE ns σ p.1 mo) fun O => bo (q.1.elim (ok (isNoneM mlo)) fun lo => chkE ns σ lo mlo) fun O => q.2.elim (ok (isNoneM mhi)) fun hi => chkE ns σ hi mhi
 | .comp nt caps melt mi conds => bo (vComp e) fun p => bo (ok (notSet p.2.2.1 && compB ns σ p.2.2.2.2 caps nt (sigC σ p.2.1 caps) && tgtB (sigC σ p.2.1 caps) p.2.1 nt && decide (conds.length ≤ 1))) fun O => bo (chkE ns σ p.2.2.1 mi) fun O =>
   bo (chkE (nsOf ns p.2.2.2.2) (sigC σ p.2.1 caps) p.1 melt) fun O => chkEs (nsOf ns p.2.2.2.2) (sigC σ p.2.1 caps) p.2.2.2.1 conds
 | .fail => none
noncomputable def chkEs (ns σ : Sig) (es : List Expr) : List ME → Option Unit
 | [] => vNil es
 | me :: mes => bo (vCons es) fun p => bo (chkE ns σ p.1 me) fun O => chkEs ns σ p.2 mes
end
mutual
noncomputable def chkT (ns σ : Sig) (e : Expr) : MT → Option Unit
 | .name i => bo (vName e) fun n => ok (slotB σ i n)
 | .attr mo a => bo (vAttr e) fun q => bo (ok (q.2.1 == L.nm a)) fun O => chkE L T ns σ q.1 mo
 | .sub mo mi => bo (vSub e) fun p => bo (chkE L T ns σ p.1 mo) fun O => chkE L T ns σ p.2 mi
 | .tup mts => bo (vTup e) fun es => bo (ok (es.all plainE)) fun O => chkTs ns σ es mts
noncomputable def chkTs (ns σ : Sig) (es : List Expr) : List MT → Option Unit
 | [] => vNil es
 | me :: mes => bo (vCons es) fun p => bo (chkT ns σ p.1 me) fun O => chkTs ns σ p.2 mes
end
noncomputable def mtNames (mt : MT) : Option (List Nat) := bo (tupT mt) fun ts => mapO namT ts
noncomputable def chkA (ns σ : Sig) (t value : Expr) (line : Nat) (mt : MT) (me : ME) : Option Unit :=
 bo (chkE L T ns σ value me) fun O => bo (pureO (swapsWithSole [t] value line (dum ns))) fun sw => cond sw
  (bo (vName t) fun n => bo (namT mt) fun i => ok (slotB σ i n && isCompM me))
  (bo (pureO (swappedStores [t] value (dum ns))) fun names => names.elim (bo (ok (plainE t)) fun O => chkT L T ns σ t mt)
   fun names => bo (vTup t) fun O => bo (mtNames mt) fun is => ok (is.length == names.length && decide is.Nodup && (is.zip names).all fun p => slotB σ p.1 p.2))
mutual
noncomputable def chkS (ns σ : Sig) (t : Stmt) : MS → Option Unit
 | .assign mt me => bo (wAssign t) fun p => bo (vOne p.1) fun t => chkA L T ns σ t p.2.1 p.2.2.line mt me
 | .expr me => bo (wExpr t) fun e => bo (ok (notComp e)) fun O => chkE L T ns σ e me
 | .ret me => bo (wRet t) fun o => o.elim (ok (isNoneM me)) fun e => chkE L T ns σ e me
 | .iff mt ma mb => bo (wIf t) fun p => bo (chkE L T ns σ p.1 mt) fun O => bo (chkB ns σ p.2.1 ma) fun O => chkB ns σ p.2.2 mb
 | .while mt mb => bo (wWhile t) fun p => bo (vNil p.2.2) fun O => bo (chkE L T ns σ p.1 mt) fun O => chkB ns σ p.2.1 mb
 | .for mt mi mb => bo (wFor t) fun p => bo (vNil p.2.2.2) fun O => bo (ok (notSet p.2.1)) fun O => bo (chkT L T ns σ p.1 mt) fun O => bo (chkE L T ns σ p.2.1 mi) fun O => chkB ns σ p.2.2.1 mb
 | .forR mt mi mb => bo (wFor t) fun p => bo (vNil p.2.2.2) fun O => bo (vCall p.2.1) fun q => bo (vName q.1) fun n => bo (vOne q.2.1) fun ie => bo (ok (n == ("range" : Str) && globB ns ("range" : Str) && plainE ie)) fun O =>
   bo (chkT L T ns σ p.1 mt) fun O => bo (chkE L T ns σ ie mi) fun O => chkB ns σ p.2.2.1 mb
 | .forE mt mi mb => bo (wFor t) fun p => bo (vNil p.2.2.2) fun O => bo (vCall p.2.1) fun q => bo (vName q.1) fun n => bo (vTup p.1) fun ts => bo (tupT mt) fun mts => bo (vOne q.2.1) fun ie =>
   bo (ok (n == ("enumerate" : Str) && globB ns ("enumerate" : Str) && plainE ie && ts.all plainE)) fun O => bo (chkTs L T ns σ ts mts) fun O => bo (chkE L T ns σ ie mi) fun O => chkB ns σ p.2.2.1 mb
 | .try mb => bo (wTry t) fun p => bo (vCons p.2.1) fun O => bo (vNil p.2.2.1) fun O => bo (vNil p.2.2.2) fun O => chkB ns σ p.1 mb
 | .fail => some ()
noncomputable def chkB (ns σ : Sig) (ts : List Stmt) : List MS → Option Unit
 | [] => vNil ts
 | mt :: mts => bo (vCons ts) fun p => bo (chkS ns σ p.1 mt) fun O => chkB ns σ p.2 mts
end
end chk
end
section
structure Hyp (c : Cx) : Prop where
 text : TextOK c.L c.T
 blt : BltOK c.L
 sc : SoundC c.L c.C c.n
 cls : ∀ (g : Nat) rr,c.T.cls[g]? = some rr → ClsMake c.L c.T g rr
 sys : (c.L.K.lookup mainGlobals).isSome = true
 lt : ∀ f vs mh x,c.C f vs mh = some x → ∃ fr,c.T.fns[f]? = some fr
theorem and2 {a b : Bool} (h : (a && b) = true) : a = true ∧ b = true := Bool.and_eq_true_iff.mp h
theorem plainB_eq {n : Str} (h : plainB n = true) : (n == ("__debug__" : Str)) = false := (Bool.not_eq_true' _).mp h
theorem slotB_eq {σ : Sig} {i : Nat} {n : Str} (h : slotB σ i n = true) : ∃ k,σ[i]? = some (n,k) := by
 unfold slotB at h
 generalize σ[i]? = x at h
 induction x using Option.casesOn with
 | none => exact fF' h
 | some p => obtain ⟨m,k⟩ := p; obtain rfl : m = n := eq_of_beq h; exact ⟨k,rfl⟩
theorem globB_eq {ns : Sig} {n : Str} (h : globB ns n = true) : ns.lookup n = some .globalImplicit := eq_of_beq h
theorem refB_eq {w : Option (Option Value)} {a : Addr} (h : refB w a = true) : w = some (some (.ref a)) := by
 induction w using Option.casesOn with
 | none => exact fF' h
 | some w => induction w using Option.casesOn with
  | none => exact fF' h
  | some w => induction w using Value.casesOn with
   | ref b => obtain rfl := eq_of_beq h; rfl
   | _ => exact fF' h
section
variable {c : Cx} {env : Env} {ns σ : Sig} {L : Lk} {T : Text}
theorem valB_eq {fz : FZ} {ρ : RHO} {w : Value} {V : MV} (h : valB L w V = true) : VR L fz ρ w V := by
 refine byP fun G kG => ?_
 induction V using MV.casesOn with
 | none => induction w using Value.casesOn with
  | none => exact kG (.none .nil)
  | _ => exact fF' h
 | int i => induction w using Value.casesOn with
  | int j t => obtain rfl := eq_of_beq h; exact kG (.int .nil)
  | _ => exact fF' h
 | str i => induction w using Value.casesOn with
  | str j t => obtain ⟨h1,h2⟩ := and2 h; obtain rfl := eq_of_beq h1; exact kG (.str (of_decide_eq_true h2) .nil)
  | _ => exact fF' h
 | bytes i => induction w using Value.casesOn with
  | bytes j t => obtain ⟨h1,h2⟩ := and2 h; obtain rfl := eq_of_beq h1; exact kG (.bytes (of_decide_eq_true h2) .nil)
  | _ => exact fF' h
 | fn g => induction w using Value.casesOn with
  | ref a => obtain rfl := eq_of_beq h; exact kG (.fn .nil)
  | _ => exact fF' h
 | _ => exact fF' h
theorem valsB_eq {fz : FZ} {ρ : RHO} : ∀ {ws : List Value} {Vs : List MV},valsB L ws Vs = true → VRL L fz ρ ws Vs
 | [],[],_ => .nil
 | w :: ws,V :: Vs,h => (valB_eq (and2 h).1).cons (valsB_eq (and2 h).2)
 | [],_ :: _,h => nomatch h
 | _ :: _,[],h => nomatch h
theorem tupO_eq {w : Value} {xs : List Value} (h : tupO L w = some xs) : ∃ a n,w = .ref a ∧ L.K.lookup a = some (seqObj "tuple" xs n) := by
 refine byP fun G kG => ?_
 induction w using Value.casesOn with
 | ref a =>
  delta tupO at h
  dsimp only at h
  generalize hq : L.K.lookup a = o at h
  induction o using Option.casesOn with
  | none => exact nO h
  | some o =>
   obtain ⟨c,d,da,sl⟩ := o
   induction c using Value.casesOn with
   | type T => induction d using Option.casesOn with
    | none => induction da using Data.casesOn with
     | seq ys n =>
      refine if_of h fun hc h => ?_
      obtain ⟨rfl,rfl⟩ := hc
      obtain rfl := sI h
      exact kG ⟨_,_,rfl,hq⟩
     | _ => exact nO h
    | some _ => exact nO h
   | _ => exact nO h
 | _ => exact nO h
theorem gvB_eq {w : Value} {V : MV} (h : gvB L w V = true) : VR L (fun a => L.K.lookup a) [] w V := by
 refine byP fun G kG => ?_
 rcases (Bool.or_eq_true _ _).mp h with h | h
 ·exact kG (valB_eq h)
 ·induction V using MV.casesOn with
  | tup l =>
   obtain ⟨h1,h2⟩ := and2 h
   generalize q : tupO L w = x at h2
   induction x using Option.casesOn with
   | none => exact fF' h2
   | some xs =>
    obtain ⟨a,n,rfl,e⟩ := tupO_eq q
    exact kG (.tup e (of_decide_eq_true h1) (valsB_eq h2) .nil)
  | _ => exact fF' h
theorem gvsB_eq : ∀ {ws : List Value} {Vs : List MV},gvsB L ws Vs = true → VRL L (fun a => L.K.lookup a) [] ws Vs
 | [],[],_ => .nil
 | w :: ws,V :: Vs,h => (gvB_eq (and2 h).1).cons (gvsB_eq (and2 h).2)
 | [],_ :: _,h => nomatch h
 | _ :: _,[],h => nomatch h
theorem keysB_eq : ∀ {es : List (Option Expr)} {ks : List (List Nat)},keysB es ks = true → KeysE es ks
 | [],[],_ => .nil
 | some e :: es,x :: ks,h => vConst_k (P := fun e => KeysE (some e :: es) (x :: ks)) (eq_of_beq (and2 h).1) fun O O => .cons (keysB_eq (and2 h).2)
 | none :: es,x :: ks,h => nO (eq_of_beq (and2 h).1)
 | [],_ :: _,h => nomatch h
 | _ :: _,[],h => nomatch h
theorem sigB_eq (h : sigB ns σ = true) : (∀ (i : Nat) n k,σ[i]? = some (n,k) → ns.lookup n = some k ∧ (k = .local ∨ k = .cell) ∧ (n == ("__debug__" : Str)) = false) ∧ (σ.map (·.1)).Nodup := by
 obtain ⟨h1,h2⟩ := and2 h
 refine ⟨fun i n k e => ?_,of_decide_eq_true h2⟩
 have := List.all_eq_true.mp h1 _ (List.mem_of_getElem? e)
 obtain ⟨h3,h4⟩ := and2 this
 obtain ⟨h5,h6⟩ := and2 h3
 refine ⟨eq_of_beq h5,?_,plainB_eq h4⟩
 rcases (Bool.or_eq_true _ _).mp h6 with q | q
 ·exact .inl (eq_of_beq q)
 ·exact .inr (eq_of_beq q)
theorem tgsB_eq : ∀ {ts : List Expr} {σ : Sig},tgsB ts σ = true → ∀ (j : Nat) t,ts[j]? = some t → ∃ n pos,t = .Name n pos ∧ σ[j]? = some (n,.local)
 | [],_,_,j,t,e => (nil_get e).elim
 | t :: ts,p :: σ,h,0,_,e => by
  obtain rfl := sI e
  have h1 := and2 (and2 h).1
  have h4 : p.2 = NameKind.local := eq_of_beq h1.2
  exact vName_k (P := fun t => ∃ n pos,t = .Name n pos ∧ (p :: σ)[0]? = some (n,.local)) (eq_of_beq h1.1) fun pos => ⟨_,pos,rfl,by show some p = _; rw [← h4]⟩
 | t :: ts,p :: σ,h,j + 1,u,e => tgsB_eq (σ := σ) (and2 h).2 j u e
 | _ :: _,[],h,_,_,_ => nomatch h
theorem tgtB_eq {t : Expr} {nt : Nat} (h : tgtB σ t nt = true) : TgtE σ t nt :=
 elim_of h (fun O h => elim_of h (fun O h => fF' h) fun ts hts h => by
  have h1 := and2 (and2 (and2 h).1).1
  have h4 := (and2 (and2 h).1).2
  refine vTup_k (P := fun t => TgtE σ t nt) hts fun O O => ?_
  rw [eq_of_beq h1.2]
  exact .many h1.1 (fun q => by rw [q] at h4; exact fF' h4) fun j t e => by rw [Nat.zero_add]; exact tgsB_eq (and2 h).2 j t e)
  fun n hn h => by
  obtain ⟨m,p,e,q⟩ := tgsB_eq (and2 h).2 0 _ rfl
  rw [e,eq_of_beq (and2 h).1]
  exact .one q
theorem compB_eq {sc : Scope} {caps : List Nat} {nt : Nat} {σc : Sig} (h : compB ns σ sc caps nt σc = true) : CompS ns σ sc caps nt (nsOf ns sc) σc := by
 obtain ⟨h,h6⟩ := and2 h
 obtain ⟨h,h5⟩ := and2 h
 obtain ⟨h,h4⟩ := and2 h
 obtain ⟨h,h3⟩ := and2 h
 obtain ⟨h1,h2⟩ := and2 h
 obtain ⟨k1,k2⟩ := sigB_eq h6
 have hl : σc.length = nt + caps.length := eq_of_beq h3
 have h2 := List.all_eq_true.mp h2
 refine ⟨eq_of_beq h1,fun y hy q => ?_,fun y hy q => ?_,rfl,fun y hy q => ?_,hl,fun j hj => ?_,fun j i e => ?_,k1,k2⟩
 ·have := (and2 (and2 (h2 y hy)).1).1; rw [q] at this; exact fF' this
 ·rcases (Bool.or_eq_true _ _).mp (and2 (and2 (h2 y hy)).1).2 with z | z
  ·rw [q] at z; exact fF' z
  ·exact eq_of_beq z
 ·rcases (Bool.or_eq_true _ _).mp (and2 (h2 y hy)).2 with z | z
  ·rw [q] at z; exact fF' z
  ·obtain ⟨i,hi⟩ := List.mem_iff_getElem?.mp (List.contains_iff_mem.mp z)
   exact ⟨i,hi⟩
 ·have hj' : j < σc.length := hl ▸ Nat.lt_of_lt_of_le hj (Nat.le_add_right ..)
  have := List.all_eq_true.mp h4 σc[j] (List.mem_of_getElem? (i := j) (by rw [List.getElem?_take_of_lt hj]; exact List.getElem?_eq_getElem hj'))
  refine ⟨σc[j].1,?_⟩
  rw [List.getElem?_eq_getElem hj',← eq_of_beq this]
 ·have hj : j < caps.length := (List.getElem?_eq_some_iff.mp e).1
  have hj' : nt + j < σc.length := hl ▸ Nat.add_lt_add_left hj nt
  have hz : (caps.zip (σc.drop nt))[j]? = some (i,σc[nt + j]) := by
   rw [List.getElem?_zip_eq_some]
   exact ⟨e,by rw [List.getElem?_drop]; exact List.getElem?_eq_getElem hj'⟩
  have := List.all_eq_true.mp h5 _ (List.mem_of_getElem? hz)
  obtain ⟨q1,q3⟩ := and2 this
  obtain ⟨q1,q2⟩ := and2 q1
  have q1 : σc[nt + j].2 = .cell := eq_of_beq q1
  have q2 : σ[i]? = some σc[nt + j] := eq_of_beq q2
  have hc : σc[nt + j] = (σc[nt + j].1,NameKind.cell) := by rw [← q1]
  refine ⟨σc[nt + j].1,by rw [q2]; exact congrArg some hc,?_,List.contains_iff_mem.mp q3⟩
  rw [List.getElem?_eq_getElem hj']; exact congrArg some hc
inductive OK2 (c : Cx) (env : Env) (σ : Sig) : List Expr → List ME → Prop
 | nil : OK2 c env σ [] []
 | cons {e me es mes} : OKE c env σ e me ∧ OKT c env σ e me → OK2 c env σ es mes → OK2 c env σ (e :: es) (me :: mes)
theorem OK2.es {es mes} (h : OK2 c env σ es mes) : OKEs c env σ es mes := by
 induction h with
 | nil => exact okes_nil
 | cons h _ ih => exact okes_cons h.1 ih
theorem OK2.ds {es mes} (h : OK2 c env σ es mes) : OKDs c env σ es mes := by
 induction h with
 | nil => exact okds_nil
 | cons h _ ih => exact okds_cons h.1 ih
theorem OK2.aAnd {es mes} (h : OK2 c env σ es mes) : OKA c env σ .And es mes := by
 induction h with
 | nil => exact oka_nil_and
 | cons h _ ih => exact oka_cons_and h.2 ih
theorem OK2.aOr {es mes} (h : OK2 c env σ es mes) : OKA c env σ .Or es mes := by
 induction h with
 | nil => exact oka_nil_or
 | cons h _ ih => exact oka_cons_or h.2 ih
theorem OK2.bAnd {es mes} (h : OK2 c env σ es mes) : mes.isEmpty = false → OKB c env σ .And es mes := by
 induction h with
 | nil => exact fun q => nomatch q
 | cons h h2 ih =>
  intro _
  cases h2 with
  | nil => exact okb_one h.1
  | cons _ _ => exact okb_and h.1 (ih rfl)
theorem OK2.bOr {es mes} (h : OK2 c env σ es mes) : mes.isEmpty = false → OKB c env σ .Or es mes := by
 induction h with
 | nil => exact fun q => nomatch q
 | cons h h2 ih =>
  intro _
  cases h2 with
  | nil => exact okb_one h.1
  | cons _ _ => exact okb_or h.1 (ih rfl)
theorem OK2.cond {es mes} (h : OK2 c env σ es mes) (hl : mes.length ≤ 1) : CondE c env σ es mes := by
 cases h with
 | nil => exact .none
 | cons h h2 =>
  cases h2 with
  | nil => exact .one h.2
  | cons _ _ => exact absurd (Nat.le_of_succ_le_succ hl) (Nat.not_succ_le_zero _)
noncomputable def OK1 (c : Cx) (env : Env) (σ : Sig) (e : Expr) (me : ME) : Prop := OKE c env σ e me ∧ OKT c env σ e me
theorem val {e me} (he : valueT e = true) (hm : valueM me = true) (h : OKE c env σ e me) : OK1 c env σ e me := ⟨h,okt_value he hm h⟩
theorem a3 {a b d : Bool} (h : (a && b && d) = true) : a = true ∧ b = true ∧ d = true := ⟨(and2 (and2 h).1).1,(and2 (and2 h).1).2,(and2 h).2⟩
theorem a4 {a b d e : Bool} (h : (a && b && d && e) = true) : a = true ∧ b = true ∧ d = true ∧ e = true := ⟨(a3 (and2 h).1).1,(a3 (and2 h).1).2.1,(a3 (and2 h).1).2.2,(and2 h).2⟩
theorem a5 {a b d e f : Bool} (h : (a && b && d && e && f) = true) : a = true ∧ b = true ∧ d = true ∧ e = true ∧ f = true := ⟨(a4 (and2 h).1).1,(a4 (and2 h).1).2.1,(a4 (and2 h).1).2.2.1,(a4 (and2 h).1).2.2.2,(and2 h).2⟩
theorem nE {α : Type} {l : List α} (h : (!l.isEmpty) = true) : l.isEmpty = false := (Bool.not_eq_true' _).mp h
theorem isNoneM_k {P : ME → Prop} {m : ME} (h : isNoneM m = true) (k : P .none) : P m := by
 induction m using ME.casesOn with
 | none => exact k
 | _ => exact fF' h
theorem slotB_k {P : Prop} {i : Nat} {n : Str} (h : slotB σ i n = true) (k : ∀ d,σ[i]? = some (n,d) → P) : P := (slotB_eq h).elim k
theorem ex_k {α : Type} {P : Prop} {o : Option α} (h : o.isSome = true) (k : ∀ x,o = some x → P) : P := (Option.isSome_iff_exists.mp h).elim k
theorem part_k {oe : Option Expr} {me : ME} {x : Unit} {f : Expr → Option Unit} (h : oe.elim (ok (isNoneM me)) f = some x) (k : ∀ lo,f lo = some x → OKE c env σ lo me) : OKP c env σ oe me := by
 induction oe using Option.casesOn with
 | none => exact ok_of (show ok (isNoneM me) = some () from h) fun h => isNoneM_k (P := fun me => OKP c env σ none me) h rfl
 | some lo => exact k lo h
mutual
theorem chkE_ok (H : Hyp c) : ∀ (me : ME) {ns σ : Sig} {e : Expr} {env : Env},EnvS env ns σ → chkE c.L c.T ns σ e me = some () → OK1 c env σ e me
 | .none,ns,σ,e,env,S,h => bo_of h fun k hk h => ok_of h fun hb => vConst_k (P := fun e => OK1 c env σ e (.none)) hk fun O O => beq_k (P := fun k => OK1 c env σ (.Constant k _ _) .none) hb (val rfl rfl oke_none)
 | .bool b,ns,σ,e,env,S,h => bo_of h fun k hk h => ok_of h fun hb => vConst_k (P := fun e => OK1 c env σ e (.bool b)) hk fun O O => beq_k (P := fun k => OK1 c env σ (.Constant k _ _) (.bool b)) hb (val rfl rfl oke_bool)
 | .int i,ns,σ,e,env,S,h => elim_of h (fun O h => bo_of h fun p hp h => bo_of h fun k hk h => bo_of h fun j hj h => ok_of h fun hb => vUn_k (P := fun e => OK1 c env σ e (.int i)) hp fun O =>
   vConst_k (P := fun x => OK1 c env σ (.UnaryOp p.1 x _) (.int i)) hk fun O O => cInt_k (P := fun k => OK1 c env σ (.UnaryOp p.1 (.Constant k _ _) _) (.int i)) hj
    (beq_k (P := fun o => OK1 c env σ (.UnaryOp o (.Constant (.int j) _ _) _) (.int i)) (and2 hb).1 (beq_k (P := fun i => OK1 c env σ (.UnaryOp .USub (.Constant (.int j) _ _) _) (.int i)) (and2 hb).2 (val rfl rfl oke_neg))))
   fun k hk h => ok_of h fun hb => vConst_k (P := fun e => OK1 c env σ e (.int i)) hk fun O O => beq_k (P := fun k => OK1 c env σ (.Constant k _ _) (.int i)) hb (val rfl rfl oke_int)
 | .str s,ns,σ,e,env,S,h => bo_of h fun k hk h => ok_of h fun hb => vConst_k (P := fun e => OK1 c env σ e (.str s)) hk fun O O => beq_k (P := fun k => OK1 c env σ (.Constant k _ _) (.str s)) (and2 hb).1 (val rfl rfl (oke_str (of_decide_eq_true (and2 hb).2)))
 | .bytes b,ns,σ,e,env,S,h => bo_of h fun k hk h => ok_of h fun hb => vConst_k (P := fun e => OK1 c env σ e (.bytes b)) hk fun O O => beq_k (P := fun k => OK1 c env σ (.Constant k _ _) (.bytes b)) (and2 hb).1 (val rfl rfl (oke_bytes (of_decide_eq_true (and2 hb).2)))
 | .loc i,ns,σ,e,env,S,h => bo_of h fun n hn h => ok_of h fun hb => vName_k (P := fun e => OK1 c env σ e (.loc i)) hn fun O => slotB_k hb fun k hk => val rfl rfl (oke_loc S hk)
 | .glo g,ns,σ,e,env,S,h => bo_of h fun n hn h => bo_of h fun ow how h => bo_of h fun w hw h => bo_of h fun V hV h => ok_of h fun hb => vName_k (P := fun e => OK1 c env σ e (.glo g)) hn fun O =>
   val rfl rfl (oke_glo S (globB_eq (a3 hb).1) (plainB_eq (a3 hb).2.1) (hw ▸ how) hV (gvB_eq (a3 hb).2.2))
 | .tup mes,ns,σ,e,env,S,h => bo_of h fun es he h => bo_of h fun O h1 hr => ok_of h1 fun hb => vTup_k (P := fun e => OK1 c env σ e (.tup mes)) he fun O O => val rfl rfl (oke_tup (and2 hb).1 (of_decide_eq_true (and2 hb).2) (chkEs_ok H mes S hr).es)
 | .list m mes,ns,σ,e,env,S,h => bo_of h fun es he h => bo_of h fun O h1 hr => ok_of h1 fun hb => vList_k (P := fun e => OK1 c env σ e (.list m mes)) he fun O => val rfl rfl (oke_list (and2 hb).1 (of_decide_eq_true (and2 hb).2) (chkEs_ok H mes S hr).es)
 | .dict m ks mes,ns,σ,e,env,S,h => bo_of h fun p he h => bo_of h fun O h1 hr => ok_of h1 fun hb => vDict_k (P := fun e => OK1 c env σ e (.dict m ks mes)) he fun O =>
   val rfl rfl (oke_dict H.sys (keysB_eq (a5 hb).1) (eq_of_beq (a5 hb).2.1) (eq_of_beq (a5 hb).2.2.1) (of_decide_eq_true (a5 hb).2.2.2.1) (of_decide_eq_true (a5 hb).2.2.2.2) (chkEs_ok H mes S hr).ds)
 | .bin m o a b,ns,σ,e,env,S,h => bo_of h fun p he h => bo_of h fun O h1 h => bo_of h fun O ha hr => ok_of h1 fun hb => vBin_k (P := fun e => OK1 c env σ e (.bin m o a b)) he fun O => beq_k (P := fun q => OK1 c env σ (.BinOp p.1 q p.2.2 _) (.bin m o a b)) hb (val rfl rfl (oke_bin (chkE_ok H a S ha).1 (chkE_ok H b S hr).1))
 | .not a,ns,σ,e,env,S,h => bo_of h fun p he h => bo_of h fun O h1 hr => ok_of h1 fun hb => vUn_k (P := fun e => OK1 c env σ e (.not a)) he fun O => beq_k (P := fun q => OK1 c env σ (.UnaryOp q p.2 _) (.not a)) hb ⟨oke_not (chkE_ok H a S hr).1,okt_not (chkE_ok H a S hr).2⟩
 | .and mes,ns,σ,e,env,S,h => bo_of h fun p he h => bo_of h fun O h1 hr => ok_of h1 fun hb => vBool_k (P := fun e => OK1 c env σ e (.and mes)) he fun O => beq_k (P := fun q => OK1 c env σ (.BoolOp q p.2 _) (.and mes)) (and2 hb).1 ⟨oke_and ((chkEs_ok H mes S hr).bAnd (nE (and2 hb).2)),okt_and (chkEs_ok H mes S hr).aAnd⟩
 | .or mes,ns,σ,e,env,S,h => bo_of h fun p he h => bo_of h fun O h1 hr => ok_of h1 fun hb => vBool_k (P := fun e => OK1 c env σ e (.or mes)) he fun O => beq_k (P := fun q => OK1 c env σ (.BoolOp q p.2 _) (.or mes)) (and2 hb).1 ⟨oke_or ((chkEs_ok H mes S hr).bOr (nE (and2 hb).2)),okt_or (chkEs_ok H mes S hr).aOr⟩
 | .ite t a b,ns,σ,e,env,S,h => bo_of h fun p he h => bo_of h fun O ht h => bo_of h fun O ha hr => vIf_k (P := fun e => OK1 c env σ e (.ite t a b)) he fun O => ⟨oke_ite (chkE_ok H t S ht).2 (chkE_ok H a S ha).1 (chkE_ok H b S hr).1,okt_ite (chkE_ok H t S ht).2 (chkE_ok H a S ha).2 (chkE_ok H b S hr).2⟩
 | .cmp o a b,ns,σ,e,env,S,h => bo_of h fun p he h => bo_of h fun o' ho h => bo_of h fun r hr h => bo_of h fun O h1 h => bo_of h fun O ha hz => ok_of h1 fun h1 => vCmp_k (P := fun e => OK1 c env σ e (.cmp o a b)) he fun O =>
   vOne_k (P := fun l => OK1 c env σ (.Compare p.1 l p.2.2 _) (.cmp o a b)) ho (vOne_k (P := fun l => OK1 c env σ (.Compare p.1 [o'] l _) (.cmp o a b)) hr (beq_k (P := fun o' => OK1 c env σ (.Compare p.1 [o'] [r] _) (.cmp o a b)) (and2 h1).1
    ⟨oke_cmp (and2 h1).2 (chkE_ok H a S ha).1 (chkE_ok H b S hz).1,okt_cmp (and2 h1).2 (chkE_ok H a S ha).1 (chkE_ok H b S hz).1⟩))
 | .cmp2 o q a b d,ns,σ,e,env,S,h => bo_of h fun p he h => bo_of h fun o' ho h => bo_of h fun q' hq h => bo_of h fun m hm h => bo_of h fun r hr h => bo_of h fun O h1 h => bo_of h fun O ha h => bo_of h fun O hb hz => ok_of h1 fun h1 => vCmp_k (P := fun e => OK1 c env σ e (.cmp2 o q a b d)) he fun O =>
   vCons_k (P := fun l => OK1 c env σ (.Compare p.1 l p.2.2 _) (.cmp2 o q a b d)) ho (vOne_k (P := fun l => OK1 c env σ (.Compare p.1 (o'.1 :: l) p.2.2 _) (.cmp2 o q a b d)) hq
    (vCons_k (P := fun l => OK1 c env σ (.Compare p.1 [o'.1,q'] l _) (.cmp2 o q a b d)) hm (vOne_k (P := fun l => OK1 c env σ (.Compare p.1 [o'.1,q'] (m.1 :: l) _) (.cmp2 o q a b d)) hr
     (beq_k (P := fun x => OK1 c env σ (.Compare p.1 [x,q'] [m.1,r] _) (.cmp2 o q a b d)) (a3 h1).1 (beq_k (P := fun x => OK1 c env σ (.Compare p.1 [o,x] [m.1,r] _) (.cmp2 o q a b d)) (a3 h1).2.1
      ⟨oke_cmp2 (a3 h1).2.2 (chkE_ok H a S ha).1 (chkE_ok H b S hb).1 (chkE_ok H d S hz).1,okt_cmp2 (a3 h1).2.2 (chkE_ok H a S ha).1 (chkE_ok H b S hb).1 (chkE_ok H d S hz).1⟩)))))
 | .call f mes,ns,σ,e,env,S,h => bo_of h fun p he h => bo_of h fun n hn h => bo_of h fun O h1 hr => ok_of h1 fun hb => vCall_k (P := fun e => OK1 c env σ e (.call f mes)) he (vName_k (P := fun f' => OK1 c env σ (.Call f' p.2.1 [] p.2.2) (.call f mes)) hn fun O =>
   ex_k (a5 hb).2.2.2.1 fun fr hfr => val rfl rfl (oke_call S H.text H.sc (globB_eq (a5 hb).1) (plainB_eq (a5 hb).2.1) (refB_eq (a5 hb).2.2.1) hfr (a5 hb).2.2.2.2 (chkEs_ok H mes S hr).es))
 | .callv i mes,ns,σ,e,env,S,h => bo_of h fun p he h => bo_of h fun n hn h => bo_of h fun O h1 hr => ok_of h1 fun hb => vCall_k (P := fun e => OK1 c env σ e (.callv i mes)) he (vName_k (P := fun f' => OK1 c env σ (.Call f' p.2.1 [] p.2.2) (.callv i mes)) hn fun O =>
   slotB_k (and2 hb).1 fun k hk => val rfl rfl (oke_callv S H.text H.sc hk (and2 hb).2 (chkEs_ok H mes S hr).es H.lt))
 | .make g mes,ns,σ,e,env,S,h => bo_of h fun p he h => bo_of h fun n hn h => bo_of h fun O h1 hr => ok_of h1 fun hb => vCall_k (P := fun e => OK1 c env σ e (.make g mes)) he (vName_k (P := fun f' => OK1 c env σ (.Call f' p.2.1 [] p.2.2) (.make g mes)) hn fun O =>
   ex_k (a5 hb).2.2.2.1 fun rr hrr => val rfl rfl (oke_make S H.sc (H.cls g rr hrr) hrr (globB_eq (a5 hb).1) (plainB_eq (a5 hb).2.1) (refB_eq (a5 hb).2.2.1) (a5 hb).2.2.2.2 (chkEs_ok H mes S hr).es))
 | .bcall b mes,ns,σ,e,env,S,h => bo_of h fun p he h => bo_of h fun n hn h => bo_of h fun O h1 hr => ok_of h1 fun hb => vCall_k (P := fun e => OK1 c env σ e (.bcall b mes)) he (vName_k (P := fun f' => OK1 c env σ (.Call f' p.2.1 [] p.2.2) (.bcall b mes)) hn fun O =>
   beq_k (P := fun n => OK1 c env σ (.Call (.Name n _) p.2.1 [] p.2.2) (.bcall b mes)) (a3 hb).1 (val rfl rfl (oke_bcall S H.blt (globB_eq (a3 hb).2.1) (a3 hb).2.2 (chkEs_ok H mes S hr).es)))
 | .meth mo m mes,ns,σ,e,env,S,h => bo_of h fun p he h => bo_of h fun q hq h => bo_of h fun O h1 h => bo_of h fun O ho hr => ok_of h1 fun hb => vCall_k (P := fun e => OK1 c env σ e (.meth mo m mes)) he (vAttr_k (P := fun f' => OK1 c env σ (.Call f' p.2.1 [] p.2.2) (.meth mo m mes)) hq
   (val rfl rfl (oke_meth H.text H.sc (eq_of_beq (a5 hb).1) (a5 hb).2.1 (of_decide_eq_true (a5 hb).2.2.1) (a5 hb).2.2.2.1 (a5 hb).2.2.2.2 (chkE_ok H mo S ho).1 (chkEs_ok H mes S hr).es)))
 | .bmeth mo m mes,ns,σ,e,env,S,h => bo_of h fun p he h => bo_of h fun q hq h => bo_of h fun O h1 h => bo_of h fun O ho hr => ok_of h1 fun hb => vCall_k (P := fun e => OK1 c env σ e (.bmeth mo m mes)) he (vAttr_k (P := fun f' => OK1 c env σ (.Call f' p.2.1 [] p.2.2) (.bmeth mo m mes)) hq
   (val rfl rfl (oke_bmeth (eq_of_beq (a5 hb).1) (a5 hb).2.1 (of_decide_eq_true (a5 hb).2.2.1) (a5 hb).2.2.2.1 (a5 hb).2.2.2.2 (chkE_ok H mo S ho).1 (chkEs_ok H mes S hr).es)))
 | .attr mo a,ns,σ,e,env,S,h => bo_of h fun q hq h => bo_of h fun O h1 hr => ok_of h1 fun hb => vAttr_k (P := fun e => OK1 c env σ e (.attr mo a)) hq (val rfl rfl (oke_attr H.text (eq_of_beq (and2 hb).1) (and2 hb).2 (chkE_ok H mo S hr).1))
 | .sub mo mi,ns,σ,e,env,S,h => bo_of h fun p he h => bo_of h fun O ho hr => vSub_k (P := fun e => OK1 c env σ e (.sub mo mi)) he fun O => val rfl rfl (oke_sub (chkE_ok H mo S ho).1 (chkE_ok H mi S hr).1)
 | .slice m mo mlo mhi,ns,σ,e,env,S,h => bo_of h fun p he h => bo_of h fun q hq h => bo_of h fun O ho h => bo_of h fun O h1 hr => vSub_k (P := fun e => OK1 c env σ e (.slice m mo mlo mhi)) he fun O => vSlice_k (P := fun x => OK1 c env σ (.Subscript p.1 x _) (.slice m mo mlo mhi)) hq fun O =>
   val rfl rfl (oke_slice (chkE_ok H mo S ho).1 (part_k h1 fun lo hr => (chkE_ok H mlo S hr).1) (part_k hr fun lo hr => (chkE_ok H mhi S hr).1))
 | .comp nt caps melt mi conds,ns,σ,e,env,S,h => bo_of h fun p he h => bo_of h fun O h1 h => bo_of h fun O hi h => bo_of h fun O hel hr => ok_of h1 fun hb => vComp_k (P := fun e => OK1 c env σ e (.comp nt caps melt mi conds)) he fun O =>
   val rfl rfl (oke_comp S (compB_eq (a4 hb).2.1) (tgtB_eq (a4 hb).2.2.1) (a4 hb).1 (chkE_ok H mi S hi).1 (fun cenv Sc => (chkE_ok H melt Sc hel).1) fun cenv Sc => (chkEs_ok H conds Sc hr).cond (of_decide_eq_true (a4 hb).2.2.2))
 | .fail,_,_,_,_,_,h => nO h
theorem chkEs_ok (H : Hyp c) : ∀ (mes : List ME) {ns σ : Sig} {es : List Expr} {env : Env},EnvS env ns σ → chkEs c.L c.T ns σ es mes = some () → OK2 c env σ es mes
 | [],ns,σ,es,env,S,h => vNil_k (P := fun es => OK2 c env σ es []) (x := ()) h .nil
 | me :: mes,ns,σ,es,env,S,h => bo_of h fun p hp h => bo_of h fun O h1 h => vCons_k (P := fun es => OK2 c env σ es (me :: mes)) hp (.cons (chkE_ok H me S h1) (chkEs_ok H mes S h))
end
mutual
theorem chkT_ok (H : Hyp c) : ∀ (mt : MT) {ns σ : Sig} {e : Expr} {env : Env},EnvS env ns σ → chkT c.L c.T ns σ e mt = some () → OKS c env σ e mt
 | .name i,ns,σ,e,env,S,h => bo_of h fun n hn h => ok_of h fun hb => vName_k (P := fun e => OKS c env σ e (.name i)) hn fun O => slotB_k hb fun k hk => oks_name S hk
 | .attr mo a,ns,σ,e,env,S,h => bo_of h fun q hq h => bo_of h fun O h1 hr => ok_of h1 fun hb => vAttr_k (P := fun e => OKS c env σ e (.attr mo a)) hq (oks_attr H.text (eq_of_beq hb) (chkE_ok H mo S hr).1)
 | .sub mo mi,ns,σ,e,env,S,h => bo_of h fun p he h => bo_of h fun O ho hr => vSub_k (P := fun e => OKS c env σ e (.sub mo mi)) he fun O => oks_sub (chkE_ok H mo S ho).1 (chkE_ok H mi S hr).1
 | .tup mts,ns,σ,e,env,S,h => bo_of h fun es he h => bo_of h fun O h1 hr => ok_of h1 fun hb => vTup_k (P := fun e => OKS c env σ e (.tup mts)) he fun O O => oks_tup hb (chkTs_ok H mts S hr).1 (chkTs_ok H mts S hr).2
theorem chkTs_ok (H : Hyp c) : ∀ (mts : List MT) {ns σ : Sig} {es : List Expr} {env : Env},EnvS env ns σ → chkTs c.L c.T ns σ es mts = some () → es.length = mts.length ∧ OKSs c env σ es mts
 | [],ns,σ,es,env,S,h => vNil_k (P := fun es => es.length = [].length ∧ OKSs c env σ es []) (x := ()) h ⟨rfl,okss_nil⟩
 | me :: mes,ns,σ,es,env,S,h => bo_of h fun p hp h => bo_of h fun O h1 h => vCons_k (P := fun es => es.length = (me :: mes).length ∧ OKSs c env σ es (me :: mes)) hp ⟨congrArg (· + 1) (chkTs_ok H mes S h).1,okss_cons (chkT_ok H me S h1) (chkTs_ok H mes S h).2⟩
end
theorem mapO_nam : ∀ {ts : List MT} {is : List Nat},mapO namT ts = some is → ts = is.map .name
 | [],_,h => by obtain rfl := sI h; rfl
 | t :: ts,_,h => bo_of h fun i hi h => bo_of h fun is' his h => by obtain rfl := sI h; exact namT_k (P := fun t => t :: ts = _) hi (congrArg (MT.name i :: ·) (mapO_nam his))
theorem mtNames_eq {mt : MT} {is : List Nat} (h : mtNames mt = some is) : mt = .tup (is.map .name) :=
 bo_of h fun ts hts h => tupT_k (P := fun mt => mt = .tup (is.map .name)) hts (congrArg MT.tup (mapO_nam h))
theorem isCompM_k {P : ME → Prop} {m : ME} (h : isCompM m = true) (k : ∀ nt caps elt iter conds,P (.comp nt caps elt iter conds)) : P m := by
 induction m using ME.casesOn with
 | comp nt caps elt iter conds => exact k ..
 | _ => exact fF' h
theorem zip_fst {is : List Nat} {names : List Str} (h : is.length = names.length) : (is.zip names).map (fun p => MT.name p.1) = is.map .name := by
 rw [show (fun p : Nat × Str => MT.name p.1) = MT.name ∘ Prod.fst from rfl,← List.map_map,List.map_fst_zip (Nat.le_of_eq h)]
theorem chkA_comp (H : Hyp c) {value : Expr} {pos : Pos} {i : Nat} {n : Str} {p : Pos} {me : ME} (S : EnvS env ns σ) (hb : (slotB σ i n && isCompM me) = true) (he : chkE c.L c.T ns σ value me = some ()) (hsw : pureO (swapsWithSole [.Name n p] value pos.line (dum ns)) = some true) :
  OKSt c env σ (.Assign [.Name n p] value pos) (.assign (.name i) me) :=
 slotB_k (and2 hb).1 fun k hk => isCompM_k (P := fun me => chkE c.L c.T ns σ value me = some () → OKSt c env σ (.Assign [.Name n p] value pos) (.assign (.name i) me)) (and2 hb).2 (fun nt caps melt mi conds he =>
  bo_of he fun p' hp he => bo_of he fun O h1 he => bo_of he fun O hi he => bo_of he fun O hel he => ok_of h1 fun hb =>
   vComp_k (P := fun v => pureO (swapsWithSole [.Name n p] v pos.line (dum ns)) = some true → OKSt c env σ (.Assign [.Name n p] v pos) (.assign (.name i) (.comp nt caps melt mi conds))) hp (fun O hsw =>
    okst_assign_comp S hk ((swapsWith_dum S).trans (pureO_eq hsw)) (compB_eq (a4 hb).2.1) (tgtB_eq (a4 hb).2.2.1) (a4 hb).1 (chkE_ok H _ S hi).1 (fun cenv Sc => (chkE_ok H _ Sc hel).1) fun cenv Sc => (chkEs_ok H _ Sc he).cond (of_decide_eq_true (a4 hb).2.2.2)) hsw) he
theorem chkA_ok (H : Hyp c) {t value : Expr} {pos : Pos} {mt : MT} {me : ME} (S : EnvS env ns σ) (h : chkA c.L c.T ns σ t value pos.line mt me = some ()) : OKSt c env σ (.Assign [t] value pos) (.assign mt me) :=
 bo_of h fun O he h => bo_of h fun sw hsw h => cond_of h
  (fun hc h => bo_of h fun n hn h => bo_of h fun i hi h => ok_of h fun hb =>
   vName_k (P := fun t => pureO (swapsWithSole [t] value pos.line (dum ns)) = some true → OKSt c env σ (.Assign [t] value pos) (.assign mt me)) hn
    (fun p hsw => namT_k (P := fun mt => OKSt c env σ (.Assign [.Name n p] value pos) (.assign mt me)) hi (chkA_comp H S hb he hsw)) (hc ▸ hsw))
  fun hc h => bo_of h fun names hnames h => by
   have hs : swapsWithSole [t] value pos.line env = pure false := (swapsWith_dum S).trans (pureO_eq (hc ▸ hsw))
   have hw := (swap_dum (targets := [t]) (value := value) S).trans (pureO_eq hnames)
   induction names using Option.casesOn with
   | none => exact bo_of h fun O h1 hr => ok_of h1 fun hb => okst_assign hb hs hw (chkT_ok H mt S hr) (chkE_ok H me S he).1
   | some names =>
    refine bo_of h fun ts hts h => bo_of h fun is his h => ok_of h fun hb => ?_
    have hl : is.length = names.length := eq_of_beq (a3 hb).1
    rw [mtNames_eq his,← zip_fst hl]
    have e2 : (is.zip names).map (·.2) = names := List.map_snd_zip (Nat.le_of_eq hl.symm)
    have e1 : (is.zip names).map (·.1) = is := List.map_fst_zip (Nat.le_of_eq hl)
    refine vTup_k (P := fun t => swapsWithSole [t] value pos.line env = pure false → swappedStores [t] value env = pure (some names) → OKSt c env σ (.Assign [t] value pos) _) hts (fun O O hs hw => ?_) hs hw
    exact okst_swap S hs (by rw [e2]; exact hw) (fun p hp => slotB_eq (List.all_eq_true.mp (a3 hb).2.2 p hp)) (by rw [e1]; exact of_decide_eq_true (a3 hb).2.1) (chkE_ok H me S he).1
mutual
theorem chkS_ok (H : Hyp c) : ∀ (mt : MS) {ns σ : Sig} {t : Stmt} {env : Env},EnvS env ns σ → chkS c.L c.T ns σ t mt = some () → OKSt c env σ t mt
 | .assign mt me,ns,σ,t,env,S,h => bo_of h fun p hp h => bo_of h fun u hu h => wAssign_k (P := fun t => OKSt c env σ t (.assign mt me)) hp (vOne_k (P := fun l => OKSt c env σ (.Assign l p.2.1 p.2.2) (.assign mt me)) hu (chkA_ok H S h))
 | .expr me,ns,σ,t,env,S,h => bo_of h fun e he h => bo_of h fun O h1 hr => ok_of h1 fun hb => wExpr_k (P := fun t => OKSt c env σ t (.expr me)) he fun O => okst_expr S hb (chkE_ok H me S hr).1
 | .ret me,ns,σ,t,env,S,h => bo_of h fun o ho h => elim_of h (fun hn h => ok_of h fun hb => wRet_k (P := fun t => OKSt c env σ t (.ret me)) ho fun p => by rw [hn]; exact isNoneM_k (P := fun me => OKSt c env σ (.Return none p) (.ret me)) hb okst_retN)
   fun e hs h => wRet_k (P := fun t => OKSt c env σ t (.ret me)) ho fun O => by rw [hs]; exact okst_ret (chkE_ok H me S h).1
 | .iff mt ma mb,ns,σ,t,env,S,h => bo_of h fun p hp h => bo_of h fun O h1 h => bo_of h fun O h2 h => wIf_k (P := fun t => OKSt c env σ t (.iff mt ma mb)) hp fun O => okst_if (chkE_ok H mt S h1).2 (chkB_ok H ma S h2) (chkB_ok H mb S h)
 | .while mt mb,ns,σ,t,env,S,h => bo_of h fun p hp h => bo_of h fun O h0 h => bo_of h fun O h1 h => wWhile_k (P := fun t => OKSt c env σ t (.while mt mb)) hp fun O => vNil_k (P := fun l => OKSt c env σ (.While p.1 p.2.1 l _) (.while mt mb)) h0 (okst_while (chkE_ok H mt S h1).2 (chkB_ok H mb S h))
 | .for mt mi mb,ns,σ,t,env,S,h => bo_of h fun p hp h => bo_of h fun O hn h => bo_of h fun O h0 h => bo_of h fun O h1 h => bo_of h fun O h2 h => ok_of h0 fun hb => wFor_k (P := fun t => OKSt c env σ t (.for mt mi mb)) hp fun O =>
   vNil_k (P := fun l => OKSt c env σ (.For p.1 p.2.1 p.2.2.1 l _) (.for mt mi mb)) hn (okst_for hb (chkT_ok H mt S h1) (chkE_ok H mi S h2).1 (chkB_ok H mb S h))
 | .forR mt mi mb,ns,σ,t,env,S,h => bo_of h fun p hp h => bo_of h fun O hn h => bo_of h fun q hq h => bo_of h fun n hm h => bo_of h fun ie hie h => bo_of h fun O h0 h => bo_of h fun O h1 h => bo_of h fun O h2 hz => ok_of h0 fun hb => wFor_k (P := fun t => OKSt c env σ t (.forR mt mi mb)) hp fun O =>
   vNil_k (P := fun l => OKSt c env σ (.For p.1 p.2.1 p.2.2.1 l _) (.forR mt mi mb)) hn (vCall_k (P := fun l => OKSt c env σ (.For p.1 l p.2.2.1 [] _) (.forR mt mi mb)) hq (vName_k (P := fun l => OKSt c env σ (.For p.1 (.Call l q.2.1 [] q.2.2) p.2.2.1 [] _) (.forR mt mi mb)) hm fun O =>
    vOne_k (P := fun l => OKSt c env σ (.For p.1 (.Call (.Name n _) l [] q.2.2) p.2.2.1 [] _) (.forR mt mi mb)) hie (beq_k (P := fun n => OKSt c env σ (.For p.1 (.Call (.Name n _) [ie] [] q.2.2) p.2.2.1 [] _) (.forR mt mi mb)) (a3 hb).1
     (okst_forR S H.blt (globB_eq (a3 hb).2.1) (a3 hb).2.2 (chkT_ok H mt S h1) (chkE_ok H mi S h2).1 (chkB_ok H mb S hz)))))
 | .forE mt mi mb,ns,σ,t,env,S,h => bo_of h fun p hp h => bo_of h fun O hn h => bo_of h fun q hq h => bo_of h fun n hm h => bo_of h fun ts hts h => bo_of h fun mts hmt h => bo_of h fun ie hie h => bo_of h fun O h0 h => bo_of h fun O h1 h => bo_of h fun O h2 hz => ok_of h0 fun hb => wFor_k (P := fun t => OKSt c env σ t (.forE mt mi mb)) hp fun O =>
   vNil_k (P := fun l => OKSt c env σ (.For p.1 p.2.1 p.2.2.1 l _) (.forE mt mi mb)) hn (vCall_k (P := fun l => OKSt c env σ (.For p.1 l p.2.2.1 [] _) (.forE mt mi mb)) hq (vName_k (P := fun l => OKSt c env σ (.For p.1 (.Call l q.2.1 [] q.2.2) p.2.2.1 [] _) (.forE mt mi mb)) hm fun O =>
    vOne_k (P := fun l => OKSt c env σ (.For p.1 (.Call (.Name n _) l [] q.2.2) p.2.2.1 [] _) (.forE mt mi mb)) hie (beq_k (P := fun n => OKSt c env σ (.For p.1 (.Call (.Name n _) [ie] [] q.2.2) p.2.2.1 [] _) (.forE mt mi mb)) (a4 hb).1
     (vTup_k (P := fun l => OKSt c env σ (.For l (.Call (.Name _ _) [ie] [] q.2.2) p.2.2.1 [] _) (.forE mt mi mb)) hts fun O O => tupT_k (P := fun mt => OKSt c env σ (.For (.Tuple ts _ _) (.Call (.Name _ _) [ie] [] q.2.2) p.2.2.1 [] _) (.forE mt mi mb)) hmt
      (okst_forE S H.blt (globB_eq (a4 hb).2.1) (a4 hb).2.2.1 (a4 hb).2.2.2 (chkTs_ok H mts S h1).1 (chkTs_ok H mts S h1).2 (chkE_ok H mi S h2).1 (chkB_ok H mb S hz))))))
 | .try mb,ns,σ,t,env,S,h => bo_of h fun p hp h => bo_of h fun O h1 h => bo_of h fun O h2 h => bo_of h fun O h3 h => wTry_k (P := fun t => OKSt c env σ t (.try mb)) hp fun O => vCons_k (P := fun l => OKSt c env σ (.Try p.1 l p.2.2.1 p.2.2.2 _) (.try mb)) h1
   (vNil_k (P := fun l => OKSt c env σ (.Try p.1 (_ :: _) l p.2.2.2 _) (.try mb)) h2 (vNil_k (P := fun l => OKSt c env σ (.Try p.1 (_ :: _) [] l _) (.try mb)) h3 (okst_try (chkB_ok H mb S h))))
 | .fail,_,_,_,_,_,_ => okst_fail
theorem chkB_ok (H : Hyp c) : ∀ (mts : List MS) {ns σ : Sig} {ts : List Stmt} {env : Env},EnvS env ns σ → chkB c.L c.T ns σ ts mts = some () → OKStB c env σ ts mts
 | [],ns,σ,ts,env,S,h => vNil_k (P := fun ts => OKStB c env σ ts []) (x := ()) h okb_nil
 | me :: mes,ns,σ,ts,env,S,h => bo_of h fun p hp h => bo_of h fun O h1 h => vCons_k (P := fun ts => OKStB c env σ ts (me :: mes)) hp (okb_cons (chkS_ok H me S h1) (chkB_ok H mes S h))
end
end
end
section
noncomputable def fnTab : List Nat := [36,43,51,58,65,72,114,119,124,132,147,152,173,180,187,195,201,208,215,222,296,310,317,331,338,346,353,360,382,396,403,424,431,438,445,459,464,471,485,516,523,530,545,564,571,578,583,590,595,602,609,616,633,652,659,666,673,680,687,694,701,708,715,722,729,734,741]
noncomputable def clsTab : List Nat := [103,162,413,555,643]
noncomputable def nmTab : List (List Nat) := [[100,97,116,97],[97,116],[101,110,100],[112,101,101,107],[115,116,97,114,116,115],[110,97,109,101],[114,97,119],[119,111,114,100],[116,111,112],[115,117,98],[112,97,114,97,109,115],[105,115,95,100,111,110,101],[116,97,107,101],[115,107,105,112],[98,101,103,105,110],[98,111,100,121],[102,105,101,108,100,115],[107,105,110,100],[101,110,99,111,100,105,110,103],[107,105,100,115],[105,110,110,101,114],[105,115,95,108,101,116,116,101,114],[105,115,95,109,117,108,116,105],[112,97,116,104],[110,97,109,101,115],[112,97,114,116,105,97,108]]
noncomputable def nm (i : Nat) : Str := mkS (nmTab.getD i (List.replicate (200 + i) 0))
theorem nmTab_len : nmTab.length = 26 := rfl
theorem nm_inj (a b : Nat) (h : nm a = nm b) : a = b := by
 have h := mkS_inj h
 have short : ∀ i,i < 26 → (nmTab.getD i (List.replicate (200 + i) 0)).length < 200 := by decide
 have long : ∀ i,26 ≤ i → (nmTab.getD i (List.replicate (200 + i) 0)).length = 200 + i := fun i hi => by
  rw [List.getD_eq_getElem?_getD,List.getElem?_eq_none (by rw [nmTab_len]; exact hi)]; exact List.length_replicate
 have hl := congrArg List.length h
 rcases Nat.lt_or_ge a 26 with ha | ha <;> rcases Nat.lt_or_ge b 26 with hb | hb
 ·have : ∀ a,a < 26 → ∀ b,b < 26 → nmTab.getD a [] = nmTab.getD b [] → a = b := by decide
  refine this a ha b hb ?_
  rw [List.getD_eq_getElem?_getD,List.getD_eq_getElem?_getD,List.getElem?_eq_getElem (by rw [nmTab_len]; exact ha),List.getElem?_eq_getElem (by rw [nmTab_len]; exact hb)] at h ⊢
  exact h
 ·have := short a ha; rw [hl,long b hb] at this; lia
 ·have := short b hb; rw [← hl,long a ha] at this; lia
 ·rw [long a ha,long b hb] at hl; lia
noncomputable def mkL (prog : Program) (w : World) (K : Frag) : Lk := { prog,w,K,fnA := fun f => fnTab.getD f 0,clsA := fun g => clsTab.getD g 0,nm,inj := nm_inj }
noncomputable def fnTypeB (v : Option Value) : Bool := match v with
 | some (.type T) => T == "function"
 | _ => false
noncomputable def noneB (v : Option (Option Value)) : Bool := match v with
 | some none => true
 | _ => false
section
variable (L : Lk) (T : Text)
noncomputable def clsB (k : Nat) (r : ClsRec) : Bool :=
 clsOk L.K (L.clsA k) && r.data.all (fun a => attrOk L.K (L.clsA k) (L.nm a)) &&
 r.meths.all (fun p => refB (findIn L.K (.ref (L.clsA k)) (L.nm p.1)) (L.fnA p.2) && fnTypeB (typeIn L.K (.ref (L.fnA p.2))) && keepIn L.K (.ref (L.fnA p.2))) &&
 makesIn L.K (L.clsA k) && refB (findIn L.K (.ref (L.clsA k)) "__init__") (L.fnA r.init) && fnTypeB (typeIn L.K (.ref (L.fnA r.init))) && keepIn L.K (.ref (L.clsA k))
noncomputable def allBI : List BI := [.len,.min,.max,.bytes,.chr,.ord,.tuple,.list]
noncomputable def bltsB : Bool := allBI.all (fun b => noneB (nsIn L.K mainGlobals (biN b))) && noneB (nsIn L.K mainGlobals "range") && noneB (nsIn L.K mainGlobals "enumerate") && (L.K.lookup mainGlobals).isSome && (L.K.lookup cStatics).isSome
noncomputable def fdOf (f : Nat) : Option (Obj × FuncData) := bo (L.K.lookup (L.fnA f)) fun o => match o.data with
 | .func fd => some (o,fd)
 | _ => none
noncomputable def bodyOf (fd : FuncData) : Option (List Stmt) := match fd.body with
 | .stmts b => some b
 | _ => none
noncomputable def sigOf (fd : FuncData) : Sig := fd.scope.names.filter fun p => p.2 == .local || p.2 == .cell
noncomputable def dvOf (fd : FuncData) : List Value := (tupO L fd.defaults).getD []
noncomputable def fnB (f : Nat) (fr : FnRec) : Option Unit := bo (fdOf L f) fun p => bo (bodyOf p.2) fun body =>
 bo (ok (codeIn L.K p.2.code p.2.qualname && p.2.closure.isEmpty && !p.2.scope.isCoroutine && !p.2.scope.isGenerator && p.2.scope.kind == .function && p.2.globals == mainGlobals && p.2.builtins == builtinsNs && sigB p.2.scope.names (sigOf p.2) &&
  (sigOf p.2).length == fr.nslots && decide (fr.nargs ≤ fr.nslots) && gvsB L (dvOf L p.2) fr.dflt && keepIn L.K (.ref (L.fnA f)))) fun O => chkB L T p.2.scope.names (sigOf p.2) body fr.body
end
end
section
noncomputable def fdD (L : Lk) (f : Nat) : FuncData := ((fdOf L f).map (·.2)).getD default
noncomputable def bindsOf (L : Lk) (fd : FuncData) (fr : FnRec) (vals : List Value) : List (Str × Value) := (((sigOf fd).map (·.1)).take fr.nargs).zip (vals ++ (dvOf L fd).drop (vals.length + fr.dflt.length - fr.nargs))
noncomputable def BindOK (L : Lk) (f : Nat) (fr : FnRec) : Prop := ∀ (s : Shared) (vals : List Value),L.K.In s.heap → vals.length ≤ fr.nargs → fr.nargs ≤ vals.length + fr.dflt.length → BindsTo s (fdD L f) ⟨vals,[]⟩ (bindsOf L (fdD L f) fr vals)
noncomputable def AllP (P : Nat → FnRec → Prop) : List FnRec → Nat → Prop
 | [],_ => True
 | fr :: r,i => P i fr ∧ AllP P r (i + 1)
theorem AllP.get {P : Nat → FnRec → Prop} : ∀ {l : List FnRec} {i j : Nat} {fr : FnRec},AllP P l i → l[j]? = some fr → P (i + j) fr
 | fr :: r,i,0,_,h,e => by obtain rfl := sI e; exact h.1
 | _ :: r,i,j + 1,fr,h,e => by
  have := AllP.get (l := r) h.2 (j := j) e
  rwa [Nat.add_assoc,Nat.add_comm 1 j] at this
 | [],_,_,_,_,e => (nil_get e).elim
noncomputable def clsAllB (L : Lk) (T : Text) : Bool := T.cls.zipIdx.all fun p => clsB L p.2 p.1
structure Facts (L : Lk) (T : Text) : Prop where
 blt : bltsB L = true
 clsA : clsAllB L T = true
 fns : AllP (fun f fr => fnB L T f fr = some () ∧ BindOK L f fr) T.fns 0
section
variable {L : Lk} {T : Text}
theorem fdOf_eq {f : Nat} {p : Obj × FuncData} (h : fdOf L f = some p) : L.K.lookup (L.fnA f) = some p.1 ∧ p.1.data = .func p.2 ∧ fdD L f = p.2 := by
 have h0 := h
 refine byP fun G kG => bo_of h fun o ho h => ?_
 obtain ⟨c,d,da,sl⟩ := o
 induction da using Data.casesOn with
 | func fd =>
  obtain rfl := sI h
  exact kG ⟨ho,rfl,by unfold fdD; rw [h0]; rfl⟩
 | _ => exact nO h
theorem bodyOf_eq {fd : FuncData} {b : List Stmt} (h : bodyOf fd = some b) : fd.body = .stmts b := by
 unfold bodyOf at h
 generalize fd.body = x at h
 induction x using FuncBody.casesOn with
 | stmts q => obtain rfl := sI h; rfl
 | _ => exact nO h
theorem fnTypeB_eq {v : Option Value} (h : fnTypeB v = true) : v = some (.type "function") := by
 induction v using Option.casesOn with
 | none => exact fF' h
 | some w => induction w using Value.casesOn with
  | type T => obtain rfl := eq_of_beq h; rfl
  | _ => exact fF' h
theorem noneB_eq {v : Option (Option Value)} (h : noneB v = true) : v = some none := by
 induction v using Option.casesOn with
 | none => exact fF' h
 | some w => induction w using Option.casesOn with
  | none => rfl
  | some _ => exact fF' h
theorem Facts.cls (F : Facts L T) (k : Nat) (r : ClsRec) (h : T.cls[k]? = some r) : clsB L k r = true := List.all_eq_true.mp F.clsA (r,k) (List.mem_zipIdx_iff_getElem?.mpr h)
theorem Facts.keep (F : Facts L T) (f : Nat) (r : FnRec) (h : T.fns[f]? = some r) : keepIn L.K (.ref (L.fnA f)) = true := by
 obtain ⟨h1,_⟩ := F.fns.get h
 rw [Nat.zero_add] at h1
 exact bo_of h1 fun p hp h => bo_of h fun b hb h => bo_of h fun O hk h => ok_of hk fun hk => (and2 hk).2
set_option tactic.hygienic true in
theorem lookup_mem {b : Nat} {a : Nat} : ∀ {l : List (Nat × Nat)},l.lookup a = some b → (a,b) ∈ l
 | (x,y) :: r,h => by
  rw [List.lookup_cons] at h
  split at h
  ·rename_i q; obtain rfl := sI h; obtain rfl := eq_of_beq q; exact .head _
  ·exact .tail _ (lookup_mem h)
theorem Facts.text (F : Facts L T) : TextOK L T where
 attr := fun k r a hr ha => by
  obtain ⟨h,_⟩ := and2 (F.cls k r hr)
  obtain ⟨h,_⟩ := and2 h
  obtain ⟨h,_⟩ := and2 h
  obtain ⟨h,_⟩ := and2 h
  obtain ⟨h,_⟩ := and2 h
  exact ⟨(and2 h).1,List.all_eq_true.mp (and2 h).2 a (List.contains_iff_mem.mp ha)⟩
 meth := fun k r m f hr hm => by
  obtain ⟨h,_⟩ := and2 (F.cls k r hr)
  obtain ⟨h,_⟩ := and2 h
  obtain ⟨h,_⟩ := and2 h
  obtain ⟨h,_⟩ := and2 h
  obtain ⟨h,h2⟩ := and2 h
  have := List.all_eq_true.mp h2 (m,f) (lookup_mem hm)
  obtain ⟨h3,h4⟩ := and2 this
  obtain ⟨h3,h5⟩ := and2 h3
  exact ⟨(and2 h).1,refB_eq h3,fnTypeB_eq h5,h4⟩
 keep := F.keep
theorem Facts.make (F : Facts L T) (g : Nat) (rr : ClsRec) (h : T.cls[g]? = some rr) : ClsMake L T g rr := by
 obtain ⟨h,h4⟩ := and2 (F.cls g rr h)
 obtain ⟨h,h3⟩ := and2 h
 obtain ⟨h,h2⟩ := and2 h
 obtain ⟨_,h1⟩ := and2 h
 exact ⟨h1,refB_eq h2,fnTypeB_eq h3,h4⟩
theorem Facts.hyp (F : Facts L T) (B : ∀ n v,bootBuiltins n = some v → n ≠ "__name__" → ∀ h,L.K.In h → Looks L.M h (nsGet builtinsNs n) (some v)) {C : Callee} {n : Nat} (H : SoundC L C n) (Hf : ∀ f vs mh x,C f vs mh = some x → ∃ fr,T.fns[f]? = some fr) : Hyp ⟨L,T,C,n⟩ := by
 obtain ⟨h,_⟩ := and2 F.blt
 obtain ⟨h,h4⟩ := and2 h
 obtain ⟨h,h3⟩ := and2 h
 obtain ⟨h1,h2⟩ := and2 h
 have hb : ∀ b,b ∈ allBI := fun b => by induction b using BI.casesOn <;> decide
 refine ⟨F.text,⟨fun b => noneB_eq (List.all_eq_true.mp h1 b (hb b)),fun b => B _ _ (biV_boot b) (by induction b using BI.casesOn <;> decide +kernel),noneB_eq h2,B _ _ (by decide +kernel) (by decide +kernel),noneB_eq h3,B _ _ (by decide +kernel) (by decide +kernel)⟩,H,F.make,h4,Hf⟩
theorem Facts.fn (F : Facts L T) (B : ∀ n v,bootBuiltins n = some v → n ≠ "__name__" → ∀ h,L.K.In h → Looks L.M h (nsGet builtinsNs n) (some v)) (f : Nat) (fr : FnRec) (h : T.fns[f]? = some fr) : ∃ o fd body σ dv,FnFacts L T f fr o fd body σ dv := by
 obtain ⟨h1,h2⟩ := F.fns.get h
 rw [Nat.zero_add] at h1 h2
 refine bo_of h1 fun p hp h => bo_of h fun body hb h => bo_of h fun O hk hc => ok_of hk fun hk => ?_
 obtain ⟨q1,q2,q3⟩ := fdOf_eq hp
 obtain ⟨hk,_⟩ := and2 hk
 obtain ⟨hk,k11⟩ := and2 hk
 obtain ⟨hk,k10⟩ := and2 hk
 obtain ⟨hk,k9⟩ := and2 hk
 obtain ⟨hk,k8⟩ := and2 hk
 obtain ⟨hk,k7⟩ := and2 hk
 obtain ⟨hk,k6⟩ := and2 hk
 obtain ⟨hk,k5⟩ := and2 hk
 obtain ⟨hk,k4⟩ := and2 hk
 obtain ⟨hk,k3⟩ := and2 hk
 obtain ⟨k1,k2⟩ := and2 hk
 obtain ⟨s1,s2⟩ := sigB_eq k8
 unfold BindOK at h2
 rw [q3] at h2
 exact ⟨p.1,p.2,body,sigOf p.2,dvOf L p.2,q1,q2,k1,bodyOf_eq hb,List.isEmpty_iff.mp k2,(Bool.not_eq_true' _).mp k3,(Bool.not_eq_true' _).mp k4,eq_of_beq k5,eq_of_beq k6,eq_of_beq k7,s1,s2,eq_of_beq k9,of_decide_eq_true k10,gvsB_eq k11,
  fun s vals hK a b => h2 s vals hK a b,fun C n env H Hf S => chkB_ok (F.hyp B H Hf) fr.body S hc⟩
theorem Facts.sound (F : Facts L T) (N : ∀ h,L.K.In h → h.NoLimit) (B : ∀ n v,bootBuiltins n = some v → n ≠ "__name__" → ∀ h,L.K.In h → Looks L.M h (nsGet builtinsNs n) (some v)) (n : Nat) : SoundC L (mcall T n) n := Mn.sound N (F.fn B) n
theorem len_succ {α : Type} {l : List α} {n : Nat} (h : l.length = n + 1) : ∃ a r,l = a :: r ∧ r.length = n := by
 induction l using List.casesOn with
 | nil => cases h
 | cons a r => exact ⟨a,r,rfl,Nat.succ.inj h⟩
noncomputable def Each (n : Nat) (P : List Value → Prop) : Prop := match n with
 | 0 => P []
 | n + 1 => ∀ v,Each n fun l => P (v :: l)
theorem Each.all : ∀ {n : Nat} {P : List Value → Prop},Each n P → ∀ l,l.length = n → P l
 | 0,_,h,l,e => by obtain rfl := List.length_eq_zero_iff.mp e; exact h
 | n + 1,P,h,l,e => by
  obtain ⟨a,r,rfl,e2⟩ := len_succ e
  exact Each.all (h a) r e2
theorem bind_of {f : Nat} {fr : FnRec} (h0 : fr.dflt.length = 0) (h : Each fr.nargs fun l => bindArgs (fdD L f) ⟨l,[]⟩ = pure (bindsOf L (fdD L f) fr l)) : BindOK L f fr := fun s vals O a b => .of_eq (h.all vals (by lia))
noncomputable def BindD (L : Lk) (f : Nat) (fr : FnRec) (l : List Value) : Prop := ∃ k,bindArgs (fdD L f) ⟨l,[]⟩ = seqItems? (fdD L f).defaults >>= k ∧ k (some (dvOf L (fdD L f)).toArray) = pure (bindsOf L (fdD L f) fr l)
noncomputable def EachN (P : Nat → Prop) : Nat → Prop
 | 0 => True
 | n + 1 => P n ∧ EachN P n
theorem EachN.get {P : Nat → Prop} : ∀ {n i : Nat},EachN P n → i < n → P i
 | n + 1,i,h,hi => by
  by_cases q : i = n
  ·rw [q]; exact h.1
  ·exact EachN.get h.2 (by lia)
theorem bind_dflt {f : Nat} {fr : FnRec} (h0 : (tupO L (fdD L f).defaults).isSome = true) (h : EachN (fun n => Each (fr.nargs - n) (BindD L f fr)) (fr.dflt.length + 1)) : BindOK L f fr := fun s vals hK a b => by
 obtain ⟨k,h1,h2⟩ := (h.get (i := fr.nargs - vals.length) (Nat.lt_succ_of_le (Nat.sub_le_iff_le_add.mpr (by rw [Nat.add_comm]; exact b)))).all vals (Nat.sub_sub_self a).symm
 obtain ⟨xs,hx⟩ := Option.isSome_iff_exists.mp h0
 obtain ⟨T,n,ht,hl⟩ := tupO_eq hx
 have hd : dvOf L (fdD L f) = xs := by unfold dvOf; rw [hx]; rfl
 rw [hd] at h2
 exact .of_defaults ht (hK _ _ hl) rfl h1 h2
end
end
end Mn
end
noncomputable section
namespace Mn
set_option maxRecDepth 10000
section
section
variable {α β γ : Type}
theorem bd_k {x : Option (α × β)} {a : α} {b : β} {f : α → β → Option γ} {r : Option γ} (h : x = some (a,b)) (k : f a b = r) : bd x f = r := by rw [h]; exact k
theorem bo_k {x : Option α} {a : α} {f : α → Option γ} {r : Option γ} (h : x = some a) (k : f a = r) : bo x f = r := by rw [h]; exact k
theorem br_t {x : Option (Bool × β)} {b : β} {c : Bool} {f g : β → Option γ} {r : Option γ} (h : x = some (c,b)) (hc : c = true) (k : f b = r) : brB x f g = r := by rw [h,hc]; exact k
theorem br_f {x : Option (Bool × β)} {b : β} {c : Bool} {f g : β → Option γ} {r : Option γ} (h : x = some (c,b)) (hc : c = false) (k : g b = r) : brB x f g = r := by rw [h,hc]; exact k
theorem ct_k {t : Bool} {x y r : α} (h : t = true) (k : x = r) : cond t x y = r := by rw [h]; exact k
theorem cf_k {t : Bool} {x y r : α} (h : t = false) (k : y = r) : cond t x y = r := by rw [h]; exact k
theorem if_k {c : Prop} [Decidable c] {x y r : Option γ} (h : c) (k : x = r) : (if c then x else y) = r := (if_pos h).trans k
end
section
variable {C : Callee} {vals : List (Option MV)} {mh m1 m2 m3 m4 : MH} {a b c o i : ME} {x y z v : MV} {vs : List MV} {es : List ME} {t u : Bool}
theorem el {i} (h : vals[i]? = some (some v)) : evalE text C vals mh (.loc i) = some (v,mh) := by rw [evalE_loc,h]; rfl
theorem eb {k op} (h1 : evalE text C vals mh a = some (x,m1)) (h2 : evalE text C vals m1 b = some (y,m2)) (h3 : binV k m2 op x y = some (z,m3)) : evalE text C vals mh (.bin k op a b) = some (z,m3) := evalE_bin.trans (bd_k h1 (bd_k h2 h3))
theorem em {op} (h1 : evalE text C vals mh a = some (x,m1)) (h2 : evalE text C vals m1 b = some (y,m2)) (h3 : cmpV m2 op x y = some t) : evalE text C vals mh (.cmp op a b) = some (.bool t,m2) := evalE_cmp.trans (bd_k h1 (bd_k h2 (bo_k h3 rfl)))
theorem e_cmp2 {op oq} (h1 : evalE text C vals mh a = some (x,m1)) (h2 : evalE text C vals m1 b = some (y,m2)) (h3 : cmpV m2 op x y = some t) (ht : t = true) (h4 : evalE text C vals m2 c = some (z,m3)) (h5 : cmpV m3 oq y z = some u) : evalE text C vals mh (.cmp2 op oq a b c) = some (.bool u,m3) :=
 evalE_cmp2.trans (bd_k h1 (bd_k h2 (bo_k h3 (ct_k ht (bd_k h4 (bo_k h5 rfl))))))
theorem e_cmp2f {op oq} (h1 : evalE text C vals mh a = some (x,m1)) (h2 : evalE text C vals m1 b = some (y,m2)) (h3 : cmpV m2 op x y = some t) (ht : t = false) : evalE text C vals mh (.cmp2 op oq a b c) = some (.bool false,m2) :=
 evalE_cmp2.trans (bd_k h1 (bd_k h2 (bo_k h3 (cf_k ht rfl))))
theorem et (h : evalEs text C vals mh es = some (vs,m1)) : evalE text C vals mh (.tup es) = some (.tup vs,m1) := evalE_tup.trans (bd_k h rfl)
theorem e_lst (h : evalEs text C vals mh es = some (vs,m1)) : evalE text C vals mh (.list false es) = some (.lst vs,m1) := evalE_list.trans (bd_k h rfl)
theorem e_lstT (h : evalEs text C vals mh es = some (vs,m1)) : evalE text C vals mh (.list true es) = some (.ref m1.length,m1 ++ [.lst vs]) := evalE_list.trans (bd_k h rfl)
theorem e_dctT {ks} (h : evalEs text C vals mh es = some (vs,m1)) : evalE text C vals mh (.dict true ks es) = some (.ref m1.length,m1 ++ [.dct ks vs]) := evalE_dict.trans (bd_k h rfl)
theorem ec {e r} (h : evalE text C vals mh e = some (v,m1)) (k : evalEs text C vals m1 r = some (vs,m2)) : evalEs text C vals mh (e :: r) = some (v :: vs,m2) := evalEs_cons0.trans (bd_k h (bd_k k rfl))
theorem e_iteT (h : evalT text C vals mh a = some (t,m1)) (ht : t = true) (k : evalE text C vals m1 b = some (v,m2)) : evalE text C vals mh (.ite a b c) = some (v,m2) := evalE_ite.trans (br_t h ht k)
theorem e_iteF (h : evalT text C vals mh a = some (t,m1)) (ht : t = false) (k : evalE text C vals m1 c = some (v,m2)) : evalE text C vals mh (.ite a b c) = some (v,m2) := evalE_ite.trans (br_f h ht k)
theorem e_andT {e r} (h : evalE text C vals mh a = some (x,m1)) (k : truthV m1 x = some t) (ht : t = true) (k2 : evalAnd text C vals m1 (e :: r) = some (v,m2)) : evalAnd text C vals mh (a :: e :: r) = some (v,m2) := evalAnd_cons.trans (bd_k h (bo_k k (by rw [ht]; exact k2)))
theorem e_andF {e r} (h : evalE text C vals mh a = some (x,m1)) (k : truthV m1 x = some t) (ht : t = false) : evalAnd text C vals mh (a :: e :: r) = some (x,m1) := evalAnd_cons.trans (bd_k h (bo_k k (by rw [ht]; rfl)))
theorem e_orF {e r} (h : evalE text C vals mh a = some (x,m1)) (k : truthV m1 x = some t) (ht : t = false) (k2 : evalOr text C vals m1 (e :: r) = some (v,m2)) : evalOr text C vals mh (a :: e :: r) = some (v,m2) := evalOr_cons.trans (bd_k h (bo_k k (by rw [ht]; exact k2)))
theorem e_orT {e r} (h : evalE text C vals mh a = some (x,m1)) (k : truthV m1 x = some t) (ht : t = true) : evalOr text C vals mh (a :: e :: r) = some (x,m1) := evalOr_cons.trans (bd_k h (bo_k k (by rw [ht]; rfl)))
theorem eK {f} (h : evalEs text C vals mh es = some (vs,m1)) (k : callC C f vs m1 = some (v,m2)) : evalE text C vals mh (.call f es) = some (v,m2) := evalE_call.trans (bd_k h k)
theorem e_callv {j f} (h0 : vals[j]? = some (some (.fn f))) (h : evalEs text C vals mh es = some (vs,m1)) (k : callC C f vs m1 = some (v,m2)) : evalE text C vals mh (.callv j es) = some (v,m2) := by
 rw [evalE_callv,h0]; exact bd_k h k
theorem e_make {g} (h : evalEs text C vals mh es = some (vs,m1)) (k : makeC text C g vs m1 = some (v,m2)) : evalE text C vals mh (.make g es) = some (v,m2) := evalE_make.trans (bd_k h k)
theorem e_bcall {f} (h : evalEs text C vals mh es = some (vs,m1)) (k : bcallV m1 f vs = some v) : evalE text C vals mh (.bcall f es) = some (v,m1) := evalE_bcall.trans (bd_k h (bo_k k rfl))
theorem e_meth {g f} (h0 : evalE text C vals mh o = some (x,m1)) (h1 : methF text m1 x g = some f) (h : evalEs text C vals m1 es = some (vs,m2)) (k : callC C f (x :: vs) m2 = some (v,m3)) : evalE text C vals mh (.meth o g es) = some (v,m3) := evalE_meth.trans (bd_k h0 (bo_k h1 (bd_k h k)))
theorem e_bmeth {g} (h0 : evalE text C vals mh o = some (x,m1)) (h1 : bmOk m1 x g = true) (h : evalEs text C vals m1 es = some (vs,m2)) (k : bmethV m2 x g vs = some (v,m3)) : evalE text C vals mh (.bmeth o g es) = some (v,m3) := evalE_bmeth.trans (bd_k h0 (if_k h1 (bd_k h k)))
theorem ea {g} (h0 : evalE text C vals mh o = some (x,m1)) (h1 : dataOk text m1 x g = true) (h : attrV m1 x g = some v) : evalE text C vals mh (.attr o g) = some (v,m1) := evalE_attr.trans (bd_k h0 (if_k h1 (bo_k h rfl)))
theorem eu (h0 : evalE text C vals mh o = some (x,m1)) (h1 : evalE text C vals m1 i = some (y,m2)) (h : subV m2 x y = some v) : evalE text C vals mh (.sub o i) = some (v,m2) := evalE_sub.trans (bd_k h0 (bd_k h1 (bo_k h rfl)))
theorem e_slice {k lo hi} (h0 : evalE text C vals mh o = some (x,m1)) (h1 : evalE text C vals m1 lo = some (y,m2)) (h2 : evalE text C vals m2 hi = some (z,m3)) (h : sliceV k m3 x y z = some (v,m4)) : evalE text C vals mh (.slice k o lo hi) = some (v,m4) := evalE_slice.trans (bd_k h0 (bd_k h1 (bd_k h2 h)))
theorem e_comp {nt caps e conds} {l ys : List MV} (h0 : evalE text C vals mh i = some (x,m1)) (h1 : iterV m1 x = some l) (hl : l.length ≤ LIM) (h2 : compGo (fun vs mh => brB (allT text C vs mh conds) (fun mh => bd (evalE text C vs mh e) fun y mh => some (some y,mh)) fun mh => some (none,mh)) nt (capsOf vals caps) l m1 = some (ys,m2)) :
  evalE text C vals mh (.comp nt caps e i conds) = some (.lst ys,m2) := evalE_comp.trans (bd_k h0 (bo_k h1 (if_k hl (bd_k h2 rfl))))
theorem tv {e} (hv : valueM e = true) (h : evalE text C vals mh e = some (x,m1)) (k : truthV m1 x = some t) : evalT text C vals mh e = some (t,m1) := by rw [evalT_value hv]; exact bd_k h (bo_k k rfl)
theorem t_not (h : evalT text C vals mh a = some (t,m1)) : evalT text C vals mh (.not a) = some (!t,m1) := by rw [evalT_not]; exact bd_k h rfl
theorem t_and (h : allT text C vals mh es = some (t,m1)) : evalT text C vals mh (.and es) = some (t,m1) := by rw [evalT_and]; exact h
theorem t_or (h : anyT text C vals mh es = some (t,m1)) : evalT text C vals mh (.or es) = some (t,m1) := by rw [evalT_or]; exact h
theorem all_t {e r} (h : evalT text C vals mh e = some (t,m1)) (ht : t = true) (k : allT text C vals m1 r = some (u,m2)) : allT text C vals mh (e :: r) = some (u,m2) := allT_cons.trans (br_t h ht k)
theorem all_f {e r} (h : evalT text C vals mh e = some (t,m1)) (ht : t = false) : allT text C vals mh (e :: r) = some (false,m1) := allT_cons.trans (br_f h ht rfl)
theorem any_f {e r} (h : evalT text C vals mh e = some (t,m1)) (ht : t = false) (k : anyT text C vals m1 r = some (u,m2)) : anyT text C vals mh (e :: r) = some (u,m2) := anyT_cons.trans (br_f h ht k)
theorem any_t {e r} (h : evalT text C vals mh e = some (t,m1)) (ht : t = true) : anyT text C vals mh (e :: r) = some (true,m1) := anyT_cons.trans (br_t h ht rfl)
end
section
variable {C : Callee} {s s1 s2 : St} {vals : List (Option MV)} {e a : ME} {mh m1 m2 m3 : MH} {v x y : MV} {f : Fl} {t : Bool} {r A B : List MS}
theorem xa {g : MT} (h : evalE text C vals mh e = some (v,m1)) (k : storeT text C v (vals,m1) g = some s1) : execS text C (vals,mh) (.assign g e) = some (.next,s1) := execS_assign.trans (bd_k h (bo_k k rfl))
theorem x_expr (h : evalE text C vals mh e = some (v,m1)) (k : quietV v = true) : execS text C (vals,mh) (.expr e) = some (.next,(vals,m1)) := execS_expr.trans (bd_k h (if_k k rfl))
theorem xr (h : evalE text C vals mh e = some (v,m1)) : execS text C (vals,mh) (.ret e) = some (.ret v,(vals,m1)) := execS_ret.trans (bd_k h rfl)
theorem x_ifT (h : evalT text C vals mh e = some (t,m1)) (ht : t = true) (k : execB text C (vals,m1) A = some (f,s1)) : execS text C (vals,mh) (.iff e A B) = some (f,s1) := execS_iff.trans (br_t h ht k)
theorem x_ifF (h : evalT text C vals mh e = some (t,m1)) (ht : t = false) (k : execB text C (vals,m1) B = some (f,s1)) : execS text C (vals,mh) (.iff e A B) = some (f,s1) := execS_iff.trans (br_f h ht k)
theorem xc {q : MS} (h : execS text C s q = some (.next,s1)) (k : execB text C s1 r = some (f,s2)) : execB text C s (q :: r) = some (f,s2) := execB_cons.trans (bd_k h k)
theorem xl {q : MS} (h : execS text C s q = some (.ret v,s1)) : execB text C s (q :: r) = some (.ret v,s1) := execB_cons.trans (bd_k h rfl)
theorem gn {j : Nat} {w : List (Option MV)} (h : decide (j < vals.length) = true) (k : vals.set j (some v) = w) : storeT text C v (vals,mh) (.name j) = some (w,mh) := by rw [← k]; exact if_k (of_decide_eq_true h) rfl
theorem g_tup {ts} {l : List MV} (h : storeTs text C l s ts = some s1) : storeT text C (.tup l) s (.tup ts) = some s1 := h
theorem gs_nil : storeTs text C [] s [] = some s := rfl
theorem gc {t ts} {l : List MV} (h : storeT text C v s t = some s1) (k : storeTs text C l s1 ts = some s2) : storeTs text C (v :: l) s (t :: ts) = some s2 := by
 show bo (storeT text C v s t) _ = _
 exact bo_k h k
theorem c_clo {g : Nat} {vs : List MV} (h : cL vs = true) (k : C g vs [] = some (v,[])) : callC C g vs mh = some (v,mh) := by
 show cond (cL vs) _ _ = _
 exact ct_k h (bd_k k rfl)
end
theorem mc {n f : Nat} {r : FnRec} {vs : List MV} {mh : MH} {v : MV} {s : St} {x : Option (MV × MH)} (h : text.fns[f]? = some r) (hl : (decide (vs.length ≤ r.nargs) && decide (r.nargs ≤ vs.length + r.dflt.length)) = true)
  (hb : execB text (mcall text n) (((vs ++ r.dflt.drop (vs.length + r.dflt.length - r.nargs)).map some) ++ List.replicate (r.nslots - r.nargs) none,mh) r.body = some (.ret v,s))
  (hf : finish r.keep mh.length v s.2 = x) : mcall text (n+1) f vs mh = x := by
 have := Bool.and_eq_true_iff.mp hl
 exact bo_k h (if_k ⟨of_decide_eq_true this.1,of_decide_eq_true this.2⟩ (bd_k hb hf))
theorem fin_nil {v : MV} {mh : MH} (h : cB v = true) : finish false 0 v mh = some (v,[]) := by
 show (if (mh.take 0).all _ = true then _ else _) = _
 refine if_k rfl ?_
 show bo (cond (cB v) (some v) _) _ = _
 rw [h]; rfl
theorem mc0 {n f : Nat} {r : FnRec} {vs : List MV} {v : MV} {s : St} (h : text.fns[f]? = some r) (hl : (decide (vs.length ≤ r.nargs) && decide (r.nargs ≤ vs.length + r.dflt.length)) = true) (hk : r.keep = false)
  (hb : execB text (mcall text n) (((vs ++ r.dflt.drop (vs.length + r.dflt.length - r.nargs)).map some) ++ List.replicate (r.nslots - r.nargs) none,[]) r.body = some (.ret v,s))
  (hf : cB v = true) : mcall text (n+1) f vs [] = some (v,[]) := mc h hl hb (by rw [hk]; exact fin_nil hf)
theorem p_find {d : List UInt8} {w : UInt8} {a b : Int} {mh : MH} (ha : 0 ≤ a ∧ 0 ≤ b) : bmethV mh (.bytes d) .find [.bytes [w],.int a,.int b] = some (.int (pyFind d [w] (some a) (some b)),mh) := by
 show (bmBytes mh d .find [.bytes [w],.int a,.int b]).map _ = _
 show (if 0 ≤ a ∧ 0 ≤ b then some (MV.int (pyFind d [w] (some a) (some b))) else none).map _ = _
 rw [if_pos ha]; rfl
section
variable {C : Callee} {s s1 s2 : St} {vals : List (Option MV)} {e a o i : ME} {mh m1 m2 m3 : MH} {v x y : MV} {f : Fl} {r A B : List MS} {t : MT} {l : List MV}
theorem x_for (h : evalE text C vals mh e = some (x,m1)) (h1 : iterV m1 x = some l) (k : loopF (fun v s => storeT text C v s t) (fun s => execB text C s A) l (vals,m1) = some (f,s1)) : execS text C (vals,mh) (.for t e A) = some (f,s1) := execS_for.trans (bd_k h (bo_k h1 k))
theorem x_forE (h : evalE text C vals mh e = some (x,m1)) (h1 : lstV x = some l) (k : loopF (fun v s => storeT text C v s t) (fun s => execB text C s A) (enumL l 0) (vals,m1) = some (f,s1)) : execS text C (vals,mh) (.forE t e A) = some (f,s1) := execS_forE.trans (bd_k h (bo_k h1 k))
theorem x_forR {n : Int} (h : evalE text C vals mh e = some (.int n,m1)) (h1 : 0 ≤ n ∧ n ≤ LIM) (k : loopF (fun v s => storeT text C v s t) (fun s => execB text C s A) (rangeL n) (vals,m1) = some (f,s1)) : execS text C (vals,mh) (.forR t e A) = some (f,s1) := execS_forR.trans (bd_k h (bo_k rfl (if_k h1 k)))
theorem g_attr {g i : Nat} {p : Nat × List Nat × List MV} (h : evalE text C vals mh o = some (.ref i,m1)) (h1 : dataOk text m1 (.ref i) g = true) (h2 : insAt m1 i = some p) (h3 : decide (p.2.2.length < 500) = true)
  (h4 : (vals,m1.set i (.ins p.1 (putK g v p.2.1 p.2.2).1 (putK g v p.2.1 p.2.2).2)) = s1) : storeT text C v (vals,mh) (.attr o g) = some s1 :=
 storeT_attr.trans (bd_k h (bo_k rfl (if_k h1 (bo_k h2 (if_k (of_decide_eq_true h3) (congrArg some h4))))))
theorem g_sub {n : Nat} (h : evalE text C vals mh o = some (.ref n,m1)) (h1 : evalE text C vals m1 i = some (x,m2)) (h2 : setSub m2 n x v = some m3) : storeT text C v (vals,mh) (.sub o i) = some (vals,m3) :=
 storeT_sub.trans (bd_k h (bo_k rfl (bd_k h1 (bo_k h2 rfl))))
end
theorem p_badd {k : Bool} {mh : MH} {x y : List UInt8} (h : x.length + y.length ≤ LIM) : binV k mh .Add (.bytes x) (.bytes y) = some (.bytes (x ++ y),mh) := if_pos h
theorem p_append {mh : MH} {i : Nat} {l : List MV} {v : MV} (h : mh[i]? = some (.lst l)) (hl : l.length < LIM) : bmethV mh (.ref i) .append [v] = some (.none,mh.set i (.lst (l ++ [v]))) := by
 show bmRef mh i .append v = _
 unfold bmRef; rw [h]; exact if_pos hl
noncomputable def MS.blk : MS → List MS
 | .while _ b => b
 | .for _ _ b => b
 | .forR _ _ b => b
 | .forE _ _ b => b
 | _ => []
end
section
noncomputable abbrev By := List UInt8
noncomputable def At (d : By) (a : Int) (W : By) : Prop := ∃ P S,d = P ++ (W ++ S) ∧ a = (P.length : Int)
section
variable {d W X Y : By} {a : Int}
theorem At.nn (h : At d a W) : 0 ≤ a := by obtain ⟨P,S,rfl,rfl⟩ := h; exact Int.natCast_nonneg _
theorem At.left (h : At d a (X ++ Y)) : At d a X := by obtain ⟨P,S,rfl,rfl⟩ := h; exact ⟨P,Y ++ S,by simp only [List.append_assoc],rfl⟩
theorem At.right (h : At d a (X ++ Y)) : At d (a + X.length) Y := by
 obtain ⟨P,S,rfl,rfl⟩ := h
 exact ⟨P ++ X,S,by simp only [List.append_assoc],by rw [List.length_append]; rfl⟩
theorem At.tail {c : UInt8} (h : At d a (c :: Y)) : At d (a + 1) Y := At.right (X := [c]) h
theorem clp_natL {n k : Nat} (h : k ≤ n) : clp n (k : Int) = k := by
 unfold clp; rw [if_neg (by lia),Int.toNat_natCast]; exact Nat.min_eq_left h
theorem pySlice_nat {α : Type} {l : List α} {i j : Nat} (hi : i ≤ l.length) (hj : j ≤ l.length) : pySlice l (some (i : Int)) (some (j : Int)) = (l.drop i).take (j - i) := by
 show (l.drop (clp l.length i)).take (clp l.length j - clp l.length i) = _
 rw [clp_natL hi,clp_natL hj]
theorem At.slice (h : At d a W) {b : Int} (hb : b = a + W.length) : pySlice d (some a) (some b) = W := by
 obtain ⟨P,S,rfl,rfl⟩ := h
 subst hb
 have hl : (P ++ (W ++ S)).length = P.length + (W.length + S.length) := by simp only [List.length_append]
 have := pySlice_nat (l := P ++ (W ++ S)) (i := P.length) (j := P.length + W.length) (by omega) (by omega)
 rw [show ((P.length + W.length : Nat) : Int) = (P.length : Int) + (W.length : Int) from rfl] at this
 rw [this,List.drop_left,Nat.add_sub_cancel_left,List.take_left]
theorem p_slice {k mh} (h : At d a W) {b : Int} (hb : b = a + W.length) : sliceV k mh (.bytes d) (.int a) (.int b) = some (.bytes W,mh) := by
 rw [← h.slice hb]; rfl
theorem findFrom_no {c : UInt8} : ∀ {l : By} {k : Nat},c ∉ l → findFrom [c] l k = none
 | [],_,_ => rfl
 | b :: r,k,h => by
  have hb : ¬ c = b := fun q => h (q ▸ .head _)
  show (if (if c = b then isPre [] r else false) = true then some k else findFrom [c] r (k + 1)) = none
  rw [if_neg hb,if_neg Bool.false_ne_true]
  exact findFrom_no fun q => h (.tail _ q)
theorem findFrom_at {c : UInt8} {Y : By} : ∀ {l : By} {k : Nat},c ∉ l → findFrom [c] (l ++ c :: Y) k = some (k + l.length)
 | [],k,_ => by
  show (if (if c = c then isPre [] Y else false) = true then some k else findFrom [c] Y (k + 1)) = _
  rw [if_pos rfl,if_pos (by induction Y using List.casesOn <;> rfl)]; rfl
 | b :: r,k,h => by
  have hb : ¬ c = b := fun q => h (q ▸ .head _)
  show (if (if c = b then isPre [] (r ++ c :: Y) else false) = true then some k else findFrom [c] (r ++ c :: Y) (k + 1)) = _
  rw [if_neg hb,if_neg Bool.false_ne_true,findFrom_at fun q => h (.tail _ q)]
  show some (k + 1 + r.length) = some (k + (r.length + 1))
  rw [Nat.add_assoc,Nat.add_comm 1]
theorem At.clp (h : At d a W) : clp d.length a = a.toNat ∧ (a.toNat : Int) = a := by
 obtain ⟨P,S,rfl,rfl⟩ := h
 exact ⟨by rw [clp_natL (by rw [List.length_append]; lia),Int.toNat_natCast],by rw [Int.toNat_natCast]⟩
theorem At.find {c : UInt8} (h : At d a (X ++ c :: Y)) (hc : c ∉ X) {b : Int} (hb : b = a + (X ++ c :: Y).length) : pyFind d [c] (some a) (some b) = a + X.length := by
 show (match findFrom [c] (pySlice d (some a) (some b)) (Mn.clp d.length a) with | some k => (k : Int) | none => -1) = _
 rw [h.slice hb,findFrom_at hc]
 show ((Mn.clp d.length a + X.length : Nat) : Int) = _
 rw [h.clp.1]; have := h.clp.2; lia
theorem At.findN {c : UInt8} (h : At d a X) (hc : c ∉ X) {b : Int} (hb : b = a + X.length) : pyFind d [c] (some a) (some b) = -1 := by
 show (match findFrom [c] (pySlice d (some a) (some b)) (Mn.clp d.length a) with | some k => (k : Int) | none => -1) = _
 rw [h.slice hb,findFrom_no hc]
theorem At.idx {c : UInt8} {mh : MH} (h : At d a (c :: Y)) : subV mh (.bytes d) (.int a) = some (.int c.toNat) := by
 obtain ⟨P,S,rfl,rfl⟩ := h
 show (pyIdx (P ++ (c :: Y ++ S)) (P.length : Int)).map _ = _
 unfold pyIdx
 rw [if_pos (Int.natCast_nonneg _),Int.toNat_natCast,List.getElem?_append_right (Nat.le_refl _),Nat.sub_self]; rfl
end
mutual
theorem closed_under {n : Nat} : ∀ {v : MV},cB v = true → underB n v = true
 | .ref _,h => Bool.noConfusion h
 | .tup _,h => closedL_under (n := n) h
 | .lst _,h => closedL_under (n := n) h
 | .dct _ _,h => closedL_under (n := n) h
 | .ins _ _ _,h => closedL_under (n := n) h
 | .none,_ => rfl
 | .bool _,_ => rfl
 | .int _,_ => rfl
 | .str _,_ => rfl
 | .bytes _,_ => rfl
 | .fn _,_ => rfl
theorem closedL_under {n : Nat} : ∀ {l : List MV},cL l = true → underL n l = true
 | [],_ => rfl
 | _ :: _,h => Bool.and_eq_true_iff.mpr ⟨closed_under (n := n) (Bool.and_eq_true_iff.mp h).1,closedL_under (n := n) (Bool.and_eq_true_iff.mp h).2⟩
end
mutual
theorem under_mono {n m : Nat} (q : n ≤ m) : ∀ {v : MV},underB n v = true → underB m v = true
 | .ref _,h => decide_eq_true (Nat.lt_of_lt_of_le (of_decide_eq_true h) q)
 | .tup _,h => underL_mono q h
 | .lst _,h => underL_mono q h
 | .dct _ _,h => underL_mono q h
 | .ins _ _ _,h => underL_mono q h
 | .none,_ => rfl
 | .bool _,_ => rfl
 | .int _,_ => rfl
 | .str _,_ => rfl
 | .bytes _,_ => rfl
 | .fn _,_ => rfl
theorem underL_mono {n m : Nat} (q : n ≤ m) : ∀ {l : List MV},underL n l = true → underL m l = true
 | [],_ => rfl
 | _ :: _,h => Bool.and_eq_true_iff.mpr ⟨under_mono q (Bool.and_eq_true_iff.mp h).1,underL_mono q (Bool.and_eq_true_iff.mp h).2⟩
end
theorem underO_mono {n m : Nat} (q : n ≤ m) : ∀ {o : MO},underO n o = true → underO m o = true
 | .lst _,h => underL_mono q h
 | .dct _ _,h => underL_mono q h
 | .ins _ _ _,h => underL_mono q h
theorem closedL_app : ∀ {l k : List MV},cL l = true → cL k = true → cL (l ++ k) = true
 | [],_,_,h => h
 | _ :: _,_,h,q => Bool.and_eq_true_iff.mpr ⟨(Bool.and_eq_true_iff.mp h).1,closedL_app (Bool.and_eq_true_iff.mp h).2 q⟩
theorem closedL_map {α : Type} {f : α → MV} (h : ∀ a,cB (f a) = true) : ∀ {l : List α},cL (l.map f) = true
 | [] => rfl
 | a :: r => Bool.and_eq_true_iff.mpr ⟨h a,closedL_map h⟩
theorem frz_closed {mh : MH} {n av k : Nat} {v : MV} (h : cB v = true) : frz mh n av (k + 1) v = some v := ct_k h rfl
theorem mapO_closed {mh : MH} {n av k : Nat} : ∀ {l : List MV},cL l = true → mapO (frz mh n av (k + 1)) l = some l
 | [],_ => rfl
 | _ :: _,h => bo_k (frz_closed (Bool.and_eq_true_iff.mp h).1) (bo_k (mapO_closed (Bool.and_eq_true_iff.mp h).2) rfl)
theorem fin_gen {n : Nat} {v w : MV} {mh : MH} (hu : (mh.take n).all (underO n) = true) (h : frz mh n mh.length 64 v = some w) : finish false n v mh = some (w,mh.take n) := if_k hu (bo_k h rfl)
theorem frz_lst {mh : MH} {n av k i : Nat} {l : List MV} (hi : ¬ i < n) (ha : ¬ i = av) (h : mh[i]? = some (.lst l)) (hc : cL l = true) : frz mh n av (k + 2) (.ref i) = some (.lst l) := by
 refine cf_k rfl ?_
 show (if i < n then _ else if i = av then none else match mh[i]? with
   | some (.lst l) => bo (mapO (frz mh n av (k + 1)) l) fun l => some (MV.lst l)
   | some (.dct ks vs) => bo (mapO (frz mh n av (k + 1)) vs) fun vs => some (.dct ks vs)
   | some (.ins c as vs) => bo (mapO (frz mh n av (k + 1)) vs) fun vs => some (.ins c as vs)
   | none => none) = _
 rw [if_neg hi,if_neg ha,h]
 exact bo_k (mapO_closed hc) rfl
theorem frz_dct {mh : MH} {n av k i : Nat} {ks} {l : List MV} (hi : ¬ i < n) (ha : ¬ i = av) (h : mh[i]? = some (.dct ks l)) (hc : cL l = true) : frz mh n av (k + 2) (.ref i) = some (.dct ks l) := by
 refine cf_k rfl ?_
 show (if i < n then _ else if i = av then none else match mh[i]? with
   | some (.lst l) => bo (mapO (frz mh n av (k + 1)) l) fun l => some (MV.lst l)
   | some (.dct ks vs) => bo (mapO (frz mh n av (k + 1)) vs) fun vs => some (.dct ks vs)
   | some (.ins c as vs) => bo (mapO (frz mh n av (k + 1)) vs) fun vs => some (.ins c as vs)
   | none => none) = _
 rw [if_neg hi,if_neg ha,h]
 exact bo_k (mapO_closed hc) rfl
theorem frz_ins {mh : MH} {n av k i c : Nat} {as} {l : List MV} (hi : ¬ i < n) (ha : ¬ i = av) (h : mh[i]? = some (.ins c as l)) (hc : cL l = true) : frz mh n av (k + 2) (.ref i) = some (.ins c as l) := by
 refine cf_k rfl ?_
 show (if i < n then _ else if i = av then none else match mh[i]? with
   | some (.lst l) => bo (mapO (frz mh n av (k + 1)) l) fun l => some (MV.lst l)
   | some (.dct ks vs) => bo (mapO (frz mh n av (k + 1)) vs) fun vs => some (.dct ks vs)
   | some (.ins c as vs) => bo (mapO (frz mh n av (k + 1)) vs) fun vs => some (.ins c as vs)
   | none => none) = _
 rw [if_neg hi,if_neg ha,h]
 exact bo_k (mapO_closed hc) rfl
theorem fin_lst {l : List MV} (hc : cL l = true) : finish false 0 (.ref 0) [.lst l] = some (.lst l,[]) := fin_gen rfl (frz_lst (Nat.lt_irrefl 0) Nat.zero_ne_one rfl hc)
theorem fin_ins {c as} {l : List MV} (hc : cL l = true) : finish false 0 (.ref 0) [.ins c as l] = some (.ins c as l,[]) := fin_gen rfl (frz_ins (Nat.lt_irrefl 0) Nat.zero_ne_one rfl hc)
theorem mcN {n f : Nat} {r : FnRec} {vs : List MV} {mh : MH} {s : St} {x : Option (MV × MH)} (h : text.fns[f]? = some r) (hl : (decide (vs.length ≤ r.nargs) && decide (r.nargs ≤ vs.length + r.dflt.length)) = true)
  (hb : execB text (mcall text n) (((vs ++ r.dflt.drop (vs.length + r.dflt.length - r.nargs)).map some) ++ List.replicate (r.nslots - r.nargs) none,mh) r.body = some (.next,s))
  (hf : finish r.keep mh.length .none s.2 = x) : mcall text (n+1) f vs mh = x := by
 have := Bool.and_eq_true_iff.mp hl
 exact bo_k h (if_k ⟨of_decide_eq_true this.1,of_decide_eq_true this.2⟩ (bd_k hb hf))
theorem make_frozen {C : Callee} {g : Nat} {k : ClsRec} {vs ws : List MV} {as : List Nat} {mh : MH} (h : text.cls[g]? = some k) (hz : k.frozen = true) (hc : cL vs = true) (hi : C k.init (.ref 0 :: vs) [.ins g [] []] = some (.none,[.ins g as ws])) (hw : cL ws = true) :
  makeC text C g vs mh = some (.ins g as ws,mh) := bo_k h (ct_k hz (if_k hc (bd_k hi (if_k rfl (bo_k rfl (if_k ⟨rfl,hw⟩ rfl))))))
theorem make_open {C : Callee} {g : Nat} {k : ClsRec} {vs : List MV} {mh m : MH} (h : text.cls[g]? = some k) (hz : k.frozen = false) (hi : C k.init (.ref mh.length :: vs) (mh ++ [.ins g [] []]) = some (.none,m)) :
  makeC text C g vs mh = some (.ref mh.length,m) := bo_k h (cf_k hz (bd_k hi (if_k rfl rfl)))
theorem fin_one {o : MO} (hu : underO 1 o = true) : finish false 1 .none [o] = some (.none,[o]) := by
 refine fin_gen (mh := [o]) ?_ rfl
 show (underO 1 o && true) = true
 rw [hu]; rfl
set_option tactic.hygienic true in
theorem loopF_app {store : MV → St → Option St} {body : St → Option (Fl × St)} : ∀ {l k : List MV} {s s' : St},loopF store body l s = some (.next,s') → loopF store body (l ++ k) s = loopF store body k s'
 | [],k,s,s',h => by cases h; rfl
 | x :: l,k,s,s',h => by
  rw [loopF_cons] at h
  refine bo_of h fun s1 h1 h => bd_of h fun f s2 h2 h => ?_
  rw [List.cons_append,loopF_cons]
  refine bo_k h1 (bd_k h2 ?_)
  induction f using Fl.casesOn with
  | next => exact loopF_app h
  | ret v => cases h
end
local macro_rules | `(tactic| trivial) => `(tactic| first
 | with_reducible assumption | rfl
 | exact decide_eq_true (by assumption)
 | exact decide_eq_false (by assumption)
 | exact p_find (by assumption) | exact p_badd (by assumption) | exact p_append (by rfl) (by assumption)
 | exact At.idx (by assumption))
section
section
variable {d X Y W : By} {a e : Int} {n : Nat}
theorem line_at1 (s : Int) (g : 0 ≤ a ∧ 0 ≤ e) (hs : pyFind d [10] (some a) (some e) = s) (h : ¬ s < 0) (h1 : s > a) (h2 : subV [] (.bytes d) (.int (s - 1)) = some (.int 13)) :
  mcall text (n+1) 12 [.bytes d,.int a,.int e] [] = some (.tup [.int (s - 1),.int (s + 1)],[]) := by
 subst hs
 exact mc0 (r := f12) rfl rfl rfl (xc (xa (e_bmeth (el (by rfl)) (by trivial) (ec rfl (ec (el (by rfl)) (ec (el (by rfl)) rfl))) (by trivial)) (gn (by rfl) (by rfl))) (xc (x_ifF (tv rfl (em (el (by rfl)) rfl (by trivial)) (by rfl)) (by trivial) rfl) (xl (x_ifT (t_and (all_t (tv rfl (em (el (by rfl)) (el (by rfl)) (by trivial)) (by rfl)) (by trivial) (all_t (tv rfl (em (eu (el (by rfl)) (eb (el (by rfl)) rfl (by trivial)) (by trivial)) rfl (by trivial)) (by rfl)) (by trivial) rfl))) (by trivial) (xl (xr (et (ec (eb (el (by rfl)) rfl (by trivial)) (ec (eb (el (by rfl)) rfl (by trivial)) rfl))))))))) rfl
theorem line_crlf (h : At d a (X ++ 13 :: 10 :: Y)) (hx : (10 : UInt8) ∉ X) (he : e = a + (X ++ 13 :: 10 :: Y).length) : mcall text (n+1) 12 [.bytes d,.int a,.int e] [] = some (.tup [.int (a + X.length),.int (a + X.length + 2)],[]) := by
 have h0 := h.nn
 have hl : (X ++ 13 :: 10 :: Y).length = X.length + (Y.length + 2) := List.length_append
 have h' : At d a ((X ++ [13]) ++ 10 :: Y) := by rw [List.append_assoc]; exact h
 have hf := h'.find (b := e) (fun q => (List.mem_append.mp q).elim hx (fun q => by cases q with | tail _ q => exact nM q)) (by rw [List.append_assoc]; exact he)
 have hX : (X ++ [13]).length = X.length + 1 := List.length_append
 have := line_at1 (n := n) (d := d) (a := a) (e := e) (a + (X ++ [13]).length) ⟨h0,by lia⟩ hf (by lia) (by lia) (by
  rw [hX,show a + ((X.length + 1 : Nat) : Int) - 1 = a + X.length by lia]
  exact h.right.idx)
 rw [hX,show a + ((X.length + 1 : Nat) : Int) - 1 = a + X.length by lia,show a + ((X.length + 1 : Nat) : Int) + 1 = a + X.length + 2 by lia] at this
 exact this
theorem colon_ok (h : At d a (X ++ 58 :: Y)) (hx : (58 : UInt8) ∉ X) (he : e = a + (X ++ 58 :: Y).length) (hn : ∀ n,mcall text (n+1) 13 [.bytes X] [] = some (.bool true,[])) : mcall text (n+2) 14 [.bytes d,.int a,.int e] [] = some (.int (a + X.length),[]) := by
 have h0 := h.nn
 have hf := h.find hx he
 have g : 0 ≤ a ∧ 0 ≤ e := ⟨h0,by lia⟩
 have h1 : pyFind d [58] (some a) (some e) ≥ 0 := by lia
 have hs : ∀ mh,sliceV false mh (.bytes d) (.int a) (.int (pyFind d [58] (some a) (some e))) = some (.bytes X,mh) := fun mh => p_slice h.left (by rw [hf])
 rw [← hf]
 exact mc0 (r := f14) rfl rfl rfl (xc (xa (e_bmeth (el (by rfl)) (by trivial) (ec rfl (ec (el (by rfl)) (ec (el (by rfl)) rfl))) (by trivial)) (gn (by rfl) (by rfl))) (xl (xr (e_iteT (t_and (all_t (tv rfl (em (el (by rfl)) rfl (by trivial)) (by rfl)) (by trivial) (all_t (tv rfl (eK (ec (e_slice (el (by rfl)) (el (by rfl)) (el (by rfl)) (by exact hs _)) rfl) (by exact c_clo rfl (hn _))) (by rfl)) (by trivial) rfl))) (by trivial) (el (by rfl)))))) rfl
theorem field_init {x y : By} : mcall text (n+1) 10 [.ref 0,.bytes x,.bytes y] [.ins 1 [] []] = some (.none,[.ins 1 [5,6] [.bytes x,.bytes y]]) :=
 mcN (r := f10) rfl rfl (xc (xa (el (by rfl)) (g_attr (el (by rfl)) (by rfl) (by trivial) (by rfl) (by rfl))) (xc (xa (el (by rfl)) (g_attr (el (by rfl)) (by rfl) (by trivial) (by rfl) (by rfl))) rfl)) (by exact fin_one (o := .ins 1 [5,6] [.bytes x,.bytes y]) rfl)
end
structure Rw where
 nm : By
 l1 : By
 tl : Option By
noncomputable def tlT : Option By → By
 | none => []
 | some c => c ++ [13,10]
noncomputable def tlR : Option By → By
 | none => []
 | some c => 13 :: 10 :: c
noncomputable def rowT (r : Rw) : By := (r.nm ++ 58 :: r.l1) ++ 13 :: 10 :: tlT r.tl
noncomputable def rawT (r : Rw) : By := r.l1 ++ tlR r.tl
structure RwOk (r : Rw) : Prop where
 l1 : (10 : UInt8) ∉ r.nm ++ 58 :: r.l1
 co : (58 : UInt8) ∉ r.nm
 hd : ∃ z Z',r.nm = z :: Z' ∧ ([32,9] : List Int).contains (z.toNat : Int) = false
 nm : ∀ n,mcall text (n+1) 13 [.bytes r.nm] [] = some (.bool true,[])
 tl : ∀ c,r.tl = some c → (10 : UInt8) ∉ c ∧ ∃ w c',c = w :: c' ∧ ([32,9] : List Int).contains (w.toNat : Int) = true
noncomputable def Nxt (Z : By) : Prop := ∃ z Z',Z = z :: Z' ∧ ([32,9] : List Int).contains (z.toNat : Int) = false
noncomputable def field (r : Rw) : MV := .ins 1 [5,6] [.bytes r.nm,.bytes (rawT r)]
noncomputable def spansR (a : Int) : List Rw → List MV
 | [] => []
 | r :: rs => .tup [field r,.int a,.int (a + (rowT r).length)] :: spansR (a + (rowT r).length) rs
noncomputable def rowsT : List Rw → By
 | [] => []
 | r :: rs => rowT r ++ rowsT rs
noncomputable def headT (rs : List Rw) : By := rowsT rs ++ [13,10]
noncomputable abbrev OV := Option MV
section
variable {d X Y Z : By} {a e : Int} {n : Nat}
noncomputable abbrev rsV (d : By) (a0 e0 : MV) (e a : Int) (x y z : OV) : List OV := [some (.bytes d),some a0,some e0,some (.int e),some (.ref 0),some (.int a),x,y,z]
theorem tail_ok {r : Rw} {acc : List MV} {a0 e0 : MV} {here l0 : Int} {z : OV} (ok : RwOk r) (h : At d a (tlT r.tl ++ Z)) (hz : Nxt Z) (he : e = a + (tlT r.tl ++ Z).length) :
  ∃ l1 : Int,(l1 = (match r.tl with | none => l0 | some c => a + c.length)) ∧ loopW (fun s => evalT text (mcall text (n+1)) s.1 s.2 (.and [(.cmp .Lt (.loc 7) (.loc 3)),(.cmp .In (.sub (.loc 0) (.loc 7)) (.glo 1))])) (fun s => execB text (mcall text (n+1)) s [(.assign (.tup [(.name 6),(.name 7)]) (.call 12 [(.loc 0),(.loc 7),(.loc 3)]))]) LIM
   (rsV d a0 e0 e here (some (.int l0)) (some (.int a)) z,[.lst acc]) = some (.next,(rsV d a0 e0 e here (some (.int l1)) (some (.int (a + (tlT r.tl).length))) z,[MO.lst acc])) := by
 have step : ∀ {l0 a : Int} {k : Nat},At d a Z → e = a + Z.length → loopW (fun s => evalT text (mcall text (n+1)) s.1 s.2 (.and [(.cmp .Lt (.loc 7) (.loc 3)),(.cmp .In (.sub (.loc 0) (.loc 7)) (.glo 1))])) (fun s => execB text (mcall text (n+1)) s [(.assign (.tup [(.name 6),(.name 7)]) (.call 12 [(.loc 0),(.loc 7),(.loc 3)]))]) (k+1)
   (rsV d a0 e0 e here (some (.int l0)) (some (.int a)) z,[.lst acc]) = some (.next,(rsV d a0 e0 e here (some (.int l0)) (some (.int a)) z,[.lst acc])) := by
  intro l0 a k h he
  obtain ⟨z0,Z',rfl,hz⟩ := hz
  have hlt : a < e := by rw [he,List.length_cons]; lia
  refine loopW_succ.trans (br_f (c := false) (b := [MO.lst acc]) (t_and (all_t (tv rfl (em (el (by rfl)) (el (by rfl)) (by trivial)) (by rfl)) (by trivial) (all_f (tv rfl (em (eu (el (by rfl)) (el (by rfl)) (by trivial)) rfl (by trivial)) (by rfl)) (by trivial)))) rfl rfl)
 match hr : r.tl with
 | none =>
  rw [hr] at h he
  refine ⟨l0,rfl,?_⟩
  show _ = some (Fl.next,(rsV d a0 e0 e here (some (.int l0)) (some (.int (a + (0 : Int)))) z,[MO.lst acc]))
  rw [Int.add_zero]
  exact step h he
 | some c =>
  rw [hr] at h he
  obtain ⟨hc,w,c',rfl,hw⟩ := ok.tl c hr
  have h1 : At d a ((w :: c') ++ 13 :: 10 :: Z) := by
   have := h; unfold tlT at this; rw [List.append_assoc] at this; exact this
  have he1 : e = a + ((w :: c') ++ 13 :: 10 :: Z).length := by
   rw [he]; unfold tlT; rw [List.append_assoc]; rfl
  have hlt : a < e := by rw [he1,List.cons_append,List.length_cons]; lia
  have hl : (tlT (some (w :: c'))).length = (w :: c').length + 2 := by unfold tlT; rw [List.length_append]; rfl
  have h2 := h.right; rw [hl] at h2
  have hi : At d a (w :: (c' ++ 13 :: 10 :: Z)) := h1
  have ln := line_crlf (n := n) h1 hc he1
  refine ⟨_,rfl,?_⟩
  refine (loopW_succ (n := 1048575)).trans (br_t (c := true) (b := [MO.lst acc]) (t_and (all_t (tv rfl (em (el (by rfl)) (el (by rfl)) (by trivial)) (by rfl)) (by trivial) (all_t (tv rfl (em (eu (el (by rfl)) (el (by rfl)) (by trivial)) rfl (by trivial)) (by rfl)) (by trivial) rfl))) rfl (bd_k (xc (xa (eK (ec (el (by rfl)) (ec (el (by rfl)) (ec (el (by rfl)) rfl))) (by exact c_clo rfl ln)) (g_tup (gc (gn (by rfl) (by rfl)) (gc (gn (by rfl) (by rfl)) gs_nil)))) rfl) ?_))
  rw [hl]
  have := step (l0 := a + (w :: c').length) (a := a + ((w :: c').length + 2 : Nat)) (k := 1048574) h2 (by rw [he,List.length_append,hl]; lia)
  rw [show a + (((w :: c').length + 2 : Nat) : Int) = a + (w :: c').length + 2 by lia] at this ⊢
  exact this
theorem At.cast {W' : By} (h : At d a W) (q : W = W') : At d a W' := q ▸ h
noncomputable abbrev rsT : ME := .cmp .Lt (.loc 5) (.loc 3)
noncomputable abbrev rsB : List MS := (f15.body[3]?.getD MS.fail).blk
theorem row_ok {r : Rw} {acc : List MV} {a0 e0 : MV} {x y z : OV} (ok : RwOk r) (h : At d a (rowT r ++ Z)) (hz : Nxt Z) (he : e = a + (rowT r ++ Z).length) (hl : acc.length < LIM) :
  ∃ x' y' z',execB text (mcall text (n+2)) (rsV d a0 e0 e a x y z,[.lst acc]) rsB = some (.next,(rsV d a0 e0 e (a + (rowT r).length) x' y' z',[.lst (acc ++ [.tup [field r,.int a,.int (a + (rowT r).length)]])])) := by
 have hX : (r.nm ++ 58 :: r.l1).length = r.nm.length + (r.l1.length + 1) := List.length_append
 have hR : (rowT r).length = r.nm.length + (r.l1.length + 1) + 2 + (tlT r.tl).length := by
  unfold rowT; rw [List.length_append,hX,List.length_cons,List.length_cons]; lia
 have h1 : At d a ((r.nm ++ 58 :: r.l1) ++ 13 :: 10 :: (tlT r.tl ++ Z)) := h.cast (by unfold rowT; simp only [List.append_assoc,List.cons_append])
 have hL : (rowT r ++ Z).length = (rowT r).length + Z.length := List.length_append
 have ln := line_crlf (n := n + 1) h1 ok.l1 (e := e) (by rw [he]; simp only [hR,List.length_append,List.length_cons]; lia)
 have co := colon_ok (n := n) (Y := r.l1) h1.left ok.co rfl ok.nm
 have ne : ¬ a + ((r.nm ++ 58 :: r.l1).length : Int) = a := by rw [hX]; lia
 have nn := h.nn
 have nl : ¬ a + (r.nm.length : Int) < 0 := by lia
 have h2 : At d (a + (r.nm ++ 58 :: r.l1).length + 2) (tlT r.tl ++ Z) := by
  have := h1.right.tail.tail
  rw [show a + ((r.nm ++ 58 :: r.l1).length : Int) + 1 + 1 = a + ((r.nm ++ 58 :: r.l1).length : Int) + 2 by lia] at this
  exact this
 obtain ⟨l1,hl1,tl⟩ := tail_ok (n := n + 1) (acc := acc) (a0 := a0) (e0 := e0) (here := a) (l0 := a + (r.nm ++ 58 :: r.l1).length) (z := some (.int (a + r.nm.length))) (e := e) ok h2 hz (by rw [he]; simp only [hR,List.length_append,List.length_cons]; lia)
 have s1 : ∀ mh,sliceV false mh (.bytes d) (.int a) (.int (a + r.nm.length)) = some (.bytes r.nm,mh) := fun mh => p_slice (h1.left.left) rfl
 have h3 : At d (a + r.nm.length + 1) (r.l1 ++ 13 :: 10 :: (tlT r.tl ++ Z)) := by
  have : At d a (r.nm ++ 58 :: (r.l1 ++ 13 :: 10 :: (tlT r.tl ++ Z))) := h1.cast (by simp only [List.append_assoc,List.cons_append])
  exact this.right.tail
 have s2 : ∀ mh,sliceV false mh (.bytes d) (.int (a + r.nm.length + 1)) (.int l1) = some (.bytes (rawT r),mh) := fun mh => by
  cases hr : r.tl with
  | none =>
   rw [hr] at hl1
   unfold rawT; rw [hr]
   refine p_slice (h3.left.cast (List.append_nil _).symm) ?_
   rw [hl1]
   show a + ((r.nm ++ 58 :: r.l1).length : Int) = a + r.nm.length + 1 + ((r.l1 ++ []).length : Int)
   rw [hX,List.append_nil]; lia
  | some c =>
   rw [hr] at hl1 h3
   unfold rawT; rw [hr]
   refine p_slice (W := r.l1 ++ 13 :: 10 :: c) (At.left (Y := [13,10] ++ Z) (h3.cast ?_)) ?_
   ·unfold tlT; simp only [List.append_assoc,List.cons_append,List.nil_append]
   ·rw [hl1]
    show a + ((r.nm ++ 58 :: r.l1).length : Int) + 2 + (c.length : Int) = a + r.nm.length + 1 + ((r.l1 ++ 13 :: 10 :: c).length : Int)
    rw [hX,List.length_append,List.length_cons,List.length_cons]; lia
 refine ⟨some (.int l1),some (.int (a + (r.nm ++ 58 :: r.l1).length + 2 + (tlT r.tl).length)),some (.int (a + r.nm.length)),?_⟩
 rw [show a + ((rowT r).length : Int) = a + ((r.nm ++ 58 :: r.l1).length : Int) + 2 + ((tlT r.tl).length : Int) by rw [hR,hX]; lia]
 exact (xc (xa (eK (ec (el (by rfl)) (ec (el (by rfl)) (ec (el (by rfl)) rfl))) (by exact c_clo rfl ln)) (g_tup (gc (gn (by rfl) (by rfl)) (gc (gn (by rfl) (by rfl)) gs_nil)))) (xc (x_ifF (tv rfl (em (el (by rfl)) (el (by rfl)) (by trivial)) (by rfl)) (by trivial) rfl) (xc (xa (eK (ec (el (by rfl)) (ec (el (by rfl)) (ec (el (by rfl)) rfl))) (by exact c_clo rfl co)) (gn (by rfl) (by rfl))) (xc (x_ifF (tv rfl (em (el (by rfl)) rfl (by trivial)) (by rfl)) (by trivial) rfl) (xc (execS_while.trans (by exact tl)) (xc (x_expr (e_bmeth (el (by rfl)) (by trivial) (ec (et (ec (e_make (ec (e_slice (el (by rfl)) (el (by rfl)) (el (by rfl)) (by exact s1 _)) (ec (e_slice (el (by rfl)) (eb (el (by rfl)) rfl (by trivial)) (el (by rfl)) (by exact s2 _)) rfl)) (by exact make_frozen rfl rfl rfl field_init rfl)) (ec (el (by rfl)) (ec (el (by rfl)) rfl)))) rfl) (by trivial)) (by rfl)) (xc (xa (el (by rfl)) (gn (by rfl) (by rfl))) rfl)))))))
theorem nxt_rows {rs : List Rw} (ok : ∀ r ∈ rs,RwOk r) : Nxt (headT rs ++ Z) := by
 induction rs using List.casesOn with
 | nil => exact ⟨13,10 :: Z,rfl,rfl⟩
 | cons r rs =>
  obtain ⟨z,Z',h,q⟩ := (ok r (.head _)).hd
  refine ⟨z,Z' ++ 58 :: r.l1 ++ 13 :: 10 :: tlT r.tl ++ rowsT rs ++ [13,10] ++ Z,?_,q⟩
  show rowT r ++ rowsT rs ++ [13,10] ++ Z = _
  unfold rowT; rw [h]; rfl
theorem spans_loop {a0 e0 : MV} : ∀ {rs : List Rw} {a : Int} {acc : List MV} {k : Nat} {x y z : OV},(∀ r ∈ rs,RwOk r) → At d a (headT rs ++ Z) → e = a + (headT rs ++ Z).length → acc.length + rs.length < LIM →
  ∃ v',loopW (fun s => evalT text (mcall text (n+2)) s.1 s.2 rsT) (fun s => execB text (mcall text (n+2)) s rsB) (rs.length + 1 + k) (rsV d a0 e0 e a x y z,[.lst acc]) = some (.ret (.tup [.ref 0,.int (a + (headT rs).length)]),(v',[.lst (acc ++ spansR a rs)]))
 | [],a,acc,k,x,y,z,ok,h,he,hl => by
  have hlt : a < e := by rw [he,show headT [] ++ Z = 13 :: 10 :: Z from rfl,List.length_cons]; lia
  have ln := line_crlf (n := n + 1) (X := []) (Y := Z) h (fun q => by exact nM q) he
  rw [show a + (([] : By).length : Int) = a from Int.add_zero a] at ln
  have hq : a = a := rfl
  rw [show acc ++ spansR a [] = acc from List.append_nil _,show ([] : List Rw).length + 1 + k = k + 1 from Nat.add_comm _ _]
  exact ⟨_,loopW_succ.trans (br_t (c := decide (a < e)) (b := [MO.lst acc]) (tv rfl (em (el (by rfl)) (el (by rfl)) (by trivial)) (by rfl)) (decide_eq_true hlt) (bd_k (xc (xa (eK (ec (el (by rfl)) (ec (el (by rfl)) (ec (el (by rfl)) rfl))) (by exact c_clo rfl ln)) (g_tup (gc (gn (by rfl) (by rfl)) (gc (gn (by rfl) (by rfl)) gs_nil)))) (xl (x_ifT (tv rfl (em (el (by rfl)) (el (by rfl)) (by trivial)) (by rfl)) (by trivial) (xl (xr (et (ec (el (by rfl)) (ec (el (by rfl)) rfl)))))))) rfl))⟩
 | r :: rs,a,acc,k,x,y,z,ok,h,he,hl => by
  have hh : headT (r :: rs) ++ Z = rowT r ++ (headT rs ++ Z) := by unfold headT; rw [show rowsT (r :: rs) = rowT r ++ rowsT rs from rfl,List.append_assoc,List.append_assoc,List.append_assoc]
  rw [hh] at h he
  have hlt : a < e := by rw [he]; unfold rowT; simp only [List.length_append,List.length_cons]; lia
  obtain ⟨x',y',z',hb⟩ := row_ok (n := n) (acc := acc) (a0 := a0) (e0 := e0) (x := x) (y := y) (z := z) (ok r (.head _)) h (nxt_rows fun r h => ok r (.tail _ h)) he (by rw [List.length_cons] at hl; lia)
  obtain ⟨v',ih⟩ := spans_loop (a0 := a0) (e0 := e0) (rs := rs) (k := k) (acc := acc ++ [.tup [field r,.int a,.int (a + (rowT r).length)]]) (x := x') (y := y') (z := z') (fun r h => ok r (.tail _ h)) h.right (by rw [he,List.length_append]; lia) (by rw [List.length_append]; rw [List.length_cons] at hl; exact (show acc.length + 1 + rs.length < LIM by lia))
  refine ⟨v',?_⟩
  rw [show (r :: rs).length + 1 + k = (rs.length + 1 + k) + 1 by rw [List.length_cons]; lia]
  refine loopW_succ.trans (br_t (c := decide (a < e)) (b := [MO.lst acc]) (tv rfl (em (el (by rfl)) (el (by rfl)) (by trivial)) (by rfl)) (decide_eq_true hlt) (bd_k hb (ih.trans ?_)))
  rw [List.append_assoc]
  have : a + ((rowT r).length : Int) + ((headT rs).length : Int) = a + ((headT (r :: rs)).length : Int) := by
   unfold headT; rw [show rowsT (r :: rs) = rowT r ++ rowsT rs from rfl,List.length_append,List.length_append,List.length_append]; lia
  rw [this]; rfl
theorem spansR_closed : ∀ {rs : List Rw} {a : Int},cL (spansR a rs) = true
 | [],_ => rfl
 | _ :: rs,a => Bool.and_eq_true_iff.mpr ⟨rfl,spansR_closed⟩
theorem fin_tup1 {l : List MV} {v : MV} (hc : cL l = true) (hv : cB v = true) : finish false 0 (.tup [.ref 0,v]) [.lst l] = some (.tup [.lst l,v],[]) :=
 fin_gen (mh := [.lst l]) rfl (cf_k rfl (bo_k (bo_k (frz_lst (Nat.lt_irrefl 0) Nat.zero_ne_one rfl hc) (bo_k (bo_k (frz_closed hv) rfl) rfl)) rfl))
theorem read_spans {rs : List Rw} (ok : ∀ r ∈ rs,RwOk r) (h : At d a (headT rs ++ Z)) (he : e = a + (headT rs ++ Z).length) (hl : rs.length < 1000) :
  mcall text (n+3) 15 [.bytes d,.int a,.int e] [] = some (.tup [.lst (spansR a rs),.int (a + (headT rs).length)],[]) := by
 have h0 := h.nn
 have he0 : ¬ e < 0 := by lia
 obtain ⟨v',lp⟩ := spans_loop (n := n) (a0 := .int a) (e0 := .int e) (acc := []) (k := LIM - (rs.length + 1)) (x := none) (y := none) (z := none) ok h he (by show 0 + rs.length < 1048576; lia)
 rw [show rs.length + 1 + (LIM - (rs.length + 1)) = LIM by unfold LIM; lia] at lp
 exact mc (r := f15) rfl rfl (xc (xa (e_iteF (tv rfl (em (el (by rfl)) rfl (by trivial)) (by rfl)) (by trivial) (el (by rfl))) (gn (by rfl) (by rfl))) (xc (xa (e_lstT rfl) (gn (by rfl) (by rfl))) (xc (xa (el (by rfl)) (gn (by rfl) (by rfl))) (xl (execS_while.trans (by exact lp)))))) (by exact fin_tup1 spansR_closed rfl)
theorem comp_fields {C : Callee} {caps : List OV} {mh : MH} : ∀ {rs : List Rw} {a : Int},compGo (fun vs mh => brB (allT text C vs mh []) (fun mh => bd (evalE text C vs mh (.sub (.loc 0) (.int 0))) fun y mh => some (some y,mh)) fun mh => some (none,mh)) 1 caps (spansR a rs) mh = some (rs.map field,mh)
 | [],_ => rfl
 | r :: rs,a => bo_k rfl (bd_k (a := some (field r)) (b := mh) rfl (bd_k comp_fields rfl))
theorem spansR_len : ∀ {rs : List Rw} {a : Int},(spansR a rs).length = rs.length
 | [],_ => rfl
 | _ :: _,_ => congrArg (· + 1) spansR_len
theorem fields_closed {rs : List Rw} : cL (rs.map field) = true := closedL_map fun O => rfl
theorem read_fields {rs : List Rw} (ok : ∀ r ∈ rs,RwOk r) (h : At d a (headT rs ++ Z)) (he : e = a + (headT rs ++ Z).length) (hl : rs.length < 1000) :
  mcall text (n+4) 16 [.bytes d,.int a,.int e] [] = some (.tup [.lst (rs.map field),.int (a + (headT rs).length)],[]) := by
 have hs := read_spans (n := n) ok h he hl
 have hL : (spansR a rs).length ≤ LIM := by rw [spansR_len]; unfold LIM; lia
 exact mc0 (r := f16) rfl rfl rfl (xc (xa (eK (ec (el (by rfl)) (ec (el (by rfl)) (ec (el (by rfl)) rfl))) (by exact c_clo rfl hs)) (g_tup (gc (gn (by rfl) (by rfl)) (gc (gn (by rfl) (by rfl)) gs_nil)))) (xl (xr (et (ec (e_comp (el (by rfl)) (by rfl) (by trivial) (by exact comp_fields)) (ec (el (by rfl)) rfl)))))) (by exact Bool.and_eq_true_iff.mpr ⟨fields_closed,rfl⟩)
end
end
section
noncomputable abbrev Ln := By × Bool
noncomputable def nlT (b : Bool) : By := if b then [10] else [13,10]
noncomputable def lnT (l : Ln) : By := l.1 ++ nlT l.2
noncomputable def lT : List Ln → By
 | [] => []
 | l :: L => lnT l ++ lT L
noncomputable def LnOk (l : Ln) : Prop := (10 : UInt8) ∉ l.1 ∧ (l.2 = true → l.1 = [99])
theorem linesT_app : ∀ {L M : List Ln},lT (L ++ M) = lT L ++ lT M
 | [],_ => rfl
 | l :: L,M => by show lnT l ++ lT (L ++ M) = lnT l ++ lT L ++ lT M; rw [linesT_app,List.append_assoc]
noncomputable def spanL (a : Int) (l : Ln) : MV := .tup [.int a,.int (a + l.1.length),.int (a + (lnT l).length)]
noncomputable def spansL (a : Int) : List Ln → List MV
 | [] => []
 | l :: L => spanL a l :: spansL (a + (lnT l).length) L
theorem spansL_app : ∀ {L M : List Ln} {a : Int},spansL a (L ++ M) = spansL a L ++ spansL (a + (lT L).length) M
 | [],M,a => by rw [show a + ((lT []).length : Int) = a from Int.add_zero a]; rfl
 | l :: L,M,a => by
  show spanL a l :: spansL _ (L ++ M) = spanL a l :: (spansL _ L ++ _)
  rw [spansL_app,show a + ((lnT l).length : Int) + ((lT L).length : Int) = a + ((lT (l :: L)).length : Int) by
   rw [show lT (l :: L) = lnT l ++ lT L from rfl,List.length_append]; lia]
theorem spansL_closed : ∀ {L : List Ln} {a : Int},cL (spansL a L) = true
 | [],_ => rfl
 | _ :: L,a => Bool.and_eq_true_iff.mpr ⟨rfl,spansL_closed⟩
section
variable {d X Y Z : By} {a e : Int} {n : Nat}
noncomputable abbrev lsV (d : By) (a0 e0 : MV) (e a : Int) (x y : OV) : List OV := [some (.bytes d),some a0,some e0,some (.int e),some (.ref 0),some (.int a),x,y]
noncomputable abbrev lsB : List MS := (f9.body[3]?.getD MS.fail).blk
noncomputable abbrev lsT : ME := .cmp .Lt (.loc 5) (.loc 3)
noncomputable abbrev lsLoop (n : Nat) := loopW (fun s => evalT text (mcall text n) s.1 s.2 lsT) (fun s => execB text (mcall text n) s lsB)
theorem ls_crlf {acc : List MV} {a0 e0 : MV} {x y : OV} {s : Int} (g : 0 ≤ a ∧ 0 ≤ e) (hs : pyFind d [10] (some a) (some e) = s) (h : ¬ s < 0) (h1 : s > a) (h2 : At d (s - 1) (13 :: Y)) (hl : acc.length < LIM) :
  execB text (mcall text n) (lsV d a0 e0 e a x y,[.lst acc]) lsB = some (.next,(lsV d a0 e0 e (s + 1) (some (.int s)) (some (.int (s - 1))),[.lst (acc ++ [.tup [.int a,.int (s - 1),.int (s + 1)]])])) := by
 subst hs
 exact (xc (xa (e_bmeth (el (by rfl)) (by trivial) (ec rfl (ec (el (by rfl)) (ec (el (by rfl)) rfl))) (by trivial)) (gn (by rfl) (by rfl))) (xc (x_ifF (tv rfl (em (el (by rfl)) rfl (by trivial)) (by rfl)) (by trivial) rfl) (xc (xa (e_iteT (t_and (all_t (tv rfl (em (el (by rfl)) (el (by rfl)) (by trivial)) (by rfl)) (by trivial) (all_t (tv rfl (em (eu (el (by rfl)) (eb (el (by rfl)) rfl (by trivial)) (by trivial)) rfl (by trivial)) (by rfl)) (by trivial) rfl))) (by trivial) (eb (el (by rfl)) rfl (by trivial))) (gn (by rfl) (by rfl))) (xc (x_expr (e_bmeth (el (by rfl)) (by trivial) (ec (et (ec (el (by rfl)) (ec (el (by rfl)) (ec (eb (el (by rfl)) rfl (by trivial)) rfl)))) rfl) (by trivial)) (by rfl)) (xc (xa (eb (el (by rfl)) rfl (by trivial)) (gn (by rfl) (by rfl))) rfl)))))
theorem ls_lf {acc : List MV} {a0 e0 : MV} {x y : OV} {s : Int} (g : 0 ≤ a ∧ 0 ≤ e) (hs : pyFind d [10] (some a) (some e) = s) (h : ¬ s < 0) (h1 : s > a) (h2 : At d (s - 1) (99 :: Y)) (hl : acc.length < LIM) :
  execB text (mcall text n) (lsV d a0 e0 e a x y,[.lst acc]) lsB = some (.next,(lsV d a0 e0 e (s + 1) (some (.int s)) (some (.int s)),[.lst (acc ++ [.tup [.int a,.int s,.int (s + 1)]])])) := by
 subst hs
 exact (xc (xa (e_bmeth (el (by rfl)) (by trivial) (ec rfl (ec (el (by rfl)) (ec (el (by rfl)) rfl))) (by trivial)) (gn (by rfl) (by rfl))) (xc (x_ifF (tv rfl (em (el (by rfl)) rfl (by trivial)) (by rfl)) (by trivial) rfl) (xc (xa (e_iteF (t_and (all_t (tv rfl (em (el (by rfl)) (el (by rfl)) (by trivial)) (by rfl)) (by trivial) (all_f (tv rfl (em (eu (el (by rfl)) (eb (el (by rfl)) rfl (by trivial)) (by trivial)) rfl (by trivial)) (by rfl)) (by trivial)))) (by trivial) (el (by rfl))) (gn (by rfl) (by rfl))) (xc (x_expr (e_bmeth (el (by rfl)) (by trivial) (ec (et (ec (el (by rfl)) (ec (el (by rfl)) (ec (eb (el (by rfl)) rfl (by trivial)) rfl)))) rfl) (by trivial)) (by rfl)) (xc (xa (eb (el (by rfl)) rfl (by trivial)) (gn (by rfl) (by rfl))) rfl)))))
theorem ls_step {l : Ln} {acc : List MV} {a0 e0 : MV} {x y : OV} (ok : LnOk l) (h : At d a (lnT l ++ Z)) (he : e = a + (lnT l ++ Z).length) (hl : acc.length < LIM) :
  ∃ x' y',execB text (mcall text n) (lsV d a0 e0 e a x y,[.lst acc]) lsB = some (.next,(lsV d a0 e0 e (a + (lnT l).length) x' y',[.lst (acc ++ [spanL a l])])) := by
 have h0 := h.nn
 obtain ⟨c,b⟩ := l
 induction b using Bool.casesOn with
 | false =>
  have h1 : At d a ((c ++ [13]) ++ 10 :: Z) := h.cast (by show c ++ [13,10] ++ Z = _; simp only [List.append_assoc,List.cons_append,List.nil_append])
  have hn : (10 : UInt8) ∉ c ++ [13] := fun q => (List.mem_append.mp q).elim ok.1 (fun q => by cases q with | tail _ q => exact nM q)
  have hX : (c ++ [13]).length = c.length + 1 := List.length_append
  have hL : (lnT (c,false)).length = c.length + 2 := List.length_append
  have hf := h1.find (b := e) hn (by rw [he]; simp only [List.length_append,hL,List.length_cons,List.length_nil]; lia)
  have h2 : At d (a + c.length) (13 :: (10 :: Z)) := At.right (h1.cast (by simp only [List.append_assoc,List.cons_append,List.nil_append]))
  have hf : pyFind d [10] (some a) (some e) = a + c.length + 1 := by rw [hf,hX]; lia
  have q1 : a + (c.length : Int) + 1 - 1 = a + c.length := by lia
  have q2 : a + (c.length : Int) + 1 + 1 = a + (lnT (c,false)).length := by lia
  have := ls_crlf (n := n) (e := e) (acc := acc) (a0 := a0) (e0 := e0) (x := x) (y := y) (Y := 10 :: Z) ⟨h0,by lia⟩ hf (by lia) (by lia) (by rw [q1]; exact h2) hl
  rw [q1,q2] at this
  exact ⟨_,_,this⟩
 | true =>
  obtain rfl : c = [99] := ok.2 rfl
  have h1 : At d a ([99] ++ 10 :: Z) := h
  have hf := h1.find (b := e) (fun q => by cases q with | tail _ q => exact nM q) he
  have := ls_lf (n := n) (e := e) (acc := acc) (a0 := a0) (e0 := e0) (x := x) (y := y) (Y := 10 :: Z) ⟨h0,by lia⟩ hf (by lia) (by show a + ((1 : Nat) : Int) > a; lia) (by show At d (a + ((1 : Nat) : Int) - 1) _; rw [show a + ((1 : Nat) : Int) - 1 = a by lia]; exact h1) hl
  rw [show a + (([99] : By).length : Int) + 1 = a + (lnT ([99],true)).length by show a + ((1 : Nat) : Int) + 1 = a + ((2 : Nat) : Int); lia] at this
  exact ⟨_,_,this⟩
theorem lnT_pos {l : Ln} : 0 < (lnT l).length := by
 obtain ⟨c,b⟩ := l
 unfold lnT; rw [List.length_append]
 induction b using Bool.casesOn with
 | true => exact Nat.lt_of_lt_of_le (show 0 < ([10] : By).length from Nat.zero_lt_one) (Nat.le_add_left _ _)
 | false => exact Nat.lt_of_lt_of_le (show 0 < ([13,10] : By).length from Nat.zero_lt_two) (Nat.le_add_left _ _)
theorem ls_loop {a0 e0 : MV} : ∀ {L : List Ln} {a : Int} {acc : List MV} {k : Nat} {x y : OV},(∀ l ∈ L,LnOk l) → At d a (lT L ++ Z) → e = a + (lT L ++ Z).length → acc.length + L.length < LIM →
  ∃ x' y',lsLoop n (L.length + k) (lsV d a0 e0 e a x y,[.lst acc]) = lsLoop n k (lsV d a0 e0 e (a + (lT L).length) x' y',[.lst (acc ++ spansL a L)])
 | [],a,acc,k,x,y,ok,h,he,hl => by
  refine ⟨x,y,?_⟩
  rw [show a + ((lT []).length : Int) = a from Int.add_zero a,show acc ++ spansL a [] = acc from List.append_nil _,show ([] : List Ln).length + k = k from Nat.zero_add k]
 | l :: L,a,acc,k,x,y,ok,h,he,hl => by
  rw [show lT (l :: L) = lnT l ++ lT L from rfl,List.append_assoc] at h he
  have hlt : a < e := by rw [he,List.length_append]; have := lnT_pos (l := l); lia
  obtain ⟨x',y',hb⟩ := ls_step (n := n) (acc := acc) (a0 := a0) (e0 := e0) (x := x) (y := y) (ok l (.head _)) h he (by rw [List.length_cons] at hl; lia)
  obtain ⟨x2,y2,ih⟩ := ls_loop (a0 := a0) (e0 := e0) (L := L) (k := k) (acc := acc ++ [spanL a l]) (x := x') (y := y') (fun r h => ok r (.tail _ h)) h.right (by rw [he,List.length_append]; lia) (by rw [List.length_append]; rw [List.length_cons] at hl; exact (show acc.length + 1 + L.length < LIM by lia))
  refine ⟨x2,y2,?_⟩
  rw [show (l :: L).length + k = (L.length + k) + 1 by rw [List.length_cons]; lia]
  refine loopW_succ.trans (br_t (c := decide (a < e)) (b := [MO.lst acc]) (tv rfl (em (el (by rfl)) (el (by rfl)) (by trivial)) (by rfl)) (decide_eq_true hlt) (bd_k hb (ih.trans ?_)))
  rw [List.append_assoc,show a + ((lnT l).length : Int) + ((lT L).length : Int) = a + ((lT (l :: L)).length : Int) by
   rw [show lT (l :: L) = lnT l ++ lT L from rfl,List.length_append]; lia]
  rfl
noncomputable def spansE (a e : Int) (L : List Ln) (r : By) : List MV := spansL a L ++ (match r with | [] => [] | _ :: _ => [.tup [.int (a + (lT L).length),.int e,.int e]])
theorem line_spans {L : List Ln} {r : By} (ok : ∀ l ∈ L,LnOk l) (hr : (10 : UInt8) ∉ r) (h : At d a (lT L ++ r)) (he : e = a + (lT L ++ r).length) (hl : L.length < 100000) :
  mcall text (n+1) 9 [.bytes d,.int a,.int e] [] = some (.lst (spansE a e L r),[]) := by
 have h0 := h.nn
 have he0 : ¬ e < 0 := by lia
 have hm : ¬ (d.length : Int) < e := by
  obtain ⟨P,S,hd,ha⟩ := h
  rw [hd,he,ha]; simp only [List.length_append]; lia
 have hb : bcallV [] .min [.int e,.int d.length] = some (.int e) := by
  show some (MV.int (if (d.length : Int) < e then (d.length : Int) else e)) = _
  rw [if_neg hm]
 have hk : LIM = L.length + ((LIM - L.length - 1) + 1) := by unfold LIM; lia
 obtain ⟨x',y',lp⟩ := ls_loop (n := n) (a0 := .int a) (e0 := .int e) (acc := []) (k := (LIM - L.length - 1) + 1) (x := none) (y := none) ok h he (by show 0 + L.length < 1048576; lia)
 rw [← hk] at lp
 have hr2 := h.right
 have he2 : e = a + (lT L).length + r.length := by rw [he,List.length_append]; lia
 induction r using List.casesOn with
 | nil =>
  have hz : ¬ a + ((lT L).length : Int) < e := by rw [he2]; show ¬ _ < _ + ((0 : Nat) : Int); lia
  have hx := lp.trans (loopW_succ.trans (br_f (c := decide (a + ((lT L).length : Int) < e)) (b := [MO.lst ([] ++ spansL a L)]) (tv rfl (em (el (by rfl)) (el (by rfl)) (by trivial)) (by rfl)) (decide_eq_false hz) rfl))
  rw [show spansE a e L [] = spansL a L from List.append_nil _]
  exact mc (r := f9) rfl rfl (xc (xa (e_iteF (tv rfl (em (el (by rfl)) rfl (by trivial)) (by rfl)) (by trivial) (e_bcall (ec (el (by rfl)) (ec (e_bcall (ec (el (by rfl)) rfl) (by exact rfl)) rfl)) (by exact hb))) (gn (by rfl) (by rfl))) (xc (xa (e_lstT rfl) (gn (by rfl) (by rfl))) (xc (xa (el (by rfl)) (gn (by rfl) (by rfl))) (xc (execS_while.trans (by exact hx)) (xl (xr (el (by rfl)))))))) (by exact fin_lst spansL_closed)
 | cons c r =>
  have hz : a + ((lT L).length : Int) < e := by rw [he2,List.length_cons]; lia
  have hf : pyFind d [10] (some (a + ((lT L).length : Int))) (some e) < 0 := by rw [hr2.findN hr he2]; decide
  have g : 0 ≤ a + ((lT L).length : Int) ∧ 0 ≤ e := ⟨by lia,by lia⟩
  have hq : ([] ++ spansL a L).length < LIM := by
   have : ∀ {L : List Ln} {a : Int},(spansL a L).length = L.length := by
    intro L
    induction L with
    | nil => intro a; rfl
    | cons l L ih => intro a; exact congrArg (· + 1) ih
   rw [List.nil_append,this]; unfold LIM; lia
  have hx := lp.trans (loopW_succ.trans (br_t (c := decide (a + ((lT L).length : Int) < e)) (b := [MO.lst ([] ++ spansL a L)]) (tv rfl (em (el (by rfl)) (el (by rfl)) (by trivial)) (by rfl)) (decide_eq_true hz) (bd_k (xc (xa (e_bmeth (el (by rfl)) (by trivial) (ec rfl (ec (el (by rfl)) (ec (el (by rfl)) rfl))) (by trivial)) (gn (by rfl) (by rfl))) (xl (x_ifT (tv rfl (em (el (by rfl)) rfl (by trivial)) (by rfl)) (by trivial) (xc (x_expr (e_bmeth (el (by rfl)) (by trivial) (ec (et (ec (el (by rfl)) (ec (el (by rfl)) (ec (el (by rfl)) rfl)))) rfl) (by trivial)) (by rfl)) (xl (xr (el (by rfl)))))))) rfl)))
  exact mc (r := f9) rfl rfl (xc (xa (e_iteF (tv rfl (em (el (by rfl)) rfl (by trivial)) (by rfl)) (by trivial) (e_bcall (ec (el (by rfl)) (ec (e_bcall (ec (el (by rfl)) rfl) (by exact rfl)) rfl)) (by exact hb))) (gn (by rfl) (by rfl))) (xc (xa (e_lstT rfl) (gn (by rfl) (by rfl))) (xc (xa (el (by rfl)) (gn (by rfl) (by rfl))) (xl (execS_while.trans (by exact hx)))))) (by exact fin_lst (closedL_app spansL_closed rfl))
noncomputable def Plain (X c : By) : Prop := ¬ c.take (X.length + 2) = 45 :: 45 :: X
theorem pySlice_to {α : Type} {l : List α} {k : Nat} : pySlice l none (some (k : Int)) = l.take k := by
 show (l.drop 0).take (clp l.length (k : Int) - 0) = _
 unfold clp
 rw [if_neg (by lia),Int.toNat_natCast,List.drop_zero,Nat.sub_zero]
 by_cases h : k ≤ l.length
 ·rw [Nat.min_eq_left h]
 ·rw [Nat.min_eq_right (by lia),List.take_length,List.take_of_length_le (by lia)]
theorem way_plain {c : By} (h : Plain X c) (hX : X.length < 1000) : mcall text (n+1) 44 [.bytes c,.bytes X] [] = some (.str [],[]) := by
 have q : ([45,45] : By).length + X.length ≤ LIM := by show 2 + X.length ≤ 1048576; lia
 have t : (!decide (pySlice c none (some (([45,45] ++ X : By).length : Int)) = [45,45] ++ X)) = true := by
  rw [pySlice_to,show ([45,45] ++ X : By).length = X.length + 2 from rfl,show (decide (c.take (X.length + 2) = [45,45] ++ X)) = false from decide_eq_false h]; rfl
 exact mc0 (r := f44) rfl rfl rfl (xc (xa (eb rfl (el (by rfl)) (by trivial)) (gn (by rfl) (by rfl))) (xl (x_ifT (tv rfl (em (e_slice (el (by rfl)) rfl (e_bcall (ec (el (by rfl)) rfl) (by trivial)) (by trivial)) (el (by rfl)) (by trivial)) (by rfl)) (by exact t) (xl (xr rfl))))) rfl
noncomputable abbrev psV (d : By) (a0 e0 : MV) (X : By) (g b : Int) (x y z w : OV) : List OV := [some (.bytes d),some a0,some e0,some (.bytes X),some (.ref 0),some (.int g),some (.int b),x,y,z,w]
noncomputable abbrev psB : List MS := (f45.body[3]?.getD MS.fail).blk
noncomputable abbrev psT : MT := .tup [.name 7,.name 8,.name 9]
noncomputable abbrev psLoop (n : Nat) := loopF (fun v s => storeT text (mcall text n) v s psT) (fun s => execB text (mcall text n) s psB)
section
variable {acc : List MV} {a0 e0 : MV} {x y z w : OV} {g b f l : Int} {c : By}
theorem ps_plain (hs : ∀ mh,sliceV false mh (.bytes d) (.int a) (.int l) = some (.bytes c,mh)) (hw : mcall text n 44 [.bytes c,.bytes X] [] = some (.str [],[])) :
  execB text (mcall text n) (psV d a0 e0 X g b (some (.int a)) (some (.int l)) (some (.int f)) w,[.lst acc]) psB = some (.next,(psV d a0 e0 X g l (some (.int a)) (some (.int l)) (some (.int f)) (some (.str [])),[.lst acc])) :=
 (xc (xa (eK (ec (e_slice (el (by rfl)) (el (by rfl)) (el (by rfl)) (by exact hs _)) (ec (el (by rfl)) rfl)) (by exact c_clo rfl hw)) (gn (by rfl) (by rfl))) (xc (x_ifF (tv rfl (em (el (by rfl)) rfl (by trivial)) (by rfl)) (by trivial) rfl) (xc (xa (el (by rfl)) (gn (by rfl) (by rfl))) rfl)))
theorem ps_first (hs : ∀ mh,sliceV false mh (.bytes d) (.int a) (.int l) = some (.bytes c,mh)) (hw : mcall text n 44 [.bytes c,.bytes X] [] = some (.str [110,101,120,116],[])) :
  execB text (mcall text n) (psV d a0 e0 X (-1) b (some (.int a)) (some (.int l)) (some (.int f)) w,[.lst acc]) psB = some (.next,(psV d a0 e0 X f l (some (.int a)) (some (.int l)) (some (.int f)) (some (.str [110,101,120,116])),[.lst acc])) :=
 (xc (xa (eK (ec (e_slice (el (by rfl)) (el (by rfl)) (el (by rfl)) (by exact hs _)) (ec (el (by rfl)) rfl)) (by exact c_clo rfl hw)) (gn (by rfl) (by rfl))) (xc (x_ifT (tv rfl (em (el (by rfl)) rfl (by trivial)) (by rfl)) (by trivial) (xc (x_ifF (tv rfl (em (el (by rfl)) rfl (by trivial)) (by rfl)) (by trivial) rfl) (xc (x_ifF (tv rfl (em (el (by rfl)) rfl (by trivial)) (by rfl)) (by trivial) rfl) (xc (xa (el (by rfl)) (gn (by rfl) (by rfl))) rfl)))) (xc (xa (el (by rfl)) (gn (by rfl) (by rfl))) rfl)))
theorem p_max {mh : MH} {x y : Int} (h : x ≤ y) : bcallV mh .max [.int x,.int y] = some (.int y) := by
 show some (MV.int (if y > x then y else x)) = _
 by_cases q : y > x
 ·rw [if_pos q]
 ·rw [if_neg q,Int.le_antisymm h (Int.not_lt.mp q)]
theorem ps_next (hs : ∀ mh,sliceV false mh (.bytes d) (.int a) (.int l) = some (.bytes c,mh)) (hw : mcall text n 44 [.bytes c,.bytes X] [] = some (.str [110,101,120,116],[])) (hg : g ≥ 0) (hb : g ≤ b) (hl : acc.length < LIM) :
  execB text (mcall text n) (psV d a0 e0 X g b (some (.int a)) (some (.int l)) (some (.int f)) w,[.lst acc]) psB = some (.next,(psV d a0 e0 X f l (some (.int a)) (some (.int l)) (some (.int f)) (some (.str [110,101,120,116])),[.lst (acc ++ [.tup [.int g,.int b]])])) :=
 (xc (xa (eK (ec (e_slice (el (by rfl)) (el (by rfl)) (el (by rfl)) (by exact hs _)) (ec (el (by rfl)) rfl)) (by exact c_clo rfl hw)) (gn (by rfl) (by rfl))) (xc (x_ifT (tv rfl (em (el (by rfl)) rfl (by trivial)) (by rfl)) (by trivial) (xc (x_ifT (tv rfl (em (el (by rfl)) rfl (by trivial)) (by rfl)) (by trivial) (xc (x_expr (e_bmeth (el (by rfl)) (by trivial) (ec (et (ec (el (by rfl)) (ec (e_bcall (ec (el (by rfl)) (ec (el (by rfl)) rfl)) (by exact p_max hb)) rfl))) rfl) (by trivial)) (by rfl)) rfl)) (xc (x_ifF (tv rfl (em (el (by rfl)) rfl (by trivial)) (by rfl)) (by trivial) rfl) (xc (xa (el (by rfl)) (gn (by rfl) (by rfl))) rfl)))) (xc (xa (el (by rfl)) (gn (by rfl) (by rfl))) rfl)))
theorem ps_last (hs : ∀ mh,sliceV false mh (.bytes d) (.int a) (.int l) = some (.bytes c,mh)) (hw : mcall text n 44 [.bytes c,.bytes X] [] = some (.str [108,97,115,116],[])) (hg : g ≥ 0) (hb : g ≤ b) (hl : acc.length < LIM) :
  execB text (mcall text n) (psV d a0 e0 X g b (some (.int a)) (some (.int l)) (some (.int f)) w,[.lst acc]) psB = some (.ret (.ref 0),(psV d a0 e0 X g b (some (.int a)) (some (.int l)) (some (.int f)) (some (.str [108,97,115,116])),[.lst (acc ++ [.tup [.int g,.int b]])])) :=
 (xc (xa (eK (ec (e_slice (el (by rfl)) (el (by rfl)) (el (by rfl)) (by exact hs _)) (ec (el (by rfl)) rfl)) (by exact c_clo rfl hw)) (gn (by rfl) (by rfl))) (xl (x_ifT (tv rfl (em (el (by rfl)) rfl (by trivial)) (by rfl)) (by trivial) (xc (x_ifT (tv rfl (em (el (by rfl)) rfl (by trivial)) (by rfl)) (by trivial) (xc (x_expr (e_bmeth (el (by rfl)) (by trivial) (ec (et (ec (el (by rfl)) (ec (e_bcall (ec (el (by rfl)) (ec (el (by rfl)) rfl)) (by exact p_max hb)) rfl))) rfl) (by trivial)) (by rfl)) rfl)) (xl (x_ifT (tv rfl (em (el (by rfl)) rfl (by trivial)) (by rfl)) (by trivial) (xl (xr (el (by rfl))))))))))
theorem ps_store {C : Callee} {p q r : MV} {mh : MH} : storeT text C (.tup [p,q,r]) (psV d a0 e0 X g b x y z w,mh) psT = some (psV d a0 e0 X g b (some p) (some q) (some r) w,mh) := rfl
theorem ps_seg : ∀ {L : List Ln} {a : Int} {b : Int} {x y z w : OV},(∀ q ∈ L,mcall text n 44 [.bytes q.1,.bytes X] [] = some (.str [],[])) → At d a (lT L ++ Z) →
  ∃ b' x' y' z' w',psLoop n (spansL a L) (psV d a0 e0 X g b x y z w,[.lst acc]) = some (.next,(psV d a0 e0 X g b' x' y' z' w',[.lst acc]))
 | [],a,b,x,y,z,w,hw,h => ⟨b,x,y,z,w,rfl⟩
 | q :: L,a,b,x,y,z,w,hw,h => by
  have h : At d a (q.1 ++ (nlT q.2 ++ (lT L ++ Z))) := h.cast (by show q.1 ++ nlT q.2 ++ lT L ++ Z = _; simp only [List.append_assoc])
  have hr := h.right.right
  rw [show a + (q.1.length : Int) + ((nlT q.2).length : Int) = a + ((lnT q).length : Int) by rw [show lnT q = q.1 ++ nlT q.2 from rfl,List.length_append]; lia] at hr
  have st := ps_plain (n := n) (a0 := a0) (e0 := e0) (X := X) (g := g) (b := b) (f := a + (lnT q).length) (w := w) (acc := acc) (fun mh => p_slice h.left rfl) (hw q (.head _))
  obtain ⟨b',x',y',z',w',ih⟩ := ps_seg (L := L) (a := a + (lnT q).length) (b := a + q.1.length) (x := some (.int a)) (y := some (.int (a + q.1.length))) (z := some (.int (a + (lnT q).length))) (w := some (.str [])) (fun q h => hw q (.tail _ h)) hr
  exact ⟨b',x',y',z',w',loopF_cons.trans (bo_k ps_store (bd_k st ih))⟩
theorem ps_seg1 {L : List Ln} {r : By} (hw : ∀ q ∈ L,mcall text n 44 [.bytes q.1,.bytes X] [] = some (.str [],[])) (hr : mcall text n 44 [.bytes r,.bytes X] [] = some (.str [],[])) (h : At d a (lT L ++ (r ++ Z))) :
  ∃ x' y' z' w',psLoop n (spansL a (L ++ [(r,false)])) (psV d a0 e0 X g b x y z w,[.lst acc]) = some (.next,(psV d a0 e0 X g (a + (lT L ++ r).length) x' y' z' w',[.lst acc])) := by
 obtain ⟨b',x',y',z',w',h1⟩ := ps_seg (a0 := a0) (e0 := e0) (g := g) (b := b) (x := x) (y := y) (z := z) (w := w) (acc := acc) hw h
 have st := ps_plain (n := n) (a0 := a0) (e0 := e0) (X := X) (g := g) (b := b') (f := a + (lT L).length + (lnT (r,false)).length) (w := w') (acc := acc) (fun mh => p_slice h.right.left rfl) hr
 rw [show a + ((lT L).length : Int) + (r.length : Int) = a + ((lT L ++ r).length : Int) by rw [List.length_append]; lia] at st
 have r1 : spanL (a + ((lT L).length : Int)) (r,false) = .tup [.int (a + (lT L).length),.int (a + (lT L ++ r).length),.int (a + (lT L).length + (lnT (r,false)).length)] := by
  rw [show a + ((lT L ++ r).length : Int) = a + ((lT L).length : Int) + (r.length : Int) by rw [List.length_append]; lia]; rfl
 have key : psLoop n [spanL (a + (lT L).length) (r,false)] (psV d a0 e0 X g b' x' y' z' w',[.lst acc]) = some (.next,(psV d a0 e0 X g (a + (lT L ++ r).length) (some (.int (a + (lT L).length))) (some (.int (a + (lT L ++ r).length))) (some (.int (a + (lT L).length + (lnT (r,false)).length))) (some (.str [])),[.lst acc])) := by
  rw [r1]; exact loopF_cons.trans (bo_k ps_store (bd_k st rfl))
 have := (loopF_app (k := spansL (a + (lT L).length) [(r,false)]) h1).trans key
 rw [← spansL_app] at this
 exact ⟨_,_,_,_,this⟩
end
structure Tx where
 L : List Ln
 r : By
noncomputable def Tx.t (t : Tx) : By := lT t.L ++ t.r
structure Tx.Ok (t : Tx) : Prop where
 L : ∀ l ∈ t.L,LnOk l
 r : (10 : UInt8) ∉ t.r
structure Tx.Pl (X : By) (t : Tx) : Prop where
 L : ∀ l ∈ t.L,Plain X l.1
 r : Plain X t.r
structure MkOk (X : By) : Prop where
 len : X.length < 1000
 next : ∀ n,mcall text (n+1) 44 [.bytes (45 :: 45 :: X),.bytes X] [] = some (.str [110,101,120,116],[])
 last : ∀ n,mcall text (n+1) 44 [.bytes (45 :: 45 :: X ++ [45,45]),.bytes X] [] = some (.str [108,97,115,116],[])
 last' : ∀ n,mcall text (n+1) 44 [.bytes (45 :: 45 :: X ++ [45,45,32]),.bytes X] [] = some (.str [108,97,115,116],[])
noncomputable def kidsT (X : By) (tl : Nat) : Tx → List Tx → Tx
 | k,[] => (match tl with
  | 0 => k
  | 1 => ⟨k.L ++ [(k.r,false)],45 :: 45 :: X ++ [45,45]⟩
  | _ => ⟨k.L ++ [(k.r,false),(45 :: 45 :: X ++ [45,45,32],false)],[112,111,115,116]⟩)
 | k,j :: ks => ⟨k.L ++ (k.r,false) :: (45 :: 45 :: X,false) :: (kidsT X tl j ks).L,(kidsT X tl j ks).r⟩
noncomputable def kidSp (X : By) : Int → Tx → List Tx → List MV
 | a,k,[] => [.tup [.int a,.int (a + k.t.length)]]
 | a,k,j :: ks => .tup [.int a,.int (a + k.t.length)] :: kidSp X (a + k.t.length + 2 + (X.length + 4)) j ks
theorem kidSp_closed {X : By} : ∀ {ks : List Tx} {k : Tx} {a : Int},cL (kidSp X a k ks) = true
 | [],_,_ => rfl
 | _ :: _,_,_ => Bool.and_eq_true_iff.mpr ⟨rfl,kidSp_closed⟩
theorem spansE_app {L M : List Ln} {a e : Int} {r : By} : spansE a e (L ++ M) r = spansL a L ++ spansE (a + (lT L).length) e M r := by
 unfold spansE
 rw [spansL_app,List.append_assoc,linesT_app,show a + ((lT L ++ lT M).length : Int) = a + ((lT L).length : Int) + ((lT M).length : Int) by rw [List.length_append]; lia]
theorem ps_kids {a0 : MV} (mk : MkOk X) {tl : Nat} : ∀ {ks : List Tx} {k : Tx} {a : Int} {acc : List MV} {b : Int} {x y z w : OV},(∀ t ∈ k :: ks,t.Pl X) → At d a (kidsT X tl k ks).t → e = a + (kidsT X tl k ks).t.length → acc.length + ks.length + 1 < LIM →
  ∃ fl s',psLoop (n+1) (spansE a e (kidsT X tl k ks).L (kidsT X tl k ks).r) (psV d a0 (.int e) X a b x y z w,[.lst acc]) = some (fl,s') ∧
   ((fl = .ret (.ref 0) ∧ s'.2 = [.lst (acc ++ kidSp X a k ks)]) ∨ (∃ g b x y z w acc',fl = .next ∧ s' = (psV d a0 (.int e) X g b x y z w,[.lst acc']) ∧ g ≥ 0 ∧ acc'.length < LIM ∧ acc' ++ [.tup [.int g,.int e]] = acc ++ kidSp X a k ks)) := by
 intro ks
 induction ks with
 | nil =>
  intro k a acc b x y z w pl h he hl
  have h0 := h.nn
  have pk := pl k (.head _)
  have hw : ∀ q ∈ k.L,mcall text (n+1) 44 [.bytes q.1,.bytes X] [] = some (.str [],[]) := fun q m => way_plain (pk.L q m) mk.len
  match tl,h,he with
  | 0,h,he =>
   have h' : At d a (lT k.L ++ (k.r ++ [])) := h.cast (by rw [List.append_nil]; rfl)
   obtain ⟨b',x',y',z',w',h1⟩ := ps_seg (n := n + 1) (a0 := a0) (e0 := .int e) (g := a) (b := b) (x := x) (y := y) (z := z) (w := w) (acc := acc) hw h'
   have fin : acc ++ [MV.tup [.int a,.int e]] = acc ++ kidSp X a k [] := by rw [he]; rfl
   show ∃ fl s',psLoop (n+1) (spansL a k.L ++ (match k.r with | [] => [] | _ :: _ => [.tup [.int (a + (lT k.L).length),.int e,.int e]])) _ = some (fl,s') ∧ _
   match hr : k.r with
   | [] => exact ⟨_,_,(loopF_app h1).trans rfl,.inr ⟨_,_,_,_,_,_,_,rfl,rfl,h0,by lia,fin⟩⟩
   | c :: r =>
    have he2 : e = a + ((lT k.L).length : Int) + (k.r.length : Int) := by rw [he]; show a + ((lT k.L ++ k.r).length : Int) = _; rw [List.length_append]; lia
    have st := ps_plain (n := n + 1) (a0 := a0) (e0 := .int e) (X := X) (g := a) (b := b') (f := e) (w := w') (acc := acc) (fun mh => p_slice (h'.right.left) he2) (way_plain pk.r mk.len)
    exact ⟨_,_,(loopF_app h1).trans (loopF_cons.trans (bo_k ps_store (bd_k st rfl))),.inr ⟨_,_,_,_,_,_,_,rfl,rfl,h0,by lia,fin⟩⟩
  | 1,h,he =>
   have hq : (kidsT X 1 k []).t = lT k.L ++ (k.r ++ ([13,10] ++ (45 :: 45 :: X ++ [45,45]))) := by
    show lT (k.L ++ [(k.r,false)]) ++ (45 :: 45 :: X ++ [45,45]) = _
    rw [linesT_app]; show lT k.L ++ (k.r ++ [13,10] ++ []) ++ _ = _; rw [List.append_nil]; simp only [List.append_assoc]
   have h' := h.cast hq
   obtain ⟨x',y',z',w',h1⟩ := ps_seg1 (n := n + 1) (a0 := a0) (e0 := .int e) (g := a) (b := b) (x := x) (y := y) (z := z) (w := w) (acc := acc) hw (way_plain pk.r mk.len) h'
   have hL : ((lT (k.L ++ [(k.r,false)])).length : Int) = (lT k.L).length + k.r.length + 2 := by
    rw [linesT_app]; show ((lT k.L ++ (k.r ++ [13,10] ++ [])).length : Int) = _; simp only [List.length_append,List.length_cons,List.length_nil]; lia
   have h2 : At d (a + (lT (k.L ++ [(k.r,false)])).length) (45 :: 45 :: X ++ [45,45]) := by
    have := h'.right.right.right
    rw [hL,show a + (((lT k.L).length : Int) + (k.r.length : Int) + 2) = a + ((lT k.L).length : Int) + (k.r.length : Int) + (([13,10] : By).length : Int) by show _ = _ + ((2 : Nat) : Int); lia]
    exact this
   have st := ps_last (n := n + 1) (a0 := a0) (e0 := .int e) (X := X) (g := a) (b := a + (lT k.L ++ k.r).length) (f := e) (w := w') (acc := acc) (fun mh => p_slice (b := e) h2 (by rw [he,hq,hL]; simp only [List.length_append,List.length_cons,List.length_nil]; lia)) (mk.last n) h0 (by lia) (by lia)
   exact ⟨_,_,(loopF_app h1).trans (loopF_cons.trans (bo_k ps_store (bd_k st rfl))),.inl ⟨rfl,rfl⟩⟩
  | m + 2,h,he =>
   have hq : (kidsT X (m+2) k []).t = lT k.L ++ (k.r ++ ([13,10] ++ ((45 :: 45 :: X ++ [45,45,32]) ++ ([13,10] ++ [112,111,115,116])))) := by
    show lT (k.L ++ [(k.r,false),(45 :: 45 :: X ++ [45,45,32],false)]) ++ [112,111,115,116] = _
    rw [linesT_app]; show lT k.L ++ (k.r ++ [13,10] ++ ((45 :: 45 :: X ++ [45,45,32]) ++ [13,10] ++ [])) ++ _ = _; rw [List.append_nil]; simp only [List.append_assoc]
   have h' := h.cast hq
   obtain ⟨x',y',z',w',h1⟩ := ps_seg1 (n := n + 1) (a0 := a0) (e0 := .int e) (g := a) (b := b) (x := x) (y := y) (z := z) (w := w) (acc := acc) hw (way_plain pk.r mk.len) h'
   have hL : ((lT (k.L ++ [(k.r,false)])).length : Int) = (lT k.L).length + k.r.length + 2 := by
    rw [linesT_app]; show ((lT k.L ++ (k.r ++ [13,10] ++ [])).length : Int) = _; simp only [List.length_append,List.length_cons,List.length_nil]; lia
   have h2 : At d (a + (lT (k.L ++ [(k.r,false)])).length) (45 :: 45 :: X ++ [45,45,32]) := by
    have := h'.right.right.right.left
    rw [hL,show a + (((lT k.L).length : Int) + (k.r.length : Int) + 2) = a + ((lT k.L).length : Int) + (k.r.length : Int) + (([13,10] : By).length : Int) by show _ = _ + ((2 : Nat) : Int); lia]
    exact this
   have st := ps_last (n := n + 1) (a0 := a0) (e0 := .int e) (X := X) (g := a) (b := a + (lT k.L ++ k.r).length) (f := a + (lT (k.L ++ [(k.r,false)])).length + (lnT (45 :: 45 :: X ++ [45,45,32],false)).length) (w := w') (acc := acc) (fun mh => p_slice h2 rfl) (mk.last' n) h0 (by lia) (by lia)
   have hs : spansE a e (kidsT X (m+2) k []).L (kidsT X (m+2) k []).r = spansL a (k.L ++ [(k.r,false)]) ++ spansE (a + (lT (k.L ++ [(k.r,false)])).length) e [(45 :: 45 :: X ++ [45,45,32],false)] [112,111,115,116] := by
    rw [← spansE_app]; show spansE a e (k.L ++ [(k.r,false),(45 :: 45 :: X ++ [45,45,32],false)]) _ = _; rw [List.append_assoc]; rfl
   rw [hs]
   exact ⟨_,_,(loopF_app h1).trans (loopF_cons.trans (bo_k ps_store (bd_k st rfl))),.inl ⟨rfl,rfl⟩⟩
 | cons j ks ih =>
  intro k a acc b x y z w pl h he hl
  have h0 := h.nn
  have pk := pl k (.head _)
  have hw : ∀ q ∈ k.L,mcall text (n+1) 44 [.bytes q.1,.bytes X] [] = some (.str [],[]) := fun q m => way_plain (pk.L q m) mk.len
  have hq : (kidsT X tl k (j :: ks)).t = lT k.L ++ (k.r ++ ([13,10] ++ ((45 :: 45 :: X) ++ ([13,10] ++ (kidsT X tl j ks).t)))) := by
   show lT (k.L ++ (k.r,false) :: (45 :: 45 :: X,false) :: (kidsT X tl j ks).L) ++ (kidsT X tl j ks).r = _
   rw [linesT_app]; show lT k.L ++ (k.r ++ [13,10] ++ ((45 :: 45 :: X) ++ [13,10] ++ lT (kidsT X tl j ks).L)) ++ _ = _
   unfold Tx.t; simp only [List.append_assoc]
  have h' := h.cast hq
  obtain ⟨x',y',z',w',h1⟩ := ps_seg1 (n := n + 1) (a0 := a0) (e0 := .int e) (g := a) (b := b) (x := x) (y := y) (z := z) (w := w) (acc := acc) hw (way_plain pk.r mk.len) h'
  have hL : ((lT (k.L ++ [(k.r,false)])).length : Int) = (lT k.L).length + k.r.length + 2 := by
   rw [linesT_app]; show ((lT k.L ++ (k.r ++ [13,10] ++ [])).length : Int) = _; simp only [List.length_append,List.length_cons,List.length_nil]; lia
  have e2 : a + (((lT k.L).length : Int) + (k.r.length : Int) + 2) = a + ((lT k.L).length : Int) + (k.r.length : Int) + (([13,10] : By).length : Int) := by show _ = _ + ((2 : Nat) : Int); lia
  have h3 := h'.right.right.right
  rw [← e2,← hL] at h3
  have st := ps_next (n := n + 1) (a0 := a0) (e0 := .int e) (X := X) (g := a) (b := a + (lT k.L ++ k.r).length) (f := a + (lT (k.L ++ [(k.r,false)])).length + (lnT (45 :: 45 :: X,false)).length) (w := w') (acc := acc) (fun mh => p_slice h3.left rfl) (mk.next n) h0 (by lia) (by lia)
  have hm : ((lnT (45 :: 45 :: X,false)).length : Int) = X.length + 4 := by
   show (((45 :: 45 :: X) ++ [13,10] : By).length : Int) = _; simp only [List.length_append,List.length_cons,List.length_nil]; lia
  have ek : a + (k.t.length : Int) + 2 + ((X.length : Int) + 4) = a + (lT (k.L ++ [(k.r,false)])).length + (lnT (45 :: 45 :: X,false)).length := by
   rw [hm,hL]; unfold Tx.t; rw [List.length_append]; lia
  have h4 := h3.right.right
  have e3 : a + ((lT (k.L ++ [(k.r,false)])).length : Int) + ((45 :: 45 :: X).length : Int) + (([13,10] : By).length : Int) = a + (lT (k.L ++ [(k.r,false)])).length + (lnT (45 :: 45 :: X,false)).length := by
   rw [hm]; show _ + _ + ((X.length + 2 : Nat) : Int) + ((2 : Nat) : Int) = _; lia
  rw [e3] at h4
  obtain ⟨fl,s',hp,hz⟩ := ih (k := j) (acc := acc ++ [.tup [.int a,.int (a + k.t.length)]]) (b := a + (lT (k.L ++ [(k.r,false)])).length + (45 :: 45 :: X).length) (x := some (.int (a + (lT (k.L ++ [(k.r,false)])).length))) (y := some (.int (a + (lT (k.L ++ [(k.r,false)])).length + (45 :: 45 :: X).length))) (z := some (.int (a + (lT (k.L ++ [(k.r,false)])).length + (lnT (45 :: 45 :: X,false)).length))) (w := some (.str [110,101,120,116])) (fun t m => pl t (.tail _ m)) h4 (by rw [he,hq,hm,hL]; simp only [List.length_append,List.length_cons,List.length_nil]; lia) (by rw [List.length_append]; show acc.length + 1 + ks.length + 1 < LIM; rw [List.length_cons] at hl; lia)
  have hs : spansE a e (kidsT X tl k (j :: ks)).L (kidsT X tl k (j :: ks)).r = spansL a (k.L ++ [(k.r,false)]) ++ spanL (a + (lT (k.L ++ [(k.r,false)])).length) (45 :: 45 :: X,false) :: spansE (a + (lT (k.L ++ [(k.r,false)])).length + (lnT (45 :: 45 :: X,false)).length) e (kidsT X tl j ks).L (kidsT X tl j ks).r := by
   show spansE a e (k.L ++ (k.r,false) :: (45 :: 45 :: X,false) :: (kidsT X tl j ks).L) (kidsT X tl j ks).r = _
   rw [show k.L ++ (k.r,false) :: (45 :: 45 :: X,false) :: (kidsT X tl j ks).L = (k.L ++ [(k.r,false)]) ++ ([(45 :: 45 :: X,false)] ++ (kidsT X tl j ks).L) by rw [List.append_assoc]; rfl,spansE_app,spansE_app,show (lT [(45 :: 45 :: X,false)]) = lnT (45 :: 45 :: X,false) from List.append_nil _]; rfl
  rw [hs]
  refine ⟨fl,s',(loopF_app h1).trans (loopF_cons.trans (bo_k ps_store (bd_k st hp))),?_⟩
  have hz' := hz
  rw [List.append_assoc,← ek] at hz'
  exact hz'
end
end
section
noncomputable def bodyTx (X : By) (tl : Nat) (pre : List Ln) (k : Tx) (ks : List Tx) : Tx := ⟨pre ++ (45 :: 45 :: X,false) :: (kidsT X tl k ks).L,(kidsT X tl k ks).r⟩
section
variable {d X Y Z : By} {a e : Int} {n : Nat}
theorem part_spans (mk : MkOk X) {tl : Nat} {pre : List Ln} {k : Tx} {ks : List Tx} (hp : ∀ l ∈ pre,Plain X l.1) (pl : ∀ t ∈ k :: ks,t.Pl X) (ok : (bodyTx X tl pre k ks).Ok) (hl : (bodyTx X tl pre k ks).L.length < 100000) (hk : ks.length < 1000)
  (h : At d a (bodyTx X tl pre k ks).t) (he : e = a + (bodyTx X tl pre k ks).t.length) :
  mcall text (n+2) 45 [.bytes d,.int a,.int e,.bytes X] [] = some (.lst (kidSp X (a + (lT pre).length + (X.length + 4)) k ks),[]) := by
 refine byP fun P kP => ?_
 have ls := line_spans (n := n) ok.L ok.r h he hl
 have hw : ∀ q ∈ pre,mcall text (n+1) 44 [.bytes q.1,.bytes X] [] = some (.str [],[]) := fun q m => way_plain (hp q m) mk.len
 have hq : (bodyTx X tl pre k ks).t = lT pre ++ ((45 :: 45 :: X) ++ ([13,10] ++ (kidsT X tl k ks).t)) := by
  show lT (pre ++ (45 :: 45 :: X,false) :: (kidsT X tl k ks).L) ++ (kidsT X tl k ks).r = _
  rw [linesT_app]; show lT pre ++ ((45 :: 45 :: X) ++ [13,10] ++ lT (kidsT X tl k ks).L) ++ _ = _
  unfold Tx.t; simp only [List.append_assoc]
 have h' := h.cast hq
 obtain ⟨b',x',y',z',w',h1⟩ := ps_seg (n := n + 1) (X := X) (a0 := .int a) (e0 := .int e) (g := -1) (b := a) (x := none) (y := none) (z := none) (w := none) (acc := []) hw h'
 have h3 := h'.right
 have st := ps_first (n := n + 1) (a0 := .int a) (e0 := .int e) (X := X) (b := b') (f := a + (lT pre).length + (lnT (45 :: 45 :: X,false)).length) (w := w') (acc := []) (fun mh => p_slice h3.left rfl) (mk.next n)
 have hm : ((lnT (45 :: 45 :: X,false)).length : Int) = X.length + 4 := by
  show (((45 :: 45 :: X) ++ [13,10] : By).length : Int) = _; simp only [List.length_append,List.length_cons,List.length_nil]; lia
 have h4 := h3.right.right
 have e3 : a + ((lT pre).length : Int) + ((45 :: 45 :: X).length : Int) + (([13,10] : By).length : Int) = a + (lT pre).length + (lnT (45 :: 45 :: X,false)).length := by
  rw [hm]; show _ + _ + ((X.length + 2 : Nat) : Int) + ((2 : Nat) : Int) = _; lia
 rw [e3] at h4
 obtain ⟨fl,s',hs,hz⟩ := ps_kids (n := n) (a0 := .int a) (acc := []) (b := a + (lT pre).length + (45 :: 45 :: X).length) (x := some (.int (a + (lT pre).length))) (y := some (.int (a + (lT pre).length + (45 :: 45 :: X).length))) (z := some (.int (a + (lT pre).length + (lnT (45 :: 45 :: X,false)).length))) (w := some (.str [110,101,120,116])) mk pl h4 (e := e) (by rw [he,hq,hm]; simp only [List.length_append,List.length_cons,List.length_nil]; lia) (by show 0 + ks.length + 1 < 1048576; lia)
 have hsp : spansE a e (bodyTx X tl pre k ks).L (bodyTx X tl pre k ks).r = spansL a pre ++ spanL (a + (lT pre).length) (45 :: 45 :: X,false) :: spansE (a + (lT pre).length + (lnT (45 :: 45 :: X,false)).length) e (kidsT X tl k ks).L (kidsT X tl k ks).r := by
  show spansE a e (pre ++ (45 :: 45 :: X,false) :: (kidsT X tl k ks).L) (kidsT X tl k ks).r = _
  rw [show pre ++ (45 :: 45 :: X,false) :: (kidsT X tl k ks).L = pre ++ ([(45 :: 45 :: X,false)] ++ (kidsT X tl k ks).L) from rfl,spansE_app,spansE_app,show (lT [(45 :: 45 :: X,false)]) = lnT (45 :: 45 :: X,false) from List.append_nil _]; rfl
 rw [hsp] at ls
 have hx := (loopF_app h1).trans (loopF_cons.trans (bo_k ps_store (bd_k st hs)))
 rcases hz with ⟨rfl,h2⟩ | ⟨g,b,x,y,z,w,acc',rfl,rfl,hg,hl,h2⟩
 ·refine kP ?_
  rw [← hm]
  exact mc (r := f45) rfl rfl (xc (xa (e_lstT rfl) (gn (by rfl) (by rfl))) (xc (xa rfl (gn (by rfl) (by rfl))) (xc (xa (el (by rfl)) (gn (by rfl) (by rfl))) (xl (x_for (eK (ec (el (by rfl)) (ec (el (by rfl)) (ec (el (by rfl)) rfl))) (by exact c_clo rfl ls)) (by rfl) (by exact hx)))))) (by rw [h2]; exact fin_lst kidSp_closed)
 ·refine kP ?_
  rw [← hm]
  exact mc (r := f45) rfl rfl (xc (xa (e_lstT rfl) (gn (by rfl) (by rfl))) (xc (xa rfl (gn (by rfl) (by rfl))) (xc (xa (el (by rfl)) (gn (by rfl) (by rfl))) (xc (x_for (eK (ec (el (by rfl)) (ec (el (by rfl)) (ec (el (by rfl)) rfl))) (by exact c_clo rfl ls)) (by rfl) (by exact hx)) (xc (x_ifT (tv rfl (em (el (by rfl)) rfl (by trivial)) (by rfl)) (by trivial) (xc (x_expr (e_bmeth (el (by rfl)) (by trivial) (ec (et (ec (el (by rfl)) (ec (el (by rfl)) rfl))) rfl) (by trivial)) (by rfl)) rfl)) (xl (xr (el (by rfl))))))))) (by
   show finish false 0 (.ref 0) [MO.lst (acc' ++ [.tup [.int g,.int e]])] = _
   rw [h2]; exact fin_lst kidSp_closed)
end
inductive RK where
 | from (i : Nat) | subj | img | html | enc (i : Nat) | msg | b64 | multi (k s : Nat)
noncomputable def mkB (k : Nat) : By := [61,98,UInt8.ofNat (64 + k)]
noncomputable def subB (s : Nat) : By := if s = 0 then [109,105,120,101,100] else [97,108,116,101,114,110,97,116,105,118,101]
noncomputable def CT : By := [67,111,110,116,101,110,116,45,84,121,112,101]
noncomputable def CTE : By := [67,111,110,116,101,110,116,45,84,114,97,110,115,102,101,114,45,69,110,99,111,100,105,110,103]
noncomputable def rw : RK → Rw
 | .from i => ⟨[70,114,111,109],[32,97,UInt8.ofNat (97 + i),64,120],none⟩
 | .subj => ⟨[83,117,98,106,101,99,116],[32,115],some [32,116]⟩
 | .img => ⟨CT,[32,73,109,97,103,101,47,80,78,71,59,32,110,97,109,101,61,34,97,32,98,34],none⟩
 | .html => ⟨[99,111,110,116,101,110,116,45,116,121,112,101],[32,116,101,120,116,47,104,116,109,108],none⟩
 | .enc i => ⟨CTE,[],some (if i = 1 then [32,66,65,83,69,54,52] else [32,88,45,79,68,68])⟩
 | .msg => ⟨CT,[32,109,101,115,115,97,103,101,47,114,102,99,56,50,50],none⟩
 | .b64 => ⟨CTE,[32,98,97,115,101,54,52],none⟩
 | .multi k s => ⟨CT,[32,109,117,108,116,105,112,97,114,116,47] ++ subB s ++ [59],some ([9,98,111,117,110,100,97,114,121,61,34] ++ mkB k ++ [34])⟩
noncomputable def RK.Ok : RK → Prop
 | .from i => i < 5
 | .enc i => i = 1 ∨ i = 2
 | .multi k s => 1 ≤ k ∧ k ≤ 4 ∧ s < 2
 | _ => True
noncomputable def wct : List Nat := [99,111,110,116,101,110,116,45,116,121,112,101]
noncomputable def wcte : List Nat := [99,111,110,116,101,110,116,45,116,114,97,110,115,102,101,114,45,101,110,99,111,100,105,110,103]
noncomputable def wd : RK → List Nat
 | .from _ => [102,114,111,109]
 | .subj => [115,117,98,106,101,99,116]
 | .img => wct
 | .html => wct
 | .enc _ => wcte
 | .msg => wct
 | .b64 => wcte
 | .multi _ _ => wct
noncomputable def unf : RK → By
 | .from i => [97,UInt8.ofNat (97 + i),64,120]
 | .subj => [115,32,116]
 | .img => [73,109,97,103,101,47,80,78,71,59,32,110,97,109,101,61,34,97,32,98,34]
 | .html => [116,101,120,116,47,104,116,109,108]
 | .enc i => if i = 1 then [66,65,83,69,54,52] else [88,45,79,68,68]
 | .msg => [109,101,115,115,97,103,101,47,114,102,99,56,50,50]
 | .b64 => [98,97,115,101,54,52]
 | .multi k s => [109,117,108,116,105,112,97,114,116,47] ++ subB s ++ [59] ++ ([9,98,111,117,110,100,97,114,121,61,34] ++ mkB k ++ [34])
theorem rk_all {P : RK → Prop} (h1 : P (.from 0)) (h2 : P (.from 1)) (h3 : P (.from 2)) (h4 : P (.from 3)) (h5 : P (.from 4)) (h6 : P .subj) (h7 : P .img) (h8 : P .html) (h9 : P (.enc 1)) (h10 : P (.enc 2)) (h11 : P .msg) (h12 : P .b64)
  (m : ∀ k s,1 ≤ k → k ≤ 4 → s < 2 → P (.multi k s)) : ∀ r : RK,r.Ok → P r
 | .from 0,_ => h1
 | .from 1,_ => h2
 | .from 2,_ => h3
 | .from 3,_ => h4
 | .from 4,_ => h5
 | .from (i + 5),h => absurd (show i + 5 < 5 from h) (by lia)
 | .subj,_ => h6
 | .img,_ => h7
 | .html,_ => h8
 | .enc i,h => by
  rcases (show i = 1 ∨ i = 2 from h) with rfl | rfl
  ·exact h9
  ·exact h10
 | .msg,_ => h11
 | .b64,_ => h12
 | .multi k s,h => m k s h.1 h.2.1 h.2.2
theorem mark_all {P : Nat → Prop} (h1 : P 1) (h2 : P 2) (h3 : P 3) (h4 : P 4) : ∀ k,1 ≤ k → k ≤ 4 → P k
 | 0,h,_ => absurd h (by lia)
 | 1,_,_ => h1
 | 2,_,_ => h2
 | 3,_,_ => h3
 | 4,_,_ => h4
 | k + 5,_,h => absurd h (by lia)
theorem sub_all {P : Nat → Prop} (h0 : P 0) (h1 : P 1) : ∀ s,s < 2 → P s
 | 0,_ => h0
 | 1,_ => h1
 | s + 2,h => absurd h (by lia)
theorem multi_all {P : Nat → Nat → Prop} (h1 : P 1 0) (h2 : P 2 0) (h3 : P 3 0) (h4 : P 4 0) (h5 : P 1 1) (h6 : P 2 1) (h7 : P 3 1) (h8 : P 4 1) : ∀ k s,1 ≤ k → k ≤ 4 → s < 2 → P k s :=
 fun k s hk hk' hs => mark_all (P := fun k => P k s) (sub_all (P := P 1) h1 h5 s hs) (sub_all (P := P 2) h2 h6 s hs) (sub_all (P := P 3) h3 h7 s hs) (sub_all (P := P 4) h4 h8 s hs) k hk hk'
noncomputable def rwOkB (r : Rw) : Bool := !(r.nm ++ 58 :: r.l1).contains 10 && !r.nm.contains 58 && (match r.nm with | z :: _ => !([32,9] : List Int).contains (z.toNat : Int) | [] => false) &&
 (match r.tl with | none => true | some c => !c.contains 10 && (match c with | w :: _ => ([32,9] : List Int).contains (w.toNat : Int) | [] => false))
theorem nc {c : UInt8} {l : By} (h : (!l.contains c) = true) : c ∉ l := fun q => by
 rw [List.contains_iff_mem.mpr q] at h; exact fF' h
theorem rwOkB_ok {r : Rw} (h : rwOkB r = true) (hn : ∀ n,mcall text (n+1) 13 [.bytes r.nm] [] = some (.bool true,[])) : RwOk r := by
 obtain ⟨nm,l1,tl⟩ := r
 obtain ⟨h123,h4⟩ := Bool.and_eq_true_iff.mp h
 obtain ⟨h12,h3⟩ := Bool.and_eq_true_iff.mp h123
 obtain ⟨h1,h2⟩ := Bool.and_eq_true_iff.mp h12
 refine ⟨nc h1,nc h2,?_,hn,?_⟩
 ·induction nm using List.casesOn with
  | nil => exact fF' h3
  | cons z Z => exact ⟨z,Z,rfl,(Bool.not_eq_true' _).mp h3⟩
 ·intro c hc
  obtain rfl := hc
  obtain ⟨h5,h6⟩ := Bool.and_eq_true_iff.mp h4
  induction c using List.casesOn with
  | nil => exact fF' h6
  | cons w C => exact ⟨nc h5,w,C,rfl,h6⟩
theorem rw_ok : ∀ r : RK,r.Ok → RwOk (rw r) :=
 fun r h => rwOkB_ok (rk_all (P := fun r => rwOkB (rw r) = true) rfl rfl rfl rfl rfl rfl rfl rfl rfl rfl rfl rfl (multi_all rfl rfl rfl rfl rfl rfl rfl rfl) r h)
  (fun n => rk_all (P := fun r => mcall text (n+1) 13 [.bytes (rw r).nm] [] = some (.bool true,[])) (by kernel_rfl) (by kernel_rfl) (by kernel_rfl) (by kernel_rfl) (by kernel_rfl) (by kernel_rfl) (by kernel_rfl) (by kernel_rfl) (by kernel_rfl) (by kernel_rfl) (by kernel_rfl) (by kernel_rfl) (fun k s O O O => by kernel_rfl) r h)
theorem rw_wd : ∀ (n : Nat) (r : RK),r.Ok → mcall text (n+3) 11 [field (rw r)] [] = some (.str (wd r),[]) :=
 fun n => rk_all (by kernel_rfl) (by kernel_rfl) (by kernel_rfl) (by kernel_rfl) (by kernel_rfl) (by kernel_rfl) (by kernel_rfl) (by kernel_rfl) (by kernel_rfl) (by kernel_rfl) (by kernel_rfl) (by kernel_rfl) (fun k s O O O => by kernel_rfl)
theorem rw_unf : ∀ (n : Nat) (r : RK),r.Ok → mcall text (n+3) 18 [.bytes (rawT (rw r))] [] = some (.bytes (unf r),[]) :=
 fun n => rk_all (by kernel_rfl) (by kernel_rfl) (by kernel_rfl) (by kernel_rfl) (by kernel_rfl) (by kernel_rfl) (by kernel_rfl) (by kernel_rfl) (by kernel_rfl) (by kernel_rfl) (by kernel_rfl) (by kernel_rfl) (multi_all (by kernel_rfl) (by kernel_rfl) (by kernel_rfl) (by kernel_rfl) (by kernel_rfl) (by kernel_rfl) (by kernel_rfl) (by kernel_rfl))
theorem mk_ok : ∀ k,1 ≤ k → k ≤ 4 → MkOk (mkB k) :=
 fun k h1 h2 => ⟨by show 3 < 1000; lia,fun n => mark_all (P := fun k => mcall text (n+1) 44 [.bytes (45 :: 45 :: mkB k),.bytes (mkB k)] [] = some (.str [110,101,120,116],[])) (by kernel_rfl) (by kernel_rfl) (by kernel_rfl) (by kernel_rfl) k h1 h2,
  fun n => mark_all (P := fun k => mcall text (n+1) 44 [.bytes (45 :: 45 :: mkB k ++ [45,45]),.bytes (mkB k)] [] = some (.str [108,97,115,116],[])) (by kernel_rfl) (by kernel_rfl) (by kernel_rfl) (by kernel_rfl) k h1 h2,
  fun n => mark_all (P := fun k => mcall text (n+1) 44 [.bytes (45 :: 45 :: mkB k ++ [45,45,32]),.bytes (mkB k)] [] = some (.str [108,97,115,116],[])) (by kernel_rfl) (by kernel_rfl) (by kernel_rfl) (by kernel_rfl) k h1 h2⟩
end
structure Mk where
 k : Nat
 s : Nat
 pre : Nat
 tl : Nat
inductive Pc where
 | leaf (w e b : Nat)
 | letter (hid : Bool) (fl lev : Nat) (q : Pc)
 | one (m : Mk) (k : Pc)
 | two (m : Mk) (k j : Pc)
noncomputable def leafRows (w e : Nat) : List RK := (match w with | 1 => [.img] | 2 => [.html] | _ => []) ++ (match e with | 0 => [] | e + 1 => [.enc (e + 1)])
noncomputable def rows : Pc → List RK
 | .leaf w e _ => leafRows w e
 | .letter hid _ _ _ => .msg :: cond hid [.b64] []
 | .one m _ => [.multi m.k m.s]
 | .two m _ _ => [.multi m.k m.s]
noncomputable def flds (fl lev : Nat) : List RK := [RK.from lev,RK.subj].take fl
noncomputable def rwL (r : Rw) : List Ln := (r.nm ++ 58 :: r.l1,false) :: (match r.tl with | none => [] | some c => [(c,false)])
noncomputable def headL : List Rw → List Ln
 | [] => [([],false)]
 | r :: rs => rwL r ++ headL rs
noncomputable def hTx (rs : List RK) (t : Tx) : Tx := ⟨headL (rs.map rw) ++ t.L,t.r⟩
noncomputable def hd (rs : List RK) : By := headT (rs.map rw)
noncomputable def leafTx : Nat → Tx
 | 0 => ⟨[],[]⟩
 | 1 => ⟨[],[120]⟩
 | 2 => ⟨[([120],false)],[]⟩
 | 3 => ⟨[([97],false),([98],false)],[]⟩
 | 4 => ⟨[([45,45],false)],[]⟩
 | 5 => ⟨[([],false),([],false)],[122]⟩
 | 6 => ⟨[([45,45,61,98],false)],[]⟩
 | _ => ⟨[([65,58,32,98],false),([],false),([99],true)],[]⟩
noncomputable def preL : Nat → List Ln
 | 0 => []
 | _ => [([112,114,101],false)]
noncomputable def tx : Pc → Tx
 | .leaf _ _ b => leafTx b
 | .letter _ fl lev q => hTx (flds fl lev ++ rows q) (tx q)
 | .one m k => bodyTx (mkB m.k) m.tl (preL m.pre) (hTx (rows k) (tx k)) []
 | .two m k j => bodyTx (mkB m.k) m.tl (preL m.pre) (hTx (rows k) (tx k)) [hTx (rows j) (tx j)]
structure Mk.Ok (lo : Nat) (m : Mk) : Prop where
 lo : lo < m.k
 k : m.k ≤ 4
 s : m.s < 2
noncomputable def WF (lo : Nat) : Pc → Prop
 | .leaf w e b => e < 3
 | .letter hid fl lev q => lev < 5 ∧ WF lo q
 | .one m k => m.Ok lo ∧ WF m.k k
 | .two m k j => m.Ok lo ∧ WF m.k k ∧ WF m.k j
theorem WF.mono : ∀ {p : Pc} {lo hi : Nat},lo ≤ hi → WF hi p → WF lo p
 | .leaf ..,_,_,_,h => h
 | .letter ..,_,_,q,h => ⟨h.1,h.2.mono q⟩
 | .one ..,_,_,q,h => ⟨⟨Nat.lt_of_le_of_lt q h.1.lo,h.1.k,h.1.s⟩,h.2⟩
 | .two ..,_,_,q,h => ⟨⟨Nat.lt_of_le_of_lt q h.1.lo,h.1.k,h.1.s⟩,h.2⟩
theorem leafRows_ok {w e : Nat} (he : e < 3) : ∀ r ∈ leafRows w e,r.Ok := by
 have h2 : ∀ r ∈ (match e with | 0 => [] | e + 1 => [RK.enc (e + 1)]),r.Ok := by
  match e,he with
  | 0,_ => exact fun r h => by exact nM h
  | 1,_ => exact fun r h => by cases h with | head => exact .inl rfl | tail _ h => exact nM h
  | 2,_ => exact fun r h => by cases h with | head => exact .inr rfl | tail _ h => exact nM h
 intro r h
 rcases List.mem_append.mp h with h | h
 ·match w,h with
  | 0,h => exact nM h
  | 1,h => cases h with | head => exact trivial | tail _ h => exact nM h
  | 2,h => cases h with | head => exact trivial | tail _ h => exact nM h
  | w + 3,h => exact nM h
 ·exact h2 r h
theorem rows_ok : ∀ {p : Pc} {lo : Nat},WF lo p → ∀ r ∈ rows p,r.Ok
 | .leaf w e b,_,h => leafRows_ok h
 | .letter hid fl lev q,_,h => fun r m => by
  cases m with
  | head => exact trivial
  | tail _ m =>
   induction hid using Bool.casesOn with
   | true => cases m with | head => exact trivial | tail _ m => exact nM m
   | false => exact nM m
 | .one m k,_,h => fun r q => by
  cases q with
  | head => exact ⟨Nat.lt_of_le_of_lt (Nat.zero_le _) h.1.lo,h.1.k,h.1.s⟩
  | tail _ q => exact nM q
 | .two m k j,_,h => fun r q => by
  cases q with
  | head => exact ⟨Nat.lt_of_le_of_lt (Nat.zero_le _) h.1.lo,h.1.k,h.1.s⟩
  | tail _ q => exact nM q
theorem flds_ok {fl lev : Nat} (h : lev < 5) : ∀ r ∈ flds fl lev,r.Ok := fun r m => by
 have m := List.mem_of_mem_take m
 cases m with
 | head => exact h
 | tail _ m => cases m with | head => exact trivial | tail _ m => exact nM m
theorem hTx_t {rs : List RK} {t : Tx} : (hTx rs t).t = hd rs ++ t.t := by
 have : ∀ {rs : List Rw},lT (headL rs) = headT rs := by
  intro rs
  induction rs with
  | nil => rfl
  | cons r rs ih =>
   show lT (rwL r ++ headL rs) = (rowT r ++ rowsT rs) ++ [13,10]
   rw [linesT_app,ih,List.append_assoc]
   show _ = rowT r ++ headT rs
   congr 1
   obtain ⟨nm,l1,tl⟩ := r
   induction tl using Option.casesOn with
   | none => show (nm ++ 58 :: l1) ++ [13,10] ++ [] = (nm ++ 58 :: l1) ++ 13 :: 10 :: []; rw [List.append_nil]
   | some c => show (nm ++ 58 :: l1) ++ [13,10] ++ (c ++ [13,10] ++ []) = (nm ++ 58 :: l1) ++ 13 :: 10 :: (c ++ [13,10]); rw [List.append_nil,List.append_assoc]; rfl
 show lT (headL (rs.map rw) ++ t.L) ++ t.r = hd rs ++ (lT t.L ++ t.r)
 rw [linesT_app,this,List.append_assoc]; rfl
noncomputable def lnB (l : Ln) : Bool := !l.1.contains 10 && (!l.2 || l.1 == [99])
theorem lnB_ok {l : Ln} (h : lnB l = true) : LnOk l := by
 obtain ⟨h1,h2⟩ := Bool.and_eq_true_iff.mp h
 refine ⟨nc h1,fun q => ?_⟩
 rw [q] at h2; exact eq_of_beq h2
noncomputable def plB (X c : By) : Bool := !(c.take (X.length + 2) == 45 :: 45 :: X)
theorem plB_ok {X c : By} (h : plB X c = true) : Plain X c := fun q => by
 have : (c.take (X.length + 2) == 45 :: 45 :: X) = true := beq_iff_eq.mpr q
 unfold plB at h; rw [this] at h; exact fF' h
noncomputable def txB (t : Tx) : Bool := t.L.all lnB && !t.r.contains 10
theorem txB_ok {t : Tx} (h : txB t = true) : t.Ok := by
 obtain ⟨h1,h2⟩ := Bool.and_eq_true_iff.mp h
 exact ⟨fun l m => lnB_ok (List.all_eq_true.mp h1 l m),nc h2⟩
noncomputable def txP (X : By) (t : Tx) : Bool := t.L.all (fun l => plB X l.1) && plB X t.r
theorem txP_ok {X : By} {t : Tx} (h : txP X t = true) : t.Pl X := by
 obtain ⟨h1,h2⟩ := Bool.and_eq_true_iff.mp h
 exact ⟨fun l m => plB_ok (List.all_eq_true.mp h1 l m),plB_ok h2⟩
theorem leaf_ok : ∀ b,(leafTx b).Ok
 | 0 => txB_ok rfl
 | 1 => txB_ok rfl
 | 2 => txB_ok rfl
 | 3 => txB_ok rfl
 | 4 => txB_ok rfl
 | 5 => txB_ok rfl
 | 6 => txB_ok rfl
 | _ + 7 => txB_ok rfl
theorem leaf_pl {x : Nat} : ∀ b,(leafTx b).Pl (mkB x)
 | 0 => txP_ok rfl
 | 1 => txP_ok rfl
 | 2 => txP_ok rfl
 | 3 => txP_ok rfl
 | 4 => txP_ok rfl
 | 5 => txP_ok rfl
 | 6 => txP_ok rfl
 | _ + 7 => txP_ok rfl
theorem rwL_ok {r : Rw} (ok : RwOk r) : ∀ l ∈ rwL r,LnOk l := fun l m => by
 cases m with
 | head => exact ⟨ok.l1,fun h => by exact fF' h⟩
 | tail _ m =>
  match hr : r.tl with
  | none => rw [hr] at m; exact nM m
  | some c =>
   rw [hr] at m
   cases m with
   | head => exact ⟨(ok.tl c hr).1,fun h => by exact fF' h⟩
   | tail _ m => exact nM m
theorem rwL_pl {r : RK} {x : Nat} (ok : r.Ok) : ∀ l ∈ rwL (rw r),Plain (mkB x) l.1 := by
 have : (rwL (rw r)).all (fun l => plB (mkB x) l.1) = true := rk_all (P := fun r => (rwL (rw r)).all (fun l => plB (mkB x) l.1) = true) rfl rfl rfl rfl rfl rfl rfl rfl rfl rfl rfl rfl (fun O O O O O => rfl) r ok
 exact fun l m => plB_ok (List.all_eq_true.mp this l m)
theorem headL_mem {P : Ln → Prop} (h0 : P ([],false)) : ∀ {rs : List RK},(∀ r ∈ rs,∀ l ∈ rwL (rw r),P l) → ∀ l ∈ headL (rs.map rw),P l
 | [],_,l,m => by cases m with | head => exact h0 | tail _ m => exact nM m
 | r :: rs,h,l,m => (List.mem_append.mp m).elim (h r (.head _) l) (headL_mem h0 (fun r q => h r (.tail _ q)) l)
theorem hTx_ok {rs : List RK} {t : Tx} (hr : ∀ r ∈ rs,r.Ok) (h : t.Ok) : (hTx rs t).Ok :=
 ⟨fun l m => (List.mem_append.mp m).elim (headL_mem (P := LnOk) (lnB_ok rfl) (fun r q => rwL_ok (rw_ok r (hr r q))) l) (h.L l),h.r⟩
theorem hTx_pl {rs : List RK} {t : Tx} {x : Nat} (hr : ∀ r ∈ rs,r.Ok) (h : t.Pl (mkB x)) : (hTx rs t).Pl (mkB x) :=
 ⟨fun l m => (List.mem_append.mp m).elim (headL_mem (P := fun l => Plain (mkB x) l.1) (plB_ok rfl) (fun r q => rwL_pl (hr r q)) l) (h.L l),h.r⟩
theorem kidsT_ok {X : By} {tl : Nat} (h1 : (10 : UInt8) ∉ 45 :: 45 :: X) : ∀ {ks : List Tx} {k : Tx},(∀ t ∈ k :: ks,t.Ok) → (kidsT X tl k ks).Ok
 | [],k,h => by
  have hk := h k (.head _)
  have e : ∀ {c},(10 : UInt8) ∉ c → (10 : UInt8) ∉ 45 :: 45 :: X ++ c := fun hc q => (List.mem_append.mp q).elim h1 hc
  match tl with
  | 0 => exact hk
  | 1 => exact ⟨(fun l m => (List.mem_append.mp m).elim (hk.L l) fun m => by cases m with | head => exact ⟨hk.r,fun h => by exact fF' h⟩ | tail _ m => exact nM m),e (nc rfl)⟩
  | _ + 2 => exact ⟨(fun l m => (List.mem_append.mp m).elim (hk.L l) fun m => by
    cases m with
    | head => exact ⟨hk.r,fun h => by exact fF' h⟩
    | tail _ m => cases m with | head => exact ⟨e (nc rfl),fun h => by exact fF' h⟩ | tail _ m => exact nM m),nc rfl⟩
 | j :: ks,k,h => by
  have hk := h k (.head _)
  have ih := kidsT_ok (tl := tl) h1 (ks := ks) (k := j) fun t m => h t (.tail _ m)
  exact ⟨(fun l m => (List.mem_append.mp m).elim (hk.L l) fun m => by
    cases m with
    | head => exact ⟨hk.r,fun h => by exact fF' h⟩
    | tail _ m => cases m with | head => exact ⟨h1,fun h => by exact fF' h⟩ | tail _ m => exact ih.L l m),ih.r⟩
theorem pre_ok : ∀ {n : Nat},∀ l ∈ preL n,LnOk l
 | 0,l,m => by exact nM m
 | _ + 1,l,m => by cases m with | head => exact lnB_ok rfl | tail _ m => exact nM m
theorem pre_pl {x : Nat} : ∀ {n : Nat},∀ l ∈ preL n,Plain (mkB x) l.1
 | 0,l,m => by exact nM m
 | _ + 1,l,m => by cases m with | head => exact plB_ok rfl | tail _ m => exact nM m
theorem bodyTx_ok {X : By} {tl pre : Nat} {k : Tx} {ks : List Tx} (h1 : (10 : UInt8) ∉ 45 :: 45 :: X) (h : ∀ t ∈ k :: ks,t.Ok) : (bodyTx X tl (preL pre) k ks).Ok :=
 have q := kidsT_ok (tl := tl) h1 h
 ⟨(fun l m => (List.mem_append.mp m).elim (pre_ok l) fun m => by cases m with | head => exact ⟨h1,fun h => by exact fF' h⟩ | tail _ m => exact q.L l m),q.r⟩
theorem kidsT_pl {X Y : By} {tl : Nat} (h1 : Plain Y (45 :: 45 :: X)) (h2 : Plain Y (45 :: 45 :: X ++ [45,45])) (h3 : Plain Y (45 :: 45 :: X ++ [45,45,32])) (h4 : Plain Y [112,111,115,116]) : ∀ {ks : List Tx} {k : Tx},(∀ t ∈ k :: ks,t.Pl Y) → (kidsT X tl k ks).Pl Y
 | [],k,h => by
  have hk := h k (.head _)
  match tl with
  | 0 => exact hk
  | 1 => exact ⟨(fun l m => (List.mem_append.mp m).elim (hk.L l) fun m => by cases m with | head => exact hk.r | tail _ m => exact nM m),h2⟩
  | _ + 2 => exact ⟨(fun l m => (List.mem_append.mp m).elim (hk.L l) fun m => by
    cases m with
    | head => exact hk.r
    | tail _ m => cases m with | head => exact h3 | tail _ m => exact nM m),h4⟩
 | j :: ks,k,h => by
  have hk := h k (.head _)
  have ih := kidsT_pl (tl := tl) h1 h2 h3 h4 (ks := ks) (k := j) fun t m => h t (.tail _ m)
  exact ⟨(fun l m => (List.mem_append.mp m).elim (hk.L l) fun m => by
    cases m with
    | head => exact hk.r
    | tail _ m => cases m with | head => exact h1 | tail _ m => exact ih.L l m),ih.r⟩
theorem mkB_pl {x y : Nat} (hx : 1 ≤ x) (hxy : x < y) (hy : y ≤ 4) : Plain (mkB x) (45 :: 45 :: mkB y) ∧ Plain (mkB x) (45 :: 45 :: mkB y ++ [45,45]) ∧ Plain (mkB x) (45 :: 45 :: mkB y ++ [45,45,32]) := by
 have : (decide (x < y) && !(plB (mkB x) (45 :: 45 :: mkB y) && plB (mkB x) (45 :: 45 :: mkB y ++ [45,45]) && plB (mkB x) (45 :: 45 :: mkB y ++ [45,45,32]))) = false :=
  mark_all (P := fun x => (decide (x < y) && !(plB (mkB x) (45 :: 45 :: mkB y) && plB (mkB x) (45 :: 45 :: mkB y ++ [45,45]) && plB (mkB x) (45 :: 45 :: mkB y ++ [45,45,32]))) = false)
   (mark_all (P := fun y => (decide (1 < y) && !(plB (mkB 1) (45 :: 45 :: mkB y) && plB (mkB 1) (45 :: 45 :: mkB y ++ [45,45]) && plB (mkB 1) (45 :: 45 :: mkB y ++ [45,45,32]))) = false) rfl rfl rfl rfl y (by lia) hy)
   (mark_all (P := fun y => (decide (2 < y) && !(plB (mkB 2) (45 :: 45 :: mkB y) && plB (mkB 2) (45 :: 45 :: mkB y ++ [45,45]) && plB (mkB 2) (45 :: 45 :: mkB y ++ [45,45,32]))) = false) rfl rfl rfl rfl y (by lia) hy)
   (mark_all (P := fun y => (decide (3 < y) && !(plB (mkB 3) (45 :: 45 :: mkB y) && plB (mkB 3) (45 :: 45 :: mkB y ++ [45,45]) && plB (mkB 3) (45 :: 45 :: mkB y ++ [45,45,32]))) = false) rfl rfl rfl rfl y (by lia) hy)
   (mark_all (P := fun y => (decide (4 < y) && !(plB (mkB 4) (45 :: 45 :: mkB y) && plB (mkB 4) (45 :: 45 :: mkB y ++ [45,45]) && plB (mkB 4) (45 :: 45 :: mkB y ++ [45,45,32]))) = false) rfl rfl rfl rfl y (by lia) hy) x hx (by lia)
 rw [decide_eq_true hxy,Bool.true_and] at this
 have := (Bool.not_eq_false' _).mp this
 obtain ⟨h12,h3⟩ := Bool.and_eq_true_iff.mp this
 obtain ⟨h1,h2⟩ := Bool.and_eq_true_iff.mp h12
 exact ⟨plB_ok h1,plB_ok h2,plB_ok h3⟩
theorem mkB_no : ∀ k,1 ≤ k → k ≤ 4 → (10 : UInt8) ∉ 45 :: 45 :: mkB k := mark_all (nc rfl) (nc rfl) (nc rfl) (nc rfl)
theorem bodyTx_pl {x : Nat} {m : Mk} {lo : Nat} {k : Tx} {ks : List Tx} (hm : m.Ok lo) (hx : 1 ≤ x) (hxl : x ≤ lo) (h : ∀ t ∈ k :: ks,t.Pl (mkB x)) : (bodyTx (mkB m.k) m.tl (preL m.pre) k ks).Pl (mkB x) :=
 have p := mkB_pl hx (Nat.lt_of_le_of_lt hxl hm.lo) hm.k
 have q := kidsT_pl (tl := m.tl) p.1 p.2.1 p.2.2 (plB_ok rfl) h
 ⟨(fun l m => (List.mem_append.mp m).elim (pre_pl l) fun m => by cases m with | head => exact p.1 | tail _ m => exact q.L l m),q.r⟩
theorem tx_ok : ∀ {p : Pc} {lo : Nat},WF lo p → (tx p).Ok
 | .leaf ..,_,_ => leaf_ok _
 | .letter hid fl lev q,_,h => hTx_ok (fun r m => (List.mem_append.mp m).elim (flds_ok h.1 r) (rows_ok h.2 r)) (tx_ok h.2)
 | .one m k,_,h => bodyTx_ok (mkB_no _ (Nat.lt_of_le_of_lt (Nat.zero_le _) h.1.lo) h.1.k) fun t q => by
  cases q with
  | head => exact hTx_ok (rows_ok h.2) (tx_ok h.2)
  | tail _ q => exact nM q
 | .two m k j,_,h => bodyTx_ok (mkB_no _ (Nat.lt_of_le_of_lt (Nat.zero_le _) h.1.lo) h.1.k) fun t q => by
  cases q with
  | head => exact hTx_ok (rows_ok h.2.1) (tx_ok h.2.1)
  | tail _ q => cases q with
   | head => exact hTx_ok (rows_ok h.2.2) (tx_ok h.2.2)
   | tail _ q => exact nM q
theorem tx_pl {x : Nat} (hx : 1 ≤ x) : ∀ {p : Pc} {lo : Nat},WF lo p → x ≤ lo → (tx p).Pl (mkB x)
 | .leaf ..,_,_,_ => leaf_pl _
 | .letter hid fl lev q,_,h,l => hTx_pl (fun r m => (List.mem_append.mp m).elim (flds_ok h.1 r) (rows_ok h.2 r)) (tx_pl hx h.2 l)
 | .one m k,_,h,l => bodyTx_pl h.1 hx l fun t q => by
  cases q with
  | head => exact hTx_pl (rows_ok h.2) (tx_pl hx h.2 (Nat.le_of_lt (Nat.lt_of_le_of_lt l h.1.lo)))
  | tail _ q => exact nM q
 | .two m k j,_,h,l => bodyTx_pl h.1 hx l fun t q => by
  cases q with
  | head => exact hTx_pl (rows_ok h.2.1) (tx_pl hx h.2.1 (Nat.le_of_lt (Nat.lt_of_le_of_lt l h.1.lo)))
  | tail _ q => cases q with
   | head => exact hTx_pl (rows_ok h.2.2) (tx_pl hx h.2.2 (Nat.le_of_lt (Nat.lt_of_le_of_lt l h.1.lo)))
   | tail _ q => exact nM q
theorem linesT_len : ∀ {L : List Ln},L.length ≤ (lT L).length
 | [] => Nat.le_refl _
 | l :: L => by
  rw [show lT (l :: L) = lnT l ++ lT L from rfl,List.length_append,List.length_cons]
  have := linesT_len (L := L); have := lnT_pos (l := l); lia
section
noncomputable def fb (w : List Nat) : List RK → MV
 | [] => .none
 | r :: rs => if wd r = w then .bytes (unf r) else fb w rs
noncomputable def fds (rs : List RK) : List MV := (rs.map rw).map field
theorem fds_closed {rs : List RK} : cL (fds rs) = true := fields_closed
theorem fb_closed {w : List Nat} : ∀ {rs : List RK},cB (fb w rs) = true
 | [] => rfl
 | r :: rs => by
  show cB (if wd r = w then MV.bytes (unf r) else fb w rs) = true
  by_cases h : wd r = w
  ·rw [if_pos h]; rfl
  ·rw [if_neg h]; exact fb_closed
section
variable {d X Y Z : By} {a e : Int} {n : Nat}
theorem fb_loop {w : List Nat} {x0 : MV} : ∀ {rs : List RK} {x : OV},(∀ r ∈ rs,r.Ok) → ∃ fl s',loopF (fun v s => storeT text (mcall text (n+3)) v s (.name 3)) (fun s => execB text (mcall text (n+3)) s (f19.body[1]?.getD MS.fail).blk) (fds rs) ([some x0,some (.str w),some (.str w),x],[]) = some (fl,s') ∧
  ((fl = .ret (fb w rs) ∧ fb w rs ≠ .none) ∨ (fl = .next ∧ fb w rs = .none))
 | [],x,_ => ⟨_,_,rfl,.inr ⟨rfl,rfl⟩⟩
 | r :: rs,x,ok => by
  have hw := rw_wd n r (ok r (.head _))
  show ∃ fl s',loopF _ _ (field (rw r) :: fds rs) _ = _ ∧ _
  by_cases h : wd r = w
  ·have hu := rw_unf n r (ok r (.head _))
   refine ⟨_,_,loopF_cons.trans (bo_k (a := ([some x0,some (.str w),some (.str w),some (field (rw r))],[])) rfl (bd_k (xl (x_ifT (tv rfl (em (e_meth (el (by rfl)) (by rfl) rfl (by exact c_clo rfl hw)) (el (by rfl)) (by trivial)) (by rfl)) (by exact decide_eq_true h) (xl (xr (eK (ec (ea (el (by rfl)) (by rfl) (by rfl)) rfl) (by exact c_clo rfl hu)))))) rfl)),.inl ⟨?_,?_⟩⟩
   ·show _ = Fl.ret (if wd r = w then MV.bytes (unf r) else fb w rs)
    rw [if_pos h]
   ·show (if wd r = w then MV.bytes (unf r) else fb w rs) ≠ .none
    rw [if_pos h]; exact fun h => by cases h
  ·obtain ⟨fl,s',hl,hz⟩ := fb_loop (w := w) (x0 := x0) (rs := rs) (x := some (field (rw r))) fun r m => ok r (.tail _ m)
   have e : fb w (r :: rs) = fb w rs := if_neg h
   rw [e]
   exact ⟨fl,s',loopF_cons.trans (bo_k (a := ([some x0,some (.str w),some (.str w),some (field (rw r))],[])) rfl (bd_k (xc (x_ifF (tv rfl (em (e_meth (el (by rfl)) (by rfl) rfl (by exact c_clo rfl hw)) (el (by rfl)) (by trivial)) (by rfl)) (by exact decide_eq_false h) rfl) rfl) hl)),hz⟩
theorem first_body {w : List Nat} {rs : List RK} (ok : ∀ r ∈ rs,r.Ok) (hw : mcall text (n+3) 8 [.str w] [] = some (.str w,[])) : mcall text (n+4) 19 [.lst (fds rs),.str w] [] = some (fb w rs,[]) := by
 obtain ⟨fl,s',hl,hz⟩ := fb_loop (n := n) (w := w) (x0 := .lst (fds rs)) (rs := rs) (x := none) ok
 rcases hz with ⟨rfl,_⟩ | ⟨rfl,h⟩
 ·exact mc0 (r := f19) rfl rfl rfl (xc (xa (eK (ec (el (by rfl)) rfl) (by exact c_clo rfl hw)) (gn (by rfl) (by rfl))) (xl (x_for (el (by rfl)) (by rfl) (by exact hl)))) (by exact fb_closed)
 ·rw [h]
  exact mc0 (r := f19) rfl rfl rfl (xc (xa (eK (ec (el (by rfl)) rfl) (by exact c_clo rfl hw)) (gn (by rfl) (by rfl))) (xc (x_for (el (by rfl)) (by rfl) (by exact hl)) (xl (xr rfl)))) rfl
theorem low_ct : mcall text (n+3) 8 [.str wct] [] = some (.str wct,[]) := by kernel_rfl
theorem low_cte : mcall text (n+3) 8 [.str wcte] [] = some (.str wcte,[]) := by kernel_rfl
end
noncomputable def sB (s : Nat) : List Nat := (subB s).map UInt8.toNat
noncomputable def mS (k : Nat) : List Nat := (mkB k).map UInt8.toNat
noncomputable def kd (t s : List Nat) (ks : List (List Nat)) (vs : List MV) : MV := .ins 2 [8,9,10] [.str t,.str s,.dct ks vs]
noncomputable def sText : List Nat := [116,101,120,116]
noncomputable def sMsg : List Nat := [109,101,115,115,97,103,101]
noncomputable def sRfc : List Nat := [114,102,99,56,50,50]
noncomputable def sMul : List Nat := [109,117,108,116,105,112,97,114,116]
noncomputable def sBnd : List Nat := [98,111,117,110,100,97,114,121]
noncomputable def kMul (m : Mk) : MV := kd sMul (sB m.s) [sBnd] [.str (mS m.k)]
noncomputable def kindP : Pc → MV
 | .leaf 1 _ _ => kd [105,109,97,103,101] [112,110,103] [[110,97,109,101]] [.str [97,32,98]]
 | .leaf 2 _ _ => kd sText [104,116,109,108] [] []
 | .leaf _ _ _ => kd sText [112,108,97,105,110] [[99,104,97,114,115,101,116]] [.str [117,115,45,97,115,99,105,105]]
 | .letter .. => kd sMsg sRfc [] []
 | .one m _ => kMul m
 | .two m _ _ => kMul m
noncomputable def s7 : List Nat := [55,98,105,116]
noncomputable def s64 : List Nat := [98,97,115,101,54,52]
noncomputable def encP : Pc → List Nat
 | .leaf _ 0 _ => s7
 | .leaf _ 1 _ => s64
 | .leaf _ _ _ => [120,45,111,100,100]
 | .letter true _ _ _ => s64
 | _ => s7
theorem kindP_closed {p : Pc} : cB (kindP p) = true := by
 match p with
 | .leaf 0 _ _ => rfl
 | .leaf 1 _ _ => rfl
 | .leaf 2 _ _ => rfl
 | .leaf (_ + 3) _ _ => rfl
 | .letter .. => rfl
 | .one .. => rfl
 | .two .. => rfl
theorem fb_flds {w : List Nat} (h1 : ¬ wd (.from 0) = w) (h2 : ¬ wd .subj = w) {fl lev : Nat} {rs : List RK} : fb w (flds fl lev ++ rs) = fb w rs := by
 match fl with
 | 0 => rfl
 | 1 => exact if_neg h1
 | m + 2 =>
  show fb w (RK.from lev :: RK.subj :: (List.take m [] ++ rs)) = _
  rw [List.take_nil,List.nil_append]
  exact (if_neg h1).trans (if_neg h2)
theorem rk_e {w e : Nat} (h : e < 3) : fb wct (leafRows w e) = fb wct (leafRows w 0) := by
 match w,e,h with
 | _,0,_ => rfl
 | 0,1,_ => kernel_rfl
 | 0,2,_ => kernel_rfl
 | 1,1,_ => kernel_rfl
 | 1,2,_ => kernel_rfl
 | 2,1,_ => kernel_rfl
 | 2,2,_ => kernel_rfl
 | _ + 3,1,_ => kernel_rfl
 | _ + 3,2,_ => kernel_rfl
 | _,_ + 3,h => exact absurd h (by lia)
theorem rk_leaf (n : Nat) {w e : Nat} (h : e < 3) {r : MV} (k : mcall text (n+12) 41 [fb wct (leafRows w 0)] [] = some (r,[])) : mcall text (n+12) 41 [fb wct (leafRows w e)] [] = some (r,[]) := by
 rw [rk_e h]; exact k
theorem rk_mul (n : Nat) : ∀ k s,1 ≤ k → k ≤ 4 → s < 2 → mcall text (n+12) 41 [fb wct [.multi k s]] [] = some (kd sMul (sB s) [sBnd] [.str (mS k)],[]) :=
 multi_all (P := fun k s => mcall text (n+12) 41 [fb wct [.multi k s]] [] = some (kd sMul (sB s) [sBnd] [.str (mS k)],[])) (by kernel_rfl) (by kernel_rfl) (by kernel_rfl) (by kernel_rfl) (by kernel_rfl) (by kernel_rfl) (by kernel_rfl) (by kernel_rfl)
theorem read_kind (n : Nat) : ∀ {p : Pc} {lo : Nat},WF lo p → mcall text (n+12) 41 [fb wct (rows p)] [] = some (kindP p,[])
 | .leaf 0 e b,_,h => rk_leaf n (w := 0) (e := e) h (by kernel_rfl)
 | .leaf 1 e b,_,h => rk_leaf n (w := 1) (e := e) h (by kernel_rfl)
 | .leaf 2 e b,_,h => rk_leaf n (w := 2) (e := e) h (by kernel_rfl)
 | .leaf (w + 3) e b,_,h => rk_leaf n (w := w + 3) (e := e) h (by kernel_rfl)
 | .letter true ..,_,_ => by kernel_rfl
 | .letter false ..,_,_ => by kernel_rfl
 | .one ⟨k,s,_,_⟩ _,_,h => rk_mul n k s (Nat.lt_of_le_of_lt (Nat.zero_le _) h.1.lo) h.1.k h.1.s
 | .two ⟨k,s,_,_⟩ _ _,_,h => rk_mul n k s (Nat.lt_of_le_of_lt (Nat.zero_le _) h.1.lo) h.1.k h.1.s
theorem map_fst {α β : Type} {x : Option (α × β)} {f : α} (h : x.map Prod.fst = some f) : ∃ s,x = some (f,s) := by
 induction x using Option.casesOn with
 | none => exact nO h
 | some p => obtain ⟨a,b⟩ := p; obtain rfl := sI h; exact ⟨b,rfl⟩
theorem enc_rest (n : Nat) (L : MV) : ∀ {p : Pc} {lo : Nat},WF lo p → (execB text (mcall text (n+4)) ([some L,some (fb wcte (rows p)),none,none],[]) (f43.body.drop 1)).map Prod.fst = some (.ret (.str (encP p)))
 | .leaf 0 0 b,_,_ => by kernel_rfl
 | .leaf 0 1 b,_,_ => by kernel_rfl
 | .leaf 0 2 b,_,_ => by kernel_rfl
 | .leaf 1 0 b,_,_ => by kernel_rfl
 | .leaf 1 1 b,_,_ => by kernel_rfl
 | .leaf 1 2 b,_,_ => by kernel_rfl
 | .leaf 2 0 b,_,_ => by kernel_rfl
 | .leaf 2 1 b,_,_ => by kernel_rfl
 | .leaf 2 2 b,_,_ => by kernel_rfl
 | .leaf (w + 3) 0 b,_,_ => by kernel_rfl
 | .leaf (w + 3) 1 b,_,_ => by kernel_rfl
 | .leaf (w + 3) 2 b,_,_ => by kernel_rfl
 | .leaf _ (e + 3) _,_,h => absurd (show e + 3 < 3 from h) (by lia)
 | .letter true ..,_,_ => by kernel_rfl
 | .letter false ..,_,_ => by kernel_rfl
 | .one ..,_,_ => by kernel_rfl
 | .two ..,_,_ => by kernel_rfl
theorem encoding {n : Nat} {p : Pc} {lo fl lev : Nat} (h : WF lo p) (hl : lev < 5) : mcall text (n+5) 43 [.lst (fds (flds fl lev ++ rows p))] [] = some (.str (encP p),[]) := by
 have ok : ∀ r ∈ flds fl lev ++ rows p,r.Ok := fun r m => (List.mem_append.mp m).elim (flds_ok hl r) (rows_ok h r)
 have hf := first_body (n := n) ok low_cte
 rw [fb_flds (w := wcte) (fun h => by cases h) (fun h => by cases h)] at hf
 obtain ⟨s,hs⟩ := map_fst (enc_rest n (.lst (fds (flds fl lev ++ rows p))) h)
 refine mc0 (r := f43) rfl rfl rfl (xc (xa (eK (ec (el (by rfl)) (ec rfl rfl)) (by exact c_clo (Bool.and_eq_true_iff.mpr ⟨fds_closed,rfl⟩) hf)) (gn (by rfl) (by rfl))) (by exact hs)) rfl
theorem part_init {n : Nat} {p : Pc} {lo fl lev : Nat} {a b e : Int} (h : WF lo p) (hl : lev < 5) : mcall text (n+6) 42 [.ref 0,.int a,.int b,.int e,.lst (fds (flds fl lev ++ rows p)),kindP p] [.ins 3 [] []] =
  some (.none,[.ins 3 [14,15,2,16,17,18,19,20] [.int a,.int b,.int e,.lst (fds (flds fl lev ++ rows p)),kindP p,.str (encP p),.lst [],.none]]) := by
 have he := encoding (n := n) (p := p) (fl := fl) (lev := lev) h hl
 have hc : cL [MV.lst (fds (flds fl lev ++ rows p))] = true := Bool.and_eq_true_iff.mpr ⟨fds_closed,rfl⟩
 refine mcN (r := f42) rfl rfl (xc (xa (el (by rfl)) (g_attr (el (by rfl)) (by rfl) (by trivial) (by rfl) (by rfl))) (xc (xa (el (by rfl)) (g_attr (el (by rfl)) (by rfl) (by trivial) (by rfl) (by rfl))) (xc (xa (el (by rfl)) (g_attr (el (by rfl)) (by rfl) (by trivial) (by rfl) (by rfl))) (xc (xa (el (by rfl)) (g_attr (el (by rfl)) (by rfl) (by trivial) (by rfl) (by rfl))) (xc (xa (el (by rfl)) (g_attr (el (by rfl)) (by rfl) (by trivial) (by rfl) (by rfl))) (xc (xa (eK (ec (el (by rfl)) rfl) (by exact c_clo hc he)) (g_attr (el (by rfl)) (by rfl) (by trivial) (by rfl) (by rfl))) (xc (xa (e_lst rfl) (g_attr (el (by rfl)) (by rfl) (by trivial) (by rfl) (by rfl))) (xc (xa rfl (g_attr (el (by rfl)) (by rfl) (by trivial) (by rfl) (by rfl))) rfl)))))))) (by
  refine fin_one (o := .ins 3 [14,15,2,16,17,18,19,20] [.int a,.int b,.int e,.lst (fds (flds fl lev ++ rows p)),kindP p,.str (encP p),.lst [],.none]) ?_
  show (true && (true && (true && (underL 1 (fds (flds fl lev ++ rows p)) && (underB 1 (kindP p) && (true && (true && (true && true)))))))) = true
  rw [closedL_under fds_closed,closed_under kindP_closed]; rfl)
end
section
theorem c_ref {C : Callee} {g : Nat} {vs : List MV} {mh m : MH} {v : MV} (h : cL vs = false) (k : C g vs mh = some (v,m)) : callC C g vs mh = some (v,m) := by
 show cond (cL vs) _ _ = _
 exact cf_k h k
theorem fin_keep {v : MV} {o : MO} (hv : cB v = true) (hu : underO 1 o = true) : finish false 1 v [o] = some (v,[o]) := by
 refine fin_gen (mh := [o]) ?_ (frz_closed hv)
 show (underO 1 o && true) = true
 rw [hu]; rfl
noncomputable abbrev P8 : List Nat := [14,15,2,16,17,18,19,20]
section
variable {d X Y Z : By} {a b e : Int} {n : Nat}
theorem bodyTx_t {X : By} {tl : Nat} {pre : List Ln} {k : Tx} {ks : List Tx} : (bodyTx X tl pre k ks).t = lT pre ++ ((45 :: 45 :: X) ++ ([13,10] ++ (kidsT X tl k ks).t)) := by
 show lT (pre ++ (45 :: 45 :: X,false) :: (kidsT X tl k ks).L) ++ (kidsT X tl k ks).r = _
 rw [linesT_app]; show lT pre ++ ((45 :: 45 :: X) ++ [13,10] ++ lT (kidsT X tl k ks).L) ++ _ = _
 unfold Tx.t; simp only [List.append_assoc]
theorem kidsT_t1 {X : By} {tl : Nat} {k : Tx} : ∃ Z,(kidsT X tl k []).t = k.t ++ Z := by
 match tl with
 | 0 => exact ⟨[],(List.append_nil _).symm⟩
 | 1 =>
  refine ⟨[13,10] ++ (45 :: 45 :: X ++ [45,45]),?_⟩
  show lT (k.L ++ [(k.r,false)]) ++ (45 :: 45 :: X ++ [45,45]) = lT k.L ++ k.r ++ _
  rw [linesT_app]; show lT k.L ++ (k.r ++ [13,10] ++ []) ++ _ = _; rw [List.append_nil]; simp only [List.append_assoc]
 | m + 2 =>
  refine ⟨[13,10] ++ ((45 :: 45 :: X ++ [45,45,32]) ++ ([13,10] ++ [112,111,115,116])),?_⟩
  show lT (k.L ++ [(k.r,false),(45 :: 45 :: X ++ [45,45,32],false)]) ++ [112,111,115,116] = lT k.L ++ k.r ++ _
  rw [linesT_app]; show lT k.L ++ (k.r ++ [13,10] ++ ((45 :: 45 :: X ++ [45,45,32]) ++ [13,10] ++ [])) ++ _ = _; rw [List.append_nil]; simp only [List.append_assoc]
theorem kidsT_t2 {X : By} {tl : Nat} {k j : Tx} {ks : List Tx} : (kidsT X tl k (j :: ks)).t = k.t ++ ([13,10] ++ ((45 :: 45 :: X) ++ ([13,10] ++ (kidsT X tl j ks).t))) := by
 show lT (k.L ++ (k.r,false) :: (45 :: 45 :: X,false) :: (kidsT X tl j ks).L) ++ (kidsT X tl j ks).r = lT k.L ++ k.r ++ _
 rw [linesT_app]; show lT k.L ++ (k.r ++ [13,10] ++ ((45 :: 45 :: X) ++ [13,10] ++ lT (kidsT X tl j ks).L)) ++ _ = _
 unfold Tx.t; simp only [List.append_assoc]
theorem mk_bytes {C : Callee} {mh : MH} : ∀ k,1 ≤ k → k ≤ 4 → compGo (fun vs mh => brB (allT text C vs mh [.cmp .Lt (.bcall .ord [.loc 0]) (.int 256)]) (fun mh => bd (evalE text C vs mh (.bcall .ord [.loc 0])) fun y mh => some (some y,mh)) fun mh => some (none,mh)) 1 [] ((mS k).map fun c => .str [c]) mh = some ((mkB k).map (fun c => .int c.toNat),mh) :=
 mark_all rfl rfl rfl rfl
theorem mk_bytes2 {mh : MH} : ∀ k,1 ≤ k → k ≤ 4 → bcallV mh .bytes [.lst ((mkB k).map (fun c => .int c.toNat))] = some (.bytes (mkB k)) :=
 mark_all rfl rfl rfl rfl
theorem kid_spans {m : Mk} {lo : Nat} (hm : m.Ok lo) {k : Tx} {ks : List Tx} {fs : List MV} {enc : List Nat} (hf : cL fs = true) (pl : ∀ t ∈ k :: ks,t.Pl (mkB m.k)) (ok : ∀ t ∈ k :: ks,t.Ok) (hl : (bodyTx (mkB m.k) m.tl (preL m.pre) k ks).L.length < 100000) (hk : ks.length < 1000)
  (h : At d b (bodyTx (mkB m.k) m.tl (preL m.pre) k ks).t) (he : e = b + (bodyTx (mkB m.k) m.tl (preL m.pre) k ks).t.length) :
  mcall text (n+3) 46 [.bytes d,.ref 0] [.ins 3 P8 [.int a,.int b,.int e,.lst fs,kMul m,.str enc,.lst [],.none]] = some (.lst (kidSp (mkB m.k) (b + (lT (preL m.pre)).length + 7) k ks),[.ins 3 P8 [.int a,.int b,.int e,.lst fs,kMul m,.str enc,.lst [],.none]]) := by
 have k1 : 1 ≤ m.k := Nat.lt_of_le_of_lt (Nat.zero_le _) hm.lo
 have ps := part_spans (n := n) (mk_ok _ k1 hm.k) (fun l q => pre_pl l q) pl (bodyTx_ok (mkB_no _ k1 hm.k) ok) hl hk h he
 have ps : mcall text (n+2) 45 [.bytes d,.int b,.int e,.bytes (mkB m.k)] [] = some (.lst (kidSp (mkB m.k) (b + (lT (preL m.pre)).length + 7) k ks),[]) := ps
 have ne : (!(kidSp (mkB m.k) (b + (lT (preL m.pre)).length + 7) k ks).isEmpty) = true := by induction ks using List.casesOn <;> rfl
 have hL : ((mS m.k).map fun c => MV.str [c]).length ≤ LIM := by show 3 ≤ 1048576; lia
 exact mc (r := f46) rfl rfl (xc (xa (e_bmeth (ea (ea (el (by rfl)) (by rfl) (by rfl)) (by rfl) (by rfl)) (by trivial) (ec rfl (ec rfl rfl)) (by trivial)) (gn (by rfl) (by rfl))) (xc (xa (e_bcall (ec (e_comp (el (by rfl)) (by rfl) (by trivial) (by exact mk_bytes _ k1 hm.k)) rfl) (by exact mk_bytes2 _ k1 hm.k)) (gn (by rfl) (by rfl))) (xc (xa (e_lst rfl) (gn (by rfl) (by rfl))) (xc (x_ifT (t_and (all_t (tv rfl (em (el (by rfl)) rfl (by trivial)) (by rfl)) (by trivial) (all_t (tv rfl (em (e_bcall (ec (el (by rfl)) rfl) (by exact rfl)) (e_bcall (ec (el (by rfl)) rfl) (by exact rfl)) (by trivial)) (by rfl)) (by trivial) rfl))) (by trivial) (xc (xa (eK (ec (el (by rfl)) (ec (ea (el (by rfl)) (by rfl) (by rfl)) (ec (ea (el (by rfl)) (by rfl) (by rfl)) (ec (el (by rfl)) rfl)))) (by exact c_clo rfl ps)) (gn (by rfl) (by rfl))) rfl)) (xl (xr (e_iteT (tv rfl (em (el (by rfl)) (e_lst rfl) (by trivial)) (by rfl)) (by exact ne) (el (by rfl))))))))) (by
  refine fin_keep kidSp_closed ?_
  show (true && (true && (true && (underL 1 fs && (true && (true && (true && (true && true)))))))) = true
  rw [closedL_under hf]; rfl)
noncomputable def multiB : Pc → Bool
 | .one .. => true
 | .two .. => true
 | _ => false
noncomputable def openB : Pc → Bool
 | .letter false .. => true
 | _ => false
theorem is_multi (n : Nat) : ∀ p : Pc,mcall text (n+1) 29 [kindP p] [] = some (.bool (multiB p),[])
 | .leaf 0 _ _ => by kernel_rfl
 | .leaf 1 _ _ => by kernel_rfl
 | .leaf 2 _ _ => by kernel_rfl
 | .leaf (_ + 3) _ _ => by kernel_rfl
 | .letter .. => by kernel_rfl
 | .one .. => by kernel_rfl
 | .two .. => by kernel_rfl
theorem has_inner (n : Nat) {fs : List MV} (hf : cL fs = true) : ∀ p : Pc,multiB p = false → mcall text (n+2) 47 [.ref 0] [.ins 3 P8 [.int a,.int b,.int e,.lst fs,kindP p,.str (encP p),.lst [],.none]] = some (.bool (openB p),[.ins 3 P8 [.int a,.int b,.int e,.lst fs,kindP p,.str (encP p),.lst [],.none]]) := by
 have fin : ∀ p : Pc,∀ v : Bool,finish false 1 (.bool v) [.ins 3 P8 [.int a,.int b,.int e,.lst fs,kindP p,.str (encP p),.lst [],.none]] = some (.bool v,[.ins 3 P8 [.int a,.int b,.int e,.lst fs,kindP p,.str (encP p),.lst [],.none]]) := fun p v => by
  refine fin_keep rfl ?_
  show (true && (true && (true && (underL 1 fs && (underB 1 (kindP p) && (true && (true && (true && true)))))))) = true
  rw [closedL_under hf,closed_under kindP_closed]; rfl
 intro p h
 match p with
 | .leaf 0 e b => exact mc (r := f47) rfl rfl (xl (xr (evalE_and.trans (e_andF (e_meth (ea (el (by rfl)) (by rfl) (by rfl)) (by rfl) rfl (by exact c_clo rfl (v := .bool false) rfl)) (by rfl) (by trivial))))) (by exact fin (.leaf 0 e b) false)
 | .leaf 1 e b => exact mc (r := f47) rfl rfl (xl (xr (evalE_and.trans (e_andF (e_meth (ea (el (by rfl)) (by rfl) (by rfl)) (by rfl) rfl (by exact c_clo rfl (v := .bool false) rfl)) (by rfl) (by trivial))))) (by exact fin (.leaf 1 e b) false)
 | .leaf 2 e b => exact mc (r := f47) rfl rfl (xl (xr (evalE_and.trans (e_andF (e_meth (ea (el (by rfl)) (by rfl) (by rfl)) (by rfl) rfl (by exact c_clo rfl (v := .bool false) rfl)) (by rfl) (by trivial))))) (by exact fin (.leaf 2 e b) false)
 | .leaf (w + 3) e b => exact mc (r := f47) rfl rfl (xl (xr (evalE_and.trans (e_andF (e_meth (ea (el (by rfl)) (by rfl) (by rfl)) (by rfl) rfl (by exact c_clo rfl (v := .bool false) rfl)) (by rfl) (by trivial))))) (by exact fin (.leaf (w + 3) e b) false)
 | .letter true fl lev q => exact mc (r := f47) rfl rfl (xl (xr (evalE_and.trans (e_andT (e_meth (ea (el (by rfl)) (by rfl) (by rfl)) (by rfl) rfl (by exact c_clo rfl (v := .bool true) rfl)) (by rfl) (by trivial) (evalAnd_one.trans (em (ea (el (by rfl)) (by rfl) (by rfl)) rfl (by trivial))))))) (by exact fin (.letter true fl lev q) false)
 | .letter false fl lev q => exact mc (r := f47) rfl rfl (xl (xr (evalE_and.trans (e_andT (e_meth (ea (el (by rfl)) (by rfl) (by rfl)) (by rfl) rfl (by exact c_clo rfl (v := .bool true) rfl)) (by rfl) (by trivial) (evalAnd_one.trans (em (ea (el (by rfl)) (by rfl) (by rfl)) rfl (by trivial))))))) (by exact fin (.letter false fl lev q) true)
 | .one .. => exact fF' h.symm
 | .two .. => exact fF' h.symm
end
noncomputable def partP (a : Int) (fs : List RK) : Pc → MV
 | .leaf w e b => .ins 3 P8 [.int a,.int (a + (hd (fs ++ rows (.leaf w e b))).length),.int (a + (hd (fs ++ rows (.leaf w e b))).length + (tx (.leaf w e b)).t.length),.lst (fds (fs ++ rows (.leaf w e b))),kindP (.leaf w e b),.str (encP (.leaf w e b)),.lst [],.none]
 | .letter hid fl lev q => .ins 3 P8 [.int a,.int (a + (hd (fs ++ rows (.letter hid fl lev q))).length),.int (a + (hd (fs ++ rows (.letter hid fl lev q))).length + (tx (.letter hid fl lev q)).t.length),.lst (fds (fs ++ rows (.letter hid fl lev q))),kindP (.letter hid fl lev q),.str (encP (.letter hid fl lev q)),.lst [],
   cond hid .none (partP (a + (hd (fs ++ rows (.letter hid fl lev q))).length) (flds fl lev) q)]
 | .one m k => .ins 3 P8 [.int a,.int (a + (hd (fs ++ rows (.one m k))).length),.int (a + (hd (fs ++ rows (.one m k))).length + (tx (.one m k)).t.length),.lst (fds (fs ++ rows (.one m k))),kindP (.one m k),.str (encP (.one m k)),
   .lst [partP (a + (hd (fs ++ rows (.one m k))).length + (lT (preL m.pre)).length + 7) [] k],.none]
 | .two m k j => .ins 3 P8 [.int a,.int (a + (hd (fs ++ rows (.two m k j))).length),.int (a + (hd (fs ++ rows (.two m k j))).length + (tx (.two m k j)).t.length),.lst (fds (fs ++ rows (.two m k j))),kindP (.two m k j),.str (encP (.two m k j)),
   .lst [partP (a + (hd (fs ++ rows (.two m k j))).length + (lT (preL m.pre)).length + 7) [] k,partP (a + (hd (fs ++ rows (.two m k j))).length + (lT (preL m.pre)).length + 7 + (hTx (rows k) (tx k)).t.length + 2 + 7) [] j],.none]
theorem partP_closed : ∀ {p : Pc} {a : Int} {fs : List RK},cB (partP a fs p) = true
 | .leaf w e b,a,fs => by
  show (true && (true && (true && (cL (fds _) && (cB (kindP _) && (true && (true && (true && true)))))))) = true
  rw [fds_closed,kindP_closed]; rfl
 | .letter hid fl lev q,a,fs => by
  show (true && (true && (true && (cL (fds _) && (cB (kindP (.letter hid fl lev q)) && (true && (true && (cB (cond hid .none (partP _ _ q)) && true)))))))) = true
  rw [fds_closed,kindP_closed]
  induction hid using Bool.casesOn with
  | true => rfl
  | false => show (cB (partP _ _ q) && true) = true; rw [partP_closed]; rfl
 | .one m k,a,fs => by
  show (true && (true && (true && (cL (fds _) && (cB (kindP (.one m k)) && (true && ((cB (partP _ _ k) && true) && (true && true)))))))) = true
  rw [fds_closed,kindP_closed,partP_closed]; rfl
 | .two m k j,a,fs => by
  show (true && (true && (true && (cL (fds _) && (cB (kindP (.two m k j)) && (true && ((cB (partP _ _ k) && (cB (partP _ _ j) && true)) && (true && true)))))))) = true
  rw [fds_closed,kindP_closed,partP_closed,partP_closed]; rfl
noncomputable def ht : Pc → Nat
 | .leaf .. => 0
 | .letter _ _ _ q => ht q + 1
 | .one _ k => ht k + 1
 | .two _ k j => max (ht k) (ht j) + 1
end
section
theorem rows_len {p : Pc} : (rows p).length ≤ 2 := by
 match p with
 | .leaf w e b =>
  show (leafRows w e).length ≤ 2
  match w,e with
  | 0,0 => exact Nat.zero_le _
  | 0,_ + 1 => exact Nat.le_succ _
  | 1,0 => exact Nat.le_succ _
  | 1,_ + 1 => exact Nat.le_refl _
  | 2,0 => exact Nat.le_succ _
  | 2,_ + 1 => exact Nat.le_refl _
  | _ + 3,0 => exact Nat.zero_le _
  | _ + 3,_ + 1 => exact Nat.le_succ _
 | .letter true .. => exact Nat.le_refl _
 | .letter false .. => exact Nat.le_succ _
 | .one .. => exact Nat.le_succ _
 | .two .. => exact Nat.le_succ _
theorem flds_len {fl lev : Nat} : (flds fl lev).length ≤ 2 := by
 unfold flds; rw [List.length_take]; exact Nat.min_le_right _ _
theorem kind_e {C : Callee} {vals : List OV} {mh : MH} {p : Pc} {dg : Bool} (hd : dg = false) (h7 : vals[7]? = some (some (fb wct (rows p)))) (h4 : vals[4]? = some (some (.bool dg))) (hk : C 41 [fb wct (rows p)] [] = some (kindP p,[])) :
  evalE text C vals mh (.ite (.and [.cmp .Is (.loc 7) .none,.loc 4]) (.make 2 [.str [109,101,115,115,97,103,101],.str [114,102,99,56,50,50],.dict false [] []]) (.call 41 [.loc 7])) = some (kindP p,mh) := by
 subst hd
 have hc : cL [fb wct (rows p)] = true := Bool.and_eq_true_iff.mpr ⟨fb_closed,rfl⟩
 have hcall : evalE text C vals mh (.call 41 [.loc 7]) = some (kindP p,mh) := eK (ec (el h7) rfl) (c_clo hc hk)
 have hN : ∃ t,cmpV mh .Is (fb wct (rows p)) .none = some t := by
  have : fb wct (rows p) = .none ∨ ∃ x,fb wct (rows p) = .bytes x := by
   have : ∀ rs : List RK,fb wct rs = .none ∨ ∃ x,fb wct rs = .bytes x := by
    intro rs
    induction rs with
    | nil => exact .inl rfl
    | cons r rs ih =>
     show (if wd r = wct then MV.bytes (unf r) else fb wct rs) = .none ∨ _
     by_cases h : wd r = wct
     ·right; exact ⟨_,if_pos h⟩
     ·rcases ih with h' | ⟨x,h'⟩
      ·left; rw [if_neg h]; exact h'
      ·right; exact ⟨x,(if_neg h).trans h'⟩
   exact this _
  rcases this with h | ⟨x,h⟩ <;> rw [h] <;> exact ⟨_,rfl⟩
 obtain ⟨t,ht⟩ := hN
 have he : evalT text C vals mh (.cmp .Is (.loc 7) .none) = some (t,mh) := tv rfl (em (el h7) rfl ht) rfl
 induction t using Bool.casesOn with
 | false => exact e_iteF (t_and (all_f he rfl)) rfl hcall
 | true => exact e_iteF (t_and (all_t he rfl (all_f (tv rfl (el h4) rfl) rfl))) rfl hcall
theorem tx_len {p : Pc} : (tx p).L.length ≤ (tx p).t.length := by
 unfold Tx.t; rw [List.length_append]; have := linesT_len (L := (tx p).L); lia
theorem kind_form (p : Pc) : ∃ t s ks vs,kindP p = kd t s ks vs := by
 match p with
 | .leaf 0 _ _ => exact ⟨_,_,_,_,rfl⟩
 | .leaf 1 _ _ => exact ⟨_,_,_,_,rfl⟩
 | .leaf 2 _ _ => exact ⟨_,_,_,_,rfl⟩
 | .leaf (_ + 3) _ _ => exact ⟨_,_,_,_,rfl⟩
 | .letter .. => exact ⟨_,_,_,_,rfl⟩
 | .one .. => exact ⟨_,_,_,_,rfl⟩
 | .two .. => exact ⟨_,_,_,_,rfl⟩
section
variable {d : By}
noncomputable abbrev rpV (d : By) (a b e dep : Int) (dg : Bool) (fs : List MV) (told K : MV) : List OV := [some (.bytes d),some (.int a),some (.int e),some (.int dep),some (.bool dg),some (.lst fs),some (.int b),some told,some K,some (.ref 0),none]
noncomputable abbrev rpO (a b e : Int) (fs : List MV) (K : MV) (enc : List Nat) (kids : List MV) (inner : MV) : MO := .ins 3 P8 [.int a,.int b,.int e,.lst fs,K,.str enc,.lst kids,inner]
theorem rp {p : Pc} {lo fl lev n : Nat} {a e dep : Int} {dg : Bool} {s : St} {v : MV} (wf : WF lo p) (hl : lev < 5) (hg : dg = false) (h : At d a (hd (flds fl lev ++ rows p) ++ (tx p).t)) (he : e = a + (hd (flds fl lev ++ rows p)).length + (tx p).t.length)
  (hr : execB text (mcall text (n + 12)) (rpV d a (a + (hd (flds fl lev ++ rows p)).length) e dep dg (fds (flds fl lev ++ rows p)) (fb wct (rows p)) (kindP p),[rpO a (a + (hd (flds fl lev ++ rows p)).length) e (fds (flds fl lev ++ rows p)) (kindP p) (encP p) [] .none]) (f48.body.drop 4) = some (.ret (.ref 0),s))
  (hf : finish false 0 (.ref 0) s.2 = some (v,[])) : mcall text (n + 13) 48 [.bytes d,.int a,.int e,.int dep,.bool dg] [] = some (v,[]) := by
 have ok : ∀ r ∈ flds fl lev ++ rows p,r.Ok := fun r m => (List.mem_append.mp m).elim (flds_ok hl r) (rows_ok wf r)
 have rf : mcall text (n + 12) 16 [.bytes d,.int a,.int e] [] = some (.tup [.lst (fds (flds fl lev ++ rows p)),.int (a + (hd (flds fl lev ++ rows p)).length)],[]) :=
  read_fields (n := n + 8) (fun r m => (List.mem_map.mp m).elim fun x q => q.2 ▸ rw_ok x (ok x q.1)) h (by rw [he,List.length_append,show headT ((flds fl lev ++ rows p).map rw) = hd (flds fl lev ++ rows p) from rfl]; lia) (by rw [List.length_map,List.length_append]; have := rows_len (p := p); have := flds_len (fl := fl) (lev := lev); lia)
 have fbk := first_body (n := n + 8) ok low_ct
 rw [fb_flds (w := wct) (fun h => by cases h) (fun h => by cases h)] at fbk
 have hk := read_kind n wf
 have hc : cL [MV.lst (fds (flds fl lev ++ rows p)),.str wct] = true := Bool.and_eq_true_iff.mpr ⟨fds_closed,rfl⟩
 have pin := part_init (n := n + 6) (p := p) (fl := fl) (lev := lev) (a := a) (b := a + (hd (flds fl lev ++ rows p)).length) (e := e) wf hl
 exact mc (r := f48) rfl rfl (xc (xa (eK (ec (el (by rfl)) (ec (el (by rfl)) (ec (el (by rfl)) rfl))) (by exact c_clo rfl rf)) (g_tup (gc (gn (by rfl) (by rfl)) (gc (gn (by rfl) (by rfl)) gs_nil)))) (xc (xa (eK (ec (el (by rfl)) (ec rfl rfl)) (by exact c_clo hc fbk)) (gn (by rfl) (by rfl))) (xc (xa (by exact kind_e hg rfl rfl hk) (gn (by rfl) (by rfl))) (xc (xa (e_make (ec (el (by rfl)) (ec (el (by rfl)) (ec (el (by rfl)) (ec (el (by rfl)) (ec (el (by rfl)) rfl))))) (by exact make_open rfl rfl pin)) (gn (by rfl) (by rfl))) (by exact hr))))) (by exact hf)
theorem rp_flat {p : Pc} {n : Nat} {a b e dep : Int} {dg : Bool} {fs : List MV} {told : MV} (hf : cL fs = true) (hd : dep < 20) (h1 : multiB p = false) (h2 : openB p = false) :
  ∃ s,execB text (mcall text (n + 12)) (rpV d a b e dep dg fs told (kindP p),[rpO a b e fs (kindP p) (encP p) [] .none]) (f48.body.drop 4) = some (.ret (.ref 0),s) ∧ s.2 = [rpO a b e fs (kindP p) (encP p) [] .none] := by
 have hm := is_multi (n + 11) p
 have hi := has_inner (n + 10) (a := a) (b := b) (e := e) hf p h1
 rw [h1] at hm
 rw [h2] at hi
 have hc : cB (kindP p) = true := kindP_closed
 obtain ⟨t,s,ks,vs,hk⟩ := kind_form p
 rw [hk] at hm hi hc ⊢
 have hc2 : cL [kd t s ks vs] = true := Bool.and_eq_true_iff.mpr ⟨hc,rfl⟩
 exact ⟨_,(xc (x_ifF (t_and (all_t (tv rfl (em (el (by rfl)) rfl (by trivial)) (by rfl)) (by trivial) (all_f (tv rfl (e_meth (el (by rfl)) (by rfl) rfl (by exact c_clo hc2 hm)) (by rfl)) (by trivial)))) (by trivial) (xc (x_ifF (t_and (all_t (tv rfl (em (el (by rfl)) rfl (by trivial)) (by rfl)) (by trivial) (all_f (tv rfl (eK (ec (el (by rfl)) rfl) (by exact c_ref rfl hi)) (by rfl)) (by trivial)))) (by trivial) rfl) rfl)) (xl (xr (el (by rfl))))),rfl⟩
theorem rp_open {p : Pc} {n : Nat} {a b e dep : Int} {dg : Bool} {fs : List MV} {told q : MV} (hf : cL fs = true) (hd : dep < 20) (h1 : multiB p = false) (h2 : openB p = true) (hq : mcall text (n + 12) 48 [.bytes d,.int b,.int e,.int (dep + 1),.bool false] [] = some (q,[])) :
  ∃ s,execB text (mcall text (n + 12)) (rpV d a b e dep dg fs told (kindP p),[rpO a b e fs (kindP p) (encP p) [] .none]) (f48.body.drop 4) = some (.ret (.ref 0),s) ∧ s.2 = [rpO a b e fs (kindP p) (encP p) [] q] := by
 have hm := is_multi (n + 11) p
 have hi := has_inner (n + 10) (a := a) (b := b) (e := e) hf p h1
 rw [h1] at hm
 rw [h2] at hi
 have hc : cB (kindP p) = true := kindP_closed
 obtain ⟨t,s,ks,vs,hk⟩ := kind_form p
 rw [hk] at hm hi hc ⊢
 have hc2 : cL [kd t s ks vs] = true := Bool.and_eq_true_iff.mpr ⟨hc,rfl⟩
 exact ⟨_,(xc (x_ifF (t_and (all_t (tv rfl (em (el (by rfl)) rfl (by trivial)) (by rfl)) (by trivial) (all_f (tv rfl (e_meth (el (by rfl)) (by rfl) rfl (by exact c_clo hc2 hm)) (by rfl)) (by trivial)))) (by trivial) (xc (x_ifT (t_and (all_t (tv rfl (em (el (by rfl)) rfl (by trivial)) (by rfl)) (by trivial) (all_t (tv rfl (eK (ec (el (by rfl)) rfl) (by exact c_ref rfl hi)) (by rfl)) (by trivial) rfl))) (by trivial) (xc (xa (eK (ec (el (by rfl)) (ec (el (by rfl)) (ec (el (by rfl)) (ec (eb (el (by rfl)) rfl (by trivial)) (ec rfl rfl))))) (by exact c_clo rfl hq)) (g_attr (el (by rfl)) (by rfl) (by trivial) (by rfl) (by rfl))) rfl)) rfl)) (xl (xr (el (by rfl))))),rfl⟩
theorem rp_many {p : Pc} {m : Mk} {n : Nat} {a b e dep : Int} {dg : Bool} {fs : List MV} {told : MV} {sp kids : List MV} (hf : cL fs = true) (hd : dep < 20) (h1 : multiB p = true) (hk : kindP p = kMul m) (hs : m.s < 2) (hl : sp.length ≤ LIM)
  (hks : mcall text (n + 12) 46 [.bytes d,.ref 0] [rpO a b e fs (kindP p) (encP p) [] .none] = some (.lst sp,[rpO a b e fs (kindP p) (encP p) [] .none]))
  (hgo : ∀ mh,compGo (fun vs mh => brB (allT text (mcall text (n + 12)) vs mh []) (fun mh => bd (evalE text (mcall text (n + 12)) vs mh (.call 48 [.loc 2,.loc 0,.loc 1,.bin false .Add (.loc 3) (.int 1),.loc 4])) fun y mh => some (some y,mh)) fun mh => some (none,mh)) 2 [some (.bytes d),some (.int dep),some (.bool false)] sp mh = some (kids,mh)) :
  ∃ s,execB text (mcall text (n + 12)) (rpV d a b e dep dg fs told (kindP p),[rpO a b e fs (kindP p) (encP p) [] .none]) (f48.body.drop 4) = some (.ret (.ref 0),s) ∧ s.2 = [rpO a b e fs (kindP p) (encP p) kids .none] := by
 have hm := is_multi (n + 11) p
 rw [h1] at hm
 have hc : cB (kindP p) = true := kindP_closed
 rw [hk] at hm hks hc ⊢
 have hc2 : cL [kMul m] = true := Bool.and_eq_true_iff.mpr ⟨hc,rfl⟩
 obtain ⟨k,s,pre,tl⟩ := m
 revert s
 intro s
 match s with
 | 0 => intro hs hk hks hm hc hc2; exact ⟨_,(xc (x_ifT (t_and (all_t (tv rfl (em (el (by rfl)) rfl (by trivial)) (by rfl)) (by trivial) (all_t (tv rfl (e_meth (el (by rfl)) (by rfl) rfl (by exact c_clo hc2 hm)) (by rfl)) (by trivial) rfl))) (by trivial) (xc (xa (em (ea (el (by rfl)) (by rfl) (by rfl)) rfl (by trivial)) (gn (by rfl) (by rfl))) (xc (xa (e_comp (eK (ec (el (by rfl)) (ec (el (by rfl)) rfl)) (by exact c_ref rfl hks)) (by rfl) (by trivial) (by exact hgo _)) (g_attr (el (by rfl)) (by rfl) (by trivial) (by rfl) (by rfl))) rfl))) (xl (xr (el (by rfl))))),rfl⟩
 | 1 => intro hs hk hks hm hc hc2; exact ⟨_,(xc (x_ifT (t_and (all_t (tv rfl (em (el (by rfl)) rfl (by trivial)) (by rfl)) (by trivial) (all_t (tv rfl (e_meth (el (by rfl)) (by rfl) rfl (by exact c_clo hc2 hm)) (by rfl)) (by trivial) rfl))) (by trivial) (xc (xa (em (ea (el (by rfl)) (by rfl) (by rfl)) rfl (by trivial)) (gn (by rfl) (by rfl))) (xc (xa (e_comp (eK (ec (el (by rfl)) (ec (el (by rfl)) rfl)) (by exact c_ref rfl hks)) (by rfl) (by trivial) (by exact hgo _)) (g_attr (el (by rfl)) (by rfl) (by trivial) (by rfl) (by rfl))) rfl))) (xl (xr (el (by rfl))))),rfl⟩
 | s + 2 => intro hk hs; exact absurd hs (by show ¬ s + 2 < 2; lia)
theorem read_part : ∀ {p : Pc} {lo fl lev N : Nat} {a e dep : Int} {dg : Bool},WF lo p → lev < 5 → dg = false → At d a (hd (flds fl lev ++ rows p) ++ (tx p).t) → e = a + (hd (flds fl lev ++ rows p)).length + (tx p).t.length → (hd (flds fl lev ++ rows p)).length + (tx p).t.length < 100000 →
  dep + ht p < 20 → 13 + ht p ≤ N → mcall text N 48 [.bytes d,.int a,.int e,.int dep,.bool dg] [] = some (partP a (flds fl lev) p,[]) := by
 intro p
 induction p with
 | leaf w e0 b =>
  intro lo fl lev N a e dep dg wf hl hg h he hs hd hN
  obtain ⟨n,rfl⟩ : ∃ n,N = n + 13 := ⟨N - 13,by lia⟩
  obtain ⟨s,hr,h2⟩ := rp_flat (d := d) (n := n) (p := .leaf w e0 b) (a := a) (b := a + (Mn.hd (flds fl lev ++ rows (.leaf w e0 b))).length) (e := e) (dep := dep) (dg := dg) (told := fb wct (rows (.leaf w e0 b))) (fds_closed (rs := flds fl lev ++ rows (.leaf w e0 b))) (by unfold ht at hd; lia) rfl rfl
  refine rp (v := partP a (flds fl lev) (.leaf w e0 b)) wf hl hg h he hr ?_
  rw [h2,he]
  exact fin_ins (partP_closed (p := .leaf w e0 b) (a := a) (fs := flds fl lev))
 | letter hid fl' lev' q ih =>
  intro lo fl lev N a e dep dg wf hl hg h he hs hd hN
  have hN' : 13 + (ht q + 1) ≤ N := hN
  have hd' : dep + ((ht q + 1 : Nat) : Int) < 20 := hd
  obtain ⟨n,rfl⟩ : ∃ n,N = n + 13 := ⟨N - 13,by lia⟩
  induction hid using Bool.casesOn with
  | true =>
   obtain ⟨s,hr,h2⟩ := rp_flat (d := d) (n := n) (p := .letter true fl' lev' q) (a := a) (b := a + (Mn.hd (flds fl lev ++ rows (.letter true fl' lev' q))).length) (e := e) (dep := dep) (dg := dg) (told := fb wct (rows (.letter true fl' lev' q))) (fds_closed (rs := flds fl lev ++ rows (.letter true fl' lev' q))) (by lia) rfl rfl
   refine rp (v := partP a (flds fl lev) (.letter true fl' lev' q)) wf hl hg h he hr ?_
   rw [h2,he]
   exact fin_ins (partP_closed (p := .letter true fl' lev' q) (a := a) (fs := flds fl lev))
  | false =>
   have ht' : (tx (.letter false fl' lev' q)).t = Mn.hd (flds fl' lev' ++ rows q) ++ (tx q).t := hTx_t
   have hl2 : ((tx (.letter false fl' lev' q)).t.length : Int) = (Mn.hd (flds fl' lev' ++ rows q)).length + (tx q).t.length := by rw [ht',List.length_append]; rfl
   have hq := ih (lo := lo) (fl := fl') (lev := lev') (N := n + 12) (dg := false) (dep := dep + 1) (e := e) wf.2 wf.1 rfl (h.right.cast ht') (by rw [he,hl2]; lia) (by lia) (by lia) (by lia)
   obtain ⟨s,hr,h2⟩ := rp_open (d := d) (n := n) (p := .letter false fl' lev' q) (a := a) (e := e) (dep := dep) (dg := dg) (told := fb wct (rows (.letter false fl' lev' q))) (fds_closed (rs := flds fl lev ++ rows (.letter false fl' lev' q))) (by lia) rfl rfl hq
   refine rp (v := partP a (flds fl lev) (.letter false fl' lev' q)) wf hl hg h he hr ?_
   rw [h2,he]
   exact fin_ins (partP_closed (p := .letter false fl' lev' q) (a := a) (fs := flds fl lev))
 | one m k ih =>
  intro lo fl lev N a e dep dg wf hl hg h he hs hd hN
  have hN' : 13 + (ht k + 1) ≤ N := hN
  have hd' : dep + ((ht k + 1 : Nat) : Int) < 20 := hd
  obtain ⟨n,rfl⟩ : ∃ n,N = n + 13 := ⟨N - 13,by lia⟩
  have hm := wf.1
  have k1 : 1 ≤ m.k := Nat.lt_of_le_of_lt (Nat.zero_le _) hm.lo
  have okk : ∀ t ∈ [hTx (rows k) (tx k)],t.Ok := fun t q => by
   cases q with
   | head => exact hTx_ok (rows_ok wf.2) (tx_ok wf.2)
   | tail _ q => exact nM q
  have plk : ∀ t ∈ [hTx (rows k) (tx k)],t.Pl (mkB m.k) := fun t q => by
   cases q with
   | head => exact hTx_pl (rows_ok wf.2) (tx_pl k1 wf.2 (Nat.le_refl _))
   | tail _ q => exact nM q
  have hL : (tx (.one m k)).L.length < 100000 := Nat.lt_of_le_of_lt tx_len (by lia)
  have hks := kid_spans (n := n + 9) (d := d) (a := a) (b := a + (Mn.hd (flds fl lev ++ rows (.one m k))).length) (e := e) (fs := fds (flds fl lev ++ rows (.one m k))) (enc := encP (.one m k)) hm fds_closed plk okk hL (by show 0 < 1000; lia) h.right he
  obtain ⟨Z,hZ⟩ := kidsT_t1 (X := mkB m.k) (tl := m.tl) (k := hTx (rows k) (tx k))
  have ht' : (tx (.one m k)).t = lT (preL m.pre) ++ ((45 :: 45 :: mkB m.k) ++ ([13,10] ++ (Mn.hd (rows k) ++ (tx k).t ++ Z))) := by
   show (bodyTx _ _ _ _ _).t = _
   rw [bodyTx_t,hZ,hTx_t]
  have hlen : (tx (.one m k)).t.length = (lT (preL m.pre)).length + 7 + ((Mn.hd (rows k)).length + (tx k).t.length) + Z.length := by
   rw [ht']; simp only [List.length_append]; show _ + (5 + (2 + _)) = _; lia
  have h7 : At d (a + (Mn.hd (flds fl lev ++ rows (.one m k))).length + (lT (preL m.pre)).length + 7) (Mn.hd (rows k) ++ (tx k).t) := by
   have := (h.right.cast ht').right.right.right.left
   rw [show ∀ x : Int,x + ((45 :: 45 :: mkB m.k).length : Int) + (([13,10] : By).length : Int) = x + 7 from fun x => by show x + ((5 : Nat) : Int) + ((2 : Nat) : Int) = x + 7; lia] at this
   exact this
  have hq := ih (lo := m.k) (fl := 0) (lev := 0) (N := n + 12) (dg := false) (dep := dep + 1) (e := a + (Mn.hd (flds fl lev ++ rows (.one m k))).length + (lT (preL m.pre)).length + 7 + (hTx (rows k) (tx k)).t.length) wf.2 (by lia) rfl h7 (by rw [hTx_t,List.length_append]; show _ = _ + ((Mn.hd (rows k)).length : Int) + _; lia) (by show (Mn.hd (rows k)).length + _ < _; lia) (by lia) (by lia)
  obtain ⟨s,hr,h2⟩ := rp_many (d := d) (n := n) (p := .one m k) (m := m) (a := a) (b := a + (Mn.hd (flds fl lev ++ rows (.one m k))).length) (e := e) (dep := dep) (dg := dg) (told := fb wct (rows (.one m k))) (kids := [partP (a + (Mn.hd (flds fl lev ++ rows (.one m k))).length + (lT (preL m.pre)).length + 7) [] k]) (fds_closed (rs := flds fl lev ++ rows (.one m k))) (by lia) rfl rfl hm.s (sp := kidSp (mkB m.k) (a + (Mn.hd (flds fl lev ++ rows (.one m k))).length + (lT (preL m.pre)).length + 7) (hTx (rows k) (tx k)) []) (by show 1 ≤ 1048576; lia) hks (fun mh => bo_k rfl (bd_k (a := some (partP (a + (Mn.hd (flds fl lev ++ rows (.one m k))).length + (lT (preL m.pre)).length + 7) [] k)) (b := mh) (br_t rfl rfl (bd_k (eK (ec (el (by rfl)) (ec (el (by rfl)) (ec (el (by rfl)) (ec (eb (el (by rfl)) rfl (by trivial)) (ec (el (by rfl)) rfl))))) (by exact c_clo rfl hq)) rfl)) rfl))
  refine rp (v := partP a (flds fl lev) (.one m k)) wf hl hg h he hr ?_
  rw [h2,he]
  exact fin_ins (partP_closed (p := .one m k) (a := a) (fs := flds fl lev))
 | two m k j ih ih2 =>
  intro lo fl lev N a e dep dg wf hl hg h he hs hd hN
  have hN' : 13 + (max (ht k) (ht j) + 1) ≤ N := hN
  have hd' : dep + ((max (ht k) (ht j) + 1 : Nat) : Int) < 20 := hd
  have hm1 : ht k ≤ max (ht k) (ht j) := Nat.le_max_left _ _
  have hm2 : ht j ≤ max (ht k) (ht j) := Nat.le_max_right _ _
  generalize max (ht k) (ht j) = mx at *
  obtain ⟨n,rfl⟩ : ∃ n,N = n + 13 := ⟨N - 13,by lia⟩
  have hm := wf.1
  have k1 : 1 ≤ m.k := Nat.lt_of_le_of_lt (Nat.zero_le _) hm.lo
  have okk : ∀ t ∈ [hTx (rows k) (tx k),hTx (rows j) (tx j)],t.Ok := fun t q => by
   cases q with
   | head => exact hTx_ok (rows_ok wf.2.1) (tx_ok wf.2.1)
   | tail _ q => cases q with
    | head => exact hTx_ok (rows_ok wf.2.2) (tx_ok wf.2.2)
    | tail _ q => exact nM q
  have plk : ∀ t ∈ [hTx (rows k) (tx k),hTx (rows j) (tx j)],t.Pl (mkB m.k) := fun t q => by
   cases q with
   | head => exact hTx_pl (rows_ok wf.2.1) (tx_pl k1 wf.2.1 (Nat.le_refl _))
   | tail _ q => cases q with
    | head => exact hTx_pl (rows_ok wf.2.2) (tx_pl k1 wf.2.2 (Nat.le_refl _))
    | tail _ q => exact nM q
  have hL : (tx (.two m k j)).L.length < 100000 := Nat.lt_of_le_of_lt tx_len (by lia)
  have hks := kid_spans (n := n + 9) (d := d) (a := a) (b := a + (Mn.hd (flds fl lev ++ rows (.two m k j))).length) (e := e) (fs := fds (flds fl lev ++ rows (.two m k j))) (enc := encP (.two m k j)) hm fds_closed plk okk hL (by show 1 < 1000; lia) h.right he
  obtain ⟨Z,hZ⟩ := kidsT_t1 (X := mkB m.k) (tl := m.tl) (k := hTx (rows j) (tx j))
  have ht' : (tx (.two m k j)).t = lT (preL m.pre) ++ ((45 :: 45 :: mkB m.k) ++ ([13,10] ++ (Mn.hd (rows k) ++ (tx k).t ++ ([13,10] ++ ((45 :: 45 :: mkB m.k) ++ ([13,10] ++ (Mn.hd (rows j) ++ (tx j).t ++ Z))))))) := by
   show (bodyTx _ _ _ _ _).t = _
   rw [bodyTx_t,kidsT_t2,hZ,hTx_t,hTx_t]
  have hlen : (tx (.two m k j)).t.length = (lT (preL m.pre)).length + 7 + ((Mn.hd (rows k)).length + (tx k).t.length) + 9 + ((Mn.hd (rows j)).length + (tx j).t.length) + Z.length := by
   rw [ht']; simp only [List.length_append]; show _ + (5 + (2 + (_ + (2 + (5 + (2 + _)))))) = _; lia
  have e7 : ∀ x : Int,x + ((45 :: 45 :: mkB m.k).length : Int) + (([13,10] : By).length : Int) = x + 7 := fun x => by show x + ((5 : Nat) : Int) + ((2 : Nat) : Int) = x + 7; lia
  have h6 := (h.right.cast ht').right.right.right
  rw [e7] at h6
  have h7 := h6.left
  have h8 := h6.right.right.right.right.left
  rw [e7] at h8
  have e8 : a + ((Mn.hd (flds fl lev ++ rows (.two m k j))).length : Int) + ((lT (preL m.pre)).length : Int) + 7 + ((Mn.hd (rows k) ++ (tx k).t).length : Int) + (([13,10] : By).length : Int) + 7 = a + (Mn.hd (flds fl lev ++ rows (.two m k j))).length + (lT (preL m.pre)).length + 7 + (hTx (rows k) (tx k)).t.length + 2 + 7 := by rw [hTx_t]; rfl
  rw [e8] at h8
  have hq := ih (lo := m.k) (fl := 0) (lev := 0) (N := n + 12) (dg := false) (dep := dep + 1) (e := a + (Mn.hd (flds fl lev ++ rows (.two m k j))).length + (lT (preL m.pre)).length + 7 + (hTx (rows k) (tx k)).t.length) wf.2.1 (by lia) rfl h7 (by rw [hTx_t,List.length_append]; show _ = _ + ((Mn.hd (rows k)).length : Int) + _; lia) (by show (Mn.hd (rows k)).length + _ < _; lia) (by lia) (by lia)
  have hq2 := ih2 (lo := m.k) (fl := 0) (lev := 0) (N := n + 12) (dg := false) (dep := dep + 1) (e := a + (Mn.hd (flds fl lev ++ rows (.two m k j))).length + (lT (preL m.pre)).length + 7 + (hTx (rows k) (tx k)).t.length + 2 + 7 + (hTx (rows j) (tx j)).t.length) wf.2.2 (by lia) rfl h8 (by rw [hTx_t (rs := rows j),List.length_append]; show _ = _ + ((Mn.hd (rows j)).length : Int) + _; lia) (by show (Mn.hd (rows j)).length + _ < _; lia) (by lia) (by lia)
  obtain ⟨s,hr,h2⟩ := rp_many (d := d) (n := n) (p := .two m k j) (m := m) (a := a) (b := a + (Mn.hd (flds fl lev ++ rows (.two m k j))).length) (e := e) (dep := dep) (dg := dg) (told := fb wct (rows (.two m k j))) (kids := [partP (a + (Mn.hd (flds fl lev ++ rows (.two m k j))).length + (lT (preL m.pre)).length + 7) [] k,partP (a + (Mn.hd (flds fl lev ++ rows (.two m k j))).length + (lT (preL m.pre)).length + 7 + (hTx (rows k) (tx k)).t.length + 2 + 7) [] j]) (fds_closed (rs := flds fl lev ++ rows (.two m k j))) (by lia) rfl rfl hm.s (sp := kidSp (mkB m.k) (a + (Mn.hd (flds fl lev ++ rows (.two m k j))).length + (lT (preL m.pre)).length + 7) (hTx (rows k) (tx k)) [hTx (rows j) (tx j)]) (by show 2 ≤ 1048576; lia) hks (fun mh => bo_k rfl (bd_k (a := some (partP (a + (Mn.hd (flds fl lev ++ rows (.two m k j))).length + (lT (preL m.pre)).length + 7) [] k)) (b := mh) (br_t rfl rfl (bd_k (eK (ec (el (by rfl)) (ec (el (by rfl)) (ec (el (by rfl)) (ec (eb (el (by rfl)) rfl (by trivial)) (ec (el (by rfl)) rfl))))) (by exact c_clo rfl hq)) rfl)) (bd_k (a := [partP (a + (Mn.hd (flds fl lev ++ rows (.two m k j))).length + (lT (preL m.pre)).length + 7 + (hTx (rows k) (tx k)).t.length + 2 + 7) [] j]) (b := mh)
     (bo_k rfl (bd_k (a := some (partP (a + (Mn.hd (flds fl lev ++ rows (.two m k j))).length + (lT (preL m.pre)).length + 7 + (hTx (rows k) (tx k)).t.length + 2 + 7) [] j)) (b := mh) (br_t rfl rfl (bd_k (eK (ec (el (by rfl)) (ec (el (by rfl)) (ec (el (by rfl)) (ec (eb (el (by rfl)) rfl (by trivial)) (ec (el (by rfl)) rfl))))) (by exact c_clo rfl hq2)) rfl)) rfl)) rfl)))
  refine rp (v := partP a (flds fl lev) (.two m k j)) wf hl hg h he hr ?_
  rw [h2,he]
  exact fin_ins (partP_closed (p := .two m k j) (a := a) (fs := flds fl lev))
end
end
section
structure Lc where
 a : Int
 fl : Nat
 lev : Nat
 p : Pc
 ms : Bool
noncomputable def Lc.hd (x : Lc) : By := Mn.hd (flds x.fl x.lev ++ rows x.p)
noncomputable def Lc.part (x : Lc) : MV := partP x.a (flds x.fl x.lev) x.p
noncomputable def kidsX (x : Lc) : List Lc := match x.p with
 | .one m k => [⟨x.a + x.hd.length + (lT (preL m.pre)).length + 7,0,0,k,false⟩]
 | .two m k j => [⟨x.a + x.hd.length + (lT (preL m.pre)).length + 7,0,0,k,false⟩,⟨x.a + x.hd.length + (lT (preL m.pre)).length + 7 + (hTx (rows k) (tx k)).t.length + 2 + 7,0,0,j,false⟩]
 | _ => []
noncomputable def innerX (x : Lc) : Option Lc := match x.p with
 | .letter false fl lev q => some ⟨x.a + x.hd.length,fl,lev,q,true⟩
 | _ => none
noncomputable def innV : Option Lc → MV
 | none => .none
 | some q => q.part
theorem part_form (x : Lc) : x.part = .ins 3 P8 [.int x.a,.int (x.a + x.hd.length),.int (x.a + x.hd.length + (tx x.p).t.length),.lst (fds (flds x.fl x.lev ++ rows x.p)),kindP x.p,.str (encP x.p),.lst ((kidsX x).map Lc.part),innV (innerX x)] := by
 obtain ⟨a,fl,lev,p,ms⟩ := x
 match p with
 | .leaf .. => rfl
 | .letter true .. => rfl
 | .letter false .. => rfl
 | .one .. => rfl
 | .two .. => rfl
noncomputable def num1 (x : Lc) : List Lc := match kidsX x with
 | [] => [x]
 | k :: ks => k :: ks
noncomputable def num0 (x : Lc) : List Lc := match kidsX x with
 | [] => (match innerX x with
  | none => []
  | some q => num1 q)
 | k :: ks => k :: ks
noncomputable def num (x : Lc) (l : Bool) : List Lc := cond l (num1 x) (num0 x)
theorem part_closed {x : Lc} : cB x.part = true := partP_closed
theorem parts_closed {l : List Lc} : cL (l.map Lc.part) = true := closedL_map fun O => part_closed
theorem inn_ne {q : Lc} : isN q.part = some false := by rw [part_form]; rfl
section
variable {n : Nat}
theorem nk_one (x : Lc) : mcall text (n+1) 50 [x.part,.bool true] [] = some (.lst ((num1 x).map Lc.part),[]) := by
 have hp := part_form x
 have hc : cB x.part = true := part_closed
 unfold num1
 cases hk : kidsX x with
 | nil =>
  rw [hk] at hp
  show mcall text (n+1) 50 [x.part,.bool true] [] = some (.lst [x.part],[])
  rw [hp] at hc ⊢
  exact mc0 (r := f50) rfl rfl rfl (xc (x_ifF (tv rfl (em (ea (el (by rfl)) (by rfl) (by rfl)) (e_lst rfl) (by trivial)) (by rfl)) (by trivial) rfl) (xl (x_ifT (tv rfl (el (by rfl)) (by rfl)) (by trivial) (xl (xr (e_lst (ec (el (by rfl)) rfl))))))) (by exact Bool.and_eq_true_iff.mpr ⟨hc,rfl⟩)
 | cons k ks =>
  rw [hk] at hp
  rw [hp]
  exact mc0 (r := f50) rfl rfl rfl (xl (x_ifT (tv rfl (em (ea (el (by rfl)) (by rfl) (by rfl)) (e_lst rfl) (by trivial)) (by rfl)) (by trivial) (xl (xr (ea (el (by rfl)) (by rfl) (by rfl)))))) (by exact parts_closed (l := k :: ks))
theorem nk_zero (x : Lc) : mcall text (n+2) 50 [x.part,.bool false] [] = some (.lst ((num0 x).map Lc.part),[]) := by
 have hp := part_form x
 unfold num0
 cases hk : kidsX x with
 | nil =>
  rw [hk] at hp
  cases hi : innerX x with
  | none =>
   rw [hi] at hp
   rw [hp]
   exact mc0 (r := f50) rfl rfl rfl (xc (x_ifF (tv rfl (em (ea (el (by rfl)) (by rfl) (by rfl)) (e_lst rfl) (by trivial)) (by rfl)) (by trivial) rfl) (xc (x_ifF (tv rfl (el (by rfl)) (by rfl)) (by trivial) rfl) (xl (xr (e_iteT (tv rfl (em (ea (el (by rfl)) (by rfl) (by rfl)) rfl (by trivial)) (by rfl)) (by trivial) (e_lst rfl)))))) rfl
  | some q =>
   rw [hi] at hp
   rw [hp]
   have hq := nk_one (n := n) q
   have hn : ∀ mh,cmpV mh .Is q.part .none = some false := fun mh => inn_ne
   have hc : cL [q.part,.bool true] = true := Bool.and_eq_true_iff.mpr ⟨part_closed,rfl⟩
   exact mc0 (r := f50) rfl rfl rfl (xc (x_ifF (tv rfl (em (ea (el (by rfl)) (by rfl) (by rfl)) (e_lst rfl) (by trivial)) (by rfl)) (by trivial) rfl) (xc (x_ifF (tv rfl (el (by rfl)) (by rfl)) (by trivial) rfl) (xl (xr (e_iteF (tv rfl (em (ea (el (by rfl)) (by rfl) (by rfl)) rfl (by exact hn _)) (by rfl)) (by trivial) (eK (ec (ea (el (by rfl)) (by rfl) (by rfl)) (ec rfl rfl)) (by exact c_clo hc hq))))))) (by exact parts_closed)
 | cons k ks =>
  rw [hk] at hp
  rw [hp]
  exact mc0 (r := f50) rfl rfl rfl (xl (x_ifT (tv rfl (em (ea (el (by rfl)) (by rfl) (by rfl)) (e_lst rfl) (by trivial)) (by rfl)) (by trivial) (xl (xr (ea (el (by rfl)) (by rfl) (by rfl)))))) (by exact parts_closed (l := k :: ks))
theorem nk (x : Lc) (l : Bool) : mcall text (n+2) 50 [x.part,.bool l] [] = some (.lst ((num x l).map Lc.part),[]) := by
 induction l using Bool.casesOn with
 | true => exact nk_one x
 | false => exact nk_zero x
end
noncomputable def pa : Lc → Bool → List Int → Option Lc
 | x,_,[] => some x
 | x,l,i :: r => if 1 ≤ i ∧ i ≤ (num x l).length then (match (num x l)[(i - 1).toNat]? with | some y => pa y false r | none => none) else none
section
variable {n : Nat}
theorem pa_loop {x0 : Lc} {P : MV} : ∀ {r : List Int} {x : Lc} {l : Bool} {v w : OV},∃ fl s',loopF (fun v s => storeT text (mcall text (n+2)) v s (.name 4)) (fun s => execB text (mcall text (n+2)) s (f51.body[2]?.getD MS.fail).blk) (r.map .int) ([some x0.part,some P,some x.part,some (.bool l),v,w],[]) = some (fl,s') ∧
  ((∃ y l' v' w',pa x l r = some y ∧ fl = .next ∧ s' = ([some x0.part,some P,some y.part,some (.bool l'),v',w'],[])) ∨ (pa x l r = none ∧ fl = .ret .none))
 | [],x,l,v,w => ⟨_,_,rfl,.inl ⟨x,l,v,w,rfl,rfl,rfl⟩⟩
 | i :: r,x,l,v,w => by
  have hk := nk (n := n) x l
  have hc : cL [x.part,.bool l] = true := Bool.and_eq_true_iff.mpr ⟨part_closed,rfl⟩
  have hlen : ∀ mh,bcallV mh .len [.lst ((num x l).map Lc.part)] = some (.int (num x l).length) := fun mh => by show some (MV.int (((num x l).map Lc.part).length : Int)) = _; rw [List.length_map]
  by_cases h : 1 ≤ i ∧ i ≤ (num x l).length
  ·obtain ⟨y,hy⟩ : ∃ y,(num x l)[(i - 1).toNat]? = some y := by
    have : (i - 1).toNat < (num x l).length := by omega
    exact ⟨_,List.getElem?_eq_getElem this⟩
   have hpa : pa x l (i :: r) = pa y false r := by
    show (if 1 ≤ i ∧ i ≤ (num x l).length then (match (num x l)[(i - 1).toNat]? with | some y => pa y false r | none => none) else none) = _
    rw [if_pos h,hy]
   have hs : ∀ mh,subV mh (.lst ((num x l).map Lc.part)) (.int (i - 1)) = some y.part := fun mh => by
    show pyIdx ((num x l).map Lc.part) (i - 1) = _
    unfold pyIdx
    rw [if_pos (by omega),List.getElem?_map,hy]; rfl
   have h1 := h.1
   have h2 := h.2
   obtain ⟨fl,s',hl,hz⟩ := pa_loop (x0 := x0) (P := P) (r := r) (x := y) (l := false) (v := some (.int i)) (w := some (.lst ((num x l).map Lc.part)))
   rw [hpa]
   exact ⟨fl,s',loopF_cons.trans (bo_k (a := ([some x0.part,some P,some x.part,some (.bool l),some (.int i),w],[])) rfl (bd_k (xc (xa (eK (ec (el (by rfl)) (ec (el (by rfl)) rfl)) (by exact c_clo hc hk)) (gn (by rfl) (by rfl))) (xc (x_ifF (t_not (tv rfl (e_cmp2 rfl (el (by rfl)) (by rfl) (by trivial) (e_bcall (ec (el (by rfl)) rfl) (by exact hlen _)) (by rfl)) (by rfl))) (by exact congrArg (!·) (decide_eq_true h2)) rfl) (xc (xa (eu (el (by rfl)) (eb (el (by rfl)) rfl (by trivial)) (by exact hs _)) (gn (by rfl) (by rfl))) (xc (xa rfl (gn (by rfl) (by rfl))) rfl)))) hl)),hz⟩
  ·have hpa : pa x l (i :: r) = none := by
    show (if 1 ≤ i ∧ i ≤ (num x l).length then (match (num x l)[(i - 1).toNat]? with | some y => pa y false r | none => none) else none) = _
    rw [if_neg h]
   rw [hpa]
   by_cases h1 : 1 ≤ i
   ·have h2 : ¬ i ≤ (num x l).length := fun q => h ⟨h1,q⟩
    exact ⟨_,_,loopF_cons.trans (bo_k (a := ([some x0.part,some P,some x.part,some (.bool l),some (.int i),w],[])) rfl (bd_k (xc (xa (eK (ec (el (by rfl)) (ec (el (by rfl)) rfl)) (by exact c_clo hc hk)) (gn (by rfl) (by rfl))) (xl (x_ifT (t_not (tv rfl (e_cmp2 rfl (el (by rfl)) (by rfl) (by trivial) (e_bcall (ec (el (by rfl)) rfl) (by exact hlen _)) (by rfl)) (by rfl))) (by exact congrArg (!·) (decide_eq_false h2)) (xl (xr rfl))))) rfl)),.inr ⟨rfl,rfl⟩⟩
   ·exact ⟨_,_,loopF_cons.trans (bo_k (a := ([some x0.part,some P,some x.part,some (.bool l),some (.int i),w],[])) rfl (bd_k (xc (xa (eK (ec (el (by rfl)) (ec (el (by rfl)) rfl)) (by exact c_clo hc hk)) (gn (by rfl) (by rfl))) (xl (x_ifT (t_not (tv rfl (e_cmp2f rfl (el (by rfl)) (by rfl) (by trivial)) (by rfl))) (by trivial) (xl (xr rfl))))) rfl)),.inr ⟨rfl,rfl⟩⟩
theorem part_at {x : Lc} {r : List Int} : mcall text (n+3) 51 [x.part,.tup (r.map .int)] [] = some (innV (pa x true r),[]) := by
 obtain ⟨fl,s',hl,hz⟩ := pa_loop (n := n) (x0 := x) (P := .tup (r.map .int)) (r := r) (x := x) (l := true) (v := none) (w := none)
 rcases hz with ⟨y,l',v',w',hp,rfl,rfl⟩ | ⟨hp,rfl⟩
 ·rw [hp]
  exact mc0 (r := f51) rfl rfl rfl (xc (xa (el (by rfl)) (gn (by rfl) (by rfl))) (xc (xa rfl (gn (by rfl) (by rfl))) (xc (x_for (el (by rfl)) (by rfl) (by exact hl)) (xl (xr (el (by rfl))))))) (by exact part_closed)
 ·rw [hp]
  exact mc0 (r := f51) rfl rfl rfl (xc (xa (el (by rfl)) (gn (by rfl) (by rfl))) (xc (xa rfl (gn (by rfl) (by rfl))) (xl (x_for (el (by rfl)) (by rfl) (by exact hl))))) rfl
end
end
section
theorem asBytes_map : ∀ {l : List By},asBytes (l.map .bytes) = some l
 | [] => rfl
 | b :: l => by show (asBytes (l.map .bytes)).map _ = _; rw [asBytes_map]; rfl
theorem p_join {mh : MH} {l : List By} (h : (l.map List.length).sum ≤ LIM) : bmethV mh (.bytes []) .join [.lst (l.map .bytes)] = some (.bytes l.flatten,mh) := by
 show ((asBytes (l.map MV.bytes)).bind fun bs => if (bs.map List.length).sum ≤ LIM then some (MV.bytes bs.flatten) else none).map _ = _
 rw [asBytes_map]
 show (if (l.map List.length).sum ≤ LIM then some (MV.bytes l.flatten) else none).map _ = _
 rw [if_pos h]; rfl
noncomputable def rT (r : RK) : By := rowT (rw r)
noncomputable def rsT' (L : List RK) : By := rowsT (L.map rw)
section
variable {d : By} {n : Nat}
theorem comp_hd {C : Callee} {mh : MH} {wt : List (List Nat)} {b : Bool} (hC : ∀ r : RK,r.Ok → C 11 [field (rw r)] [] = some (.str (wd r),[])) : ∀ {L : List RK} {a : Int},(∀ r ∈ L,r.Ok) → At d a (rsT' L) →
  compGo (fun vs mh => brB (allT text C vs mh [.cmp .NotEq (.cmp .In (.meth (.loc 0) 7 []) (.loc 5)) (.loc 4)]) (fun mh => bd (evalE text C vs mh (.slice false (.loc 3) (.loc 1) (.loc 2))) fun y mh => some (some y,mh)) fun mh => some (none,mh)) 3 [some (.bytes d),some (.bool b),some (.lst (wt.map .str))] (spansR a (L.map rw)) mh
   = some (((L.filter fun r => !(wt.contains (wd r) == b)).map rT).map .bytes,mh)
 | [],a,ok,h => rfl
 | r :: L,a,ok,h => by
  have h' : At d a (rT r ++ rsT' L) := h
  have ih := comp_hd (mh := mh) (wt := wt) (b := b) hC (L := L) (fun r q => ok r (.tail _ q)) h'.right
  have hc : cL [field (rw r)] = true := rfl
  have hw := hC r (ok r (.head _))
  have as : ∀ {l : List (List Nat)},asStrs (l.map .str) = some l := by
   intro l
   induction l with
   | nil => rfl
   | cons s l ih => show (asStrs (l.map .str)).map _ = _; rw [ih]; rfl
  have hin : ∀ mh,cmpV mh .In (.str (wd r)) (.lst (wt.map .str)) = some (wt.contains (wd r)) := fun mh => by
   show (asStrs (wt.map .str)).map _ = _; rw [as]; rfl
  have hs : sliceV false mh (.bytes d) (.int a) (.int (a + (rT r).length)) = some (.bytes (rT r),mh) := p_slice h'.left rfl
  have te : evalT text C ([some (field (rw r)),some (.int a),some (.int (a + (rT r).length))] ++ [some (.bytes d),some (.bool b),some (.lst (wt.map .str))]) mh (.cmp .NotEq (.cmp .In (.meth (.loc 0) 7 []) (.loc 5)) (.loc 4)) = some (!(wt.contains (wd r) == b),mh) :=
   tv rfl (em (em (e_meth (el rfl) rfl rfl (c_clo hc hw)) (el rfl) (hin _)) (el rfl) rfl) rfl
  show compGo _ 3 _ (MV.tup [field (rw r),.int a,.int (a + (rT r).length)] :: spansR (a + (rT r).length) (L.map rw)) mh = _
  cases hk : !(wt.contains (wd r) == b) with
  | true =>
   rw [hk] at te
   rw [List.filter_cons_of_pos (by exact hk)]
   exact bo_k rfl (bd_k (a := some (.bytes (rT r))) (b := mh) (br_t (all_t te rfl rfl) rfl (bd_k (e_slice (el rfl) (el rfl) (el rfl) hs) rfl)) (bd_k ih rfl))
  | false =>
   rw [hk] at te
   rw [List.filter_cons_of_neg (by show ¬ (!(wt.contains (wd r) == b)) = true; rw [hk]; exact Bool.false_ne_true)]
   exact bo_k rfl (bd_k (a := none) (b := mh) (br_f (all_f te rfl) rfl rfl) (bd_k ih rfl))
theorem sp_last : ∀ {rs : List Rw} {r : Rw} {a : Int},∃ f b,(spansR a (r :: rs))[rs.length]? = some (.tup [f,b,.int (a + (rowsT (r :: rs)).length)])
 | [],r,a => ⟨_,_,by show some (MV.tup [_,_,.int (a + (rowT r).length)]) = _; rw [show rowsT [r] = rowT r from List.append_nil _]⟩
 | r2 :: rs,r,a => by
  obtain ⟨f,b,h⟩ := sp_last (rs := rs) (r := r2) (a := a + (rowT r).length)
  refine ⟨f,b,?_⟩
  show (spansR (a + (rowT r).length) (r2 :: rs))[rs.length]? = _
  rw [h,show rowsT (r :: r2 :: rs) = rowT r ++ rowsT (r2 :: rs) from rfl,List.length_append]
  rw [show a + ((rowT r).length : Int) + ((rowsT (r2 :: rs)).length : Int) = a + (((rowT r).length + (rowsT (r2 :: rs)).length : Nat) : Int) by lia]
theorem filt_len {L : List RK} {f : RK → Bool} : (((L.filter f).map rT).map List.length).sum ≤ (rsT' L).length := by
 induction L with
 | nil => exact Nat.le_refl _
 | cons r L ih =>
  have e : (rsT' (r :: L)).length = (rT r).length + (rsT' L).length := List.length_append
  rw [e]
  cases h : f r with
  | true => rw [List.filter_cons_of_pos h]; exact Nat.add_le_add_left ih _
  | false => rw [List.filter_cons_of_neg (by rw [h]; exact Bool.false_ne_true)]; lia
noncomputable def pick (wt : List (List Nat)) (b : Bool) (L : List RK) : By := ((L.filter fun r => !(wt.contains (wd r) == b)).map rT).flatten
theorem header_octets {x : Lc} {wt nm : List (List Nat)} {b : Bool} {lo : Nat} (wf : WF lo x.p) (hl : x.lev < 5) (h : At d x.a (x.hd ++ (tx x.p).t)) (hs : x.hd.length < 100000)
  (hn : ∀ mh,compGo (fun vs mh => brB (allT text (mcall text (n+4)) vs mh []) (fun mh => bd (evalE text (mcall text (n+4)) vs mh (.call 8 [.loc 0])) fun y mh => some (some y,mh)) fun mh => some (none,mh)) 1 [] (nm.map .str) mh = some (wt.map .str,mh)) (hnl : (nm.map MV.str).length ≤ LIM) :
  mcall text (n+5) 53 [.bytes d,x.part,.tup (nm.map .str),.bool b] [] = some (.bytes (pick wt b (flds x.fl x.lev ++ rows x.p) ++ [13,10]),[]) := by
 have ok : ∀ r ∈ flds x.fl x.lev ++ rows x.p,r.Ok := fun r m => (List.mem_append.mp m).elim (flds_ok hl r) (rows_ok wf r)
 have hh : x.hd = rsT' (flds x.fl x.lev ++ rows x.p) ++ [13,10] := rfl
 have hlr : ((flds x.fl x.lev ++ rows x.p).map rw).length < 1000 := by rw [List.length_map,List.length_append]; have := rows_len (p := x.p); have := flds_len (fl := x.fl) (lev := x.lev); lia
 have rs : mcall text (n+4) 15 [.bytes d,.int x.a,.int (x.a + x.hd.length)] [] = some (.tup [.lst (spansR x.a ((flds x.fl x.lev ++ rows x.p).map rw)),.int (x.a + x.hd.length)],[]) :=
  read_spans (n := n + 1) (Z := []) (fun r m => (List.mem_map.mp m).elim fun x q => q.2 ▸ rw_ok x (ok x q.1)) (h.left.cast (List.append_nil _).symm) (by rw [List.append_nil]; rfl) hlr
 have h1 := h.left.left (X := rsT' (flds x.fl x.lev ++ rows x.p))
 have h2 : At d (x.a + (rsT' (flds x.fl x.lev ++ rows x.p)).length) [13,10] := h.left.right (X := rsT' (flds x.fl x.lev ++ rows x.p))
 have hx : (x.hd.length : Int) = (rsT' (flds x.fl x.lev ++ rows x.p)).length + 2 := by rw [hh,List.length_append]; rfl
 have hgo := fun mh => comp_hd (d := d) (mh := mh) (C := mcall text (n+4)) (wt := wt) (b := b) (fun r q => rw_wd (n + 1) r q) ok h1
 have hL : (spansR x.a ((flds x.fl x.lev ++ rows x.p).map rw)).length ≤ LIM := by rw [spansR_len]; unfold LIM; lia
 have hj := p_join (mh := []) (l := (((flds x.fl x.lev ++ rows x.p).filter fun r => !(wt.contains (wd r) == b)).map rT)) (Nat.le_trans filt_len (by unfold LIM; rw [hh,List.length_append] at hs; lia))
 have hs2 : sliceV false [] (.bytes d) (.int (x.a + (rsT' (flds x.fl x.lev ++ rows x.p)).length)) (.int (x.a + x.hd.length)) = some (.bytes [13,10],[]) := p_slice h2 (by rw [hx]; show _ = _ + ((2 : Nat) : Int); lia)
 have hadd : (pick wt b (flds x.fl x.lev ++ rows x.p)).length + ([13,10] : By).length ≤ LIM := by
  have := filt_len (L := flds x.fl x.lev ++ rows x.p) (f := fun r => !(wt.contains (wd r) == b))
  rw [hh,List.length_append] at hs
  unfold pick; rw [List.length_flatten]; unfold LIM; show _ + 2 ≤ _; lia
 have hadd' := p_badd (k := false) (mh := []) hadd
 rw [part_form]
 generalize hLL : flds x.fl x.lev ++ rows x.p = LL at *
 induction LL using List.casesOn with
 | nil =>
  have e0 : x.a + ((rsT' []).length : Int) = x.a := Int.add_zero _
  rw [e0] at hs2
  exact mc0 (r := f53) rfl rfl rfl (xc (xa (e_comp (el (by rfl)) (by rfl) (by trivial) (by exact hn _)) (gn (by rfl) (by rfl))) (xc (xa (eu (eK (ec (el (by rfl)) (ec (ea (el (by rfl)) (by rfl) (by rfl)) (ec (ea (el (by rfl)) (by rfl) (by rfl)) rfl))) (by exact c_clo rfl rs)) rfl (by exact rfl)) (gn (by rfl) (by rfl))) (xc (xa (e_comp (el (by rfl)) (by rfl) (by trivial) (by exact hgo _)) (gn (by rfl) (by rfl))) (xc (xa (e_iteF (tv rfl (em (el (by rfl)) (e_lst rfl) (by trivial)) (by rfl)) (by trivial) (ea (el (by rfl)) (by rfl) (by rfl))) (gn (by rfl) (by rfl))) (xl (xr (eb (e_bmeth rfl (by trivial) (ec (el (by rfl)) rfl) (by exact hj)) (e_slice (el (by rfl)) (el (by rfl)) (ea (el (by rfl)) (by rfl) (by rfl)) (by exact hs2)) (by exact hadd')))))))) rfl
 | cons r LL =>
  obtain ⟨f,b',hsp⟩ := sp_last (rs := LL.map rw) (r := rw r) (a := x.a)
  have hsub : ∀ mh,subV mh (.lst (spansR x.a ((r :: LL).map rw))) (.int (-1)) = some (.tup [f,b',.int (x.a + (rsT' (r :: LL)).length)]) := fun mh => by
   have hlen : (spansR x.a ((r :: LL).map rw)).length = LL.length + 1 := by rw [spansR_len,List.length_map]; rfl
   show pyIdx (spansR x.a ((r :: LL).map rw)) (-1) = _
   unfold pyIdx
   rw [if_neg (by decide),hlen,if_pos (by lia),show (-1 + ((LL.length + 1 : Nat) : Int)).toNat = (LL.map rw).length by rw [List.length_map]; lia]
   exact hsp
  exact mc0 (r := f53) rfl rfl rfl (xc (xa (e_comp (el (by rfl)) (by rfl) (by trivial) (by exact hn _)) (gn (by rfl) (by rfl))) (xc (xa (eu (eK (ec (el (by rfl)) (ec (ea (el (by rfl)) (by rfl) (by rfl)) (ec (ea (el (by rfl)) (by rfl) (by rfl)) rfl))) (by exact c_clo rfl rs)) rfl (by exact rfl)) (gn (by rfl) (by rfl))) (xc (xa (e_comp (el (by rfl)) (by rfl) (by trivial) (by exact hgo _)) (gn (by rfl) (by rfl))) (xc (xa (e_iteT (tv rfl (em (el (by rfl)) (e_lst rfl) (by trivial)) (by rfl)) (by trivial) (eu (eu (el (by rfl)) rfl (by exact hsub _)) rfl (by exact rfl))) (gn (by rfl) (by rfl))) (xl (xr (eb (e_bmeth rfl (by trivial) (ec (el (by rfl)) rfl) (by exact hj)) (e_slice (el (by rfl)) (el (by rfl)) (ea (el (by rfl)) (by rfl) (by rfl)) (by exact hs2)) (by exact hadd')))))))) rfl
end
end
section
noncomputable def wH : List Nat := [72,69,65,68,69,82]
noncomputable def wT : List Nat := [84,69,88,84]
noncomputable def wM : List Nat := [77,73,77,69]
noncomputable def wF : List Nat := [72,69,65,68,69,82,46,70,73,69,76,68,83]
noncomputable def wN : List Nat := [72,69,65,68,69,82,46,70,73,69,76,68,83,46,78,79,84]
noncomputable def nFrom : List Nat := [70,82,79,77]
noncomputable def nfrom : List Nat := [102,114,111,109]
noncomputable abbrev sec (r : List Int) (w : List Nat) (nm : List MV) (pt : MV) : MV := .ins 4 [23,7,24,25] [.tup (r.map .int),.str w,.tup nm,pt]
theorem ints_closed : ∀ {r : List Int},cL (r.map .int) = true := closedL_map fun O => rfl
noncomputable def dV : Option By → MV
 | none => .none
 | some b => .bytes b
theorem dV_closed {o : Option By} : cB (dV o) = true := by induction o using Option.casesOn <;> rfl
structure GoodL (d : By) (x : Lc) : Prop where
 at_ : At d x.a (x.hd ++ (tx x.p).t)
 wf : ∃ lo,WF lo x.p
 lev : x.lev < 5
 sz : x.hd.length < 100000
noncomputable def fromsP (x : Lc) : By := pick [nfrom] false (flds x.fl x.lev ++ rows x.p) ++ [13,10]
noncomputable def othersP (x : Lc) : By := pick [[120],nfrom] true (flds x.fl x.lev ++ rows x.p) ++ [13,10]
section
variable {d : By} {n : Nat} {x y q : Lc} {r : List Int} {pt : MV}
theorem nm1 {mh : MH} : compGo (fun vs mh => brB (allT text (mcall text (n+4)) vs mh []) (fun mh => bd (evalE text (mcall text (n+4)) vs mh (.call 8 [.loc 0])) fun y mh => some (some y,mh)) fun mh => some (none,mh)) 1 [] ([nFrom].map .str) mh = some ([nfrom].map .str,mh) := by kernel_rfl
theorem nm2 {mh : MH} : compGo (fun vs mh => brB (allT text (mcall text (n+4)) vs mh []) (fun mh => bd (evalE text (mcall text (n+4)) vs mh (.call 8 [.loc 0])) fun y mh => some (some y,mh)) fun mh => some (none,mh)) 1 [] ([[120],nfrom].map .str) mh = some ([[120],nfrom].map .str,mh) := by kernel_rfl
theorem sl_head (g : GoodL d x) {mh : MH} : sliceV false mh (.bytes d) (.int x.a) (.int (x.a + x.hd.length)) = some (.bytes x.hd,mh) := p_slice g.at_.left rfl
theorem sl_text (g : GoodL d x) {mh : MH} : sliceV false mh (.bytes d) (.int (x.a + x.hd.length)) (.int (x.a + x.hd.length + (tx x.p).t.length)) = some (.bytes (tx x.p).t,mh) := p_slice g.at_.right rfl
theorem sl_all (g : GoodL d x) {mh : MH} : sliceV false mh (.bytes d) (.int x.a) (.int (x.a + x.hd.length + (tx x.p).t.length)) = some (.bytes (x.hd ++ (tx x.p).t),mh) := p_slice g.at_ (by rw [List.length_append]; lia)
theorem wo_H (g : GoodL d x) : mcall text (n+6) 54 [.bytes d,x.part,sec r wH [] pt] [] = some (.bytes x.hd,[]) := by
 rw [part_form]; exact mc0 (r := f54) rfl rfl rfl (xl (x_ifT (tv rfl (em (ea (el (by rfl)) (by rfl) (by rfl)) rfl (by trivial)) (by rfl)) (by trivial) (xl (xr (e_slice (el (by rfl)) (ea (el (by rfl)) (by rfl) (by rfl)) (ea (el (by rfl)) (by rfl) (by rfl)) (by exact sl_head g)))))) rfl
theorem wo_T (g : GoodL d x) : mcall text (n+6) 54 [.bytes d,x.part,sec r wT [] pt] [] = some (.bytes (tx x.p).t,[]) := by
 rw [part_form]; exact mc0 (r := f54) rfl rfl rfl (xc (x_ifF (tv rfl (em (ea (el (by rfl)) (by rfl) (by rfl)) rfl (by trivial)) (by rfl)) (by trivial) rfl) (xl (x_ifT (tv rfl (em (ea (el (by rfl)) (by rfl) (by rfl)) rfl (by trivial)) (by rfl)) (by trivial) (xl (xr (e_slice (el (by rfl)) (ea (el (by rfl)) (by rfl) (by rfl)) (ea (el (by rfl)) (by rfl) (by rfl)) (by exact sl_text g))))))) rfl
theorem wo_0 (g : GoodL d x) : mcall text (n+6) 54 [.bytes d,x.part,sec r [] [] pt] [] = some (.bytes (x.hd ++ (tx x.p).t),[]) := by
 rw [part_form]; exact mc0 (r := f54) rfl rfl rfl (xc (x_ifF (tv rfl (em (ea (el (by rfl)) (by rfl) (by rfl)) rfl (by trivial)) (by rfl)) (by trivial) rfl) (xc (x_ifF (tv rfl (em (ea (el (by rfl)) (by rfl) (by rfl)) rfl (by trivial)) (by rfl)) (by trivial) rfl) (xc (x_ifF (tv rfl (em (ea (el (by rfl)) (by rfl) (by rfl)) rfl (by trivial)) (by rfl)) (by trivial) rfl) (xl (xr (e_slice (el (by rfl)) (ea (el (by rfl)) (by rfl) (by rfl)) (ea (el (by rfl)) (by rfl) (by rfl)) (by exact sl_all g))))))) rfl
theorem wo_F (g : GoodL d x) : mcall text (n+6) 54 [.bytes d,x.part,sec r wF [.str nFrom] pt] [] = some (.bytes (fromsP x),[]) := by
 obtain ⟨lo,wf⟩ := g.wf
 have h := header_octets (n := n) (b := false) (nm := [nFrom]) wf g.lev g.at_ g.sz (fun mh => nm1) (by show 1 ≤ 1048576; lia)
 have hc : cL [.bytes d,x.part,.tup [.str nFrom],.bool false] = true := by show (true && (cB x.part && _)) = true; rw [part_closed]; rfl
 rw [part_form] at *
 exact mc0 (r := f54) rfl rfl rfl (xc (x_ifF (tv rfl (em (ea (el (by rfl)) (by rfl) (by rfl)) rfl (by trivial)) (by rfl)) (by trivial) rfl) (xc (x_ifF (tv rfl (em (ea (el (by rfl)) (by rfl) (by rfl)) rfl (by trivial)) (by rfl)) (by trivial) rfl) (xl (x_ifT (tv rfl (em (ea (el (by rfl)) (by rfl) (by rfl)) rfl (by trivial)) (by rfl)) (by trivial) (xl (xr (eK (ec (el (by rfl)) (ec (el (by rfl)) (ec (ea (el (by rfl)) (by rfl) (by rfl)) (ec (em (ea (el (by rfl)) (by rfl) (by rfl)) rfl (by trivial)) rfl)))) (by exact c_clo hc h)))))))) rfl
theorem wo_N (g : GoodL d x) : mcall text (n+6) 54 [.bytes d,x.part,sec r wN [.str [120],.str nfrom] pt] [] = some (.bytes (othersP x),[]) := by
 obtain ⟨lo,wf⟩ := g.wf
 have h := header_octets (n := n) (b := true) (nm := [[120],nfrom]) wf g.lev g.at_ g.sz (fun mh => nm2) (by show 2 ≤ 1048576; lia)
 have hc : cL [.bytes d,x.part,.tup [.str [120],.str nfrom],.bool true] = true := by show (true && (cB x.part && _)) = true; rw [part_closed]; rfl
 rw [part_form] at *
 exact mc0 (r := f54) rfl rfl rfl (xc (x_ifF (tv rfl (em (ea (el (by rfl)) (by rfl) (by rfl)) rfl (by trivial)) (by rfl)) (by trivial) rfl) (xc (x_ifF (tv rfl (em (ea (el (by rfl)) (by rfl) (by rfl)) rfl (by trivial)) (by rfl)) (by trivial) rfl) (xl (x_ifT (tv rfl (em (ea (el (by rfl)) (by rfl) (by rfl)) rfl (by trivial)) (by rfl)) (by trivial) (xl (xr (eK (ec (el (by rfl)) (ec (el (by rfl)) (ec (ea (el (by rfl)) (by rfl) (by rfl)) (ec (em (ea (el (by rfl)) (by rfl) (by rfl)) rfl (by trivial)) rfl)))) (by exact c_clo hc h)))))))) rfl
structure Asked (d : By) (P : MV) (r : List Int) (w : List Nat) (nm : List MV) (o : Option By) : Prop where
 cl : cL nm = true
 go : ∀ n pt,cB pt = true → mcall text (n+8) 55 [.bytes d,P,sec r w nm pt,.fn 51] [] = some (dV o,[])
theorem sec_closed {w : List Nat} {nm : List MV} (hn : cL nm = true) (hp : cB pt = true) : cL [.bytes d,x.part,sec r w nm pt] = true := by
 show (true && (cB x.part && ((cL (r.map MV.int) && (true && (cL nm && (cB pt && true)))) && true))) = true
 rw [part_closed,ints_closed,hn,hp]; rfl
theorem ask_root {w : List Nat} {nm : List MV} {b : By} (hn : cL nm = true) (h : ∀ n pt,mcall text (n+6) 54 [.bytes d,x.part,sec [] w nm pt] [] = some (.bytes b,[])) : Asked d x.part [] w nm (some b) :=
 ⟨hn,fun n pt hp => by
  have hh : mcall text (n + 7) 54 [.bytes d,x.part,sec [] w nm pt] [] = some (.bytes b,[]) := h (n + 1) pt
  have hc : cL [.bytes d,x.part,sec [] w nm pt] = true := sec_closed (r := []) hn hp
  exact mc0 (r := f55) rfl rfl rfl (xl (x_ifT (tv rfl (em (ea (el (by rfl)) (by rfl) (by rfl)) (et rfl) (by trivial)) (by rfl)) (by trivial) (xl (xr (eK (ec (el (by rfl)) (ec (el (by rfl)) (ec (el (by rfl)) rfl))) (by exact c_clo hc hh)))))) rfl⟩
theorem pa_closed : cL [x.part,.tup (r.map .int)] = true := by
 show (cB x.part && (cL (r.map MV.int) && true)) = true
 rw [part_closed,ints_closed]; rfl
theorem ask_no {i : Int} {w : List Nat} {nm : List MV} (hn : cL nm = true) (h : pa x true (i :: r) = none) : Asked d x.part (i :: r) w nm none :=
 ⟨hn,fun n pt hp => by
  have hpa := part_at (n := n + 4) (x := x) (r := i :: r)
  rw [h] at hpa
  exact mc0 (r := f55) rfl rfl rfl (xc (x_ifF (tv rfl (em (ea (el (by rfl)) (by rfl) (by rfl)) (et rfl) (by trivial)) (by rfl)) (by trivial) rfl) (xc (xa (e_callv (by rfl) (ec (el (by rfl)) (ec (ea (el (by rfl)) (by rfl) (by rfl)) rfl)) (by exact c_clo (pa_closed (r := i :: r)) hpa)) (gn (by rfl) (by rfl))) (xl (x_ifT (tv rfl (em (el (by rfl)) rfl (by trivial)) (by rfl)) (by trivial) (xl (xr rfl)))))) rfl⟩
theorem ask_body {i : Int} (h : pa x true (i :: r) = some y) (g : GoodL d y) : Asked d x.part (i :: r) [] [] (some (tx y.p).t) :=
 ⟨rfl,fun n pt hp => by
  have hpa := part_at (n := n + 4) (x := x) (r := i :: r)
  rw [h] at hpa
  have hpa : mcall text (n + 7) 51 [x.part,.tup ((i :: r).map .int)] [] = some (y.part,[]) := hpa
  rw [part_form y] at hpa
  exact mc0 (r := f55) rfl rfl rfl (xc (x_ifF (tv rfl (em (ea (el (by rfl)) (by rfl) (by rfl)) (et rfl) (by trivial)) (by rfl)) (by trivial) rfl) (xc (xa (e_callv (by rfl) (ec (el (by rfl)) (ec (ea (el (by rfl)) (by rfl) (by rfl)) rfl)) (by exact c_clo (pa_closed (r := i :: r)) hpa)) (gn (by rfl) (by rfl))) (xc (x_ifF (tv rfl (em (el (by rfl)) rfl (by trivial)) (by rfl)) (by trivial) rfl) (xl (x_ifT (tv rfl (em (ea (el (by rfl)) (by rfl) (by rfl)) rfl (by trivial)) (by rfl)) (by trivial) (xl (xr (e_slice (el (by rfl)) (ea (el (by rfl)) (by rfl) (by rfl)) (ea (el (by rfl)) (by rfl) (by rfl)) (by exact sl_text g))))))))) rfl⟩
theorem ask_mime {i : Int} (h : pa x true (i :: r) = some y) (g : GoodL d y) : Asked d x.part (i :: r) wM [] (some y.hd) :=
 ⟨rfl,fun n pt hp => by
  have hpa := part_at (n := n + 4) (x := x) (r := i :: r)
  rw [h] at hpa
  have hpa : mcall text (n + 7) 51 [x.part,.tup ((i :: r).map .int)] [] = some (y.part,[]) := hpa
  rw [part_form y] at hpa
  exact mc0 (r := f55) rfl rfl rfl (xc (x_ifF (tv rfl (em (ea (el (by rfl)) (by rfl) (by rfl)) (et rfl) (by trivial)) (by rfl)) (by trivial) rfl) (xc (xa (e_callv (by rfl) (ec (el (by rfl)) (ec (ea (el (by rfl)) (by rfl) (by rfl)) rfl)) (by exact c_clo (pa_closed (r := i :: r)) hpa)) (gn (by rfl) (by rfl))) (xc (x_ifF (tv rfl (em (el (by rfl)) rfl (by trivial)) (by rfl)) (by trivial) rfl) (xc (x_ifF (tv rfl (em (ea (el (by rfl)) (by rfl) (by rfl)) rfl (by trivial)) (by rfl)) (by trivial) rfl) (xl (x_ifT (tv rfl (em (ea (el (by rfl)) (by rfl) (by rfl)) rfl (by trivial)) (by rfl)) (by trivial) (xl (xr (e_slice (el (by rfl)) (ea (el (by rfl)) (by rfl) (by rfl)) (ea (el (by rfl)) (by rfl) (by rfl)) (by exact sl_head g)))))))))) rfl⟩
theorem ask_out {i : Int} {w : List Nat} (h : pa x true (i :: r) = some y) (hi : innerX y = none) (h0 : decide (w = []) = false) (hM : decide (w = wM) = false) : Asked d x.part (i :: r) w [] none :=
 ⟨rfl,fun n pt hp => by
  have hpa := part_at (n := n + 4) (x := x) (r := i :: r)
  rw [h] at hpa
  have hpa : mcall text (n + 7) 51 [x.part,.tup ((i :: r).map .int)] [] = some (y.part,[]) := hpa
  rw [part_form y,hi] at hpa
  exact mc0 (r := f55) rfl rfl rfl (xc (x_ifF (tv rfl (em (ea (el (by rfl)) (by rfl) (by rfl)) (et rfl) (by trivial)) (by rfl)) (by trivial) rfl) (xc (xa (e_callv (by rfl) (ec (el (by rfl)) (ec (ea (el (by rfl)) (by rfl) (by rfl)) rfl)) (by exact c_clo (pa_closed (r := i :: r)) hpa)) (gn (by rfl) (by rfl))) (xc (x_ifF (tv rfl (em (el (by rfl)) rfl (by trivial)) (by rfl)) (by trivial) rfl) (xc (x_ifF (tv rfl (em (ea (el (by rfl)) (by rfl) (by rfl)) rfl (by trivial)) (by rfl)) (by exact h0) rfl) (xc (x_ifF (tv rfl (em (ea (el (by rfl)) (by rfl) (by rfl)) rfl (by trivial)) (by rfl)) (by exact hM) rfl) (xl (xr (e_iteT (tv rfl (em (ea (el (by rfl)) (by rfl) (by rfl)) rfl (by trivial)) (by rfl)) (by trivial) rfl)))))))) rfl⟩
theorem ask_in {i : Int} {w : List Nat} {nm : List MV} {b : By} (hn : cL nm = true) (h : pa x true (i :: r) = some y) (hi : innerX y = some q) (h0 : decide (w = []) = false) (hM : decide (w = wM) = false) (hw : ∀ n pt,mcall text (n+6) 54 [.bytes d,q.part,sec (i :: r) w nm pt] [] = some (.bytes b,[])) : Asked d x.part (i :: r) w nm (some b) :=
 ⟨hn,fun n pt hp => by
  have hpa := part_at (n := n + 4) (x := x) (r := i :: r)
  rw [h] at hpa
  have hpa : mcall text (n + 7) 51 [x.part,.tup ((i :: r).map .int)] [] = some (y.part,[]) := hpa
  rw [part_form y,hi] at hpa
  have hh : mcall text (n + 7) 54 [.bytes d,q.part,sec (i :: r) w nm pt] [] = some (.bytes b,[]) := hw (n + 1) pt
  have hc : cL [.bytes d,q.part,sec (i :: r) w nm pt] = true := sec_closed (r := i :: r) hn hp
  have hN : ∀ mh,cmpV mh .Is q.part .none = some false := fun mh => inn_ne
  exact mc0 (r := f55) rfl rfl rfl (xc (x_ifF (tv rfl (em (ea (el (by rfl)) (by rfl) (by rfl)) (et rfl) (by trivial)) (by rfl)) (by trivial) rfl) (xc (xa (e_callv (by rfl) (ec (el (by rfl)) (ec (ea (el (by rfl)) (by rfl) (by rfl)) rfl)) (by exact c_clo (pa_closed (r := i :: r)) hpa)) (gn (by rfl) (by rfl))) (xc (x_ifF (tv rfl (em (el (by rfl)) rfl (by exact rfl)) (by rfl)) (by trivial) rfl) (xc (x_ifF (tv rfl (em (ea (el (by rfl)) (by rfl) (by rfl)) rfl (by exact rfl)) (by rfl)) (by exact h0) rfl) (xc (x_ifF (tv rfl (em (ea (el (by rfl)) (by rfl) (by rfl)) rfl (by exact rfl)) (by rfl)) (by exact hM) rfl) (xl (xr (e_iteF (tv rfl (em (ea (el (by rfl)) (by rfl) (by rfl)) rfl (by exact hN _)) (by rfl)) (by trivial) (eK (ec (el (by rfl)) (ec (ea (el (by rfl)) (by rfl) (by rfl)) (ec (el (by rfl)) rfl))) (by exact c_clo hc hh)))))))))) rfl⟩
theorem sec_plain {w : List Nat} {nm : List MV} {o : Option By} (h : Asked d x.part r w nm o) : mcall text (n+9) 57 [.bytes d,x.part,sec r w nm .none] [] = some (dV o,[]) := by
 have hg := h.go n .none rfl
 have hc : cL [.bytes d,x.part,sec r w nm .none,.fn 51] = true := by
  show (true && (cB x.part && ((cL (r.map MV.int) && (true && (cL nm && true))) && true))) = true
  rw [part_closed,ints_closed,h.cl]; rfl
 have hs : mcall text (n+8) 56 [dV o,.none] [] = some (dV o,[]) := by
  induction o using Option.casesOn with
  | none => exact mc0 (r := f56) rfl rfl rfl (xl (x_ifT (t_or (any_t (tv rfl (em (el (by rfl)) rfl (by trivial)) (by rfl)) (by trivial))) (by trivial) (xl (xr (el (by rfl)))))) rfl
  | some b => exact mc0 (r := f56) rfl rfl rfl (xl (x_ifT (t_or (any_f (tv rfl (em (el (by rfl)) rfl (by trivial)) (by rfl)) (by trivial) (any_t (tv rfl (em (el (by rfl)) rfl (by trivial)) (by rfl)) (by trivial)))) (by trivial) (xl (xr (el (by rfl)))))) rfl
 have hc2 : cL [dV o,.none] = true := by induction o using Option.casesOn <;> rfl
 exact mc0 (r := f57) rfl rfl rfl (xl (xr (eK (ec (eK (ec (el (by rfl)) (ec (el (by rfl)) (ec (el (by rfl)) (ec rfl rfl)))) (by exact c_clo hc hg)) (ec (ea (el (by rfl)) (by rfl) (by rfl)) rfl)) (by exact c_clo hc2 hs)))) (by exact dV_closed)
noncomputable def cutO (o : Option By) (i c : Int) : Option By := o.map fun b => pySlice b (some i) (some (i + c))
theorem sec_cut {w : List Nat} {nm : List MV} {o : Option By} {i c : Int} (h : Asked d x.part r w nm o) : mcall text (n+9) 57 [.bytes d,x.part,sec r w nm (.tup [.int i,.int c])] [] = some (dV (cutO o i c),[]) := by
 have hg := h.go n (.tup [.int i,.int c]) rfl
 have hc : cL [.bytes d,x.part,sec r w nm (.tup [.int i,.int c]),.fn 51] = true := by
  show (true && (cB x.part && ((cL (r.map MV.int) && (true && (cL nm && true))) && true))) = true
  rw [part_closed,ints_closed,h.cl]; rfl
 have hs : mcall text (n+8) 56 [dV o,.tup [.int i,.int c]] [] = some (dV (cutO o i c),[]) := by
  induction o using Option.casesOn with
  | none => exact mc0 (r := f56) rfl rfl rfl (xl (x_ifT (t_or (any_t (tv rfl (em (el (by rfl)) rfl (by trivial)) (by rfl)) (by trivial))) (by trivial) (xl (xr (el (by rfl)))))) rfl
  | some b => exact mc0 (r := f56) rfl rfl rfl (xc (x_ifF (t_or (any_f (tv rfl (em (el (by rfl)) rfl (by trivial)) (by rfl)) (by trivial) (any_f (tv rfl (em (el (by rfl)) rfl (by trivial)) (by rfl)) (by trivial) rfl))) (by trivial) rfl) (xl (xr (e_slice (el (by rfl)) (eu (el (by rfl)) rfl (by trivial)) (eb (eu (el (by rfl)) rfl (by trivial)) (eu (el (by rfl)) rfl (by trivial)) (by trivial)) (by trivial))))) rfl
 have hc2 : cL [dV o,.tup [.int i,.int c]] = true := by induction o using Option.casesOn <;> rfl
 exact mc0 (r := f57) rfl rfl rfl (xl (xr (eK (ec (eK (ec (el (by rfl)) (ec (el (by rfl)) (ec (el (by rfl)) (ec rfl rfl)))) (by exact c_clo hc hg)) (ec (ea (el (by rfl)) (by rfl) (by rfl)) rfl)) (by exact c_clo hc2 hs)))) (by exact dV_closed)
end
end
section
noncomputable def K7 : List (List Nat) := [[114,111,119,115],[98,111,100,121],[119,111,114,100,115],[112,97,114,97,109,115],[101,110,99,111,100,105,110,103],[107,105,100,115],[105,110,110,101,114]]
noncomputable def kHead : List Nat := [104,101,97,100]
noncomputable def kFields : List Nat := [102,105,101,108,100,115]
noncomputable def encN : Nat → By
 | 0 => [55,98,105,116]
 | 1 => [98,97,115,101,54,52]
 | _ => [120,45,111,100,100]
noncomputable def rowsV (L : List RK) : MV := .lst ((L.map rT).map .bytes)
noncomputable def wdsV : Pc → MV
 | .leaf 1 _ _ => .tup [.bytes [105,109,97,103,101],.bytes [112,110,103]]
 | .leaf 2 _ _ => .tup [.bytes [116,101,120,116],.bytes [104,116,109,108]]
 | .leaf _ _ _ => .tup [.bytes [116,101,120,116],.bytes [112,108,97,105,110]]
 | .letter true _ _ _ => .tup [.bytes [97,112,112,108,105,99,97,116,105,111,110],.bytes [111,99,116,101,116,45,115,116,114,101,97,109]]
 | .letter false _ _ _ => .tup [.bytes [109,101,115,115,97,103,101],.bytes [114,102,99,56,50,50]]
 | .one m _ => .tup [.bytes [],.bytes (subB m.s)]
 | .two m _ _ => .tup [.bytes [],.bytes (subB m.s)]
noncomputable def prmV : Pc → MV
 | .leaf 1 _ _ => .lst [.bytes [110,97,109,101],.bytes [97,32,98]]
 | .leaf 2 _ _ => .none
 | .leaf _ _ _ => .lst [.bytes [99,104,97,114,115,101,116],.bytes [117,115,45,97,115,99,105,105]]
 | .letter .. => .none
 | .one m _ => .lst [.bytes [98,111,117,110,100,97,114,121],.bytes (mkB m.k)]
 | .two m _ _ => .lst [.bytes [98,111,117,110,100,97,114,121],.bytes (mkB m.k)]
noncomputable def encV : Pc → MV
 | .leaf _ e _ => .bytes (encN e)
 | .letter true _ _ _ => .bytes (encN 1)
 | _ => .bytes (encN 0)
noncomputable def v7 : Pc → List MV
 | .leaf w e b => [rowsV (rows (.leaf w e b)),.bytes (tx (.leaf w e b)).t,wdsV (.leaf w e b),prmV (.leaf w e b),encV (.leaf w e b),.lst [],.none]
 | .letter hid fl lev q => [rowsV (rows (.letter hid fl lev q)),.bytes (tx (.letter hid fl lev q)).t,wdsV (.letter hid fl lev q),prmV (.letter hid fl lev q),encV (.letter hid fl lev q),.lst [],
   cond hid .none (.dct (K7 ++ [kHead,kFields]) (v7 q ++ [.bytes (hd (flds fl lev ++ rows q)),rowsV (flds fl lev)]))]
 | .one m k => [rowsV (rows (.one m k)),.bytes (tx (.one m k)).t,wdsV (.one m k),prmV (.one m k),encV (.one m k),.lst [.dct (K7 ++ [kHead]) (v7 k ++ [.bytes (hd (rows k))])],.none]
 | .two m k j => [rowsV (rows (.two m k j)),.bytes (tx (.two m k j)).t,wdsV (.two m k j),prmV (.two m k j),encV (.two m k j),.lst [.dct (K7 ++ [kHead]) (v7 k ++ [.bytes (hd (rows k))]),.dct (K7 ++ [kHead]) (v7 j ++ [.bytes (hd (rows j))])],.none]
noncomputable def nX (x : Lc) : MV := cond x.ms (.dct (K7 ++ [kHead,kFields]) (v7 x.p ++ [.bytes x.hd,rowsV (flds x.fl x.lev)])) (.dct (K7 ++ [kHead]) (v7 x.p ++ [.bytes x.hd]))
noncomputable def innN : Option Lc → MV
 | none => .none
 | some q => nX q
theorem v7_form (x : Lc) : v7 x.p = [rowsV (rows x.p),.bytes (tx x.p).t,wdsV x.p,prmV x.p,encV x.p,.lst ((kidsX x).map nX),innN (innerX x)] := by
 obtain ⟨a,fl,lev,p,ms⟩ := x
 match p with
 | .leaf .. => rfl
 | .letter true .. => rfl
 | .letter false .. => rfl
 | .one .. => rfl
 | .two .. => rfl
theorem rowsV_closed {L : List RK} : cB (rowsV L) = true := closedL_map fun O => rfl
theorem wds_closed {p : Pc} : cB (wdsV p) = true ∧ cB (prmV p) = true := by
 match p with
 | .leaf 0 _ _ => exact ⟨rfl,rfl⟩
 | .leaf 1 _ _ => exact ⟨rfl,rfl⟩
 | .leaf 2 _ _ => exact ⟨rfl,rfl⟩
 | .leaf (_ + 3) _ _ => exact ⟨rfl,rfl⟩
 | .letter true .. => exact ⟨rfl,rfl⟩
 | .letter false .. => exact ⟨rfl,rfl⟩
 | .one .. => exact ⟨rfl,rfl⟩
 | .two .. => exact ⟨rfl,rfl⟩
theorem encV_closed {p : Pc} : cB (encV p) = true := by
 induction p using Pc.casesOn with
 | letter hid _ _ _ => induction hid using Bool.casesOn with
  | _ => rfl
 | _ => rfl
theorem v7_closed : ∀ {p : Pc},cL (v7 p) = true := by
 have base : ∀ p : Pc,∀ k i : MV,cB k = true → cB i = true → cL [rowsV (rows p),.bytes (tx p).t,wdsV p,prmV p,encV p,k,i] = true := fun p k i hk hi => by
  show (cB (rowsV (rows p)) && (true && (cB (wdsV p) && (cB (prmV p) && (cB (encV p) && (cB k && (cB i && true))))))) = true
  rw [rowsV_closed,wds_closed.1,wds_closed.2,encV_closed,hk,hi]; rfl
 intro p
 induction p with
 | leaf w e b => exact base _ _ _ rfl rfl
 | letter hid fl lev q ih =>
  refine base (.letter hid fl lev q) _ _ rfl ?_
  induction hid using Bool.casesOn with
  | true => rfl
  | false => exact closedL_app ih (Bool.and_eq_true_iff.mpr ⟨rfl,Bool.and_eq_true_iff.mpr ⟨rowsV_closed,rfl⟩⟩)
 | one m k ih => exact base (.one m k) _ _ (Bool.and_eq_true_iff.mpr ⟨closedL_app ih rfl,rfl⟩) rfl
 | two m k j ih ih2 => exact base (.two m k j) _ _ (Bool.and_eq_true_iff.mpr ⟨closedL_app ih rfl,Bool.and_eq_true_iff.mpr ⟨closedL_app ih2 rfl,rfl⟩⟩) rfl
theorem node_closed {x : Lc} : cB (nX x) = true := by
 unfold nX
 cases x.ms with
 | true => exact closedL_app v7_closed (Bool.and_eq_true_iff.mpr ⟨rfl,Bool.and_eq_true_iff.mpr ⟨rowsV_closed,rfl⟩⟩)
 | false => exact closedL_app v7_closed rfl
theorem nd_kids (x : Lc) {mh : MH} : subV mh (nX x) (.str [107,105,100,115]) = some (.lst ((kidsX x).map nX)) := by
 unfold nX; rw [v7_form]; cases x.ms <;> rfl
theorem nd_inner (x : Lc) {mh : MH} : subV mh (nX x) (.str [105,110,110,101,114]) = some (innN (innerX x)) := by
 unfold nX; rw [v7_form]; cases x.ms <;> rfl
theorem nd_body (x : Lc) {mh : MH} : subV mh (nX x) (.str [98,111,100,121]) = some (.bytes (tx x.p).t) := by
 unfold nX; rw [v7_form]; cases x.ms <;> rfl
theorem nd_head (x : Lc) {mh : MH} : subV mh (nX x) (.str [104,101,97,100]) = some (.bytes x.hd) := by
 unfold nX; rw [v7_form]; cases x.ms <;> rfl
theorem nd_rows (x : Lc) {mh : MH} : subV mh (nX x) (.str [114,111,119,115]) = some (rowsV (rows x.p)) := by
 unfold nX; rw [v7_form]; cases x.ms <;> rfl
theorem nd_fields {x : Lc} (h : x.ms = true) {mh : MH} : subV mh (nX x) (.str [102,105,101,108,100,115]) = some (rowsV (flds x.fl x.lev)) := by
 unfold nX; rw [v7_form,h]; rfl
theorem nodeN (x : Lc) : isN (nX x) = some false := by unfold nX; cases x.ms <;> rfl
noncomputable def wr : Pc → Int → Nat → Nat → Bool → Bool → List (List Int × Lc)
 | .leaf w e b,a,fl,lev,ms,l => cond l [([1],⟨a,fl,lev,.leaf w e b,ms⟩)] []
 | .letter hid fl' lev' q,a,fl,lev,ms,l =>
  cond l (([1],⟨a,fl,lev,.letter hid fl' lev' q,ms⟩) :: (cond hid [] (wr q (a + (hd (flds fl lev ++ rows (.letter hid fl' lev' q))).length) fl' lev' true true)).map fun t => (1 :: t.1,t.2))
   (cond hid [] (wr q (a + (hd (flds fl lev ++ rows (.letter hid fl' lev' q))).length) fl' lev' true true))
 | .one m k,a,fl,lev,ms,l => ([1],⟨a + (hd (flds fl lev ++ rows (.one m k))).length + (lT (preL m.pre)).length + 7,0,0,k,false⟩) :: (wr k (a + (hd (flds fl lev ++ rows (.one m k))).length + (lT (preL m.pre)).length + 7) 0 0 false false).map fun t => (1 :: t.1,t.2)
 | .two m k j,a,fl,lev,ms,l => (([1],⟨a + (hd (flds fl lev ++ rows (.two m k j))).length + (lT (preL m.pre)).length + 7,0,0,k,false⟩) :: (wr k (a + (hd (flds fl lev ++ rows (.two m k j))).length + (lT (preL m.pre)).length + 7) 0 0 false false).map fun t => (1 :: t.1,t.2)) ++
   (([2],⟨a + (hd (flds fl lev ++ rows (.two m k j))).length + (lT (preL m.pre)).length + 7 + (hTx (rows k) (tx k)).t.length + 2 + 7,0,0,j,false⟩) :: (wr j (a + (hd (flds fl lev ++ rows (.two m k j))).length + (lT (preL m.pre)).length + 7 + (hTx (rows k) (tx k)).t.length + 2 + 7) 0 0 false false).map fun t => (2 :: t.1,t.2))
noncomputable def wrX (x : Lc) (l : Bool) : List (List Int × Lc) := wr x.p x.a x.fl x.lev x.ms l
noncomputable def goW (ys : List Lc) (i : Int) : List (List Int × Lc) := match ys with
 | [] => []
 | y :: ys => (([i],y) :: (wrX y false).map fun t => (i :: t.1,t.2)) ++ goW ys (i + 1)
theorem wr_eq (x : Lc) (l : Bool) : wrX x l = match kidsX x with
  | [] => cond l (goW [x] 1) (match innerX x with | none => [] | some q => wrX q true)
  | k :: ks => goW (k :: ks) 1 := by
 obtain ⟨a,fl,lev,p,ms⟩ := x
 match p,l with
 | .leaf ..,true => rfl
 | .leaf ..,false => rfl
 | .letter true ..,true => rfl
 | .letter true ..,false => rfl
 | .letter false ..,true => exact (List.append_nil _).symm
 | .letter false ..,false => rfl
 | .one ..,_ => exact (List.append_nil _).symm
 | .two ..,_ => exact congrArg (HAppend.hAppend (α := List (List Int × Lc)) (β := List (List Int × Lc)) (γ := List (List Int × Lc)) _) (List.append_nil _).symm
noncomputable def wayV (path : List Int) (t : List Int × Lc) : MV := .tup [.tup ((path ++ t.1).map .int),nX t.2]
theorem wayV_closed {path : List Int} {l : List (List Int × Lc)} : cL (l.map (wayV path)) = true := closedL_map fun t => by
 show (cL ((path ++ t.1).map MV.int) && (cB (nX t.2) && true)) = true
 rw [ints_closed,node_closed]; rfl
section
variable {n : Nat}
noncomputable abbrev nbB : List MS := (f64.body[2]?.getD MS.fail).blk
noncomputable abbrev nbV (N : MV) (path : List Int) (l : Bool) (row : MV) (i y : OV) : List OV := [some N,some (.tup (path.map .int)),some (.bool l),some row,some (.ref 0),i,y]
theorem p_extend {mh : MH} {i : Nat} {l k : List MV} (h : mh[i]? = some (.lst l)) (hl : l.length + k.length ≤ LIM) : bmethV mh (.ref i) .extend [.lst k] = some (.none,mh.set i (.lst (l ++ k))) := by
 show bmRef mh i .extend (.lst k) = _
 unfold bmRef; rw [h]; exact if_pos hl
theorem p_tadd {k : Bool} {mh : MH} {x : List Int} {i : Int} (h : x.length < 1000) : binV k mh .Add (.tup (x.map .int)) (.tup [.int i]) = some (.tup ((x ++ [i]).map .int),mh) := by
 rw [List.map_append]
 exact if_pos (by rw [List.length_map]; show x.length + 1 ≤ 1048576; lia)
theorem nb_one {C : Callee} {N row : MV} {path : List Int} {l : Bool} {i : Int} {y : Lc} {acc : List MV} (hp : path.length < 1000) (ha : acc.length + (wrX y false).length < 100000)
  (hC : (kidsX y ≠ [] ∨ innerX y ≠ none) → C 64 [nX y,.tup ((path ++ [i + 1]).map .int),.bool false] [] = some (.lst ((wrX y false).map (wayV (path ++ [i + 1]))),[])) :
  execB text C (nbV N path l row (some (.int i)) (some (nX y)),[.lst acc]) nbB = some (.next,(nbV N path l row (some (.int i)) (some (nX y)),[.lst (acc ++ [.tup [.tup ((path ++ [i + 1]).map .int),nX y]] ++ (wrX y false).map (wayV (path ++ [i + 1])))])) := by
 have ht := fun k mh => p_tadd (k := k) (mh := mh) (x := path) (i := i + 1) hp
 have h1 : acc.length < LIM := by unfold LIM; lia
 have hk : ∀ mh,subV mh (nX y) (.str [107,105,100,115]) = some (.lst ((kidsX y).map nX)) := fun mh => nd_kids y
 have hi : ∀ mh,subV mh (nX y) (.str [105,110,110,101,114]) = some (innN (innerX y)) := fun mh => nd_inner y
 have hc : cL [nX y,.tup ((path ++ [i + 1]).map .int),.bool false] = true := by
  show (cB (nX y) && (cL ((path ++ [i + 1]).map MV.int) && _)) = true
  rw [node_closed,ints_closed]; rfl
 have hx : ∀ (k : List MV),k.length = (wrX y false).length → bmethV [.lst (acc ++ [.tup [.tup ((path ++ [i + 1]).map .int),nX y]])] (.ref 0) .extend [.lst k] = some (.none,[.lst (acc ++ [.tup [.tup ((path ++ [i + 1]).map .int),nX y]] ++ k)]) := fun k hk =>
  p_extend (mh := [MO.lst (acc ++ [.tup [.tup ((path ++ [i + 1]).map .int),nX y]])]) rfl (by rw [hk,List.length_append]; show acc.length + 1 + _ ≤ 1048576; lia)
 have w := wr_eq y false
 cases hkk : kidsX y with
 | cons k ks =>
  have hC := hC (.inl (by rw [hkk]; exact List.cons_ne_nil _ _))
  rw [hkk] at hk
  exact (xc (x_expr (e_bmeth (el (by rfl)) (by trivial) (ec (et (ec (eb (el (by rfl)) (et (ec (eb (el (by rfl)) rfl (by exact rfl)) rfl)) (by exact ht _ _)) (ec (el (by rfl)) rfl))) rfl) (by exact p_append (l := acc) rfl h1)) (by rfl)) (xc (x_expr (e_bmeth (el (by rfl)) (by trivial) (ec (e_iteT (t_or (any_t (tv rfl (em (eu (el (by rfl)) rfl (by exact hk _)) (e_lst rfl) (by trivial)) (by rfl)) (by trivial))) (by trivial) (eK (ec (el (by rfl)) (ec (eb (el (by rfl)) (et (ec (eb (el (by rfl)) rfl (by exact rfl)) rfl)) (by exact ht _ _)) (ec rfl rfl))) (by exact c_clo hc hC))) rfl) (by exact hx _ (List.length_map _))) (by rfl)) rfl))
 | nil =>
  rw [hkk] at hk w
  cases hii : innerX y with
  | some q =>
   have hC := hC (.inr (by rw [hii]; exact fun h => by exact nO h.symm))
   rw [hii] at hi
   have hn : ∀ mh,cmpV mh .IsNot (nX q) .none = some true := fun mh => by show (isN (nX q)).map _ = _; rw [nodeN]; rfl
   exact (xc (x_expr (e_bmeth (el (by rfl)) (by trivial) (ec (et (ec (eb (el (by rfl)) (et (ec (eb (el (by rfl)) rfl (by exact rfl)) rfl)) (by exact ht _ _)) (ec (el (by rfl)) rfl))) rfl) (by exact p_append (l := acc) rfl h1)) (by rfl)) (xc (x_expr (e_bmeth (el (by rfl)) (by trivial) (ec (e_iteT (t_or (any_f (tv rfl (em (eu (el (by rfl)) rfl (by exact hk _)) (e_lst rfl) (by exact rfl)) (by rfl)) (by trivial) (any_t (tv rfl (em (eu (el (by rfl)) rfl (by exact hi _)) rfl (by exact hn _)) (by rfl)) (by trivial)))) (by trivial) (eK (ec (el (by rfl)) (ec (eb (el (by rfl)) (et (ec (eb (el (by rfl)) rfl (by exact rfl)) rfl)) (by exact ht _ _)) (ec rfl rfl))) (by exact c_clo hc hC))) rfl) (by exact hx _ (List.length_map _))) (by rfl)) rfl))
  | none =>
   rw [hii] at hi w
   have w : wrX y false = [] := w
   rw [w] at hx ⊢
   exact (xc (x_expr (e_bmeth (el (by rfl)) (by trivial) (ec (et (ec (eb (el (by rfl)) (et (ec (eb (el (by rfl)) rfl (by exact rfl)) rfl)) (by exact ht _ _)) (ec (el (by rfl)) rfl))) rfl) (by exact p_append (l := acc) rfl h1)) (by rfl)) (xc (x_expr (e_bmeth (el (by rfl)) (by trivial) (ec (e_iteF (t_or (any_f (tv rfl (em (eu (el (by rfl)) rfl (by exact hk _)) (e_lst rfl) (by exact rfl)) (by rfl)) (by trivial) (any_f (tv rfl (em (eu (el (by rfl)) rfl (by exact hi _)) rfl (by exact rfl)) (by rfl)) (by trivial) rfl))) (by trivial) (e_lst rfl)) rfl) (by exact hx [] rfl)) (by rfl)) rfl))
theorem isnot_node (x : Lc) {mh : MH} : cmpV mh .IsNot (nX x) .none = some true := by show (isN (nX x)).map _ = _; rw [nodeN]; rfl
theorem goW_len : ∀ {ys : List Lc} {i : Int} {y : Lc},y ∈ ys → (wrX y false).length < (goW ys i).length
 | z :: ys,i,y,h => by
  have e : (goW (z :: ys) i).length = (wrX z false).length + 1 + (goW ys (i + 1)).length := by
   rw [show goW (z :: ys) i = (([i],z) :: (wrX z false).map fun t => (i :: t.1,t.2)) ++ goW ys (i + 1) from rfl,List.length_append,List.length_cons,List.length_map]
  rw [e]
  cases h with
  | head => lia
  | tail _ h => have := goW_len (i := i + 1) h; lia
theorem wayV_cons {path : List Int} {i : Int} {l : List (List Int × Lc)} : (l.map fun t => (i :: t.1,t.2)).map (wayV path) = l.map (wayV (path ++ [i])) := by
 rw [List.map_map]
 refine List.map_congr_left fun t O => ?_
 show MV.tup [.tup ((path ++ i :: t.1).map .int),nX t.2] = MV.tup [.tup ((path ++ [i] ++ t.1).map .int),nX t.2]
 rw [List.append_assoc]; rfl
theorem nb_loop {C : Callee} {N row : MV} {path : List Int} {l : Bool} (hp : path.length < 1000) : ∀ {ys : List Lc} {i : Nat} {acc : List MV} {u v : OV},acc.length + (goW ys ((i : Int) + 1)).length < 100000 →
  (∀ y ∈ ys,∀ i : Int,(kidsX y ≠ [] ∨ innerX y ≠ none) → C 64 [nX y,.tup ((path ++ [i]).map .int),.bool false] [] = some (.lst ((wrX y false).map (wayV (path ++ [i]))),[])) →
  ∃ u' v',loopF (fun v s => storeT text C v s (.tup [.name 5,.name 6])) (fun s => execB text C s nbB) (enumL (ys.map nX) i) (nbV N path l row u v,[.lst acc]) = some (.next,(nbV N path l row u' v',[.lst (acc ++ (goW ys ((i : Int) + 1)).map (wayV path))]))
 | [],i,acc,u,v,ha,hC => ⟨u,v,by rw [show acc ++ (goW [] ((i : Int) + 1)).map (wayV path) = acc from List.append_nil _]; rfl⟩
 | y :: ys,i,acc,u,v,ha,hC => by
  have hg : goW (y :: ys) ((i : Int) + 1) = (([(i : Int) + 1],y) :: (wrX y false).map fun t => (((i : Int) + 1) :: t.1,t.2)) ++ goW ys ((i : Int) + 1 + 1) := rfl
  have hlen : (goW (y :: ys) ((i : Int) + 1)).length = (wrX y false).length + 1 + (goW ys ((i : Int) + 1 + 1)).length := by rw [hg,List.length_append,List.length_cons,List.length_map]
  have hb := nb_one (N := N) (row := row) (l := l) (i := (i : Int)) (y := y) (acc := acc) hp (by omega) (hC y (.head _) _)
  obtain ⟨u',v',ih⟩ := nb_loop (C := C) (N := N) (row := row) (l := l) hp (ys := ys) (i := i + 1) (acc := acc ++ [.tup [.tup ((path ++ [(i : Int) + 1]).map .int),nX y]] ++ (wrX y false).map (wayV (path ++ [(i : Int) + 1]))) (u := some (.int i)) (v := some (nX y))
   (by rw [List.length_append,List.length_append,List.length_map]; show acc.length + 1 + _ + (goW ys ((i : Int) + 1 + 1)).length < 100000; omega) (fun y m => hC y (.tail _ m))
  refine ⟨u',v',?_⟩
  show loopF _ _ (.tup [.int i,nX y] :: enumL (ys.map nX) (i + 1)) _ = _
  refine loopF_cons.trans (bo_k (a := (nbV N path l row (some (.int i)) (some (nX y)),[.lst acc])) rfl (bd_k hb ?_))
  refine Eq.trans ih ?_
  have e : (goW (y :: ys) ((i : Int) + 1)).map (wayV path) = (.tup [.tup ((path ++ [(i : Int) + 1]).map .int),nX y] :: (wrX y false).map (wayV (path ++ [(i : Int) + 1]))) ++ (goW ys ((i : Int) + 1 + 1)).map (wayV path) := by
   rw [hg,List.map_append (f := wayV path),List.map_cons,wayV_cons]; rfl
  rw [e,List.append_assoc,List.append_assoc]; rfl
theorem nb_row {m : Nat} {x : Lc} {l : Bool} {path : List Int} {ys : List Lc} (hp : path.length < 1000) (hy : (kidsX x = ys ∧ ys ≠ []) ∨ (kidsX x = [] ∧ l = true ∧ ys = [x])) (ha : (goW ys 1).length < 100000)
  (hC : ∀ y ∈ ys,∀ i : Int,(kidsX y ≠ [] ∨ innerX y ≠ none) → mcall text m 64 [nX y,.tup ((path ++ [i]).map .int),.bool false] [] = some (.lst ((wrX y false).map (wayV (path ++ [i]))),[])) :
  mcall text (m+1) 64 [nX x,.tup (path.map .int),.bool l] [] = some (.lst ((goW ys 1).map (wayV path)),[]) := by
 obtain ⟨u',v',lp⟩ := nb_loop (C := mcall text m) (N := nX x) (row := .lst (ys.map nX)) (l := l) hp (ys := ys) (i := 0) (acc := []) (u := none) (v := none) (by show 0 + (goW ys 1).length < 100000; lia) hC
 have lp : loopF (fun v s => storeT text (mcall text m) v s (.tup [.name 5,.name 6])) (fun s => execB text (mcall text m) s nbB) (enumL (ys.map nX) 0) (nbV (nX x) path l (.lst (ys.map nX)) none none,[.lst []]) = some (.next,(nbV (nX x) path l (.lst (ys.map nX)) u' v',[.lst ((goW ys 1).map (wayV path))])) := lp
 have hk : ∀ mh,subV mh (nX x) (.str [107,105,100,115]) = some (.lst ((kidsX x).map nX)) := fun mh => nd_kids x
 rcases hy with ⟨h1,h2⟩ | ⟨h1,h2,h3⟩
 ·rw [h1] at hk
  induction ys using List.casesOn with
  | nil => exact absurd rfl h2
  | cons y ys => exact mc (r := f64) rfl rfl (xc (x_ifT (tv rfl (em (eu (el (by rfl)) rfl (by exact hk _)) (e_lst rfl) (by trivial)) (by rfl)) (by trivial) (xc (xa (eu (el (by rfl)) rfl (by exact hk _)) (gn (by rfl) (by rfl))) rfl)) (xc (xa (e_lstT rfl) (gn (by rfl) (by rfl))) (xc (x_forE (el (by rfl)) (by rfl) (by exact lp)) (xl (xr (el (by rfl))))))) (by exact fin_lst wayV_closed)
 ·subst h2 h3
  rw [h1] at hk
  exact mc (r := f64) rfl rfl (xc (x_ifF (tv rfl (em (eu (el (by rfl)) rfl (by exact hk _)) (e_lst rfl) (by trivial)) (by rfl)) (by trivial) (xc (x_ifT (tv rfl (el (by rfl)) (by rfl)) (by trivial) (xc (xa (e_lst (ec (el (by rfl)) rfl)) (gn (by rfl) (by rfl))) rfl)) rfl)) (xc (xa (e_lstT rfl) (gn (by rfl) (by rfl))) (xc (x_forE (el (by rfl)) (by rfl) (by exact lp)) (xl (xr (el (by rfl))))))) (by exact fin_lst wayV_closed)
theorem numbered : ∀ {p : Pc} {N : Nat} {a : Int} {fl lev : Nat} {ms l : Bool} {path : List Int},path.length + 2 * ht p < 900 → (wrX ⟨a,fl,lev,p,ms⟩ l).length < 10000 → 2 * ht p + 1 + cond l 1 0 ≤ N →
  mcall text N 64 [nX ⟨a,fl,lev,p,ms⟩,.tup (path.map .int),.bool l] [] = some (.lst ((wrX ⟨a,fl,lev,p,ms⟩ l).map (wayV path)),[]) := by
 have up : ∀ {x : Lc} {N : Nat} {path : List Int},kidsX x = [] → path.length < 900 → (wrX x true).length < 10000 → (innerX x ≠ none → ∀ i : Int,mcall text N 64 [nX x,.tup ((path ++ [i]).map .int),.bool false] [] = some (.lst ((wrX x false).map (wayV (path ++ [i]))),[])) →
   mcall text (N + 1) 64 [nX x,.tup (path.map .int),.bool true] [] = some (.lst ((wrX x true).map (wayV path)),[]) := fun {x N path} hk hp hl hC => by
  have w := wr_eq x true
  rw [hk] at w
  have w : wrX x true = goW [x] 1 := w
  rw [w] at hl ⊢
  exact nb_row (by lia) (.inr ⟨hk,rfl,rfl⟩) (by lia) fun y m i hi => by
   cases m with
   | head => exact hC (hi.elim (fun q => absurd hk q) id) i
   | tail _ m => exact nM m
 intro p
 induction p with
 | leaf w e b =>
  intro N a fl lev ms l path hp hl hN
  obtain ⟨n,rfl⟩ : ∃ n,N = n + 1 := ⟨N - 1,by lia⟩
  induction l using Bool.casesOn with
  | true => exact up rfl (by lia) hl fun h => absurd rfl h
  | false =>
   have hk : ∀ mh,subV mh (nX ⟨a,fl,lev,.leaf w e b,ms⟩) (.str [107,105,100,115]) = some (.lst []) := fun mh => nd_kids _
   have hi : ∀ mh,subV mh (nX ⟨a,fl,lev,.leaf w e b,ms⟩) (.str [105,110,110,101,114]) = some .none := fun mh => nd_inner _
   exact mc0 (r := f64) rfl rfl rfl (xl (x_ifF (tv rfl (em (eu (el (by rfl)) rfl (by exact hk _)) (e_lst rfl) (by trivial)) (by rfl)) (by trivial) (xl (x_ifF (tv rfl (el (by rfl)) (by rfl)) (by trivial) (xl (xr (e_iteF (tv rfl (em (eu (el (by rfl)) rfl (by exact hi _)) rfl (by trivial)) (by rfl)) (by trivial) (e_lst rfl)))))))) rfl
 | letter hid fl' lev' q ih =>
  have low : ∀ {N : Nat} {a : Int} {fl lev : Nat} {ms : Bool} {path : List Int},path.length + 2 * ht q < 900 → (wrX ⟨a,fl,lev,.letter hid fl' lev' q,ms⟩ false).length < 10000 → 2 * ht q + 3 ≤ N →
    mcall text N 64 [nX ⟨a,fl,lev,.letter hid fl' lev' q,ms⟩,.tup (path.map .int),.bool false] [] = some (.lst ((wrX ⟨a,fl,lev,.letter hid fl' lev' q,ms⟩ false).map (wayV path)),[]) := by
   intro N a fl lev ms path hp hl hN
   obtain ⟨n,rfl⟩ : ∃ n,N = n + 1 := ⟨N - 1,by lia⟩
   have hk : ∀ mh,subV mh (nX ⟨a,fl,lev,.letter hid fl' lev' q,ms⟩) (.str [107,105,100,115]) = some (.lst []) := fun mh => nd_kids _
   have hi : ∀ mh,subV mh (nX ⟨a,fl,lev,.letter hid fl' lev' q,ms⟩) (.str [105,110,110,101,114]) = some (innN (innerX ⟨a,fl,lev,.letter hid fl' lev' q,ms⟩)) := fun mh => nd_inner _
   induction hid using Bool.casesOn with
   | true =>
    have hi : ∀ mh,subV mh (nX ⟨a,fl,lev,.letter true fl' lev' q,ms⟩) (.str [105,110,110,101,114]) = some .none := hi
    exact mc0 (r := f64) rfl rfl rfl (xl (x_ifF (tv rfl (em (eu (el (by rfl)) rfl (by exact hk _)) (e_lst rfl) (by trivial)) (by rfl)) (by trivial) (xl (x_ifF (tv rfl (el (by rfl)) (by rfl)) (by trivial) (xl (xr (e_iteF (tv rfl (em (eu (el (by rfl)) rfl (by exact hi _)) rfl (by trivial)) (by rfl)) (by trivial) (e_lst rfl)))))))) rfl
   | false =>
    have hq := ih (N := n) (a := a + (hd (flds fl lev ++ rows (.letter false fl' lev' q))).length) (fl := fl') (lev := lev') (ms := true) (l := true) (path := path) hp hl (by show 2 * ht q + 1 + 1 ≤ n; lia)
    have hi : ∀ mh,subV mh (nX ⟨a,fl,lev,.letter false fl' lev' q,ms⟩) (.str [105,110,110,101,114]) = some (nX ⟨a + (hd (flds fl lev ++ rows (.letter false fl' lev' q))).length,fl',lev',q,true⟩) := hi
    have hn : ∀ mh,cmpV mh .IsNot (nX ⟨a + (hd (flds fl lev ++ rows (.letter false fl' lev' q))).length,fl',lev',q,true⟩) .none = some true := fun mh => isnot_node _
    have hc : cL [nX ⟨a + (hd (flds fl lev ++ rows (.letter false fl' lev' q))).length,fl',lev',q,true⟩,.tup (path.map .int),.bool true] = true := by
     show (cB (nX _) && (cL (path.map MV.int) && _)) = true
     rw [node_closed,ints_closed]; rfl
    exact mc0 (r := f64) rfl rfl rfl (xl (x_ifF (tv rfl (em (eu (el (by rfl)) rfl (by exact hk _)) (e_lst rfl) (by trivial)) (by rfl)) (by trivial) (xl (x_ifF (tv rfl (el (by rfl)) (by rfl)) (by trivial) (xl (xr (e_iteT (tv rfl (em (eu (el (by rfl)) rfl (by exact hi _)) rfl (by exact hn _)) (by rfl)) (by trivial) (eK (ec (eu (el (by rfl)) rfl (by exact hi _)) (ec (el (by rfl)) (ec rfl rfl))) (by exact c_clo hc hq))))))))) (by exact wayV_closed)
  intro N a fl lev ms l path hp hl hN
  have hp' : path.length + 2 * (ht q + 1) < 900 := hp
  induction l using Bool.casesOn with
  | false => exact low (by lia) hl hN
  | true =>
   have hN' : 2 * (ht q + 1) + 1 + 1 ≤ N := hN
   obtain ⟨n,rfl⟩ : ∃ n,N = n + 1 := ⟨N - 1,by lia⟩
   have w := wr_eq ⟨a,fl,lev,.letter hid fl' lev' q,ms⟩ true
   have w : wrX ⟨a,fl,lev,.letter hid fl' lev' q,ms⟩ true = ([1],(⟨a,fl,lev,.letter hid fl' lev' q,ms⟩ : Lc)) :: (wrX ⟨a,fl,lev,.letter hid fl' lev' q,ms⟩ false).map (fun t => (1 :: t.1,t.2)) ++ [] := w
   refine up rfl (by lia) hl fun O i => low (by rw [List.length_append]; show path.length + 1 + _ < 900; lia) ?_ (by lia)
   rw [w,List.append_nil,List.length_cons,List.length_map] at hl; lia
 | one m k ih =>
  intro N a fl lev ms l path hp hl hN
  have hp' : path.length + 2 * (ht k + 1) < 900 := hp
  have hN' : 2 * (ht k + 1) + 1 ≤ N := Nat.le_trans (Nat.le_add_right _ _) hN
  obtain ⟨n,rfl⟩ : ∃ n,N = n + 1 := ⟨N - 1,by lia⟩
  have w := wr_eq ⟨a,fl,lev,.one m k,ms⟩ l
  have w : wrX ⟨a,fl,lev,.one m k,ms⟩ l = goW (kidsX ⟨a,fl,lev,.one m k,ms⟩) 1 := w
  rw [w] at hl ⊢
  refine nb_row (by lia) (.inl ⟨rfl,List.cons_ne_nil _ _⟩) (by lia) fun y q i O => ?_
  cases q with
  | head =>
   exact ih (path := path ++ [i]) (by rw [List.length_append]; show path.length + 1 + _ < 900; lia) (Nat.lt_trans (goW_len (.head _)) hl) (by show 2 * ht k + 1 + 0 ≤ n; lia)
  | tail _ q => exact nM q
 | two m k j ih ih2 =>
  intro N a fl lev ms l path hp hl hN
  have hp' : path.length + 2 * (max (ht k) (ht j) + 1) < 900 := hp
  have hN' : 2 * (max (ht k) (ht j) + 1) + 1 ≤ N := Nat.le_trans (Nat.le_add_right _ _) hN
  have hm1 : ht k ≤ max (ht k) (ht j) := Nat.le_max_left _ _
  have hm2 : ht j ≤ max (ht k) (ht j) := Nat.le_max_right _ _
  obtain ⟨n,rfl⟩ : ∃ n,N = n + 1 := ⟨N - 1,by lia⟩
  have w := wr_eq ⟨a,fl,lev,.two m k j,ms⟩ l
  have w : wrX ⟨a,fl,lev,.two m k j,ms⟩ l = goW (kidsX ⟨a,fl,lev,.two m k j,ms⟩) 1 := w
  rw [w] at hl ⊢
  refine nb_row (by lia) (.inl ⟨rfl,List.cons_ne_nil _ _⟩) (by lia) fun y q i O => ?_
  cases q with
  | head =>
   exact ih (path := path ++ [i]) (by rw [List.length_append]; show path.length + 1 + _ < 900; lia) (Nat.lt_trans (goW_len (.head _)) hl) (by show 2 * ht k + 1 + 0 ≤ n; lia)
  | tail _ q =>
   cases q with
   | head =>
    exact ih2 (path := path ++ [i]) (by rw [List.length_append]; show path.length + 1 + _ < 900; lia) (Nat.lt_trans (goW_len (.tail _ (.head _))) hl) (by show 2 * ht j + 1 + 0 ≤ n; lia)
   | tail _ q => exact nM q
end
end
noncomputable def bump : List Int → List Int
 | [] => []
 | [i] => [i + 9]
 | i :: j :: r => i :: bump (j :: r)
structure Way (d : By) (x : Lc) (l : Bool) (t : List Int × Lc) : Prop where
 ne : t.1 ≠ []
 ok : pa x l t.1 = some t.2
 no9 : pa x l (t.1 ++ [9]) = none
 noB : pa x l (bump t.1) = none
 good : GoodL d t.2
theorem num_len {x : Lc} {l : Bool} : (num x l).length ≤ 2 := by
 have h1 : ∀ x,(kidsX x).length ≤ 2 := fun x => by
  obtain ⟨a,fl,lev,p,ms⟩ := x
  match p with
  | .leaf .. => exact Nat.zero_le _
  | .letter .. => exact Nat.zero_le _
  | .one .. => exact Nat.le_succ _
  | .two .. => exact Nat.le_refl _
 have h2 : ∀ x,(num1 x).length ≤ 2 := fun x => by
  unfold num1
  cases hk : kidsX x with
  | nil => exact Nat.le_succ _
  | cons k ks => have := h1 x; rw [hk] at this; exact this
 induction l using Bool.casesOn with
 | true => exact h2 x
 | false =>
  show (num0 x).length ≤ 2
  unfold num0
  cases hk : kidsX x with
  | nil =>
   cases hi : innerX x with
   | none => exact Nat.zero_le _
   | some q => exact h2 q
  | cons k ks => have := h1 x; rw [hk] at this; exact this
theorem pa_big {x : Lc} {l : Bool} {i : Int} {r : List Int} (h : i ≥ 9) : pa x l (i :: r) = none :=
 if_neg fun q => by have := num_len (x := x) (l := l); lia
theorem pa_step {x y : Lc} {l : Bool} {i : Nat} {r : List Int} (h : (num x l)[i]? = some y) : pa x l (((i : Int) + 1) :: r) = pa y false r := by
 have hl : i < (num x l).length := by
  rcases Nat.lt_or_ge i (num x l).length with q | q
  ·exact q
  ·rw [List.getElem?_eq_none q] at h; exact nO h
 show (if 1 ≤ (i : Int) + 1 ∧ (i : Int) + 1 ≤ (num x l).length then (match (num x l)[((i : Int) + 1 - 1).toNat]? with | some y => pa y false r | none => none) else none) = _
 rw [if_pos ⟨by lia,by lia⟩,show ((i : Int) + 1 - 1).toNat = i by lia,h]
theorem way_kid {d : By} {x y : Lc} {l : Bool} {i : Nat} (h : (num x l)[i]? = some y) (g : GoodL d y) (hy : ∀ t ∈ wrX y false,Way d y false t) :
  ∀ t ∈ ([(i : Int) + 1],y) :: (wrX y false).map (fun t => (((i : Int) + 1) :: t.1,t.2)),Way d x l t := fun t m => by
 cases m with
 | head => exact ⟨List.cons_ne_nil _ _,pa_step h,(pa_step h).trans (pa_big (by decide)),pa_big (by show (i : Int) + 1 + 9 ≥ 9; lia),g⟩
 | tail _ m =>
  obtain ⟨⟨r,z⟩,m',rfl⟩ := List.mem_map.mp m
  have w := hy _ m'
  refine ⟨List.cons_ne_nil _ _,(pa_step h).trans w.ok,(pa_step h).trans w.no9,?_,w.good⟩
  induction r using List.casesOn with
  | nil => exact absurd rfl w.ne
  | cons j r => exact (pa_step h).trans w.noB
theorem way_in {d : By} {x q : Lc} (hk : kidsX x = []) (hi : innerX x = some q) : ∀ {t},Way d q true t → Way d x false t := fun {t} w => by
 have hn : num x false = num q true := by
  show num0 x = num1 q
  unfold num0; rw [hk,hi]
 have hp : ∀ {r : List Int},r ≠ [] → pa x false r = pa q true r := fun {r} h => by
  induction r using List.casesOn with
  | nil => exact absurd rfl h
  | cons i r =>
   show (if 1 ≤ i ∧ i ≤ (num x false).length then (match (num x false)[(i - 1).toNat]? with | some y => pa y false r | none => none) else none) = (if 1 ≤ i ∧ i ≤ (num q true).length then (match (num q true)[(i - 1).toNat]? with | some y => pa y false r | none => none) else none)
   rw [hn]
 refine ⟨w.ne,(hp w.ne).trans w.ok,(hp (by simp)).trans w.no9,?_,w.good⟩
 refine (hp ?_).trans w.noB
 match h : t.1 with
 | [] => exact absurd h w.ne
 | [i] => exact List.cons_ne_nil _ _
 | i :: j :: r => exact List.cons_ne_nil _ _
theorem good_kids {d : By} {x : Lc} (g : GoodL d x) (hs : x.hd.length + (tx x.p).t.length < 100000) : (∀ y ∈ kidsX x,GoodL d y ∧ y.hd.length + (tx y.p).t.length < 100000) ∧ (∀ y,innerX x = some y → GoodL d y ∧ y.hd.length + (tx y.p).t.length < 100000) := by
 obtain ⟨a,fl,lev,p,ms⟩ := x
 have h := g.at_.right
 obtain ⟨lo,wf⟩ := g.wf
 match p,h,wf,hs with
 | .leaf w e b,_,_,_ => exact ⟨(fun y m => by exact nM m),(fun y h => by exact nO h)⟩
 | .letter true fl' lev' q,_,_,_ => exact ⟨(fun y m => by exact nM m),(fun y h => by exact nO h)⟩
 | .letter false fl' lev' q,h,wf,hs =>
  refine ⟨(fun y m => by exact nM m),fun y h2 => ?_⟩
  cases h2
  have ht' : (tx (.letter false fl' lev' q)).t = Mn.hd (flds fl' lev' ++ rows q) ++ (tx q).t := hTx_t
  have hl : (tx (.letter false fl' lev' q)).t.length = (Mn.hd (flds fl' lev' ++ rows q)).length + (tx q).t.length := by rw [ht',List.length_append]
  have hs' : (Mn.hd (flds fl' lev' ++ rows q)).length + (tx q).t.length < 100000 := by
   rw [← hl]; exact Nat.lt_of_le_of_lt (Nat.le_add_left _ _) hs
  exact ⟨⟨h.cast ht',⟨lo,wf.2⟩,wf.1,Nat.lt_of_le_of_lt (Nat.le_add_right _ _) hs'⟩,hs'⟩
 | .one m k,h,wf,hs =>
  refine ⟨fun y q => ?_,(fun y h => by exact nO h)⟩
  cases q with
  | tail _ q => exact nM q
  | head =>
   obtain ⟨Z,hZ⟩ := kidsT_t1 (X := mkB m.k) (tl := m.tl) (k := hTx (rows k) (tx k))
   have ht' : (tx (.one m k)).t = lT (preL m.pre) ++ ((45 :: 45 :: mkB m.k) ++ ([13,10] ++ (Mn.hd (rows k) ++ (tx k).t ++ Z))) := by
    show (bodyTx _ _ _ _ _).t = _
    rw [bodyTx_t,hZ,hTx_t]
   have hlen : (tx (.one m k)).t.length = (lT (preL m.pre)).length + 7 + ((Mn.hd (rows k)).length + (tx k).t.length) + Z.length := by
    rw [ht']; simp only [List.length_append]; show _ + (5 + (2 + _)) = _; lia
   have h7 := (h.cast ht').right.right.right.left
   rw [show ∀ x : Int,x + ((45 :: 45 :: mkB m.k).length : Int) + (([13,10] : By).length : Int) = x + 7 from fun x => by show x + ((5 : Nat) : Int) + ((2 : Nat) : Int) = x + 7; lia] at h7
   have hs' : (Mn.hd (rows k)).length + (tx k).t.length < 100000 := by
    have : (tx (.one m k)).t.length < 100000 := Nat.lt_of_le_of_lt (Nat.le_add_left _ _) hs
    lia
   exact ⟨⟨h7,⟨_,wf.2⟩,by show 0 < 5; lia,Nat.lt_of_le_of_lt (Nat.le_add_right _ _) hs'⟩,hs'⟩
 | .two m k j,h,wf,hs =>
  obtain ⟨Z,hZ⟩ := kidsT_t1 (X := mkB m.k) (tl := m.tl) (k := hTx (rows j) (tx j))
  have ht' : (tx (.two m k j)).t = lT (preL m.pre) ++ ((45 :: 45 :: mkB m.k) ++ ([13,10] ++ (Mn.hd (rows k) ++ (tx k).t ++ ([13,10] ++ ((45 :: 45 :: mkB m.k) ++ ([13,10] ++ (Mn.hd (rows j) ++ (tx j).t ++ Z))))))) := by
   show (bodyTx _ _ _ _ _).t = _
   rw [bodyTx_t,kidsT_t2,hZ,hTx_t,hTx_t]
  have hlen : (tx (.two m k j)).t.length = (lT (preL m.pre)).length + 7 + ((Mn.hd (rows k)).length + (tx k).t.length) + 9 + ((Mn.hd (rows j)).length + (tx j).t.length) + Z.length := by
   rw [ht']; simp only [List.length_append]; show _ + (5 + (2 + (_ + (2 + (5 + (2 + _)))))) = _; lia
  have hs0 : (tx (.two m k j)).t.length < 100000 := Nat.lt_of_le_of_lt (Nat.le_add_left _ _) hs
  have e7 : ∀ x : Int,x + ((45 :: 45 :: mkB m.k).length : Int) + (([13,10] : By).length : Int) = x + 7 := fun x => by show x + ((5 : Nat) : Int) + ((2 : Nat) : Int) = x + 7; lia
  have h6 := (h.cast ht').right.right.right
  rw [e7] at h6
  have h7 := h6.left
  have h8 := h6.right.right.right.right.left
  rw [e7] at h8
  refine ⟨fun y q => ?_,(fun y h => by exact nO h)⟩
  cases q with
  | head =>
   have hs' : (Mn.hd (rows k)).length + (tx k).t.length < 100000 := by lia
   exact ⟨⟨h7,⟨_,wf.2.1⟩,by show 0 < 5; lia,Nat.lt_of_le_of_lt (Nat.le_add_right _ _) hs'⟩,hs'⟩
  | tail _ q =>
   cases q with
   | tail _ q => exact nM q
   | head =>
    have hs' : (Mn.hd (rows j)).length + (tx j).t.length < 100000 := by lia
    rw [show ((Mn.hd (rows k) ++ (tx k).t).length : Int) = ((hTx (rows k) (tx k)).t.length : Int) by rw [hTx_t]] at h8
    exact ⟨⟨h8,⟨_,wf.2.2⟩,by show 0 < 5; lia,Nat.lt_of_le_of_lt (Nat.le_add_right _ _) hs'⟩,hs'⟩
theorem ways {d : By} : ∀ {p : Pc} {a : Int} {fl lev : Nat} {ms l : Bool},GoodL d ⟨a,fl,lev,p,ms⟩ → (Lc.hd ⟨a,fl,lev,p,ms⟩).length + (tx p).t.length < 100000 → ∀ t ∈ wrX ⟨a,fl,lev,p,ms⟩ l,Way d ⟨a,fl,lev,p,ms⟩ l t := by
 intro p
 induction p with
 | leaf w e b =>
  intro a fl lev ms l g hs t m
  induction l using Bool.casesOn with
  | false => exact nM m
  | true => exact way_kid (i := 0) rfl g (fun t m => by exact nM m) t m
 | letter hid fl' lev' q ih =>
  intro a fl lev ms l g hs
  have low : ∀ t ∈ wrX ⟨a,fl,lev,.letter hid fl' lev' q,ms⟩ false,Way d ⟨a,fl,lev,.letter hid fl' lev' q,ms⟩ false t := fun t m => by
   induction hid using Bool.casesOn with
   | true => exact nM m
   | false =>
    have gi := (good_kids g hs).2 _ rfl
    exact way_in rfl rfl (ih gi.1 gi.2 t m)
  induction l using Bool.casesOn with
  | false => exact low
  | true => exact way_kid (i := 0) rfl g low
 | one m k ih =>
  intro a fl lev ms l g hs
  have gk := (good_kids g hs).1 _ (.head _)
  have := way_kid (x := ⟨a,fl,lev,.one m k,ms⟩) (l := l) (i := 0) (by induction l using Bool.casesOn <;> rfl) gk.1 (ih gk.1 gk.2)
  exact this
 | two m k j ih ih2 =>
  intro a fl lev ms l g hs
  have gk := (good_kids g hs).1 _ (.head _)
  have gj := (good_kids g hs).1 _ (.tail _ (.head _))
  have w1 := way_kid (x := ⟨a,fl,lev,.two m k j,ms⟩) (l := l) (i := 0) (by induction l using Bool.casesOn <;> rfl) gk.1 (ih gk.1 gk.2)
  have w2 := way_kid (x := ⟨a,fl,lev,.two m k j,ms⟩) (l := l) (i := 1) (by induction l using Bool.casesOn <;> rfl) gj.1 (ih2 gj.1 gj.2)
  intro t q
  exact (List.mem_append.mp q).elim (w1 t) (w2 t)
section
noncomputable def Und (mh : MH) : Prop := mh.all (underO mh.length) = true
theorem Und.head {o o' : MO} {R : MH} (h : Und (o :: R)) (ho : underO (R.length + 1) o' = true) : Und (o' :: R) :=
 Bool.and_eq_true_iff.mpr ⟨ho,(Bool.and_eq_true_iff.mp h).2⟩
theorem fin_same {n : Nat} {v : MV} {mh : MH} (hn : n = mh.length) (hu : Und mh) (hv : cB v = true) : finish false n v mh = some (v,mh) := by
 subst hn
 have := fin_gen (n := mh.length) (mh := mh) (v := v) (w := v) (by rw [List.take_length]; exact hu) (frz_closed hv)
 rw [List.take_length] at this
 exact this
theorem get_end {α : Type} {A : List α} {x : α} : (A ++ [x])[A.length]? = some x := by
 rw [List.getElem?_append_right (Nat.le_refl _),Nat.sub_self]; rfl
theorem fin_dct {n : Nat} {mh0 mh : MH} {ks} {vs : List MV} (hn : n = mh0.length) (hm : mh = mh0 ++ [.dct ks vs]) (hu : Und mh0) (hv : cL vs = true) : finish true n (.ref n) mh = some (.ref n,mh) := by
 subst hn hm
 have ht : (mh0 ++ [MO.dct ks vs]).take mh0.length = mh0 := List.take_left
 show (if ((mh0 ++ [MO.dct ks vs]).take mh0.length).all (underO mh0.length) = true then _ else _) = _
 refine if_k (by rw [ht]; exact hu) ?_
 show bo (some mh0.length) (fun i => if mh0.length ≤ i then bo (dctAt (mh0 ++ [MO.dct ks vs]) i) _ else none) = _
 refine bo_k rfl (if_k (Nat.le_refl _) (bo_k (a := (ks,vs)) ?_ (bo_k (mapO_closed hv) ?_)))
 ·unfold dctAt; rw [get_end]
 ·rw [ht]
theorem p_mod {k : Bool} {mh : MH} {x y : Int} (h : 0 < y) : binV k mh .Mod (.int x) (.int y) = some (.int (x % y),mh) := if_pos h
theorem p_div {k : Bool} {mh : MH} {x y : Int} (h : 0 < y ∧ y < 1048576) : binV k mh .FloorDiv (.int x) (.int y) = some (.int (x / y),mh) := if_pos h
theorem p_mul {k : Bool} {mh : MH} {x y : Int} (h : -1048576 ≤ x ∧ x ≤ 1048576 ∧ -1048576 ≤ y ∧ y ≤ 1048576) : binV k mh .Mult (.int x) (.int y) = some (.int (x * y),mh) := if_pos h
noncomputable abbrev tp (cs : List Int) (a c : Int) : MO := .lst [.lst (cs.map .int),.int a,.int c]
theorem tU {cs : List Int} {a c : Int} {n : Nat} : underO n (tp cs a c) = true := closedL_under (l := [.lst (cs.map .int),.int a,.int c]) (Bool.and_eq_true_iff.mpr ⟨ints_closed',rfl⟩)
where ints_closed' : cB (.lst (cs.map .int)) = true := closedL_map fun O => rfl
section
variable {cs : List Int} {R : MH} {n : Nat}
theorem draw (hc : cs ≠ []) (hc2 : cs.length < 1000) {a c k : Int} (ha : 0 ≤ a ∧ a < 1000) (hk : 0 < k) (hu : Und (tp cs a c :: R)) : ∃ v : Int,0 ≤ v ∧ v < k ∧ mcall text (n+1) 58 [.ref 0,.int k] (tp cs a c :: R) = some (.int v,tp cs (a + 1) c :: R) := by
 have hL : 0 < (cs.length : Int) := by
  induction cs using List.casesOn with
  | nil => exact absurd rfl hc
  | cons x r => rw [List.length_cons]; lia
 have h0 := Int.emod_nonneg a (Int.ne_of_gt hL)
 have h1 := Int.emod_lt_of_pos a hL
 have hx : (a % (cs.length : Int)).toNat < cs.length := by lia
 have hs : ∀ mh,subV mh (.lst (cs.map .int)) (.int (a % (cs.length : Int))) = some (.int (cs[(a % (cs.length : Int)).toNat]'hx)) := fun mh => by
  show pyIdx (cs.map MV.int) (a % (cs.length : Int)) = _
  unfold pyIdx
  rw [if_pos h0,List.getElem?_map,List.getElem?_eq_getElem hx]; rfl
 have hl : ∀ mh,bcallV mh .len [.lst (cs.map .int)] = some (.int cs.length) := fun mh => by show some (MV.int ((cs.map MV.int).length : Int)) = _; rw [List.length_map]
 have q0 : 0 ≤ a / (cs.length : Int) := Int.ediv_nonneg ha.1 (Int.le_of_lt hL)
 have q1 : a / (cs.length : Int) ≤ a := Int.ediv_le_self _ ha.1
 have q2 : 0 ≤ a / 2 := by lia
 have q3 : a / 2 ≤ a := by lia
 refine ⟨(cs[(a % (cs.length : Int)).toNat]'hx + a / (cs.length : Int) * (7 * a + 3 + a / 2)) % k,Int.emod_nonneg _ (Int.ne_of_gt hk),Int.emod_lt_of_pos _ hk,?_⟩
 exact mc (r := f58) rfl rfl (xc (xa (et (ec (eu (el (by rfl)) rfl (by exact rfl)) (ec (eu (el (by rfl)) rfl (by exact rfl)) rfl))) (g_tup (gc (gn (by rfl) (by rfl)) (gc (gn (by rfl) (by rfl)) gs_nil)))) (xc (xa (eb (el (by rfl)) rfl (by exact rfl)) (g_sub (el (by rfl)) rfl (by trivial))) (xl (xr (eb (eb (eu (el (by rfl)) (eb (el (by rfl)) (e_bcall (ec (el (by rfl)) rfl) (by exact hl _)) (by exact p_mod hL)) (by exact hs _)) (eb (eb (el (by rfl)) (e_bcall (ec (el (by rfl)) rfl) (by exact hl _)) (by exact p_div ⟨hL,by lia⟩)) (eb (eb (eb rfl (el (by rfl)) (by exact p_mul ⟨by lia,by lia,by lia,by lia⟩)) rfl (by exact rfl)) (eb (el (by rfl)) rfl (by exact p_div ⟨by lia,by lia⟩)) (by exact rfl)) (by exact p_mul ⟨by lia,by lia,by lia,by lia⟩)) (by exact rfl)) (el (by rfl)) (by exact p_mod hk)))))) (by exact fin_same (mh := tp cs (a + 1) c :: R) rfl (hu.head tU) rfl)
theorem c_draw {C : Callee} {k : Int} {mh m : MH} {v : MV} (h : C 58 [.ref 0,.int k] mh = some (v,m)) : callC C 58 [.ref 0,.int k] mh = some (v,m) := cf_k rfl h
theorem leaf_bytes : ∀ {b : Int} {mh : MH},0 ≤ b → b < 8 → subV mh (.tup [.bytes [],.bytes [120],.bytes [120,13,10],.bytes [97,13,10,98,13,10],.bytes [45,45,13,10],.bytes [13,10,13,10,122],.bytes [45,45,61,98,13,10],.bytes [65,58,32,98,13,10,13,10,99,10]]) (.int b) = some (.bytes (leafTx b.toNat).t) := by
 intro b mh h0 h1
 have : b = 0 ∨ b = 1 ∨ b = 2 ∨ b = 3 ∨ b = 4 ∨ b = 5 ∨ b = 6 ∨ b = 7 := by lia
 rcases this with rfl | rfl | rfl | rfl | rfl | rfl | rfl | rfl <;> rfl
noncomputable abbrev lfV (rw wd pr : MV) (w : Int) : List OV := [some (.ref 0),some rw,some wd,some pr,some (.int w),none,none]
noncomputable def encR : Nat → List RK
 | 0 => []
 | e + 1 => [.enc (e + 1)]
inductive LfE (cs : List Int) (R : MH) (n : Nat) (a c w : Int) (L : List RK) (wd pr : MV) : Prop where
 | mk (e b : Nat) (he : e < 3) (hb : b < 8) (v : MV) (s : St) (h : execB text (mcall text (n+1)) (lfV (rowsV L) wd pr w,tp cs a c :: R) (f59.body.drop 4) = some (.ret v,s)) (hv : v = .ref (R.length + 1))
  (q : s.2 = (tp cs (a + 2) c :: R) ++ [.dct K7 [rowsV (L ++ encR e),.bytes (leafTx b).t,wd,pr,.bytes (encN e),.lst [],.none]])
theorem leaf_end (hc : cs ≠ []) (hc2 : cs.length < 1000) {a c w : Int} (ha : 0 ≤ a ∧ a < 900) (hu : Und (tp cs a c :: R)) {L : List RK} {wd pr : MV} (hL : L.length < 100) : LfE cs R n a c w L wd pr := by
 refine byP fun P kP => ?_
 obtain ⟨e,he0,he1,hd1⟩ := draw (n := n) hc hc2 (a := a) (c := c) (k := 3) (R := R) ⟨ha.1,by lia⟩ (by decide) hu
 obtain ⟨b,hb0,hb1,hd2⟩ := draw (n := n) hc hc2 (a := a + 1) (c := c) (k := 8) (R := R) ⟨by lia,by lia⟩ (by decide) (hu.head tU)
 have hd1 := c_draw hd1
 have hd2 := c_draw hd2
 rw [Int.add_assoc a 1 1] at hd2
 have hb := fun mh => leaf_bytes (mh := mh) hb0 hb1
 have hbl : b.toNat < 8 := (Int.toNat_lt hb0).mpr hb1
 have he : e = 0 ∨ e = 1 ∨ e = 2 := by lia
 have hadd : ∀ (x : By) (mh : MH),binV false mh .Add (rowsV L) (.lst [.bytes x]) = some (.lst ((L.map rT).map .bytes ++ [.bytes x]),mh) := fun x mh => by
  show (if ((L.map rT).map MV.bytes ++ [MV.bytes x]).length ≤ LIM then some (MV.lst ((L.map rT).map MV.bytes ++ [MV.bytes x]),mh) else none) = _
  refine if_pos ?_
  rw [List.length_append,List.length_map,List.length_map]; exact Nat.le_trans (Nat.succ_le_of_lt hL) (by decide)
 have hm : ∀ r : RK,(L.map rT).map MV.bytes ++ [MV.bytes (rT r)] = ((L ++ [r]).map rT).map .bytes := fun r => by rw [List.map_append,List.map_append]; rfl
 rcases he with rfl | rfl | rfl
 ·exact kP ⟨0,b.toNat,by decide,hbl,_,_,(xc (xa (eu (et (ec rfl (ec rfl (ec rfl rfl)))) (eK (ec (el (by rfl)) (ec rfl rfl)) (by exact hd1)) (by exact rfl)) (gn (by rfl) (by rfl))) (xc (x_ifF (tv rfl (em (el (by rfl)) rfl (by trivial)) (by rfl)) (by trivial) rfl) (xc (xa (eu (et (ec rfl (ec rfl (ec rfl (ec rfl (ec rfl (ec rfl (ec rfl (ec rfl rfl))))))))) (eK (ec (el (by rfl)) (ec rfl rfl)) (by exact hd2)) (by exact hb _)) (gn (by rfl) (by rfl))) (xl (xr (e_dctT (ec (el (by rfl)) (ec (el (by rfl)) (ec (el (by rfl)) (ec (el (by rfl)) (ec (el (by rfl)) (ec (e_lst rfl) (ec rfl rfl))))))))))))),(by rfl),by show _ = _ ++ [MO.dct K7 [rowsV (L ++ []),_,_,_,_,_,_]]; rw [List.append_nil]; rfl⟩
 ·exact kP ⟨1,b.toNat,by decide,hbl,_,_,(xc (xa (eu (et (ec rfl (ec rfl (ec rfl rfl)))) (eK (ec (el (by rfl)) (ec rfl rfl)) (by exact hd1)) (by exact rfl)) (gn (by rfl) (by rfl))) (xc (x_ifT (tv rfl (em (el (by rfl)) rfl (by trivial)) (by rfl)) (by trivial) (xc (xa (eb (el (by rfl)) (e_lst (ec (eb (eb rfl (e_bmeth (el (by rfl)) (by trivial) rfl (by exact rfl)) (by exact rfl)) rfl (by exact rfl)) rfl)) (by exact hadd _ _)) (gn (by rfl) (by rfl))) rfl)) (xc (xa (eu (et (ec rfl (ec rfl (ec rfl (ec rfl (ec rfl (ec rfl (ec rfl (ec rfl rfl))))))))) (eK (ec (el (by rfl)) (ec rfl rfl)) (by exact hd2)) (by exact hb _)) (gn (by rfl) (by rfl))) (xl (xr (e_dctT (ec (el (by rfl)) (ec (el (by rfl)) (ec (el (by rfl)) (ec (el (by rfl)) (ec (el (by rfl)) (ec (e_lst rfl) (ec rfl rfl))))))))))))),(by rfl),by show _ = _ ++ [MO.dct K7 [.lst (((L ++ [RK.enc 1]).map rT).map .bytes),_,_,_,_,_,_]]; rw [← hm]; rfl⟩
 ·exact kP ⟨2,b.toNat,by decide,hbl,_,_,(xc (xa (eu (et (ec rfl (ec rfl (ec rfl rfl)))) (eK (ec (el (by rfl)) (ec rfl rfl)) (by exact hd1)) (by exact rfl)) (gn (by rfl) (by rfl))) (xc (x_ifT (tv rfl (em (el (by rfl)) rfl (by trivial)) (by rfl)) (by trivial) (xc (xa (eb (el (by rfl)) (e_lst (ec (eb (eb rfl (e_bmeth (el (by rfl)) (by trivial) rfl (by exact rfl)) (by exact rfl)) rfl (by exact rfl)) rfl)) (by exact hadd _ _)) (gn (by rfl) (by rfl))) rfl)) (xc (xa (eu (et (ec rfl (ec rfl (ec rfl (ec rfl (ec rfl (ec rfl (ec rfl (ec rfl rfl))))))))) (eK (ec (el (by rfl)) (ec rfl rfl)) (by exact hd2)) (by exact hb _)) (gn (by rfl) (by rfl))) (xl (xr (e_dctT (ec (el (by rfl)) (ec (el (by rfl)) (ec (el (by rfl)) (ec (el (by rfl)) (ec (el (by rfl)) (ec (e_lst rfl) (ec rfl rfl))))))))))))),(by rfl),by show _ = _ ++ [MO.dct K7 [.lst (((L ++ [RK.enc 2]).map rT).map .bytes),_,_,_,_,_,_]]; rw [← hm]; rfl⟩
theorem leaf_w {a c : Int} {L : List RK} {wd pr : MV} (w : Nat) (hu : Und (tp cs a c :: R)) (z : LfE cs R n (a + 1) c w L wd pr)
  (hpre : ∀ s,execB text (mcall text (n+1)) (lfV (rowsV L) wd pr w,tp cs (a + 1) c :: R) (f59.body.drop 4) = some (.ret (.ref (R.length + 1)),s) → execB text (mcall text (n+1)) (some (.ref 0) :: List.replicate (f59.nslots - 1) none,tp cs a c :: R) f59.body = some (.ret (.ref (R.length + 1)),s))
  (hv : ∀ e b,e < 3 → [rowsV (L ++ encR e),.bytes (leafTx b).t,wd,pr,.bytes (encN e),.lst [],.none] = v7 (.leaf w e b)) :
  ∃ w e b : Nat,e < 3 ∧ b < 8 ∧ mcall text (n+2) 59 [.ref 0] (tp cs a c :: R) = some (.ref (R.length + 1),(tp cs (a + 3) c :: R) ++ [.dct K7 (v7 (.leaf w e b))]) := by
 obtain ⟨e,b,he,hb,_,s,h,rfl,q⟩ := z
 refine ⟨w,e,b,he,hb,?_⟩
 rw [hv e b he,Int.add_assoc a 1 2] at q
 exact mc (r := f59) rfl rfl (hpre s h) (by rw [q]; exact fin_dct (mh0 := tp cs (a + (1 + 2)) c :: R) rfl rfl (hu.head tU) v7_closed)
theorem leaf (hc : cs ≠ []) (hc2 : cs.length < 1000) {a c : Int} (ha : 0 ≤ a ∧ a < 800) (hu : Und (tp cs a c :: R)) :
  ∃ w e b : Nat,e < 3 ∧ b < 8 ∧ mcall text (n+2) 59 [.ref 0] (tp cs a c :: R) = some (.ref (R.length + 1),(tp cs (a + 3) c :: R) ++ [.dct K7 (v7 (.leaf w e b))]) := by
 refine byP fun P kP => ?_
 obtain ⟨w,hw0,hw1,hd⟩ := draw (n := n) hc hc2 (a := a) (c := c) (k := 4) (R := R) ⟨ha.1,by lia⟩ (by decide) hu
 have hd := c_draw hd
 have hr : 0 ≤ a + 1 ∧ a + 1 < 900 := ⟨by lia,by lia⟩
 have hw : w = 0 ∨ w = 1 ∨ w = 2 ∨ w = 3 := by lia
 rcases hw with rfl | rfl | rfl | rfl
 ·exact kP (leaf_w (L := []) (wd := .tup [.bytes [116,101,120,116],.bytes [112,108,97,105,110]]) (pr := .lst [.bytes [99,104,97,114,115,101,116],.bytes [117,115,45,97,115,99,105,105]]) 0 hu (leaf_end hc hc2 hr (hu.head tU) (by decide)) (fun s hr => (xc (xa (et (ec (e_lst rfl) (ec (et (ec rfl (ec rfl rfl))) (ec (e_lst (ec rfl (ec rfl rfl))) rfl)))) (g_tup (gc (gn (by rfl) (by rfl)) (gc (gn (by rfl) (by rfl)) (gc (gn (by rfl) (by rfl)) gs_nil))))) (xc (xa (eK (ec (el (by rfl)) (ec rfl rfl)) (by exact hd)) (gn (by rfl) (by rfl))) (xc (x_ifF (tv rfl (em (el (by rfl)) rfl (by trivial)) (by rfl)) (by trivial) rfl) (xc (x_ifF (tv rfl (em (el (by rfl)) rfl (by trivial)) (by rfl)) (by trivial) rfl) (by exact hr)))))) fun e b he => match e,he with | 0,_ => rfl | 1,_ => rfl | 2,_ => rfl)
 ·exact kP (leaf_w (L := [.img]) (wd := .tup [.bytes [105,109,97,103,101],.bytes [112,110,103]]) (pr := .lst [.bytes [110,97,109,101],.bytes [97,32,98]]) 1 hu (leaf_end hc hc2 hr (hu.head tU) (by decide)) (fun s hr => (xc (xa (et (ec (e_lst rfl) (ec (et (ec rfl (ec rfl rfl))) (ec (e_lst (ec rfl (ec rfl rfl))) rfl)))) (g_tup (gc (gn (by rfl) (by rfl)) (gc (gn (by rfl) (by rfl)) (gc (gn (by rfl) (by rfl)) gs_nil))))) (xc (xa (eK (ec (el (by rfl)) (ec rfl rfl)) (by exact hd)) (gn (by rfl) (by rfl))) (xc (x_ifT (tv rfl (em (el (by rfl)) rfl (by trivial)) (by rfl)) (by trivial) (xc (xa (et (ec (e_lst (ec rfl rfl)) (ec (et (ec rfl (ec rfl rfl))) (ec (e_lst (ec rfl (ec rfl rfl))) rfl)))) (g_tup (gc (gn (by rfl) (by rfl)) (gc (gn (by rfl) (by rfl)) (gc (gn (by rfl) (by rfl)) gs_nil))))) rfl)) (xc (x_ifF (tv rfl (em (el (by rfl)) rfl (by trivial)) (by rfl)) (by trivial) rfl) (by exact hr)))))) fun e b he => match e,he with | 0,_ => rfl | 1,_ => rfl | 2,_ => rfl)
 ·exact kP (leaf_w (L := [.html]) (wd := .tup [.bytes [116,101,120,116],.bytes [104,116,109,108]]) (pr := .none) 2 hu (leaf_end hc hc2 hr (hu.head tU) (by decide)) (fun s hr => (xc (xa (et (ec (e_lst rfl) (ec (et (ec rfl (ec rfl rfl))) (ec (e_lst (ec rfl (ec rfl rfl))) rfl)))) (g_tup (gc (gn (by rfl) (by rfl)) (gc (gn (by rfl) (by rfl)) (gc (gn (by rfl) (by rfl)) gs_nil))))) (xc (xa (eK (ec (el (by rfl)) (ec rfl rfl)) (by exact hd)) (gn (by rfl) (by rfl))) (xc (x_ifF (tv rfl (em (el (by rfl)) rfl (by trivial)) (by rfl)) (by trivial) rfl) (xc (x_ifT (tv rfl (em (el (by rfl)) rfl (by trivial)) (by rfl)) (by trivial) (xc (xa (et (ec (e_lst (ec rfl rfl)) (ec (et (ec rfl (ec rfl rfl))) (ec rfl rfl)))) (g_tup (gc (gn (by rfl) (by rfl)) (gc (gn (by rfl) (by rfl)) (gc (gn (by rfl) (by rfl)) gs_nil))))) rfl)) (by exact hr)))))) fun e b he => match e,he with | 0,_ => rfl | 1,_ => rfl | 2,_ => rfl)
 ·exact kP (leaf_w (L := []) (wd := .tup [.bytes [116,101,120,116],.bytes [112,108,97,105,110]]) (pr := .lst [.bytes [99,104,97,114,115,101,116],.bytes [117,115,45,97,115,99,105,105]]) 3 hu (leaf_end hc hc2 hr (hu.head tU) (by decide)) (fun s hr => (xc (xa (et (ec (e_lst rfl) (ec (et (ec rfl (ec rfl rfl))) (ec (e_lst (ec rfl (ec rfl rfl))) rfl)))) (g_tup (gc (gn (by rfl) (by rfl)) (gc (gn (by rfl) (by rfl)) (gc (gn (by rfl) (by rfl)) gs_nil))))) (xc (xa (eK (ec (el (by rfl)) (ec rfl rfl)) (by exact hd)) (gn (by rfl) (by rfl))) (xc (x_ifF (tv rfl (em (el (by rfl)) rfl (by trivial)) (by rfl)) (by trivial) rfl) (xc (x_ifF (tv rfl (em (el (by rfl)) rfl (by trivial)) (by rfl)) (by trivial) rfl) (by exact hr)))))) fun e b he => match e,he with | 0,_ => rfl | 1,_ => rfl | 2,_ => rfl)
end
end
section
theorem set_end {α : Type} {A : List α} {x y : α} : (A ++ [x]).set A.length y = A ++ [y] := by
 rw [List.set_append_right _ _ (Nat.le_refl _),Nat.sub_self]; rfl
theorem look_rows {p : Pc} : lookK [114,111,119,115] K7 (v7 p) = some (rowsV (rows p)) := by rw [v7_form ⟨0,0,0,p,false⟩]; rfl
theorem put_head {p : Pc} {v : MV} : putK kHead v K7 (v7 p) = (K7 ++ [kHead],v7 p ++ [v]) := by rw [v7_form ⟨0,0,0,p,false⟩]; rfl
theorem put_fields {p : Pc} {v w : MV} : putK kFields w (K7 ++ [kHead]) (v7 p ++ [v]) = (K7 ++ [kHead,kFields],v7 p ++ [v,w]) := by rw [v7_form ⟨0,0,0,p,false⟩]; rfl
theorem v7_len {p : Pc} : (v7 p).length = 7 := by rw [v7_form ⟨0,0,0,p,false⟩]; rfl
section
variable {M : MH} {n : Nat} {ks : List (List Nat)} {vs : List MV} {s : List Nat} {v : MV}
theorem sub_end (hn : n = M.length) (h : lookK s ks vs = some v) : subV (M ++ [.dct ks vs]) (.ref n) (.str s) = some v := by
 subst hn
 show (match (M ++ [MO.dct ks vs])[M.length]? with | some (.dct ks vs) => lookK s ks vs | _ => none) = _
 rw [get_end]; exact h
theorem put_end {ks' vs'} (hn : n = M.length) (hl : vs.length < 500) (h : putK s v ks vs = (ks',vs')) : setSub (M ++ [.dct ks vs]) n (.str s) v = some (M ++ [.dct ks' vs']) := by
 subst hn
 show (match (M ++ [MO.dct ks vs])[M.length]? with | some (.dct ks vs) => if vs.length < 500 then some ((M ++ [MO.dct _ _]).set M.length (.dct (putK s v ks vs).1 (putK s v ks vs).2)) else none | _ => none) = _
 rw [get_end]
 show (if vs.length < 500 then some ((M ++ [MO.dct ks vs]).set M.length (.dct (putK s v ks vs).1 (putK s v ks vs).2)) else none) = _
 rw [if_pos hl,set_end,h]
end
noncomputable def sz (p : Pc) : Nat := (hd (rows p)).length + (tx p).t.length
theorem rT_len : ∀ r : RK,r.Ok → (rT r).length ≤ 80 :=
 rk_all (P := fun r => (rT r).length ≤ 80) (by decide) (by decide) (by decide) (by decide) (by decide) (by decide) (by decide) (by decide) (by decide) (by decide) (by decide) (by decide) (multi_all (by decide) (by decide) (by decide) (by decide) (by decide) (by decide) (by decide) (by decide))
theorem rsT_len : ∀ {L : List RK},(∀ r ∈ L,r.Ok) → (rsT' L).length ≤ 80 * L.length
 | [],_ => Nat.zero_le _
 | r :: L,h => by
  rw [show rsT' (r :: L) = rT r ++ rsT' L from rfl,List.length_append,List.length_cons]
  have := rT_len r (h r (.head _)); have := rsT_len (L := L) fun r m => h r (.tail _ m); lia
theorem flat_rT : ∀ {L : List RK},(L.map rT).flatten = rsT' L
 | [] => rfl
 | r :: L => by show rT r ++ (L.map rT).flatten = _; rw [flat_rT]; rfl
theorem join_rows {mh : MH} {L : List RK} (h : ∀ r ∈ L,r.Ok) (hl : L.length < 100) : bmethV mh (.bytes []) .join [.lst ((L.map rT).map .bytes)] = some (.bytes (rsT' L),mh) := by
 rw [← flat_rT]
 refine p_join ?_
 have := filt_len (L := L) (f := fun O => true)
 rw [List.filter_eq_self.mpr fun O O => rfl] at this
 have := rsT_len h; unfold LIM; lia
noncomputable def D : Nat → Int
 | 0 => 3
 | k + 1 => 2 * D k + 5
noncomputable def S : Nat → Nat
 | 0 => 300
 | k + 1 => 2 * S k + 600
noncomputable def Wb : Nat → Nat
 | 0 => 1
 | k + 1 => 2 * Wb k + 2
structure Pok (k : Nat) (c : Nat) (a a' : Int) (c' : Nat) (p : Pc) : Prop where
 wf : WF c p
 ht : ht p ≤ k
 a0 : a ≤ a'
 a1 : a' ≤ a + D k
 c0 : c ≤ c'
 c1 : c' ≤ 4
 sz : sz p ≤ S k
 w : ∀ a fl lev ms l,(wr p a fl lev ms l).length ≤ Wb k
noncomputable def PieceOk (cs : List Int) (N k : Nat) (lv : Int) : Prop := ∀ (R : MH) (a : Int) (c : Nat),0 ≤ a → a + D k < 700 → c ≤ 4 → Und (tp cs a c :: R) →
 ∃ p a' c',Pok k c a a' c' p ∧ mcall text N 62 [.ref 0,.int lv] (tp cs a c :: R) = some (.ref (R.length + 1),(tp cs a' (c' : Nat) :: R) ++ [.dct K7 (v7 p)])
theorem D_pos {k : Nat} : 3 ≤ D k := by
 induction k with
 | zero => exact Int.le_refl _
 | succ k ih => show 3 ≤ 2 * D k + 5; lia
section
variable {cs : List Int} {R : MH} {N : Nat}
theorem message (hc : cs ≠ []) (hc2 : cs.length < 1000) {k lev : Nat} (hp : PieceOk cs (N + 1) k (lev : Int)) (hlev : lev < 5) {a : Int} {c : Nat} (ha : 0 ≤ a) (ha2 : a + 1 + D k < 700) (hcc : c ≤ 4) (hu : Und (tp cs a c :: R)) :
  ∃ p a' c' fl,Pok k c (a + 1) a' c' p ∧ mcall text (N + 2) 63 [.ref 0,.int lev] (tp cs a c :: R) = some (.dct (K7 ++ [kHead,kFields]) (v7 p ++ [.bytes (hd (flds fl lev ++ rows p)),rowsV (flds fl lev)]),tp cs a' (c' : Nat) :: R) := by
 obtain ⟨v,hv0,hv1,hd1⟩ := draw (n := N) hc hc2 (a := a) (c := c) (k := 3) (R := R) ⟨ha,by have := D_pos (k := k); lia⟩ (by decide) hu
 have hd1 := c_draw hd1
 obtain ⟨p,a',c',ok,hp⟩ := hp R (a + 1) c (by lia) ha2 hcc (hu.head tU)
 have hp : callC (mcall text (N + 1)) 62 [.ref 0,.int lev] (tp cs (a + 1) c :: R) = some (.ref (R.length + 1),(tp cs a' (c' : Nat) :: R) ++ [.dct K7 (v7 p)]) := c_ref rfl hp
 refine ⟨p,a',c',v.toNat,ok,?_⟩
 have hb : ∀ mh,bcallV mh .bytes [.lst [.int (97 + (lev : Int))]] = some (.bytes [UInt8.ofNat (97 + lev)]) := fun mh => by
  have : lev = 0 ∨ lev = 1 ∨ lev = 2 ∨ lev = 3 ∨ lev = 4 := by lia
  rcases this with rfl | rfl | rfl | rfl | rfl <;> rfl
 have hsl : ∀ mh,sliceV false mh (.lst [.bytes ([70,114,111,109,58,32,97] ++ [UInt8.ofNat (97 + lev)] ++ [64,120,13,10]),.bytes [83,117,98,106,101,99,116,58,32,115,13,10,32,116,13,10]]) .none (.int v) = some (rowsV (flds v.toNat lev),mh) := fun mh => by
  have : v = 0 ∨ v = 1 ∨ v = 2 := by lia
  rcases this with rfl | rfl | rfl <;> rfl
 have okr : ∀ r ∈ flds v.toNat lev ++ rows p,r.Ok := fun r m => (List.mem_append.mp m).elim (flds_ok hlev r) (rows_ok ok.wf r)
 have hlr : (flds v.toNat lev ++ rows p).length ≤ 4 := by rw [List.length_append]; have := rows_len (p := p); have := flds_len (fl := v.toNat) (lev := lev); lia
 have hadd : ∀ mh,binV false mh .Add (rowsV (flds v.toNat lev)) (rowsV (rows p)) = some (.lst (((flds v.toNat lev ++ rows p).map rT).map .bytes),mh) := fun mh => by
  rw [List.map_append,List.map_append]
  refine if_pos ?_
  rw [← List.map_append,← List.map_append,List.length_map,List.length_map]; show _ ≤ 1048576; lia
 have hj : ∀ mh,bmethV mh (.bytes []) .join [.lst (((flds v.toNat lev ++ rows p).map rT).map .bytes)] = some (.bytes (rsT' (flds v.toNat lev ++ rows p)),mh) := fun mh => join_rows okr (by lia)
 have hba : ∀ mh,binV false mh .Add (.bytes (rsT' (flds v.toNat lev ++ rows p))) (.bytes [13,10]) = some (.bytes (hd (flds v.toNat lev ++ rows p)),mh) := fun mh => p_badd (by have := rsT_len okr; show _ + 2 ≤ 1048576; lia)
 have h1 : ∀ mh : MH,mh = (tp cs a' (c' : Nat) :: R) ++ [.dct K7 (v7 p)] → subV mh (.ref (R.length + 1)) (.str [114,111,119,115]) = some (rowsV (rows p)) := fun mh q => by subst q; exact sub_end rfl look_rows
 have h2 := fun v' => put_end (M := tp cs a' (c' : Nat) :: R) (n := R.length + 1) (s := kHead) (v := v') rfl (by rw [v7_len]; decide) (put_head (p := p))
 have h3 := fun v' w => put_end (M := tp cs a' (c' : Nat) :: R) (n := R.length + 1) (s := kFields) (v := w) rfl (by rw [List.length_append,v7_len]; exact (by decide : 7 + 1 < 500)) (put_fields (p := p) (v := v'))
 have hcl : cL (v7 p ++ [.bytes (hd (flds v.toNat lev ++ rows p)),rowsV (flds v.toNat lev)]) = true := closedL_app v7_closed (Bool.and_eq_true_iff.mpr ⟨rfl,Bool.and_eq_true_iff.mpr ⟨rowsV_closed,rfl⟩⟩)
 exact mc (r := f63) rfl rfl (xc (xa (e_slice (e_lst (ec (eb (eb rfl (e_bcall (ec (e_lst (ec (eb rfl (el (by rfl)) (by exact rfl)) rfl)) rfl) (by exact hb _)) (by exact rfl)) rfl (by exact rfl)) (ec rfl rfl))) rfl (eK (ec (el (by rfl)) (ec rfl rfl)) (by exact hd1)) (by exact hsl _)) (gn (by rfl) (by rfl))) (xc (xa (eK (ec (el (by rfl)) (ec (el (by rfl)) rfl)) (by exact hp)) (gn (by rfl) (by rfl))) (xc (xa (eb (e_bmeth rfl (by trivial) (ec (eb (el (by rfl)) (eu (el (by rfl)) rfl (by exact h1 _ rfl)) (by exact hadd _)) rfl) (by exact hj _)) rfl (by exact hba _)) (g_sub (el (by rfl)) rfl (by exact h2 _))) (xc (xa (el (by rfl)) (g_sub (el (by rfl)) rfl (by exact h3 _ _))) (xl (xr (el (by rfl)))))))) (by
  have ht : ((tp cs a' (c' : Nat) :: R) ++ [MO.dct (K7 ++ [kHead,kFields]) (v7 p ++ [.bytes (hd (flds v.toNat lev ++ rows p)),rowsV (flds v.toNat lev)])]).take (R.length + 1) = tp cs a' (c' : Nat) :: R := List.take_left (l₁ := tp cs a' (c' : Nat) :: R)
  have := fin_gen (n := R.length + 1) (mh := (tp cs a' (c' : Nat) :: R) ++ [MO.dct (K7 ++ [kHead,kFields]) (v7 p ++ [.bytes (hd (flds v.toNat lev ++ rows p)),rowsV (flds v.toNat lev)])]) (v := .ref (R.length + 1))
   (by rw [ht]; exact hu.head tU) (frz_dct (Nat.lt_irrefl _) (by rw [List.length_append]; show ¬ R.length + 1 = R.length + 1 + 1; lia) (get_end (A := tp cs a' (c' : Nat) :: R)) hcl)
  rw [ht] at this
  exact this)
theorem hd_len {L : List RK} (h : ∀ r ∈ L,r.Ok) : (hd L).length ≤ 80 * L.length + 2 := by
 have := rsT_len h
 rw [show hd L = rsT' L ++ [13,10] from rfl,List.length_append]; show _ + 2 ≤ _; lia
theorem hd_app {L M : List RK} : (hd (L ++ M)).length = (rsT' L).length + (hd M).length := by
 have : ∀ {L : List RK},rsT' (L ++ M) = rsT' L ++ rsT' M := by
  intro L
  induction L with
  | nil => rfl
  | cons r L ih => show rT r ++ rsT' (L ++ M) = (rT r ++ rsT' L) ++ rsT' M; rw [ih,List.append_assoc]
 rw [show hd (L ++ M) = rsT' (L ++ M) ++ [13,10] from rfl,show hd M = rsT' M ++ [13,10] from rfl,this,List.length_append,List.length_append,List.length_append]; lia
theorem look_mh {p : Pc} {v w : MV} : lookK kHead (K7 ++ [kHead,kFields]) (v7 p ++ [v,w]) = some v := by rw [v7_form ⟨0,0,0,p,false⟩]; rfl
theorem look_mb {p : Pc} {v w : MV} : lookK [98,111,100,121] (K7 ++ [kHead,kFields]) (v7 p ++ [v,w]) = some (.bytes (tx p).t) := by rw [v7_form ⟨0,0,0,p,false⟩]; rfl
theorem letter (hc : cs ≠ []) (hc2 : cs.length < 1000) {k lev : Nat} (hp : PieceOk cs (N + 1) k ((lev + 1 : Nat) : Int)) (hlev : lev + 1 < 5) {a : Int} {c : Nat} (ha : 0 ≤ a) (ha2 : a + 2 + D k < 700) (hcc : c ≤ 4) (hu : Und (tp cs a c :: R)) (hS : S k < 50000) :
  ∃ p a' c',(WF c p ∧ ht p ≤ k + 1 ∧ a ≤ a' ∧ a' ≤ a + 2 + D k ∧ c ≤ c' ∧ c' ≤ 4 ∧ sz p ≤ S (k + 1) ∧ (∀ a fl lev ms l,(wr p a fl lev ms l).length ≤ Wb (k + 1))) ∧
   mcall text (N + 3) 60 [.ref 0,.int lev] (tp cs a c :: R) = some (.ref (R.length + 1),(tp cs a' (c' : Nat) :: R) ++ [.dct K7 (v7 p)]) := by
 refine byP fun P kP => ?_
 obtain ⟨v,hv0,hv1,hd1⟩ := draw (n := N + 1) hc hc2 (a := a) (c := c) (k := 5) (R := R) ⟨ha,by have := D_pos (k := k); lia⟩ (by decide) hu
 have hd1 := c_draw hd1
 obtain ⟨q,a',c',fl,ok,hm⟩ := message (R := R) hc hc2 hp hlev (a := a + 1) (by lia) (by lia) hcc (hu.head tU)
 have hm : callC (mcall text (N + 2)) 63 [.ref 0,.int ((lev : Int) + 1)] (tp cs (a + 1) c :: R) = _ := c_ref rfl hm
 have okr : ∀ r ∈ flds fl (lev + 1) ++ rows q,r.Ok := fun r m => (List.mem_append.mp m).elim (flds_ok hlev r) (rows_ok ok.wf r)
 have l1 : (rsT' (flds fl (lev + 1))).length ≤ 160 := by have := rsT_len (fun r m => flds_ok (fl := fl) hlev r m); have := flds_len (fl := fl) (lev := lev + 1); lia
 have l2 := hd_app (L := flds fl (lev + 1)) (M := rows q)
 have l3 : (hd (rows q)).length + (tx q).t.length ≤ S k := ok.sz
 have hba : ∀ mh,binV false mh .Add (.bytes (hd (flds fl (lev + 1) ++ rows q))) (.bytes (tx q).t) = some (.bytes (hd (flds fl (lev + 1) ++ rows q) ++ (tx q).t),mh) := fun mh => p_badd (by show _ ≤ 1048576; lia)
 have hbt : ∀ h,(tx (.letter h fl (lev + 1) q)).t = hd (flds fl (lev + 1) ++ rows q) ++ (tx q).t := fun h => hTx_t
 have hh : ∀ mh,subV mh (.dct (K7 ++ [kHead,kFields]) (v7 q ++ [.bytes (hd (flds fl (lev + 1) ++ rows q)),rowsV (flds fl (lev + 1))])) (.str kHead) = some (.bytes (hd (flds fl (lev + 1) ++ rows q))) := fun mh => look_mh
 have hb : ∀ mh,subV mh (.dct (K7 ++ [kHead,kFields]) (v7 q ++ [.bytes (hd (flds fl (lev + 1) ++ rows q)),rowsV (flds fl (lev + 1))])) (.str [98,111,100,121]) = some (.bytes (tx q).t) := fun mh => look_mb
 have bounds : ∀ h,WF c (.letter h fl (lev + 1) q) ∧ ht (.letter h fl (lev + 1) q) ≤ k + 1 ∧ a ≤ a' ∧ a' ≤ a + 2 + D k ∧ c ≤ c' ∧ c' ≤ 4 ∧ sz (.letter h fl (lev + 1) q) ≤ S (k + 1) ∧ (∀ a fl' lev' ms l,(wr (.letter h fl (lev + 1) q) a fl' lev' ms l).length ≤ Wb (k + 1)) := fun h => by
  refine ⟨⟨hlev,ok.wf⟩,Nat.succ_le_succ ok.ht,by have := ok.a0; lia,by have := ok.a1; lia,ok.c0,ok.c1,?_,fun a2 fl' lev' ms l => ?_⟩
  ·have := hd_len (rows_ok (p := .letter h fl (lev + 1) q) (lo := c) ⟨hlev,ok.wf⟩)
   have := rows_len (p := .letter h fl (lev + 1) q)
   show (hd _).length + (tx (.letter h fl (lev + 1) q)).t.length ≤ 2 * S k + 600
   rw [hbt,List.length_append]; lia
  ·have : (cond h [] (wr q (a2 + (hd (flds fl' lev' ++ rows (.letter h fl (lev + 1) q))).length) fl (lev + 1) true true)).length ≤ Wb k := by
    induction h using Bool.casesOn with
    | true => exact Nat.zero_le _
    | false => exact ok.w _ _ _ _ _
   induction l using Bool.casesOn with
   | true => show (List.cons _ (List.map _ _)).length ≤ 2 * Wb k + 2; rw [List.length_cons,List.length_map]; lia
   | false => exact Nat.le_trans this (by show Wb k ≤ 2 * Wb k + 2; lia)
 by_cases hv : v = 0
 ·subst hv
  refine kP ⟨.letter true fl (lev + 1) q,a',c',bounds true,?_⟩
  have hmh : ∀ ws,cL ws = true → finish true (R.length + 1) (.ref (R.length + 1)) ((tp cs a' (c' : Nat) :: R) ++ [MO.dct K7 ws]) = some (.ref (R.length + 1),(tp cs a' (c' : Nat) :: R) ++ [MO.dct K7 ws]) := fun ws h => fin_dct (mh0 := tp cs a' (c' : Nat) :: R) rfl rfl (hu.head tU) h
  have hcl := v7_closed (p := .letter true fl (lev + 1) q)
  have hv7 : v7 (.letter true fl (lev + 1) q) = [rowsV [.msg,.b64],.bytes (hd (flds fl (lev + 1) ++ rows q) ++ (tx q).t),.tup [.bytes [97,112,112,108,105,99,97,116,105,111,110],.bytes [111,99,116,101,116,45,115,116,114,101,97,109]],.none,.bytes [98,97,115,101,54,52],.lst [],.none] := by rw [← hbt true]; rfl
  rw [hv7] at hcl ⊢
  have s1 := fun (x y z : MV) (e i w : MV) => put_end (M := tp cs a' (c' : Nat) :: R) (n := R.length + 1) (s := [119,111,114,100,115]) (ks := K7) (vs := [x,y,z,.none,e,.lst [],i]) (v := w) rfl (show 7 < 500 by lia) rfl
  have s2 := fun (x y z : MV) (e i w : MV) => put_end (M := tp cs a' (c' : Nat) :: R) (n := R.length + 1) (s := [101,110,99,111,100,105,110,103]) (ks := K7) (vs := [x,y,z,.none,e,.lst [],i]) (v := w) rfl (show 7 < 500 by lia) rfl
  have s3 := fun (x y z : MV) (e i w : MV) => put_end (M := tp cs a' (c' : Nat) :: R) (n := R.length + 1) (s := [105,110,110,101,114]) (ks := K7) (vs := [x,y,z,.none,e,.lst [],i]) (v := w) rfl (show 7 < 500 by lia) rfl
  exact mc (r := f60) rfl rfl (xc (xa (em (eK (ec (el (by rfl)) (ec rfl rfl)) (by exact hd1)) rfl (by exact rfl)) (gn (by rfl) (by rfl))) (xc (xa (eK (ec (el (by rfl)) (ec (eb (el (by rfl)) rfl (by exact rfl)) rfl)) (by exact hm)) (gn (by rfl) (by rfl))) (xc (xa (eb (e_lst (ec rfl rfl)) (e_iteT (tv rfl (el (by rfl)) (by rfl)) (by trivial) (e_lst (ec rfl rfl))) (by exact rfl)) (gn (by rfl) (by rfl))) (xc (xa (e_dctT (ec (el (by rfl)) (ec (eb (eu (el (by rfl)) rfl (by exact hh _)) (eu (el (by rfl)) rfl (by exact hb _)) (by exact hba _)) (ec (et (ec rfl (ec rfl rfl))) (ec rfl (ec rfl (ec (e_lst rfl) (ec (el (by rfl)) rfl)))))))) (gn (by rfl) (by rfl))) (xc (x_ifT (tv rfl (el (by rfl)) (by rfl)) (by trivial) (xc (xa (et (ec (et (ec rfl (ec rfl rfl))) (ec rfl (ec rfl rfl)))) (g_tup (gc (g_sub (el (by rfl)) rfl (by exact s1 _ _ _ _ _ _)) (gc (g_sub (el (by rfl)) rfl (by exact s2 _ _ _ _ _ _)) (gc (g_sub (el (by rfl)) rfl (by exact s3 _ _ _ _ _ _)) gs_nil))))) rfl)) (xl (xr (el (by rfl))))))))) (by exact hmh _ hcl)
 ·refine kP ⟨.letter false fl (lev + 1) q,a',c',bounds false,?_⟩
  have hcl := v7_closed (p := .letter false fl (lev + 1) q)
  have hv7 : v7 (.letter false fl (lev + 1) q) = [rowsV [.msg],.bytes (hd (flds fl (lev + 1) ++ rows q) ++ (tx q).t),.tup [.bytes [109,101,115,115,97,103,101],.bytes [114,102,99,56,50,50]],.none,.bytes [55,98,105,116],.lst [],.dct (K7 ++ [kHead,kFields]) (v7 q ++ [.bytes (hd (flds fl (lev + 1) ++ rows q)),rowsV (flds fl (lev + 1))])] := by rw [← hbt false]; rfl
  rw [hv7] at hcl ⊢
  have hmh : ∀ ws,cL ws = true → finish true (R.length + 1) (.ref (R.length + 1)) ((tp cs a' (c' : Nat) :: R) ++ [MO.dct K7 ws]) = some (.ref (R.length + 1),(tp cs a' (c' : Nat) :: R) ++ [MO.dct K7 ws]) := fun ws h => fin_dct (mh0 := tp cs a' (c' : Nat) :: R) rfl rfl (hu.head tU) h
  exact mc (r := f60) rfl rfl (xc (xa (em (eK (ec (el (by rfl)) (ec rfl rfl)) (by exact hd1)) rfl (by exact rfl)) (gn (by rfl) (by rfl))) (xc (xa (eK (ec (el (by rfl)) (ec (eb (el (by rfl)) rfl (by exact rfl)) rfl)) (by exact hm)) (gn (by rfl) (by rfl))) (xc (xa (eb (e_lst (ec rfl rfl)) (e_iteF (tv rfl (el (by rfl)) (by rfl)) (by trivial) (e_lst rfl)) (by exact rfl)) (gn (by rfl) (by rfl))) (xc (xa (e_dctT (ec (el (by rfl)) (ec (eb (eu (el (by rfl)) rfl (by exact hh _)) (eu (el (by rfl)) rfl (by exact hb _)) (by exact hba _)) (ec (et (ec rfl (ec rfl rfl))) (ec rfl (ec rfl (ec (e_lst rfl) (ec (el (by rfl)) rfl)))))))) (gn (by rfl) (by rfl))) (xc (x_ifF (tv rfl (el (by rfl)) (by rfl)) (by trivial) rfl) (xl (xr (el (by rfl))))))))) (by exact hmh _ hcl)
end
end
section
theorem get_mid {α : Type} {A B : List α} {x : α} : (A ++ x :: B)[A.length]? = some x := by
 rw [List.getElem?_append_right (Nat.le_refl _),Nat.sub_self]; rfl
theorem set_mid {α : Type} {A B : List α} {x y : α} : (A ++ x :: B).set A.length y = A ++ y :: B := by
 rw [List.set_append_right _ _ (Nat.le_refl _),Nat.sub_self]; rfl
section
variable {cs : List Int} {R : MH} {N : Nat}
noncomputable abbrev mnB : List MS := (f61.body[3]?.getD MS.fail).blk
noncomputable abbrev mnV (lev : Int) (X sb bd : By) (n : Nat) (t : Int) (x : OV) : List OV := [some (.ref 0),some (.int lev),some (.bytes X),some (.bytes sb),some (.bytes bd),some (.ref n),some (.int t),x,none]
noncomputable def sepB (t : Int) : By := if t > 0 then [13,10] else []
noncomputable def kidB (t : Int) (X : By) (k : Pc) : By := sepB t ++ [45,45] ++ X ++ [13,10] ++ hd (rows k) ++ (tx k).t
inductive KdI (cs : List Int) (R : MH) (N k lev : Nat) (X sb bd : By) (t : Int) (x : OV) (a : Int) (c : Nat) (ks : List MV) (B : MH) : Prop where
 | mk (p : Pc) (a' : Int) (c' : Nat) (ok : Pok k c a a' c' p) (h : execB text (mcall text N) (mnV lev X sb bd (R.length + 1) t x,tp cs a c :: (R ++ .lst ks :: B)) mnB =
   some (.next,(mnV lev X sb (bd ++ kidB t X p) (R.length + 1) t (some (.ref (R.length + 1 + 1 + B.length))),tp cs a' (c' : Nat) :: (R ++ .lst (ks ++ [.ref (R.length + 1 + 1 + B.length)]) :: (B ++ [.dct (K7 ++ [kHead]) (v7 p ++ [.bytes (hd (rows p))])])))))
theorem kid_iter {k lev : Nat} (hp : PieceOk cs N k ((lev : Int) + 1)) {X sb bd : By} {t : Int} {x : OV} {a : Int} {c : Nat} {ks : List MV} {B : MH} (ha : 0 ≤ a) (ha2 : a + D k < 700) (hcc : c ≤ 4) (hS : S k < 50000) (hX : X.length = 3) (hbd : bd.length < 200000) (hk : ks.length < 100)
  (hu : Und (tp cs a c :: (R ++ .lst ks :: B))) : KdI cs R N k lev X sb bd t x a c ks B := by
 refine byP fun P kP => ?_
 obtain ⟨p,a',c',ok,hp⟩ := hp (R ++ .lst ks :: B) a c ha ha2 hcc hu
 have hn : (R ++ MO.lst ks :: B).length + 1 = R.length + 1 + 1 + B.length := by rw [List.length_append,List.length_cons]; lia
 rw [hn] at hp
 have hp : callC (mcall text N) 62 [.ref 0,.int ((lev : Int) + 1)] (tp cs a c :: (R ++ .lst ks :: B)) = some (.ref (R.length + 1 + 1 + B.length),(tp cs a' (c' : Nat) :: (R ++ .lst ks :: B)) ++ [.dct K7 (v7 p)]) := c_ref rfl hp
 refine kP ⟨p,a',c',ok,?_⟩
 have okr := rows_ok ok.wf
 have hlr := rows_len (p := p)
 have l3 : (hd (rows p)).length + (tx p).t.length ≤ S k := ok.sz
 have hj : ∀ mh,bmethV mh (.bytes []) .join [rowsV (rows p)] = some (.bytes (rsT' (rows p)),mh) := fun mh => join_rows okr (by lia)
 have hba : ∀ mh,binV false mh .Add (.bytes (rsT' (rows p))) (.bytes [13,10]) = some (.bytes (hd (rows p)),mh) := fun mh => p_badd (by have := rsT_len okr; show _ + 2 ≤ 1048576; lia)
 have hn2 : R.length + 1 + 1 + B.length = (tp cs a' (c' : Nat) :: (R ++ .lst ks :: B)).length := by rw [List.length_cons,hn]
 have h1 : ∀ v,subV ((tp cs a' (c' : Nat) :: (R ++ .lst ks :: B)) ++ [.dct K7 (v7 p)]) (.ref (R.length + 1 + 1 + B.length)) (.str [114,111,119,115]) = some v ↔ v = rowsV (rows p) := fun v => by
  rw [sub_end hn2 look_rows]; exact ⟨fun h => (Option.some.inj h).symm,fun h => by rw [h]⟩
 have h1' := (h1 _).mpr rfl
 have h2 := fun v' => put_end (M := tp cs a' (c' : Nat) :: (R ++ .lst ks :: B)) (n := R.length + 1 + 1 + B.length) (s := kHead) (v := v') hn2 (by rw [v7_len]; decide) (put_head (p := p))
 have lkh : lookK kHead (K7 ++ [kHead]) (v7 p ++ [.bytes (hd (rows p))]) = some (.bytes (hd (rows p))) := by rw [v7_form ⟨0,0,0,p,false⟩]; rfl
 have lkb : lookK [98,111,100,121] (K7 ++ [kHead]) (v7 p ++ [.bytes (hd (rows p))]) = some (.bytes (tx p).t) := by rw [v7_form ⟨0,0,0,p,false⟩]; rfl
 have gm : ∀ B',(tp cs a' (c' : Nat) :: (R ++ .lst ks :: B'))[R.length + 1]? = some (.lst ks) := fun B' => get_mid (A := tp cs a' (c' : Nat) :: R)
 have sm : ∀ B' y,(tp cs a' (c' : Nat) :: (R ++ .lst ks :: B')).set (R.length + 1) y = tp cs a' (c' : Nat) :: (R ++ y :: B') := fun B' y => set_mid (A := tp cs a' (c' : Nat) :: R)
 have re : ∀ z (o : MO),(tp cs a' (c' : Nat) :: (R ++ z :: B)) ++ [o] = tp cs a' (c' : Nat) :: (R ++ z :: (B ++ [o])) := fun z o => by rw [List.cons_append,List.append_assoc,List.cons_append]
 have hok : bmOk ((tp cs a' (c' : Nat) :: (R ++ .lst ks :: B)) ++ [.dct (K7 ++ [kHead]) (v7 p ++ [.bytes (hd (rows p))])]) (.ref (R.length + 1)) .append = true := by
  rw [re]
  show (match (tp cs a' (c' : Nat) :: (R ++ .lst ks :: _))[R.length + 1]? with | some (.lst _) => true | _ => false) = true
  rw [gm]
 have hap : ∀ v,bmethV ((tp cs a' (c' : Nat) :: (R ++ .lst ks :: B)) ++ [.dct (K7 ++ [kHead]) (v7 p ++ [.bytes (hd (rows p))])]) (.ref (R.length + 1)) .append [v] = some (.none,(tp cs a' (c' : Nat) :: (R ++ .lst (ks ++ [v]) :: B)) ++ [.dct (K7 ++ [kHead]) (v7 p ++ [.bytes (hd (rows p))])]) := fun v => by
  have := p_append (v := v) (gm (B ++ [.dct (K7 ++ [kHead]) (v7 p ++ [.bytes (hd (rows p))])])) (by unfold LIM; lia)
  rw [sm,← re,← re] at this
  exact this
 have hn3 : R.length + 1 + 1 + B.length = (tp cs a' (c' : Nat) :: (R ++ .lst (ks ++ [.ref (R.length + 1 + 1 + B.length)]) :: B)).length := by rw [List.length_cons,List.length_append,List.length_cons]; lia
 have g1 := sub_end (ks := K7 ++ [kHead]) hn3 lkh
 have g2 := sub_end (ks := K7 ++ [kHead]) hn3 lkb
 have sepl : (sepB t).length ≤ 2 := by unfold sepB; split <;> decide
 have b1 : ∀ mh,binV false mh .Add (.bytes bd) (.bytes (sepB t)) = some (.bytes (bd ++ sepB t),mh) := fun mh => p_badd (by show _ ≤ 1048576; lia)
 have b2 : ∀ mh,binV false mh .Add (.bytes (bd ++ sepB t)) (.bytes [45,45]) = some (.bytes (bd ++ sepB t ++ [45,45]),mh) := fun mh => p_badd (by simp only [List.length_append]; show _ + 2 ≤ 1048576; lia)
 have b3 : ∀ mh,binV false mh .Add (.bytes (bd ++ sepB t ++ [45,45])) (.bytes X) = some (.bytes (bd ++ sepB t ++ [45,45] ++ X),mh) := fun mh => p_badd (by simp only [List.length_append,List.length_cons,List.length_nil]; show _ ≤ 1048576; lia)
 have b4 : ∀ mh,binV false mh .Add (.bytes (bd ++ sepB t ++ [45,45] ++ X)) (.bytes [13,10]) = some (.bytes (bd ++ sepB t ++ [45,45] ++ X ++ [13,10]),mh) := fun mh => p_badd (by simp only [List.length_append,List.length_cons,List.length_nil]; show _ ≤ 1048576; lia)
 have b5 : ∀ mh,binV false mh .Add (.bytes (bd ++ sepB t ++ [45,45] ++ X ++ [13,10])) (.bytes (hd (rows p))) = some (.bytes (bd ++ sepB t ++ [45,45] ++ X ++ [13,10] ++ hd (rows p)),mh) := fun mh => p_badd (by simp only [List.length_append,List.length_cons,List.length_nil]; show _ ≤ 1048576; lia)
 have b6 : ∀ mh,binV false mh .Add (.bytes (bd ++ sepB t ++ [45,45] ++ X ++ [13,10] ++ hd (rows p))) (.bytes (tx p).t) = some (.bytes (bd ++ kidB t X p),mh) := fun mh => by
  have : bd ++ kidB t X p = bd ++ sepB t ++ [45,45] ++ X ++ [13,10] ++ hd (rows p) ++ (tx p).t := by unfold kidB; simp only [List.append_assoc]
  rw [this]
  exact p_badd (by simp only [List.length_append,List.length_cons,List.length_nil]; show _ ≤ 1048576; lia)
 rw [← re]
 by_cases ht : t > 0
 ·have hs : sepB t = [13,10] := if_pos ht
  rw [hs] at b1 b2 b3 b4 b5 b6
  exact (xc (xa (eK (ec (el (by rfl)) (ec (eb (el (by rfl)) rfl (by exact rfl)) rfl)) (by exact hp)) (gn (by rfl) (by rfl))) (xc (xa (eb (e_bmeth rfl (by trivial) (ec (eu (el (by rfl)) rfl (by exact h1')) rfl) (by exact hj _)) rfl (by exact hba _)) (g_sub (el (by rfl)) rfl (by exact h2 _))) (xc (x_expr (e_bmeth (el (by rfl)) (by exact hok) (ec (el (by rfl)) rfl) (by exact hap _)) (by rfl)) (xc (xa (eb (eb (eb (eb (eb (eb (el (by rfl)) (e_iteT (tv rfl (em (el (by rfl)) rfl (by trivial)) (by rfl)) (by trivial) rfl) (by exact b1 _)) rfl (by exact b2 _)) (el (by rfl)) (by exact b3 _)) rfl (by exact b4 _)) (eu (el (by rfl)) rfl (by exact g1)) (by exact b5 _)) (eu (el (by rfl)) rfl (by exact g2)) (by exact b6 _)) (gn (by rfl) (by rfl))) rfl))))
 ·have hs : sepB t = [] := if_neg ht
  rw [hs] at b1 b2 b3 b4 b5 b6
  exact (xc (xa (eK (ec (el (by rfl)) (ec (eb (el (by rfl)) rfl (by exact rfl)) rfl)) (by exact hp)) (gn (by rfl) (by rfl))) (xc (xa (eb (e_bmeth rfl (by trivial) (ec (eu (el (by rfl)) rfl (by exact h1')) rfl) (by exact hj _)) rfl (by exact hba _)) (g_sub (el (by rfl)) rfl (by exact h2 _))) (xc (x_expr (e_bmeth (el (by rfl)) (by exact hok) (ec (el (by rfl)) rfl) (by exact hap _)) (by rfl)) (xc (xa (eb (eb (eb (eb (eb (eb (el (by rfl)) (e_iteF (tv rfl (em (el (by rfl)) rfl (by trivial)) (by rfl)) (by trivial) rfl) (by exact b1 _)) rfl (by exact b2 _)) (el (by rfl)) (by exact b3 _)) rfl (by exact b4 _)) (eu (el (by rfl)) rfl (by exact g1)) (by exact b5 _)) (eu (el (by rfl)) rfl (by exact g2)) (by exact b6 _)) (gn (by rfl) (by rfl))) rfl))))
end
theorem frz_lst' {mh : MH} {n av k i : Nat} {l l' : List MV} (hi : ¬ i < n) (ha : ¬ i = av) (h : mh[i]? = some (.lst l)) (hc : mapO (frz mh n av k) l = some l') : frz mh n av (k + 1) (.ref i) = some (.lst l') := by
 refine cf_k rfl ?_
 show (if i < n then _ else if i = av then none else match mh[i]? with
   | some (.lst l) => bo (mapO (frz mh n av k) l) fun l => some (MV.lst l)
   | some (.dct ks vs) => bo (mapO (frz mh n av k) vs) fun vs => some (.dct ks vs)
   | some (.ins c as vs) => bo (mapO (frz mh n av k) vs) fun vs => some (.ins c as vs)
   | none => none) = _
 rw [if_neg hi,if_neg ha,h]
 exact bo_k hc rfl
theorem fin_many {M : MH} {n m : Nat} {refs : List MV} {ds : MH} {fz : List MV} {r b w pr e : MV} (hn : n = M.length) (hm : m = n + 1 + ds.length) (hu : Und M) (hc : cL [r,b,w,pr,e] = true)
  (hf : mapO (frz (M ++ .lst refs :: (ds ++ [.dct K7 [r,b,w,pr,e,.ref n,.none]])) n m 63) refs = some fz) :
  finish true n (.ref m) (M ++ .lst refs :: (ds ++ [.dct K7 [r,b,w,pr,e,.ref n,.none]])) = some (.ref n,M ++ [.dct K7 [r,b,w,pr,e,.lst fz,.none]]) := by
 have ht : (M ++ MO.lst refs :: (ds ++ [.dct K7 [r,b,w,pr,e,.ref n,.none]])).take n = M := by rw [hn]; exact List.take_left
 have hget : (M ++ MO.lst refs :: (ds ++ [.dct K7 [r,b,w,pr,e,.ref n,.none]]))[m]? = some (.dct K7 [r,b,w,pr,e,.ref n,.none]) := by
  have : M ++ MO.lst refs :: (ds ++ [.dct K7 [r,b,w,pr,e,.ref n,.none]]) = (M ++ MO.lst refs :: ds) ++ [.dct K7 [r,b,w,pr,e,.ref n,.none]] := by rw [List.append_assoc,List.cons_append]
  rw [this,show m = (M ++ MO.lst refs :: ds).length by rw [List.length_append,List.length_cons]; lia]
  exact get_end
 have hg : (M ++ MO.lst refs :: (ds ++ [.dct K7 [r,b,w,pr,e,.ref n,.none]]))[n]? = some (.lst refs) := by rw [hn]; exact get_mid
 obtain ⟨h1,hc⟩ := Bool.and_eq_true_iff.mp hc
 obtain ⟨h2,hc⟩ := Bool.and_eq_true_iff.mp hc
 obtain ⟨h3,hc⟩ := Bool.and_eq_true_iff.mp hc
 obtain ⟨h4,hc⟩ := Bool.and_eq_true_iff.mp hc
 obtain ⟨h5,hc⟩ := Bool.and_eq_true_iff.mp hc
 show (if ((M ++ MO.lst refs :: (ds ++ [MO.dct K7 [r,b,w,pr,e,.ref n,.none]])).take n).all (underO n) = true then _ else _) = _
 refine if_k (by rw [ht,hn]; exact hu) ?_
 show bo (some m) (fun i => if n ≤ i then bo (dctAt (M ++ MO.lst refs :: (ds ++ [MO.dct K7 [r,b,w,pr,e,.ref n,.none]])) i) _ else none) = _
 have hnm : n ≤ m := by lia
 refine bo_k (a := m) rfl (if_k hnm (bo_k (a := (K7,[r,b,w,pr,e,.ref n,.none])) ?_ (bo_k (a := [r,b,w,pr,e,.lst fz,.none]) ?_ ?_)))
 ·unfold dctAt; rw [hget]
 ·exact bo_k (frz_closed h1) (bo_k (bo_k (frz_closed h2) (bo_k (bo_k (frz_closed h3) (bo_k (bo_k (frz_closed h4) (bo_k (bo_k (frz_closed h5) (bo_k (bo_k (frz_lst' (by lia) (by lia) hg hf) (bo_k rfl rfl)) rfl)) rfl)) rfl)) rfl)) rfl)
 ·rw [ht]
noncomputable def tailB (X : By) : Nat → By
 | 0 => []
 | 1 => [13,10] ++ (45 :: 45 :: X ++ [45,45])
 | _ => [13,10] ++ ((45 :: 45 :: X ++ [45,45,32]) ++ ([13,10] ++ [112,111,115,116]))
theorem kidsT_tail {X : By} {tl : Nat} {k : Tx} : (kidsT X tl k []).t = k.t ++ tailB X tl := by
 match tl with
 | 0 => exact (List.append_nil _).symm
 | 1 =>
  show lT (k.L ++ [(k.r,false)]) ++ (45 :: 45 :: X ++ [45,45]) = lT k.L ++ k.r ++ ([13,10] ++ (45 :: 45 :: X ++ [45,45]))
  rw [linesT_app]; show lT k.L ++ (k.r ++ [13,10] ++ []) ++ _ = _; rw [List.append_nil]; simp only [List.append_assoc]
 | m + 2 =>
  show lT (k.L ++ [(k.r,false),(45 :: 45 :: X ++ [45,45,32],false)]) ++ [112,111,115,116] = lT k.L ++ k.r ++ ([13,10] ++ ((45 :: 45 :: X ++ [45,45,32]) ++ ([13,10] ++ [112,111,115,116])))
  rw [linesT_app]; show lT k.L ++ (k.r ++ [13,10] ++ ((45 :: 45 :: X ++ [45,45,32]) ++ [13,10] ++ [])) ++ _ = _; rw [List.append_nil]; simp only [List.append_assoc]
theorem body_one {m : Mk} {k : Pc} : (tx (.one m k)).t = lT (preL m.pre) ++ kidB 0 (mkB m.k) k ++ tailB (mkB m.k) m.tl := by
 show (bodyTx _ _ _ _ _).t = _
 rw [bodyTx_t,kidsT_tail,hTx_t]
 unfold kidB
 rw [show sepB 0 = [] from rfl]
 simp only [List.append_assoc,List.nil_append,List.cons_append]
theorem body_two {m : Mk} {k j : Pc} : (tx (.two m k j)).t = lT (preL m.pre) ++ kidB 0 (mkB m.k) k ++ kidB 1 (mkB m.k) j ++ tailB (mkB m.k) m.tl := by
 show (bodyTx _ _ _ _ _).t = _
 rw [bodyTx_t,kidsT_t2,kidsT_tail,hTx_t,hTx_t]
 unfold kidB
 rw [show sepB 0 = [] from rfl,show sepB 1 = [13,10] from rfl]
 simp only [List.append_assoc,List.nil_append,List.cons_append]
theorem pre_len {n : Nat} : (lT (preL n)).length ≤ 5 := by
 match n with
 | 0 => exact Nat.zero_le _
 | _ + 1 => exact Nat.le_refl _
theorem tail_len {X : By} {n : Nat} (h : X.length = 3) : (tailB X n).length ≤ 22 := by
 match n with
 | 0 => exact Nat.zero_le _
 | 1 => show ([13,10] ++ (45 :: 45 :: X ++ [45,45])).length ≤ 22; simp only [List.length_append,List.length_cons,List.length_nil]; lia
 | _ + 2 => show ([13,10] ++ ((45 :: 45 :: X ++ [45,45,32]) ++ ([13,10] ++ [112,111,115,116]))).length ≤ 22; simp only [List.length_append,List.length_cons,List.length_nil]; lia
section
variable {cs : List Int} {R : MH} {N : Nat}
theorem mark_bytes {c : Nat} (h : c < 4) {mh : MH} : bcallV mh .bytes [.lst [.int (64 + ((c : Int) + 1))]] = some (.bytes [UInt8.ofNat (64 + (c + 1))]) := by
 have : c = 0 ∨ c = 1 ∨ c = 2 ∨ c = 3 := by lia
 rcases this with rfl | rfl | rfl | rfl <;> rfl
theorem sub_pick {v : Int} (h0 : 0 ≤ v) (h1 : v < 2) {mh : MH} : subV mh (.tup [.bytes [109,105,120,101,100],.bytes [97,108,116,101,114,110,97,116,105,118,101]]) (.int v) = some (.bytes (subB v.toNat)) := by
 have : v = 0 ∨ v = 1 := by lia
 rcases this with rfl | rfl <;> rfl
theorem pre_pick {v : Int} (h0 : 0 ≤ v) (h1 : v < 2) {mh : MH} : subV mh (.tup [.bytes [],.bytes [112,114,101,13,10]]) (.int v) = some (.bytes (lT (preL v.toNat))) := by
 have : v = 0 ∨ v = 1 := by lia
 rcases this with rfl | rfl <;> rfl
theorem tail_pick {v : Int} (h0 : 0 ≤ v) (h1 : v < 3) {k : Nat} {mh : MH} : subV mh (.tup [.bytes [],.bytes ([13,10,45,45] ++ mkB k ++ [45,45]),.bytes ([13,10,45,45] ++ mkB k ++ [45,45,32,13,10,112,111,115,116])]) (.int v) = some (.bytes (tailB (mkB k) v.toNat)) := by
 have : v = 0 ∨ v = 1 ∨ v = 2 := by lia
 rcases this with rfl | rfl | rfl <;> rfl
theorem row_multi {k s : Nat} (h : s < 2) : [67,111,110,116,101,110,116,45,84,121,112,101,58,32,109,117,108,116,105,112,97,114,116,47] ++ subB s ++ [59,13,10,9,98,111,117,110,100,97,114,121,61,34] ++ mkB k ++ [34,13,10] = rT (.multi k s) := by
 have : s = 0 ∨ s = 1 := by lia
 rcases this with rfl | rfl <;> rfl
theorem subB_len {s : Nat} : (subB s).length ≤ 11 := by unfold subB; split <;> decide
inductive MnE (cs : List Int) (R : MH) (N : Nat) (c' sv k : Nat) (a lev t : Int) (bd : By) (x : OV) (B : MH) (refs : List MV) : Prop where
 | mk (tl : Nat) (v : MV) (s : St) (h : execB text (mcall text (N + 1)) ([some (.ref 0),some (.int lev),some (.bytes (mkB k)),some (.bytes (subB sv)),some (.bytes bd),some (.ref (R.length + 1)),some (.int t),x,none],tp cs a (c' : Nat) :: (R ++ .lst refs :: B)) (f61.body.drop 4) = some (.ret v,s)) (hv : v = .ref (R.length + 1 + 1 + B.length)) (q : s.2 = (tp cs (a + 1) (c' : Nat) :: R) ++ .lst refs :: (B ++ [.dct K7 [rowsV [.multi k sv],.bytes (bd ++ tailB (mkB k) tl),.tup [.bytes [],.bytes (subB sv)],.lst [.bytes [98,111,117,110,100,97,114,121],.bytes (mkB k)],.bytes [55,98,105,116],.ref (R.length + 1),.none]]))
theorem many_end (hc : cs ≠ []) (hc2 : cs.length < 1000) {c' sv k : Nat} {a lev t : Int} {bd : By} {x : OV} {B : MH} {refs : List MV} (hs : sv < 2) (ha : 0 ≤ a ∧ a < 900) (hbd : bd.length < 500000) (hu : Und (tp cs a (c' : Nat) :: (R ++ .lst refs :: B))) : MnE cs R N c' sv k a lev t bd x B refs := by
 obtain ⟨v4,h40,h41,hd4⟩ := draw (n := N) hc hc2 (a := a) (c := (c' : Nat)) (k := 3) (R := R ++ .lst refs :: B) ⟨ha.1,by lia⟩ (by decide) hu
 have hd4 := c_draw hd4
 have htl := tail_len (X := mkB k) (n := v4.toNat) rfl
 have b1 : ∀ mh,binV false mh .Add (.bytes bd) (.bytes (tailB (mkB k) v4.toNat)) = some (.bytes (bd ++ tailB (mkB k) v4.toNat),mh) := fun mh => p_badd (by show _ ≤ 1048576; lia)
 have tp4 := fun mh => tail_pick (mh := mh) (k := k) h40 h41
 have hsl := subB_len (s := sv)
 have r1 : ∀ mh,binV false mh .Add (.bytes [67,111,110,116,101,110,116,45,84,121,112,101,58,32,109,117,108,116,105,112,97,114,116,47]) (.bytes (subB sv)) = some (.bytes ([67,111,110,116,101,110,116,45,84,121,112,101,58,32,109,117,108,116,105,112,97,114,116,47] ++ subB sv),mh) := fun mh => p_badd (by show 24 + _ ≤ 1048576; lia)
 have r2 : ∀ mh,binV false mh .Add (.bytes ([67,111,110,116,101,110,116,45,84,121,112,101,58,32,109,117,108,116,105,112,97,114,116,47] ++ subB sv)) (.bytes [59,13,10,9,98,111,117,110,100,97,114,121,61,34]) = some (.bytes ([67,111,110,116,101,110,116,45,84,121,112,101,58,32,109,117,108,116,105,112,97,114,116,47] ++ subB sv ++ [59,13,10,9,98,111,117,110,100,97,114,121,61,34]),mh) := fun mh => p_badd (by rw [List.length_append]; show 24 + _ + 14 ≤ 1048576; lia)
 have r3 : ∀ mh,binV false mh .Add (.bytes ([67,111,110,116,101,110,116,45,84,121,112,101,58,32,109,117,108,116,105,112,97,114,116,47] ++ subB sv ++ [59,13,10,9,98,111,117,110,100,97,114,121,61,34])) (.bytes (mkB k)) = some (.bytes ([67,111,110,116,101,110,116,45,84,121,112,101,58,32,109,117,108,116,105,112,97,114,116,47] ++ subB sv ++ [59,13,10,9,98,111,117,110,100,97,114,121,61,34] ++ mkB k),mh) := fun mh => p_badd (by rw [List.length_append,List.length_append]; show 24 + _ + 14 + 3 ≤ 1048576; lia)
 have r4 : ∀ mh,binV false mh .Add (.bytes ([67,111,110,116,101,110,116,45,84,121,112,101,58,32,109,117,108,116,105,112,97,114,116,47] ++ subB sv ++ [59,13,10,9,98,111,117,110,100,97,114,121,61,34] ++ mkB k)) (.bytes [34,13,10]) = some (.bytes (rT (.multi k sv)),mh) := fun mh => by
  rw [← row_multi hs]
  exact p_badd (by rw [List.length_append,List.length_append,List.length_append]; show 24 + _ + 14 + 3 + 3 ≤ 1048576; lia)
 have re : ∀ o : MO,(tp cs (a + 1) (c' : Nat) :: R) ++ .lst refs :: (B ++ [o]) = (tp cs (a + 1) (c' : Nat) :: (R ++ .lst refs :: B)) ++ [o] := fun o => by rw [List.cons_append,List.cons_append,List.append_assoc,List.cons_append]
 have hlen : (tp cs (a + 1) (c' : Nat) :: (R ++ .lst refs :: B)).length = R.length + 1 + 1 + B.length := by rw [List.length_cons,List.length_append,List.length_cons]; lia
 refine ⟨v4.toNat,.ref (tp cs (a + 1) (c' : Nat) :: (R ++ .lst refs :: B)).length,_,(xc (xa (eb (el (by rfl)) (eu (et (ec rfl (ec (eb (eb rfl (el (by rfl)) (by exact rfl)) rfl (by exact rfl)) (ec (eb (eb rfl (el (by rfl)) (by exact rfl)) rfl (by exact rfl)) rfl)))) (eK (ec (el (by rfl)) (ec rfl rfl)) (by exact hd4)) (by exact tp4 _)) (by exact b1 _)) (gn (by rfl) (by rfl))) (xc (xa (e_lst (ec (eb (eb (eb (eb rfl (el (by rfl)) (by exact r1 _)) rfl (by exact r2 _)) (el (by rfl)) (by exact r3 _)) rfl (by exact r4 _)) rfl)) (gn (by rfl) (by rfl))) (xl (xr (e_dctT (ec (el (by rfl)) (ec (el (by rfl)) (ec (et (ec rfl (ec (el (by rfl)) rfl))) (ec (e_lst (ec rfl (ec (el (by rfl)) rfl))) (ec rfl (ec (el (by rfl)) (ec rfl rfl)))))))))))),by rw [hlen],?_⟩
 rw [re]; rfl
end
end
section
theorem loop2 {store : MV → St → Option St} {body : St → Option (Fl × St)} {x y : MV} {s s1 s2 s3 s4 : St} (h1 : store x s = some s1) (h2 : body s1 = some (.next,s2)) (h3 : store y s2 = some s3) (h4 : body s3 = some (.next,s4)) : loopF store body [x,y] s = some (.next,s4) :=
 loopF_cons.trans (bo_k h1 (bd_k h2 (loopF_cons.trans (bo_k h3 (bd_k h4 rfl)))))
theorem get_mid1 {α : Type} {A B : List α} {x y : α} : (A ++ x :: y :: B)[A.length + 1]? = some y := by
 rw [List.getElem?_append_right (Nat.le_add_right _ 1),Nat.add_sub_cancel_left]; rfl
theorem get_mid2 {α : Type} {A B : List α} {x y z : α} : (A ++ x :: y :: z :: B)[A.length + 2]? = some z := by
 rw [List.getElem?_append_right (Nat.le_add_right _ _),Nat.add_sub_cancel_left]; rfl
theorem und_ext {o : MO} {R X : MH} (h : Und (o :: R)) (hx : X.all (underO (R.length + 1 + X.length)) = true) : Und (o :: (R ++ X)) := by
 unfold Und at *
 have e : (o :: (R ++ X)).length = R.length + 1 + X.length := by rw [List.length_cons,List.length_append]; lia
 rw [e]
 have e2 : o :: (R ++ X) = (o :: R) ++ X := rfl
 rw [e2,List.all_append]
 exact Bool.and_eq_true_iff.mpr ⟨List.all_eq_true.mpr fun x m => underO_mono (by rw [List.length_cons]; lia) (List.all_eq_true.mp h x m),hx⟩
theorem kid_under {n : Nat} {p : Pc} : underO n (.dct (K7 ++ [kHead]) (v7 p ++ [.bytes (hd (rows p))])) = true := closedL_under (closedL_app v7_closed rfl)
theorem kidB_len {t : Int} {X : By} {p : Pc} (h : X.length = 3) : (kidB t X p).length ≤ 9 + sz p := by
 have sepl : (sepB t).length ≤ 2 := by unfold sepB; split <;> decide
 unfold kidB sz; simp only [List.length_append,List.length_cons,List.length_nil]; lia
section
variable {cs : List Int} {R : MH} {N : Nat}
set_option maxHeartbeats 1000000 in
set_option tactic.hygienic true in
theorem many (hc : cs ≠ []) (hc2 : cs.length < 1000) {k lev : Nat} (hp : PieceOk cs (N + 1) k ((lev : Int) + 1)) {a : Int} {c : Nat} (ha : 0 ≤ a) (ha2 : a + 4 + 2 * D k < 700) (hc4 : c < 4) (hu : Und (tp cs a c :: R)) (hS : S k < 50000) :
  ∃ p a' c',(WF c p ∧ ht p ≤ k + 1 ∧ a ≤ a' ∧ a' ≤ a + 4 + 2 * D k ∧ c ≤ c' ∧ c' ≤ 4 ∧ sz p ≤ S (k + 1) ∧ (∀ a fl lev ms l,(wr p a fl lev ms l).length ≤ Wb (k + 1))) ∧
   mcall text (N + 2) 61 [.ref 0,.int lev] (tp cs a c :: R) = some (.ref (R.length + 1),(tp cs a' (c' : Nat) :: R) ++ [.dct K7 (v7 p)]) := by
 refine byP fun P kP => ?_
 have hD := D_pos (k := k)
 have cc : ((c + 1 : Nat) : Int) = (c : Int) + 1 := rfl
 obtain ⟨v1,h10,h11,hd1⟩ := draw (n := N) hc hc2 (a := a) (c := (c + 1 : Nat)) (k := 2) (R := R) ⟨ha,by lia⟩ (by decide) (hu.head tU)
 have hd1 := c_draw hd1
 obtain ⟨v2,h20,h21,hd2⟩ := draw (n := N) hc hc2 (a := a + 1) (c := (c + 1 : Nat)) (k := 2) (R := R) ⟨by lia,by lia⟩ (by decide) (hu.head tU)
 have hd2 := c_draw hd2
 have hu3 : Und (tp cs (a + 1 + 1) (c + 1 : Nat) :: (R ++ [.lst []])) := und_ext (hu.head tU) rfl
 obtain ⟨v3,h30,h31,hd3⟩ := draw (n := N) hc hc2 (a := a + 1 + 1) (c := (c + 1 : Nat)) (k := 2) (R := R ++ [.lst []]) ⟨by lia,by lia⟩ (by decide) hu3
 have hd3 := c_draw hd3
 have pl := pre_len (n := v2.toNat)
 have hX : (mkB (c + 1)).length = 3 := rfl
 have hs2 : v1.toNat < 2 := by lia
 obtain ⟨p1,a1,c1,ok1,it1⟩ := kid_iter (R := R) hp (X := mkB (c + 1)) (sb := subB v1.toNat) (bd := lT (preL v2.toNat)) (t := ((0 : Nat) : Int)) (x := none) (a := a + 1 + 1 + 1) (c := c + 1) (ks := []) (B := []) (by lia) (by lia) (by lia) hS hX (by lia) (by show 0 < 100; lia) (hu3.head tU)
 have q1 := ok1.a0
 have q2 := ok1.a1
 have q3 := ok1.c0
 have kl1 := kidB_len (t := ((0 : Nat) : Int)) (p := p1) hX
 have z1 := ok1.sz
 have hu5 : Und (tp cs a1 (c1 : Nat) :: (R ++ .lst ([] ++ [.ref (R.length + 1 + 1 + 0)]) :: ([] ++ [.dct (K7 ++ [kHead]) (v7 p1 ++ [.bytes (hd (rows p1))])]))) :=
  und_ext (X := [.lst ([] ++ [.ref (R.length + 1 + 1 + 0)]),.dct (K7 ++ [kHead]) (v7 p1 ++ [.bytes (hd (rows p1))])]) (hu.head tU) (by
   refine Bool.and_eq_true_iff.mpr ⟨Bool.and_eq_true_iff.mpr ⟨decide_eq_true (by show R.length + 1 + 1 + 0 < R.length + 1 + 2; lia),rfl⟩,Bool.and_eq_true_iff.mpr ⟨kid_under,rfl⟩⟩)
 have hv3 : v3 = 0 ∨ v3 = 1 := by lia
 rcases hv3 with rfl | rfl
 ·obtain ⟨tl,v,s,hr,hv,h2⟩ := many_end (N := N) (R := R) hc hc2 (k := c + 1) (sv := v1.toNat) (a := a1) (c' := c1) (lev := lev) (t := ((0 : Nat) : Int)) (bd := lT (preL v2.toNat) ++ kidB ((0 : Nat) : Int) (mkB (c + 1)) p1) (x := some (.ref (R.length + 1 + 1 + 0))) (refs := [] ++ [.ref (R.length + 1 + 1 + 0)]) (B := [] ++ [.dct (K7 ++ [kHead]) (v7 p1 ++ [.bytes (hd (rows p1))])]) hs2 ⟨by lia,by lia⟩ (by rw [List.length_append]; lia) hu5
  refine kP ⟨.one ⟨c + 1,v1.toNat,v2.toNat,tl⟩ p1,a1 + 1,c1,⟨⟨⟨Nat.lt_succ_self _,by show c + 1 ≤ 4; lia,hs2⟩,ok1.wf⟩,Nat.succ_le_succ ok1.ht,by lia,by lia,by lia,ok1.c1,?_,fun a2 fl' lev' ms l => ?_⟩,?_⟩
  ·have := hd_len (rows_ok (p := .one ⟨c + 1,v1.toNat,v2.toNat,tl⟩ p1) (lo := c) ⟨⟨Nat.lt_succ_self _,by show c + 1 ≤ 4; lia,hs2⟩,ok1.wf⟩)
   have := rows_len (p := .one ⟨c + 1,v1.toNat,v2.toNat,tl⟩ p1)
   have := tail_len (n := tl) hX
   have kl := kidB_len (t := 0) (p := p1) hX
   show (hd _).length + (tx (.one ⟨c + 1,v1.toNat,v2.toNat,tl⟩ p1)).t.length ≤ 2 * S k + 600
   rw [body_one,List.length_append,List.length_append]
   show (hd _).length + ((lT (preL v2.toNat)).length + (kidB 0 (mkB (c + 1)) p1).length + (tailB (mkB (c + 1)) tl).length) ≤ _
   lia
  ·show (List.cons _ (List.map _ _)).length ≤ 2 * Wb k + 2
   rw [List.length_cons,List.length_map]; exact Nat.le_trans (Nat.succ_le_succ (ok1.w _ _ _ _ _)) (by lia)
  ·have hv7 : v7 (.one ⟨c + 1,v1.toNat,v2.toNat,tl⟩ p1) = [rowsV [.multi (c + 1) v1.toNat],.bytes (lT (preL v2.toNat) ++ kidB 0 (mkB (c + 1)) p1 ++ tailB (mkB (c + 1)) tl),.tup [.bytes [],.bytes (subB v1.toNat)],.lst [.bytes [98,111,117,110,100,97,114,121],.bytes (mkB (c + 1))],.bytes [55,98,105,116],.lst [.dct (K7 ++ [kHead]) (v7 p1 ++ [.bytes (hd (rows p1))])],.none] := by
    rw [← body_one (m := ⟨c + 1,v1.toNat,v2.toNat,tl⟩)]; rfl
   rw [hv7]
   subst hv
   exact mc (r := f61) rfl rfl (xc (xa (eb (eu (el (by rfl)) rfl (by exact rfl)) rfl (by exact rfl)) (g_sub (el (by rfl)) rfl (by exact rfl))) (xc (xa (et (ec (eb rfl (e_bcall (ec (e_lst (ec (eb rfl (eu (el (by rfl)) rfl (by exact rfl)) (by exact rfl)) rfl)) rfl) (by exact mark_bytes hc4)) (by exact rfl)) (ec (eu (et (ec rfl (ec rfl rfl))) (eK (ec (el (by rfl)) (ec rfl rfl)) (by exact hd1)) (by exact sub_pick h10 h11)) rfl))) (g_tup (gc (gn (by rfl) (by rfl)) (gc (gn (by rfl) (by rfl)) gs_nil)))) (xc (xa (et (ec (eu (et (ec rfl (ec rfl rfl))) (eK (ec (el (by rfl)) (ec rfl rfl)) (by exact hd2)) (by exact pre_pick h20 h21)) (ec (e_lstT rfl) rfl))) (g_tup (gc (gn (by rfl) (by rfl)) (gc (gn (by rfl) (by rfl)) gs_nil)))) (xc (x_forR (eb rfl (eK (ec (el (by rfl)) (ec rfl rfl)) (by exact hd3)) (by exact rfl)) (by exact ⟨by decide,by decide⟩) (by exact loopF_cons.trans (bo_k rfl (bd_k it1 rfl)))) (by exact hr))))) (by
    rw [h2]
    refine fin_many (M := tp cs (a1 + 1) (c1 : Nat) :: R) (ds := [.dct (K7 ++ [kHead]) (v7 p1 ++ [.bytes (hd (rows p1))])]) rfl rfl (hu.head tU) ?c1 ?c2
    case c1 => rfl
    refine bo_k (frz_dct (k := 61) (by show ¬ R.length + 1 + 1 + 0 < R.length + 1; lia) (by show ¬ R.length + 1 + 1 + 0 = R.length + 1 + 1 + 1; lia) ?_ (closedL_app v7_closed rfl)) (bo_k rfl rfl)
    exact get_mid1 (A := tp cs (a1 + 1) (c1 : Nat) :: R))
 ·obtain ⟨p2,a3,c3,ok2,it2⟩ := kid_iter (R := R) hp (X := mkB (c + 1)) (sb := subB v1.toNat) (bd := lT (preL v2.toNat) ++ kidB ((0 : Nat) : Int) (mkB (c + 1)) p1) (t := ((1 : Nat) : Int)) (x := some (.ref (R.length + 1 + 1 + 0))) (a := a1) (c := c1) (ks := [] ++ [.ref (R.length + 1 + 1 + 0)]) (B := [] ++ [.dct (K7 ++ [kHead]) (v7 p1 ++ [.bytes (hd (rows p1))])]) (by lia) (by lia) ok1.c1 hS hX (by rw [List.length_append]; lia) (by show 1 < 100; lia) hu5
  have r1 := ok2.a0
  have r2 := ok2.a1
  have r3 := ok2.c0
  have kl2 := kidB_len (t := ((1 : Nat) : Int)) (p := p2) hX
  have z2 := ok2.sz
  have hu6 : Und (tp cs a3 (c3 : Nat) :: (R ++ .lst ([] ++ [.ref (R.length + 1 + 1 + 0)] ++ [.ref (R.length + 1 + 1 + 1)]) :: ([] ++ [.dct (K7 ++ [kHead]) (v7 p1 ++ [.bytes (hd (rows p1))])] ++ [.dct (K7 ++ [kHead]) (v7 p2 ++ [.bytes (hd (rows p2))])]))) :=
   und_ext (X := [.lst ([] ++ [.ref (R.length + 1 + 1 + 0)] ++ [.ref (R.length + 1 + 1 + 1)]),.dct (K7 ++ [kHead]) (v7 p1 ++ [.bytes (hd (rows p1))]),.dct (K7 ++ [kHead]) (v7 p2 ++ [.bytes (hd (rows p2))])]) (hu.head tU) (by
    refine Bool.and_eq_true_iff.mpr ⟨Bool.and_eq_true_iff.mpr ⟨decide_eq_true (by show R.length + 1 + 1 + 0 < R.length + 1 + 3; lia),Bool.and_eq_true_iff.mpr ⟨decide_eq_true (by show R.length + 1 + 1 + 1 < R.length + 1 + 3; lia),rfl⟩⟩,Bool.and_eq_true_iff.mpr ⟨kid_under,Bool.and_eq_true_iff.mpr ⟨kid_under,rfl⟩⟩⟩)
  obtain ⟨tl,v,s,hr,hv,h2⟩ := many_end (N := N) (R := R) hc hc2 (k := c + 1) (sv := v1.toNat) (a := a3) (c' := c3) (lev := lev) (t := ((1 : Nat) : Int)) (bd := lT (preL v2.toNat) ++ kidB ((0 : Nat) : Int) (mkB (c + 1)) p1 ++ kidB ((1 : Nat) : Int) (mkB (c + 1)) p2) (x := some (.ref (R.length + 1 + 1 + 1))) (refs := [] ++ [.ref (R.length + 1 + 1 + 0)] ++ [.ref (R.length + 1 + 1 + 1)]) (B := [] ++ [.dct (K7 ++ [kHead]) (v7 p1 ++ [.bytes (hd (rows p1))])] ++ [.dct (K7 ++ [kHead]) (v7 p2 ++ [.bytes (hd (rows p2))])]) hs2 ⟨by lia,by lia⟩ (by rw [List.length_append,List.length_append]; lia) hu6
  have wf1 := ok1.wf
  have wf2 : WF (c + 1) p2 := ok2.wf.mono q3
  have hm : Mk.Ok c ⟨c + 1,v1.toNat,v2.toNat,tl⟩ := ⟨Nat.lt_succ_self _,by show c + 1 ≤ 4; lia,hs2⟩
  refine kP ⟨.two ⟨c + 1,v1.toNat,v2.toNat,tl⟩ p1 p2,a3 + 1,c3,⟨⟨hm,wf1,wf2⟩,Nat.succ_le_succ (Nat.max_le.mpr ⟨ok1.ht,ok2.ht⟩),by lia,by lia,by lia,ok2.c1,?_,fun a2 fl' lev' ms l => ?_⟩,?_⟩
  ·have := hd_len (rows_ok (p := .two ⟨c + 1,v1.toNat,v2.toNat,tl⟩ p1 p2) (lo := c) ⟨hm,wf1,wf2⟩)
   have := rows_len (p := .two ⟨c + 1,v1.toNat,v2.toNat,tl⟩ p1 p2)
   have := tail_len (n := tl) hX
   have kl := kidB_len (t := 0) (p := p1) hX
   have kk := kidB_len (t := 1) (p := p2) hX
   show (hd _).length + (tx (.two ⟨c + 1,v1.toNat,v2.toNat,tl⟩ p1 p2)).t.length ≤ 2 * S k + 600
   rw [body_two,List.length_append,List.length_append,List.length_append]
   show (hd _).length + ((lT (preL v2.toNat)).length + (kidB 0 (mkB (c + 1)) p1).length + (kidB 1 (mkB (c + 1)) p2).length + (tailB (mkB (c + 1)) tl).length) ≤ _
   lia
  ·show (List.cons _ (List.map _ _) ++ List.cons _ (List.map _ _)).length ≤ 2 * Wb k + 2
   rw [List.length_append,List.length_cons,List.length_map,List.length_cons,List.length_map]
   exact Nat.le_trans (Nat.add_le_add (Nat.succ_le_succ (ok1.w _ _ _ _ _)) (Nat.succ_le_succ (ok2.w _ _ _ _ _))) (by lia)
  ·have hv7 : v7 (.two ⟨c + 1,v1.toNat,v2.toNat,tl⟩ p1 p2) = [rowsV [.multi (c + 1) v1.toNat],.bytes (lT (preL v2.toNat) ++ kidB 0 (mkB (c + 1)) p1 ++ kidB 1 (mkB (c + 1)) p2 ++ tailB (mkB (c + 1)) tl),.tup [.bytes [],.bytes (subB v1.toNat)],.lst [.bytes [98,111,117,110,100,97,114,121],.bytes (mkB (c + 1))],.bytes [55,98,105,116],.lst [.dct (K7 ++ [kHead]) (v7 p1 ++ [.bytes (hd (rows p1))]),.dct (K7 ++ [kHead]) (v7 p2 ++ [.bytes (hd (rows p2))])],.none] := by
    rw [← body_two (m := ⟨c + 1,v1.toNat,v2.toNat,tl⟩)]; rfl
   rw [hv7]
   subst hv
   exact mc (r := f61) rfl rfl (xc (xa (eb (eu (el (by rfl)) rfl (by exact rfl)) rfl (by exact rfl)) (g_sub (el (by rfl)) rfl (by exact rfl))) (xc (xa (et (ec (eb rfl (e_bcall (ec (e_lst (ec (eb rfl (eu (el (by rfl)) rfl (by exact rfl)) (by exact rfl)) rfl)) rfl) (by exact mark_bytes hc4)) (by exact rfl)) (ec (eu (et (ec rfl (ec rfl rfl))) (eK (ec (el (by rfl)) (ec rfl rfl)) (by exact hd1)) (by exact sub_pick h10 h11)) rfl))) (g_tup (gc (gn (by rfl) (by rfl)) (gc (gn (by rfl) (by rfl)) gs_nil)))) (xc (xa (et (ec (eu (et (ec rfl (ec rfl rfl))) (eK (ec (el (by rfl)) (ec rfl rfl)) (by exact hd2)) (by exact pre_pick h20 h21)) (ec (e_lstT rfl) rfl))) (g_tup (gc (gn (by rfl) (by rfl)) (gc (gn (by rfl) (by rfl)) gs_nil)))) (xc (x_forR (eb rfl (eK (ec (el (by rfl)) (ec rfl rfl)) (by exact hd3)) (by exact rfl)) (by exact ⟨by decide,by decide⟩) (by exact loop2 (x := .int ((0 : Nat) : Int)) (y := .int ((1 : Nat) : Int)) rfl it1 rfl it2)) (by exact hr))))) (by
    rw [h2]
    refine fin_many (M := tp cs (a3 + 1) (c3 : Nat) :: R) (ds := [.dct (K7 ++ [kHead]) (v7 p1 ++ [.bytes (hd (rows p1))]),.dct (K7 ++ [kHead]) (v7 p2 ++ [.bytes (hd (rows p2))])]) rfl rfl (hu.head tU) ?d1 ?d2
    case d1 => rfl
    have g1 := frz_dct (n := R.length + 1) (av := R.length + 1 + 1 + 2) (k := 61) (by show ¬ R.length + 1 + 1 + 0 < R.length + 1; lia) (by show ¬ R.length + 1 + 1 + 0 = R.length + 1 + 1 + 2; lia) (get_mid1 (A := tp cs (a3 + 1) (c3 : Nat) :: R) (x := .lst ([] ++ [.ref (R.length + 1 + 1 + 0)] ++ [.ref (R.length + 1 + 1 + 1)])) (y := .dct (K7 ++ [kHead]) (v7 p1 ++ [.bytes (hd (rows p1))])) (B := .dct (K7 ++ [kHead]) (v7 p2 ++ [.bytes (hd (rows p2))]) :: [.dct K7 [rowsV [.multi (c + 1) v1.toNat],.bytes (lT (preL v2.toNat) ++ kidB ((0 : Nat) : Int) (mkB (c + 1)) p1 ++ kidB ((1 : Nat) : Int) (mkB (c + 1)) p2 ++ tailB (mkB (c + 1)) tl),.tup [.bytes [],.bytes (subB v1.toNat)],.lst [.bytes [98,111,117,110,100,97,114,121],.bytes (mkB (c + 1))],.bytes [55,98,105,116],.ref (R.length + 1),.none]])) (closedL_app v7_closed rfl)
    have g2 := frz_dct (n := R.length + 1) (av := R.length + 1 + 1 + 2) (k := 61) (by show ¬ R.length + 1 + 1 + 1 < R.length + 1; lia) (by show ¬ R.length + 1 + 1 + 1 = R.length + 1 + 1 + 2; lia) (get_mid2 (A := tp cs (a3 + 1) (c3 : Nat) :: R) (x := .lst ([] ++ [.ref (R.length + 1 + 1 + 0)] ++ [.ref (R.length + 1 + 1 + 1)])) (y := .dct (K7 ++ [kHead]) (v7 p1 ++ [.bytes (hd (rows p1))])) (z := .dct (K7 ++ [kHead]) (v7 p2 ++ [.bytes (hd (rows p2))])) (B := [.dct K7 [rowsV [.multi (c + 1) v1.toNat],.bytes (lT (preL v2.toNat) ++ kidB ((0 : Nat) : Int) (mkB (c + 1)) p1 ++ kidB ((1 : Nat) : Int) (mkB (c + 1)) p2 ++ tailB (mkB (c + 1)) tl),.tup [.bytes [],.bytes (subB v1.toNat)],.lst [.bytes [98,111,117,110,100,97,114,121],.bytes (mkB (c + 1))],.bytes [55,98,105,116],.ref (R.length + 1),.none]])) (closedL_app v7_closed rfl)
    exact bo_k g1 (bo_k (bo_k g2 (bo_k rfl rfl)) rfl))
end
end
end Mn
end
noncomputable section
namespace Mn
set_option maxRecDepth 10000
local macro_rules | `(tactic| trivial) => `(tactic| first
 | with_reducible assumption | rfl
 | exact decide_eq_true (by assumption)
 | exact decide_eq_false (by assumption))
section
theorem leafTx_len : ∀ b,(leafTx b).t.length ≤ 20
 | 0 => by decide
 | 1 => by decide
 | 2 => by decide
 | 3 => by decide
 | 4 => by decide
 | 5 => by decide
 | 6 => by decide
 | _ + 7 => by show 10 ≤ 20; lia
theorem S_pos : ∀ {k : Nat},300 ≤ S k
 | 0 => Nat.le_refl _
 | k + 1 => by have := S_pos (k := k); show 300 ≤ 2 * S k + 600; lia
theorem Wb_pos : ∀ {k : Nat},1 ≤ Wb k
 | 0 => Nat.le_refl _
 | k + 1 => by have := Wb_pos (k := k); show 1 ≤ 2 * Wb k + 2; lia
theorem S_le : ∀ {k : Nat},k ≤ 3 → S k < 50000
 | 0,_ => by decide
 | 1,_ => by decide
 | 2,_ => by decide
 | 3,_ => by decide
 | _ + 4,h => by lia
section
variable {cs : List Int} {R : MH} {N : Nat}
theorem leaf_pok {k c : Nat} {a a' : Int} {w e b : Nat} (he : e < 3) (hc : c ≤ 4) (h0 : a ≤ a') (h1 : a' ≤ a + D k) : Pok k c a a' c (.leaf w e b) := by
 refine ⟨he,Nat.zero_le _,h0,h1,Nat.le_refl _,hc,?_,fun a fl lev ms l => ?_⟩
 ·have := hd_len (rows_ok (p := .leaf w e b) (lo := c) he)
  have := rows_len (p := .leaf w e b)
  have := leafTx_len b
  have := S_pos (k := k)
  show (hd _).length + (leafTx b).t.length ≤ _
  lia
 ·induction l using Bool.casesOn with
  | true => exact Wb_pos
  | false => exact Nat.zero_le _
theorem piece_zero (hc : cs ≠ []) (hc2 : cs.length < 1000) : PieceOk cs (N + 3) 0 ((4 : Nat) : Int) := by
 intro R a c ha ha2 hcc hu
 have hD := D_pos (k := 0)
 obtain ⟨w,e,b,he,hb,hl⟩ := leaf (n := N) (R := R) hc hc2 (a := a) (c := c) ⟨ha,by lia⟩ hu
 have hl := c_ref (vs := [.ref 0]) rfl hl
 refine ⟨.leaf w e b,a + 3,c,leaf_pok he hcc (by lia) (by lia),?_⟩
 exact mc (r := f62) rfl rfl (xc (xa (e_iteF (t_and (all_f (tv rfl (em (el (by rfl)) rfl (by trivial)) (by rfl)) (by trivial))) (by trivial) rfl) (gn (by rfl) (by rfl))) (xc (x_ifF (t_or (any_f (tv rfl (em (el (by rfl)) rfl (by trivial)) (by rfl)) (by trivial) (any_f (tv rfl (em (el (by rfl)) rfl (by trivial)) (by rfl)) (by trivial) rfl))) (by trivial) rfl) (xl (xr (e_iteF (tv rfl (em (el (by rfl)) rfl (by trivial)) (by rfl)) (by trivial) (eK (ec (el (by rfl)) rfl) (by exact hl))))))) (by exact fin_dct (mh0 := tp cs (a + 3) (c : Nat) :: R) rfl rfl (hu.head tU) v7_closed)
theorem piece_ok (hc : cs ≠ []) (hc2 : cs.length < 1000) : ∀ (k : Nat) {lev N : Nat},k + lev = 4 → 3 + 3 * k ≤ N → PieceOk cs N k (lev : Int)
 | 0,lev,N,hl,hN => by
  obtain ⟨n,rfl⟩ : ∃ n,N = n + 3 := ⟨N - 3,by lia⟩
  obtain rfl : lev = 4 := by lia
  exact piece_zero hc hc2
 | k + 1,lev,N,hl,hN => by
  obtain ⟨n,rfl⟩ : ∃ n,N = n + 4 := ⟨N - 4,by lia⟩
  have ih1 := piece_ok hc hc2 k (lev := lev + 1) (N := n + 1) (by lia) (by lia)
  have ih2 := piece_ok hc hc2 k (lev := lev + 1) (N := n + 2) (by lia) (by lia)
  have hS := S_le (k := k) (by lia)
  have hD := D_pos (k := k)
  intro R a c ha ha2 hcc hu
  have hDk : D (k + 1) = 2 * D k + 5 := rfl
  rw [hDk] at ha2
  have hlt : (lev : Int) < 4 := by lia
  by_cases c4 : (c : Int) < 4
  ·obtain ⟨v,hv0,hv1,hd⟩ := draw (n := n + 2) hc hc2 (a := a) (c := c) (k := 5) (R := R) ⟨ha,by lia⟩ (by decide) hu
   have hd := c_draw hd
   have hu1 : Und (tp cs (a + 1) (c : Nat) :: R) := hu.head tU
   have hv : v = 0 ∨ v = 1 ∨ v = 2 ∨ v = 3 ∨ v = 4 := by lia
   obtain ⟨w,e,b,he,hb,hl⟩ := leaf (n := n + 1) (R := R) hc hc2 (a := a + 1) (c := c) ⟨by lia,by lia⟩ hu1
   have hl := c_ref (vs := [.ref 0]) rfl hl
   have okl : Pok (k + 1) c a (a + 1 + 3) c (.leaf w e b) := leaf_pok he hcc (by lia) (by rw [hDk]; lia)
   obtain ⟨p,a',c',⟨p1,p2,p3,p4,p5,p6,p7,p8⟩,hm⟩ := many (R := R) (N := n + 1) hc hc2 (k := k) (lev := lev) ih2 (a := a + 1) (c := c) (by lia) (by lia) (by lia) hu1 hS
   have hm := c_ref (vs := [.ref 0,.int lev]) rfl hm
   have okm : Pok (k + 1) c a a' c' p := ⟨p1,p2,by lia,by rw [hDk]; lia,p5,p6,p7,p8⟩
   obtain ⟨q,a2,c2,⟨q1,q2,q3,q4,q5,q6,q7,q8⟩,hle⟩ := letter (R := R) (N := n) hc hc2 (k := k) (lev := lev) ih1 (by lia) (a := a + 1) (c := c) (by lia) (by lia) hcc hu1 hS
   have hle := c_ref (vs := [.ref 0,.int lev]) rfl hle
   have okq : Pok (k + 1) c a a2 c2 q := ⟨q1,q2,by lia,by rw [hDk]; lia,q5,q6,q7,q8⟩
   rcases hv with rfl | rfl | rfl | rfl | rfl
   ·refine ⟨_,_,_,okl,?_⟩
    exact mc (r := f62) rfl rfl (xc (xa (e_iteT (t_and (all_t (tv rfl (em (el (by rfl)) rfl (by trivial)) (by rfl)) (by trivial) (all_t (tv rfl (em (eu (el (by rfl)) rfl (by trivial)) rfl (by trivial)) (by rfl)) (by trivial) rfl))) (by trivial) (eK (ec (el (by rfl)) (ec rfl rfl)) (by exact hd))) (gn (by rfl) (by rfl))) (xc (x_ifF (t_or (any_f (tv rfl (em (el (by rfl)) rfl (by trivial)) (by rfl)) (by trivial) (any_f (tv rfl (em (el (by rfl)) rfl (by trivial)) (by rfl)) (by trivial) rfl))) (by trivial) rfl) (xl (xr (e_iteF (tv rfl (em (el (by rfl)) rfl (by trivial)) (by rfl)) (by trivial) (eK (ec (el (by rfl)) rfl) (by exact hl))))))) (by exact fin_dct (mh0 := tp cs (a + 1 + 3) (c : Nat) :: R) rfl rfl (hu.head tU) v7_closed)
   ·refine ⟨_,_,_,okl,?_⟩
    exact mc (r := f62) rfl rfl (xc (xa (e_iteT (t_and (all_t (tv rfl (em (el (by rfl)) rfl (by trivial)) (by rfl)) (by trivial) (all_t (tv rfl (em (eu (el (by rfl)) rfl (by trivial)) rfl (by trivial)) (by rfl)) (by trivial) rfl))) (by trivial) (eK (ec (el (by rfl)) (ec rfl rfl)) (by exact hd))) (gn (by rfl) (by rfl))) (xc (x_ifF (t_or (any_f (tv rfl (em (el (by rfl)) rfl (by trivial)) (by rfl)) (by trivial) (any_f (tv rfl (em (el (by rfl)) rfl (by trivial)) (by rfl)) (by trivial) rfl))) (by trivial) rfl) (xl (xr (e_iteF (tv rfl (em (el (by rfl)) rfl (by trivial)) (by rfl)) (by trivial) (eK (ec (el (by rfl)) rfl) (by exact hl))))))) (by exact fin_dct (mh0 := tp cs (a + 1 + 3) (c : Nat) :: R) rfl rfl (hu.head tU) v7_closed)
   ·refine ⟨_,_,_,okm,?_⟩
    exact mc (r := f62) rfl rfl (xc (xa (e_iteT (t_and (all_t (tv rfl (em (el (by rfl)) rfl (by trivial)) (by rfl)) (by trivial) (all_t (tv rfl (em (eu (el (by rfl)) rfl (by trivial)) rfl (by trivial)) (by rfl)) (by trivial) rfl))) (by trivial) (eK (ec (el (by rfl)) (ec rfl rfl)) (by exact hd))) (gn (by rfl) (by rfl))) (xl (x_ifT (t_or (any_t (tv rfl (em (el (by rfl)) rfl (by trivial)) (by rfl)) (by trivial))) (by trivial) (xl (xr (eK (ec (el (by rfl)) (ec (el (by rfl)) rfl)) (by exact hm))))))) (by exact fin_dct (mh0 := tp cs a' (c' : Nat) :: R) rfl rfl (hu.head tU) v7_closed)
   ·refine ⟨_,_,_,okm,?_⟩
    exact mc (r := f62) rfl rfl (xc (xa (e_iteT (t_and (all_t (tv rfl (em (el (by rfl)) rfl (by trivial)) (by rfl)) (by trivial) (all_t (tv rfl (em (eu (el (by rfl)) rfl (by trivial)) rfl (by trivial)) (by rfl)) (by trivial) rfl))) (by trivial) (eK (ec (el (by rfl)) (ec rfl rfl)) (by exact hd))) (gn (by rfl) (by rfl))) (xl (x_ifT (t_or (any_f (tv rfl (em (el (by rfl)) rfl (by trivial)) (by rfl)) (by trivial) (any_t (tv rfl (em (el (by rfl)) rfl (by trivial)) (by rfl)) (by trivial)))) (by trivial) (xl (xr (eK (ec (el (by rfl)) (ec (el (by rfl)) rfl)) (by exact hm))))))) (by exact fin_dct (mh0 := tp cs a' (c' : Nat) :: R) rfl rfl (hu.head tU) v7_closed)
   ·refine ⟨_,_,_,okq,?_⟩
    exact mc (r := f62) rfl rfl (xc (xa (e_iteT (t_and (all_t (tv rfl (em (el (by rfl)) rfl (by trivial)) (by rfl)) (by trivial) (all_t (tv rfl (em (eu (el (by rfl)) rfl (by trivial)) rfl (by trivial)) (by rfl)) (by trivial) rfl))) (by trivial) (eK (ec (el (by rfl)) (ec rfl rfl)) (by exact hd))) (gn (by rfl) (by rfl))) (xc (x_ifF (t_or (any_f (tv rfl (em (el (by rfl)) rfl (by trivial)) (by rfl)) (by trivial) (any_f (tv rfl (em (el (by rfl)) rfl (by trivial)) (by rfl)) (by trivial) rfl))) (by trivial) rfl) (xl (xr (e_iteT (tv rfl (em (el (by rfl)) rfl (by trivial)) (by rfl)) (by trivial) (eK (ec (el (by rfl)) (ec (el (by rfl)) rfl)) (by exact hle))))))) (by exact fin_dct (mh0 := tp cs a2 (c2 : Nat) :: R) rfl rfl (hu.head tU) v7_closed)
  ·obtain ⟨w,e,b,he,hb,hl⟩ := leaf (n := n + 1) (R := R) hc hc2 (a := a) (c := c) ⟨ha,by lia⟩ hu
   have hl := c_ref (vs := [.ref 0]) rfl hl
   refine ⟨.leaf w e b,a + 3,c,leaf_pok he hcc (by lia) (by rw [hDk]; lia),?_⟩
   exact mc (r := f62) rfl rfl (xc (xa (e_iteF (t_and (all_t (tv rfl (em (el (by rfl)) rfl (by trivial)) (by rfl)) (by trivial) (all_f (tv rfl (em (eu (el (by rfl)) rfl (by trivial)) rfl (by trivial)) (by rfl)) (by trivial)))) (by trivial) rfl) (gn (by rfl) (by rfl))) (xc (x_ifF (t_or (any_f (tv rfl (em (el (by rfl)) rfl (by trivial)) (by rfl)) (by trivial) (any_f (tv rfl (em (el (by rfl)) rfl (by trivial)) (by rfl)) (by trivial) rfl))) (by trivial) rfl) (xl (xr (e_iteF (tv rfl (em (el (by rfl)) rfl (by trivial)) (by rfl)) (by trivial) (eK (ec (el (by rfl)) rfl) (by exact hl))))))) (by exact fin_dct (mh0 := tp cs (a + 3) (c : Nat) :: R) rfl rfl (hu.head tU) v7_closed)
end
end
end Mn
end
noncomputable section
namespace Mn
set_option maxRecDepth 10000
local macro_rules | `(tactic| trivial) => `(tactic| first
 | with_reducible assumption | rfl
 | exact decide_eq_true (by assumption)
 | exact decide_eq_false (by assumption)
 | exact of_decide_eq_true rfl)
section
structure Rq where
 r : List Int
 w : List Nat
 nm : List MV
 o : Option By
noncomputable def rqV (q : Rq) : MV := .tup [.tup (q.r.map .int),.str q.w,.tup q.nm,dV q.o]
noncomputable def dueX (x : Lc) (r : List Int) : List Rq := ⟨r,[],[],some (tx x.p).t⟩ :: ⟨r,wM,[],some x.hd⟩ :: (match innerX x with
 | none => [⟨r,wH,[],none⟩,⟨r,wT,[],none⟩,⟨r,wF,[],none⟩,⟨r,wN,[],none⟩]
 | some q => [⟨r,wH,[],some q.hd⟩,⟨r,wT,[],some (tx q.p).t⟩,⟨r,wF,[.str nFrom],some (fromsP q)⟩,⟨r,wN,[.str [120],.str nfrom],some (othersP q)⟩])
theorem dueX_len {x : Lc} {r : List Int} : (dueX x r).length = 6 := by
 unfold dueX
 cases innerX x <;> rfl
noncomputable def fF (r : RK) : Bool := !([nfrom].contains (wd r) == false)
noncomputable def fO (r : RK) : Bool := !([[120],nfrom].contains (wd r) == true)
theorem rows_wd {p : Pc} : ∀ r ∈ rows p,wd r = wct ∨ wd r = wcte := by
 have one : ∀ {a r : RK},wd a = wct → r ∈ [a] → wd r = wct ∨ wd r = wcte := fun {a r} h m => by
  cases m with
  | head => exact .inl h
  | tail _ m => exact nM m
 have two : ∀ {a r : RK},wd a = wcte → r ∈ [a] → wd r = wct ∨ wd r = wcte := fun {a r} h m => by
  cases m with
  | head => exact .inr h
  | tail _ m => exact nM m
 match p with
 | .leaf w e b =>
  intro r m
  have m : r ∈ leafRows w e := m
  rcases List.mem_append.mp m with m | m
  ·match w,m with
   | 0,m => exact nM m
   | 1,m => exact one rfl m
   | 2,m => exact one rfl m
   | _ + 3,m => exact nM m
  ·match e,m with
   | 0,m => exact nM m
   | _ + 1,m => exact two rfl m
 | .letter true .. => exact fun r m => (List.mem_append.mp (show r ∈ [RK.msg] ++ [RK.b64] from m)).elim (one rfl) (two rfl)
 | .letter false .. => exact fun r m => one (a := .msg) rfl m
 | .one m _ => exact fun r q => one (a := .multi m.k m.s) rfl q
 | .two m _ _ => exact fun r q => one (a := .multi m.k m.s) rfl q
theorem rows_fF {p : Pc} : (rows p).filter fF = [] := List.filter_eq_nil_iff.mpr fun r m => by
 unfold fF
 rcases rows_wd r m with h | h <;> rw [h] <;> decide
theorem rows_fO {p : Pc} : (rows p).filter fO = rows p := List.filter_eq_self.mpr fun r m => by
 unfold fO
 rcases rows_wd r m with h | h <;> rw [h] <;> decide
theorem froms_eq {q : Lc} : fromsP q = (((flds q.fl q.lev).filter fF).map rT).flatten ++ [13,10] := by
 show (((flds q.fl q.lev ++ rows q.p).filter fF).map rT).flatten ++ [13,10] = _
 rw [List.filter_append,rows_fF,List.append_nil]
theorem others_eq {q : Lc} : othersP q = (((flds q.fl q.lev).filter fO ++ rows q.p).map rT).flatten ++ [13,10] := by
 show (((flds q.fl q.lev ++ rows q.p).filter fO).map rT).flatten ++ [13,10] = _
 rw [List.filter_append,rows_fO]
section
variable {C : Callee} {mh : MH} {n : Nat}
theorem flds_all {P : List RK → Prop} (h0 : P []) (h1 : P [.from 0]) (h2 : P [.from 1]) (h3 : P [.from 2]) (h4 : P [.from 3]) (h5 : P [.from 4])
  (k1 : P [.from 0,.subj]) (k2 : P [.from 1,.subj]) (k3 : P [.from 2,.subj]) (k4 : P [.from 3,.subj]) (k5 : P [.from 4,.subj]) : ∀ fl lev,lev < 5 → P (flds fl lev)
 | 0,_,_ => h0
 | 1,0,_ => h1
 | 1,1,_ => h2
 | 1,2,_ => h3
 | 1,3,_ => h4
 | 1,4,_ => h5
 | 1,_ + 5,h => absurd h (by lia)
 | fl + 2,lev,h => by
  have e : flds (fl + 2) lev = [.from lev,.subj] := by unfold flds; exact List.take_of_length_le (by show 2 ≤ fl + 2; lia)
  rw [e]
  match lev,h with
  | 0,_ => exact k1
  | 1,_ => exact k2
  | 2,_ => exact k3
  | 3,_ => exact k4
  | 4,_ => exact k5
noncomputable abbrev cpF (C : Callee) (o : PySem.CmpOp) : List (Option MV) → MH → Option (Option MV × MH) := fun vs mh => brB (allT text C vs mh [.cmp o (.slice false (.loc 0) .none (.int 5)) (.bytes [70,114,111,109,58])]) (fun mh => bd (evalE text C vs mh (.loc 0)) fun y mh => some (some y,mh)) fun mh => some (none,mh)
theorem cp_froms {fl lev : Nat} (h : lev < 5) : compGo (cpF C .Eq) 1 [] (((flds fl lev).map rT).map .bytes) mh = some ((((flds fl lev).filter fF).map rT).map .bytes,mh) :=
 flds_all (P := fun L => compGo (cpF C .Eq) 1 [] ((L.map rT).map .bytes) mh = some (((L.filter fF).map rT).map .bytes,mh))
  (by kernel_rfl) (by kernel_rfl) (by kernel_rfl) (by kernel_rfl) (by kernel_rfl) (by kernel_rfl) (by kernel_rfl) (by kernel_rfl) (by kernel_rfl) (by kernel_rfl) (by kernel_rfl) fl lev h
theorem cp_others {fl lev : Nat} (h : lev < 5) : compGo (cpF C .NotEq) 1 [] (((flds fl lev).map rT).map .bytes) mh = some ((((flds fl lev).filter fO).map rT).map .bytes,mh) :=
 flds_all (P := fun L => compGo (cpF C .NotEq) 1 [] ((L.map rT).map .bytes) mh = some (((L.filter fO).map rT).map .bytes,mh))
  (by kernel_rfl) (by kernel_rfl) (by kernel_rfl) (by kernel_rfl) (by kernel_rfl) (by kernel_rfl) (by kernel_rfl) (by kernel_rfl) (by kernel_rfl) (by kernel_rfl) (by kernel_rfl) fl lev h
theorem p_ladd {mh : MH} {x y : List MV} (h : (x ++ y).length ≤ LIM) : binV false mh .Add (.lst x) (.lst y) = some (.lst (x ++ y),mh) := if_pos h
theorem rqV_closed {q : Rq} (h : cL q.nm = true) : cB (rqV q) = true := by
 show (cL (q.r.map .int) && (true && (cL q.nm && (cB (dV q.o) && true)))) = true
 rw [ints_closed,h,dV_closed]; rfl
theorem due_closed {x : Lc} {r : List Int} : ∀ q ∈ dueX x r,cL q.nm = true := List.all_eq_true.mp (by unfold dueX; cases innerX x <;> rfl)
theorem rqs_closed : ∀ {L : List Rq},(∀ q ∈ L,cL q.nm = true) → cL (L.map rqV) = true
 | [],_ => rfl
 | q :: L,h => Bool.and_eq_true_iff.mpr ⟨rqV_closed (h q (.head _)),rqs_closed fun q m => h q (.tail _ m)⟩
theorem filt_len2 {L : List RK} {f : RK → Bool} (h : ∀ r ∈ L,r.Ok) (hl : L.length ≤ 4) : (((L.filter f).map rT).map List.length).sum ≤ 320 := by
 have := filt_len (L := L) (f := f); have := rsT_len h; lia
theorem inner_ms {x q : Lc} (h : innerX x = some q) : q.ms = true := by
 obtain ⟨a,fl,lev,p,ms⟩ := x
 match p with
 | .leaf .. => exact nO h
 | .letter true .. => exact nO h
 | .letter false .. => cases h; rfl
 | .one .. => exact nO h
 | .two .. => exact nO h
theorem rows_due {x : Lc} {r : List Int} (g : ∀ q,innerX x = some q → q.lev < 5 ∧ ∃ lo,WF lo q.p) : mcall text (n+1) 65 [nX x,.tup (r.map .int)] [] = some (.lst ((dueX x r).map rqV),[]) := by
 have hi : ∀ mh,subV mh (nX x) (.str [105,110,110,101,114]) = some (innN (innerX x)) := fun mh => nd_inner x
 have hb : ∀ mh,subV mh (nX x) (.str [98,111,100,121]) = some (.bytes (tx x.p).t) := fun mh => nd_body x
 have hh : ∀ mh,subV mh (nX x) (.str [104,101,97,100]) = some (.bytes x.hd) := fun mh => nd_head x
 have hc := rqs_closed (due_closed (x := x) (r := r))
 have e : dueX x r = ⟨r,[],[],some (tx x.p).t⟩ :: ⟨r,wM,[],some x.hd⟩ :: (match innerX x with
  | none => [⟨r,wH,[],none⟩,⟨r,wT,[],none⟩,⟨r,wF,[],none⟩,⟨r,wN,[],none⟩]
  | some q => [⟨r,wH,[],some q.hd⟩,⟨r,wT,[],some (tx q.p).t⟩,⟨r,wF,[.str nFrom],some (fromsP q)⟩,⟨r,wN,[.str [120],.str nfrom],some (othersP q)⟩]) := rfl
 rw [e] at hc ⊢
 cases hii : innerX x with
 | none =>
  rw [hii] at hi hc
  exact mc0 (r := f65) rfl rfl rfl (xc (xa (eu (el (by rfl)) rfl (by exact hi _)) (gn (by rfl) (by rfl))) (xc (xa (e_lst (ec (et (ec (el (by rfl)) (ec rfl (ec (et rfl) (ec (eu (el (by rfl)) rfl (by exact hb _)) rfl))))) (ec (et (ec (el (by rfl)) (ec rfl (ec (et rfl) (ec (eu (el (by rfl)) rfl (by exact hh _)) rfl))))) rfl))) (gn (by rfl) (by rfl))) (xl (x_ifT (tv rfl (em (el (by rfl)) rfl (by trivial)) (by rfl)) (by trivial) (xl (xr (eb (el (by rfl)) (e_comp (et (ec rfl (ec rfl (ec rfl (ec rfl rfl))))) (by rfl) (by trivial) (by exact rfl)) (by exact rfl)))))))) (by exact hc)
 | some q =>
  rw [hii] at hi hc
  obtain ⟨ql,lo,wf⟩ := g q hii
  have qm := inner_ms hii
  have okf : ∀ r ∈ flds q.fl q.lev,r.Ok := fun r m => flds_ok ql r m
  have ok : ∀ r ∈ flds q.fl q.lev ++ rows q.p,r.Ok := fun r m => (List.mem_append.mp m).elim (okf r) (rows_ok wf r)
  have l1 := flds_len (fl := q.fl) (lev := q.lev)
  have l2 := rows_len (p := q.p)
  have hN : ∀ mh,cmpV mh .Is (nX q) .none = some false := fun mh => nodeN q
  have hi : ∀ mh,subV mh (nX x) (.str [105,110,110,101,114]) = some (nX q) := hi
  have hf : ∀ mh,subV mh (nX q) (.str [102,105,101,108,100,115]) = some (rowsV (flds q.fl q.lev)) := fun mh => nd_fields qm
  have hr : ∀ mh,subV mh (nX q) (.str [114,111,119,115]) = some (rowsV (rows q.p)) := fun mh => nd_rows q
  have hb2 : ∀ mh,subV mh (nX q) (.str [98,111,100,121]) = some (.bytes (tx q.p).t) := fun mh => nd_body q
  have hh2 : ∀ mh,subV mh (nX q) (.str [104,101,97,100]) = some (.bytes q.hd) := fun mh => nd_head q
  have hll : (((flds q.fl q.lev).map rT).map MV.bytes).length ≤ LIM := by rw [List.length_map,List.length_map]; unfold LIM; lia
  have c1 : ∀ mh,_ := fun mh => cp_froms (C := mcall text n) (mh := mh) (fl := q.fl) ql
  have c2 : ∀ mh,_ := fun mh => cp_others (C := mcall text n) (mh := mh) (fl := q.fl) ql
  have s1 := filt_len2 (f := fF) okf (by lia)
  have j1 : ∀ mh,bmethV mh (.bytes []) .join [.lst ((((flds q.fl q.lev).filter fF).map rT).map .bytes)] = some (.bytes (((flds q.fl q.lev).filter fF).map rT).flatten,mh) := fun mh => p_join (by unfold LIM; lia)
  have b1 : ∀ mh,binV false mh .Add (.bytes (((flds q.fl q.lev).filter fF).map rT).flatten) (.bytes [13,10]) = some (.bytes (fromsP q),mh) := fun mh => by
   rw [froms_eq]; exact p_badd (by rw [List.length_flatten]; show _ + 2 ≤ 1048576; lia)
  have ll : ((flds q.fl q.lev).filter fO).length ≤ 2 := Nat.le_trans (List.length_filter_le _ _) l1
  have a1 : ∀ mh,binV false mh .Add (.lst ((((flds q.fl q.lev).filter fO).map rT).map .bytes)) (rowsV (rows q.p)) = some (.lst ((((flds q.fl q.lev).filter fO ++ rows q.p).map rT).map .bytes),mh) := fun mh => by
   rw [List.map_append,List.map_append]
   exact p_ladd (by rw [List.length_append,List.length_map,List.length_map,List.length_map,List.length_map]; unfold LIM; lia)
  have s2 : ((((flds q.fl q.lev).filter fO ++ rows q.p).map rT).map List.length).sum ≤ 320 := by
   have := filt_len2 (f := fO) ok (by rw [List.length_append]; lia)
   rw [List.filter_append,rows_fO] at this
   exact this
  have j2 : ∀ mh,bmethV mh (.bytes []) .join [.lst ((((flds q.fl q.lev).filter fO ++ rows q.p).map rT).map .bytes)] = some (.bytes (((flds q.fl q.lev).filter fO ++ rows q.p).map rT).flatten,mh) := fun mh => p_join (by unfold LIM; lia)
  have b2 : ∀ mh,binV false mh .Add (.bytes (((flds q.fl q.lev).filter fO ++ rows q.p).map rT).flatten) (.bytes [13,10]) = some (.bytes (othersP q),mh) := fun mh => by
   rw [others_eq]; exact p_badd (by rw [List.length_flatten]; show _ + 2 ≤ 1048576; lia)
  exact mc0 (r := f65) rfl rfl rfl (xc (xa (eu (el (by rfl)) rfl (by exact hi _)) (gn (by rfl) (by rfl))) (xc (xa (e_lst (ec (et (ec (el (by rfl)) (ec rfl (ec (et rfl) (ec (eu (el (by rfl)) rfl (by exact hb _)) rfl))))) (ec (et (ec (el (by rfl)) (ec rfl (ec (et rfl) (ec (eu (el (by rfl)) rfl (by exact hh _)) rfl))))) rfl))) (gn (by rfl) (by rfl))) (xc (x_ifF (tv rfl (em (el (by rfl)) rfl (by exact hN _)) (by rfl)) (by trivial) rfl) (xc (xa (eb (e_bmeth rfl (by trivial) (ec (e_comp (eu (el (by rfl)) rfl (by exact hf _)) (by rfl) (by trivial) (by exact c1 _)) rfl) (by exact j1 _)) rfl (by exact b1 _)) (gn (by rfl) (by rfl))) (xc (xa (eb (e_bmeth rfl (by trivial) (ec (eb (e_comp (eu (el (by rfl)) rfl (by exact hf _)) (by rfl) (by trivial) (by exact c2 _)) (eu (el (by rfl)) rfl (by exact hr _)) (by exact a1 _)) rfl) (by exact j2 _)) rfl (by exact b2 _)) (gn (by rfl) (by rfl))) (xc (xa (eb (el (by rfl)) (e_lst (ec (et (ec (el (by rfl)) (ec rfl (ec (et rfl) (ec (eu (el (by rfl)) rfl (by exact hh2 _)) rfl))))) (ec (et (ec (el (by rfl)) (ec rfl (ec (et rfl) (ec (eu (el (by rfl)) rfl (by exact hb2 _)) rfl))))) rfl))) (by exact rfl)) (gn (by rfl) (by rfl))) (xl (xr (eb (el (by rfl)) (e_lst (ec (et (ec (el (by rfl)) (ec rfl (ec (et (ec rfl rfl)) (ec (el (by rfl)) rfl))))) (ec (et (ec (el (by rfl)) (ec rfl (ec (et (ec rfl (ec rfl rfl))) (ec (el (by rfl)) rfl))))) rfl))) (by exact rfl)))))))))) (by exact hc)
theorem m4 {α : Type} {P : α → Prop} {a b c d : α} (h1 : P a) (h2 : P b) (h3 : P c) (h4 : P d) : ∀ q ∈ [a,b,c,d],P q :=
 List.forall_mem_cons.mpr ⟨h1,List.forall_mem_cons.mpr ⟨h2,List.forall_mem_cons.mpr ⟨h3,List.forall_mem_cons.mpr ⟨h4,List.forall_mem_nil _⟩⟩⟩⟩
noncomputable abbrev AskQ (d : By) (x : Lc) (q : Rq) : Prop := Asked d x.part q.r q.w q.nm q.o
theorem due_ok' {d : By} {x y : Lc} {i : Int} {r : List Int} (ok : pa x true (i :: r) = some y) (good : GoodL d y) (hsz : y.hd.length + (tx y.p).t.length < 100000) : ∀ q ∈ dueX y (i :: r),AskQ d x q := by
 unfold dueX
 refine List.forall_mem_cons.mpr ⟨ask_body ok good,List.forall_mem_cons.mpr ⟨ask_mime ok good,?_⟩⟩
 cases hi : innerX y with
 | none => exact m4 (ask_out ok hi rfl rfl) (ask_out ok hi rfl rfl) (ask_out ok hi rfl rfl) (ask_out ok hi rfl rfl)
 | some z =>
  have gz := ((good_kids good hsz).2 z hi).1
  exact m4 (ask_in rfl ok hi rfl rfl fun n pt => wo_H gz) (ask_in rfl ok hi rfl rfl fun n pt => wo_T gz) (ask_in rfl ok hi rfl rfl fun n pt => wo_F gz) (ask_in rfl ok hi rfl rfl fun n pt => wo_N gz)
theorem good_sz {d : By} {y : Lc} (hd : d.length < 100000) (g : GoodL d y) : y.hd.length + (tx y.p).t.length < 100000 := by
 obtain ⟨P,S,h,_⟩ := g.at_
 have := congrArg List.length h
 simp only [List.length_append] at this
 omega
theorem due_ok {d : By} {x : Lc} {t : List Int × Lc} (hd : d.length < 100000) (w : Way d x true t) : ∀ q ∈ dueX t.2 t.1,Asked d x.part q.r q.w q.nm q.o := by
 obtain ⟨path,y⟩ := t
 induction path using List.casesOn with
 | nil => exact absurd rfl w.ne
 | cons i r => exact due_ok' w.ok w.good (good_sz hd w.good)
end
end
section
theorem bump_last : ∀ {r : List Int},r ≠ [] → ∃ s i,r = s ++ [i] ∧ bump r = s ++ [i + 9]
 | [],h => absurd rfl h
 | [i],_ => ⟨[],i,rfl,rfl⟩
 | i :: j :: r,_ => by
  obtain ⟨s,k,h1,h2⟩ := bump_last (r := j :: r) (List.cons_ne_nil _ _)
  exact ⟨i :: s,k,by rw [h1]; rfl,by show i :: bump (j :: r) = _; rw [h2]; rfl⟩
theorem pySlice_take {α β : Type} {l : List α} {f : α → β} {k : Nat} : pySlice (l.map f) none (some (k : Int)) = (l.take k).map f := by
 show ((l.map f).drop 0).take (clp (l.map f).length (k : Int) - 0) = _
 rw [List.drop_zero,Nat.sub_zero,List.length_map,← List.map_take]
 congr 1
 unfold clp
 rw [if_neg (by lia),Int.toNat_natCast]
 rcases Nat.le_total k l.length with h | h
 ·rw [Nat.min_eq_left h]
 ·rw [Nat.min_eq_right h,List.take_length,List.take_of_length_le h]
theorem pySlice_init {s : List Int} {i : Int} : pySlice ((s ++ [i]).map MV.int) none (some (-1)) = s.map .int := by
 show (((s ++ [i]).map MV.int).drop 0).take (clp ((s ++ [i]).map MV.int).length (-1) - 0) = _
 rw [List.drop_zero,Nat.sub_zero,List.length_map,List.length_append,← List.map_take]
 unfold clp
 rw [if_pos (by decide),show ((-1 : Int) + ((s.length + [i].length : Nat) : Int)).toNat = s.length by show ((-1 : Int) + ((s.length + 1 : Nat) : Int)).toNat = _; lia,List.take_left]
theorem pyIdx_last {s : List Int} {i : Int} : pyIdx ((s ++ [i]).map MV.int) (-1) = some (.int i) := by
 unfold pyIdx
 rw [if_neg (by decide),List.length_map,List.length_append,if_pos (by show (0 : Int) ≤ -1 + ((s.length + 1 : Nat) : Int); lia),
  show (-1 + ((s.length + [i].length : Nat) : Int)).toNat = s.length by show ((-1 : Int) + ((s.length + 1 : Nat) : Int)).toNat = _; lia,List.getElem?_map,List.getElem?_append_right (Nat.le_refl _),Nat.sub_self]; rfl
theorem append_end {M : MH} {l : List MV} {v : MV} (h : l.length < LIM) : bmethV (M ++ [MO.lst l]) (.ref M.length) .append [v] = some (.none,M ++ [MO.lst (l ++ [v])]) := by
 have := p_append (v := v) (get_end (A := M) (x := MO.lst l)) h
 rw [set_end] at this
 exact this
theorem ok_end {M : MH} {l : List MV} : bmOk (M ++ [MO.lst l]) (.ref M.length) .append = true := by
 show (match (M ++ [MO.lst l])[M.length]? with | some (.lst _) => true | _ => false) = true
 rw [get_end]
theorem items_end {M : MH} {l : List MV} : itemsV (M ++ [MO.lst l]) (.ref M.length) = some l := by
 show (match (M ++ [MO.lst l])[M.length]? with | some (.lst l) => some l | _ => none) = some l
 rw [get_end]
theorem add_end {M : MH} {l k : List MV} (h : (l ++ k).length ≤ LIM) : binV true (M ++ [MO.lst l]) .Add (.ref M.length) (.lst k) = some (.ref (M ++ [MO.lst l]).length,(M ++ [MO.lst l]) ++ [MO.lst (l ++ k)]) := by
 show (match itemsV (M ++ [MO.lst l]) (.ref M.length) with | some x => (match itemsV (M ++ [MO.lst l]) (.lst k) with | some y => newL true (M ++ [MO.lst l]) (x ++ y) | none => none) | none => none) = _
 rw [items_end]
 exact if_pos h
noncomputable def rowsT1 (t : List Int × Lc) : List Rq := dueX t.2 t.1 ++ [⟨t.1 ++ [9],[],[],none⟩] ++ [⟨bump t.1,[],[],none⟩]
noncomputable def rowsW : List (List Int × Lc) → List Rq
 | [] => []
 | t :: ts => rowsT1 t ++ rowsW ts
theorem rowsT1_len {t : List Int × Lc} : (rowsT1 t).length = 8 := by
 unfold rowsT1; rw [List.length_append,List.length_append,dueX_len]; rfl
theorem rowsW_len : ∀ {ts : List (List Int × Lc)},(rowsW ts).length = 8 * ts.length
 | [] => rfl
 | t :: ts => by rw [show rowsW (t :: ts) = rowsT1 t ++ rowsW ts from rfl,List.length_append,rowsT1_len,rowsW_len,List.length_cons]; lia
theorem mem1 {α : Type} {P : α → Prop} {a : α} (h : P a) : ∀ q ∈ [a],P q := List.forall_mem_cons.mpr ⟨h,List.forall_mem_nil _⟩
theorem rowsT1_nm {t : List Int × Lc} : ∀ q ∈ rowsT1 t,cL q.nm = true := List.forall_mem_append.mpr ⟨List.forall_mem_append.mpr ⟨due_closed,mem1 rfl⟩,mem1 rfl⟩
theorem rowsW_nm : ∀ {ts : List (List Int × Lc)},∀ q ∈ rowsW ts,cL q.nm = true
 | [] => List.forall_mem_nil _
 | t :: ts => List.forall_mem_append.mpr ⟨rowsT1_nm,rowsW_nm⟩
theorem ask_way {d : By} {x : Lc} : ∀ {r : List Int},r ≠ [] → pa x true r = none → Asked d x.part r [] [] none
 | [],h,_ => absurd rfl h
 | _ :: _,_,h => ask_no rfl h
theorem bump_ne : ∀ {r : List Int},r ≠ [] → bump r ≠ []
 | [],h => absurd rfl h
 | [_],_ => List.cons_ne_nil _ _
 | _ :: _ :: _,_ => List.cons_ne_nil _ _
theorem rowsW_ask {d : By} {x : Lc} (hd : d.length < 100000) : ∀ {ts : List (List Int × Lc)},(∀ t ∈ ts,Way d x true t) → ∀ q ∈ rowsW ts,AskQ d x q
 | [],_ => List.forall_mem_nil _
 | t :: ts,h =>
  have w := h t (.head _)
  List.forall_mem_append.mpr ⟨List.forall_mem_append.mpr ⟨List.forall_mem_append.mpr ⟨due_ok hd w,mem1 (ask_way (by simp) w.no9)⟩,mem1 (ask_way (bump_ne w.ne) w.noB)⟩,rowsW_ask hd fun t m => h t (.tail _ m)⟩
section
variable {C : Callee} {S W D P Y : MV}
noncomputable abbrev lwV (S W D P Y : MV) (k : Nat) (u7 u8 u9 u10 u11 u12 : OV) : List OV := [some S,some (.ref 0),some W,some D,some P,some Y,some (.ref k),u7,u8,u9,u10,u11,u12,none,none,none]
noncomputable abbrev lwB : List MS := (f66.body[6]?.getD MS.fail).blk
noncomputable abbrev lwC : List MS := ((f66.body[6]?.getD MS.fail).blk[1]?.getD MS.fail).blk
noncomputable abbrev lwD : List MS := (f66.body[7]?.getD MS.fail).blk
theorem lw_beside {M : MH} {acc : List MV} {r : List Int} {u7 u8 : OV} (h : acc.length < 100000) :
  execB text C (lwV S W D P Y M.length u7 u8 (some (.tup (r.map .int))) none none none,M ++ [MO.lst acc]) lwC = some (.next,(lwV S W D P Y M.length u7 u8 (some (.tup (r.map .int))) none none none,M ++ [MO.lst (acc ++ [rqV ⟨r,[],[],none⟩])])) := by
 have hl : acc.length < LIM := by unfold LIM; lia
 have ha := append_end (M := M) (v := rqV ⟨r,[],[],none⟩) hl
 exact (xc (x_expr (e_bmeth (el (by rfl)) (by exact ok_end) (ec (et (ec (el (by rfl)) (ec rfl (ec (et rfl) (ec rfl rfl))))) rfl) (by exact ha)) (by rfl)) rfl)
theorem lw_one {M : MH} {acc : List MV} {t : List Int × Lc} {u9 : OV} (hacc : acc.length < 90000) (ne : t.1 ≠ []) (hl : t.1.length < 1000)
  (hd : C 65 [nX t.2,.tup (t.1.map .int)] [] = some (.lst ((dueX t.2 t.1).map rqV),[])) :
  execB text C (lwV S W D P Y M.length (some (.tup (t.1.map .int))) (some (nX t.2)) u9 none none none,M ++ [MO.lst acc]) lwB =
   some (.next,(lwV S W D P Y (M ++ [MO.lst acc]).length (some (.tup (t.1.map .int))) (some (nX t.2)) (some (.tup ((bump t.1).map .int))) none none none,(M ++ [MO.lst acc]) ++ [MO.lst (acc ++ (rowsT1 t).map rqV)])) := by
 obtain ⟨s,i,h1,h2⟩ := bump_last ne
 have hc : cL [nX t.2,.tup (t.1.map .int)] = true := by
  show (cB (nX t.2) && (cL (t.1.map MV.int) && _)) = true
  rw [node_closed,ints_closed]; rfl
 have hdl : ((dueX t.2 t.1).map rqV).length = 6 := by rw [List.length_map,dueX_len]
 have ad := add_end (M := M) (l := acc) (k := (dueX t.2 t.1).map rqV) (by rw [List.length_append,hdl]; unfold LIM; lia)
 have t9 := fun mh => p_tadd (k := false) (mh := mh) (x := t.1) (i := 9) hl
 have sl : ∀ mh,sliceV false mh (.tup (t.1.map .int)) .none (.int (-1)) = some (.tup (s.map .int),mh) := fun mh => by
  show some (MV.tup (pySlice (t.1.map MV.int) none (some (-1))),mh) = _
  rw [h1,pySlice_init]
 have sb : ∀ mh,subV mh (.tup (t.1.map .int)) (.int (-1)) = some (.int i) := fun mh => by
  show pyIdx (t.1.map MV.int) (-1) = _
  rw [h1,pyIdx_last]
 have tb : ∀ mh,binV false mh .Add (.tup (s.map .int)) (.tup [.int (i + 9)]) = some (.tup ((bump t.1).map .int),mh) := fun mh => by
  rw [h2]
  exact p_tadd (by have := congrArg List.length h1; rw [List.length_append] at this; lia)
 have q1 := lw_beside (C := C) (S := S) (W := W) (D := D) (P := P) (Y := Y) (M := M ++ [MO.lst acc]) (acc := acc ++ (dueX t.2 t.1).map rqV) (r := t.1 ++ [9]) (u7 := some (.tup (t.1.map .int))) (u8 := some (nX t.2)) (by rw [List.length_append,hdl]; lia)
 have q2 := lw_beside (C := C) (S := S) (W := W) (D := D) (P := P) (Y := Y) (M := M ++ [MO.lst acc]) (acc := acc ++ (dueX t.2 t.1).map rqV ++ [rqV ⟨t.1 ++ [9],[],[],none⟩]) (r := bump t.1) (u7 := some (.tup (t.1.map .int))) (u8 := some (nX t.2)) (by rw [List.length_append,List.length_append,hdl]; show acc.length + 6 + 1 < _; lia)
 have e : acc ++ (rowsT1 t).map rqV = acc ++ (dueX t.2 t.1).map rqV ++ [rqV ⟨t.1 ++ [9],[],[],none⟩] ++ [rqV ⟨bump t.1,[],[],none⟩] := by
  unfold rowsT1
  rw [List.map_append,List.map_append,← List.append_assoc,← List.append_assoc]; rfl
 rw [e]
 have lp : loopF (fun v s => storeT text C v s (.name 9)) (fun s => execB text C s lwC) [.tup ((t.1 ++ [9]).map .int),.tup ((bump t.1).map .int)] (lwV S W D P Y (M ++ [MO.lst acc]).length (some (.tup (t.1.map .int))) (some (nX t.2)) u9 none none none,(M ++ [MO.lst acc]) ++ [MO.lst (acc ++ (dueX t.2 t.1).map rqV)]) = _ :=
  loop2 (gn rfl (by exact rfl)) (by exact q1) (gn rfl (by exact rfl)) (by exact q2)
 exact (xc (xa (eb (el (by rfl)) (eK (ec (el (by rfl)) (ec (el (by rfl)) rfl)) (by exact c_clo hc hd)) (by exact ad)) (gn (by rfl) (by rfl))) (xc (x_for (et (ec (eb (el (by rfl)) (et (ec rfl rfl)) (by exact t9 _)) (ec (eb (e_slice (el (by rfl)) rfl rfl (by exact sl _)) (et (ec (eb (eu (el (by rfl)) rfl (by exact sb _)) rfl (by exact rfl)) rfl)) (by exact tb _)) rfl))) (by rfl) (by exact lp)) rfl))
theorem lw_loop : ∀ {ts : List (List Int × Lc)} {M : MH} {acc : List MV} {u7 u8 u9 : OV},acc.length + 8 * ts.length < 90000 → cL acc = true → (∀ t ∈ ts,t.1 ≠ [] ∧ t.1.length < 1000 ∧ C 65 [nX t.2,.tup (t.1.map .int)] [] = some (.lst ((dueX t.2 t.1).map rqV),[])) →
  ∃ X u7' u8' u9',X.all (underO 0) = true ∧ loopF (fun v s => storeT text C v s (.tup [.name 7,.name 8])) (fun s => execB text C s lwB) (ts.map (wayV [])) (lwV S W D P Y M.length u7 u8 u9 none none none,M ++ [MO.lst acc]) =
   some (.next,(lwV S W D P Y (M ++ X).length u7' u8' u9' none none none,(M ++ X) ++ [MO.lst (acc ++ (rowsW ts).map rqV)]))
 | [],M,acc,u7,u8,u9,_,_,_ => ⟨[],u7,u8,u9,rfl,by rw [List.append_nil]; show some (Fl.next,_) = _; rw [show (rowsW []).map rqV = [] from rfl,List.append_nil]⟩
 | t :: ts,M,acc,u7,u8,u9,hl,hc,h => by
  rw [List.length_cons] at hl
  obtain ⟨h1,h2,h3⟩ := h t (.head _)
  have b := lw_one (S := S) (W := W) (D := D) (P := P) (Y := Y) (M := M) (acc := acc) (u9 := u9) (by lia) h1 h2 h3
  obtain ⟨X,v7,v8,v9,hX,ih⟩ := lw_loop (ts := ts) (M := M ++ [MO.lst acc]) (acc := acc ++ (rowsT1 t).map rqV) (u7 := some (.tup (t.1.map .int))) (u8 := some (nX t.2)) (u9 := some (.tup ((bump t.1).map .int)))
   (by rw [List.length_append,List.length_map,rowsT1_len]; lia) (closedL_app hc (rqs_closed rowsT1_nm)) fun t m => h t (.tail _ m)
  refine ⟨MO.lst acc :: X,v7,v8,v9,Bool.and_eq_true_iff.mpr ⟨closedL_under hc,hX⟩,?_⟩
  have e : M ++ MO.lst acc :: X = M ++ [MO.lst acc] ++ X := by rw [List.append_assoc]; rfl
  have e2 : acc ++ (rowsW (t :: ts)).map rqV = acc ++ (rowsT1 t).map rqV ++ (rowsW ts).map rqV := by
   rw [show rowsW (t :: ts) = rowsT1 t ++ rowsW ts from rfl,List.map_append,List.append_assoc]
  rw [e,e2]
  exact loopF_cons.trans (bo_k (a := (lwV S W D P Y M.length (some (.tup (t.1.map .int))) (some (nX t.2)) u9 none none none,M ++ [MO.lst acc])) rfl (bd_k b ih))
theorem dV_ne {o : Option By} {mh : MH} : cmpV mh .NotEq (dV o) (dV o) = some false := by
 induction o using Option.casesOn with
 | none => rfl
 | some b =>
  show (some (decide (b = b))).map (!·) = _
  rw [decide_eq_true rfl]; rfl
theorem lw_check {k : Nat} {x : Lc} {d : By} {mh : MH} (hmk : ∀ (q : Rq) (mh : MH),cL q.nm = true → makeC text C 4 [.tup (q.r.map .int),.str q.w,.tup q.nm] mh = some (sec q.r q.w q.nm .none,mh)) : ∀ {L : List Rq} {u7 u8 u9 u10 u11 u12 : OV},(∀ q ∈ L,cL q.nm = true ∧ C 57 [.bytes d,x.part,sec q.r q.w q.nm .none] [] = some (dV q.o,[])) →
  ∃ v7 v10 v11 v12,loopF (fun v s => storeT text C v s (.tup [.name 7,.name 10,.name 11,.name 12])) (fun s => execB text C s lwD) (L.map rqV) (lwV S W (.bytes d) x.part Y k u7 u8 u9 u10 u11 u12,mh) =
   some (.next,(lwV S W (.bytes d) x.part Y k v7 u8 u9 v10 v11 v12,mh))
 | [],u7,u8,u9,u10,u11,u12,_ => ⟨u7,u10,u11,u12,rfl⟩
 | q :: L,u7,u8,u9,u10,u11,u12,h => by
  obtain ⟨hn,hs⟩ := h q (.head _)
  have mk := hmk q mh hn
  have hc : cL [.bytes d,x.part,sec q.r q.w q.nm .none] = true := sec_closed hn rfl
  have b : execB text C (lwV S W (.bytes d) x.part Y k (some (.tup (q.r.map .int))) u8 u9 (some (.str q.w)) (some (.tup q.nm)) (some (dV q.o)),mh) lwD = some (.next,(lwV S W (.bytes d) x.part Y k (some (.tup (q.r.map .int))) u8 u9 (some (.str q.w)) (some (.tup q.nm)) (some (dV q.o)),mh)) :=
   (xc (x_ifF (tv rfl (em (eK (ec (el (by rfl)) (ec (el (by rfl)) (ec (e_make (ec (el (by rfl)) (ec (el (by rfl)) (ec (el (by rfl)) rfl))) (by exact mk)) rfl))) (by exact c_clo hc hs)) (el (by rfl)) (by exact dV_ne)) (by rfl)) (by trivial) rfl) rfl)
  obtain ⟨v7,v10,v11,v12,ih⟩ := lw_check hmk (L := L) (u7 := some (.tup (q.r.map .int))) (u8 := u8) (u9 := u9) (u10 := some (.str q.w)) (u11 := some (.tup q.nm)) (u12 := some (dV q.o)) fun q m => h q (.tail _ m)
  exact ⟨v7,v10,v11,v12,loopF_cons.trans (bo_k (a := (lwV S W (.bytes d) x.part Y k (some (.tup (q.r.map .int))) u8 u9 (some (.str q.w)) (some (.tup q.nm)) (some (dV q.o)),mh)) rfl (bd_k b ih))⟩
end
end
section
theorem cons_len {i : Int} {k : Nat} {l : List (List Int × Lc)} (h : ∀ t ∈ l,t.1.length ≤ k) : ∀ t ∈ l.map (fun t => (i :: t.1,t.2)),t.1.length ≤ k + 1 := fun t m => by
 obtain ⟨s,hs,rfl⟩ := List.mem_map.mp m
 exact Nat.succ_le_succ (h s hs)
theorem wr_path : ∀ {p : Pc} {a : Int} {fl lev : Nat} {ms l : Bool},∀ t ∈ wr p a fl lev ms l,t.1.length ≤ ht p + 1 := by
 intro p
 induction p with
 | leaf w e b =>
  intro a fl lev ms l t m
  induction l using Bool.casesOn with
  | false => exact nM m
  | true => cases m with | head => exact Nat.le_refl 1 | tail _ m => exact nM m
 | letter hid fl' lev' q ih =>
  intro a fl lev ms l t m
  have h0 : ∀ t ∈ (cond hid [] (wr q (a + (hd (flds fl lev ++ rows (.letter hid fl' lev' q))).length) fl' lev' true true)),t.1.length ≤ ht q + 1 := fun t m => by
   induction hid using Bool.casesOn with
   | true => exact nM m
   | false => exact ih t m
  induction l using Bool.casesOn with
  | false => exact Nat.le_succ_of_le (h0 t m)
  | true =>
   cases m with
   | head => exact Nat.succ_le_succ (Nat.zero_le _)
   | tail _ m => exact cons_len h0 t m
 | one m k ih =>
  intro a fl lev ms l t q
  cases q with
  | head => exact Nat.succ_le_succ (Nat.zero_le _)
  | tail _ q => exact cons_len (fun t m => ih t m) t q
 | two m k j ih ih2 =>
  intro a fl lev ms l t q
  have hm1 : ht k ≤ max (ht k) (ht j) := Nat.le_max_left _ _
  have hm2 : ht j ≤ max (ht k) (ht j) := Nat.le_max_right _ _
  show t.1.length ≤ max (ht k) (ht j) + 1 + 1
  rcases List.mem_append.mp q with q | q
  ·cases q with
   | head => exact Nat.succ_le_succ (Nat.zero_le _)
   | tail _ q => have := cons_len (fun t m => ih t m) t q; lia
  ·cases q with
   | head => exact Nat.succ_le_succ (Nat.zero_le _)
   | tail _ q => have := cons_len (fun t m => ih2 t m) t q; lia
theorem sub_end_l {M : MH} {l : List MV} {k : Int} : subV (M ++ [MO.lst l]) (.ref M.length) (.int k) = pyIdx l k := by
 show (match (M ++ [MO.lst l])[M.length]? with | some (.lst l) => pyIdx l k | _ => none) = _
 rw [get_end]
theorem len_end {M : MH} {l : List MV} : bcallV (M ++ [MO.lst l]) .len [.ref M.length] = some (.int l.length) := by
 show (itemsV (M ++ [MO.lst l]) (.ref M.length)).map _ = _
 rw [items_end]; rfl
theorem slice_end {α : Type} {M : MH} {l : List α} {f : α → MV} (h : l.length < 100000) : sliceV false (M ++ [MO.lst (l.map f)]) (.ref M.length) .none (.int 60) = some (.lst ((l.take 60).map f),M ++ [MO.lst (l.map f)]) := by
 have e : itemsV (M ++ [MO.lst (l.map f)]) (.ref M.length) = some (l.map f) := items_end
 show (match itemsV (M ++ [MO.lst (l.map f)]) (.ref M.length) with | some y => newL false (M ++ [MO.lst (l.map f)]) (pySlice y none (some ((60 : Nat) : Int))) | none => none) = _
 rw [e]
 show (if (pySlice (l.map f) none (some ((60 : Nat) : Int))).length ≤ LIM then some (MV.lst (pySlice (l.map f) none (some ((60 : Nat) : Int))),M ++ [MO.lst (l.map f)]) else none) = _
 rw [pySlice_take]
 refine if_pos ?_
 rw [List.length_map,List.length_take]; unfold LIM; lia
section
variable {n : Nat}
theorem make_sec {q : Rq} {mh : MH} (h : cL q.nm = true) : makeC text (mcall text (n+1)) 4 [.tup (q.r.map .int),.str q.w,.tup q.nm] mh = some (sec q.r q.w q.nm .none,mh) := by
 have hc : cL [.tup (q.r.map .int),.str q.w,.tup q.nm] = true := by
  show (cL (q.r.map .int) && (true && (cL q.nm && true))) = true
  rw [ints_closed,h]; rfl
 have hw : cL [.tup (q.r.map .int),.str q.w,.tup q.nm,.none] = true := by
  show (cL (q.r.map .int) && (true && (cL q.nm && true))) = true
  rw [ints_closed,h]; rfl
 refine make_frozen (k := { init := 52,frozen := true,meths := [],data := [7,23,24,25] }) rfl rfl hc ?_ hw
 exact mcN (r := f52) rfl rfl (xc (xa (e_bcall (ec (el (by rfl)) rfl) (by exact rfl)) (g_attr (el (by rfl)) (by rfl) (by trivial) (by rfl) (by rfl))) (xc (xa (el (by rfl)) (g_attr (el (by rfl)) (by rfl) (by trivial) (by rfl) (by rfl))) (xc (xa (e_bcall (ec (el (by rfl)) rfl) (by exact rfl)) (g_attr (el (by rfl)) (by rfl) (by trivial) (by rfl) (by rfl))) (xc (xa (el (by rfl)) (g_attr (el (by rfl)) (by rfl) (by trivial) (by rfl) (by rfl))) rfl)))) (by exact fin_one (closed_under (n := 1) (v := .ins 4 [23,7,24,25] [.tup (q.r.map .int),.str q.w,.tup q.nm,.none]) hw))
theorem make_sec2 {q : Rq} {mh : MH} {i c : Int} (h : cL q.nm = true) : makeC text (mcall text (n+1)) 4 [.tup (q.r.map .int),.str q.w,.tup q.nm,.tup [.int i,.int c]] mh = some (sec q.r q.w q.nm (.tup [.int i,.int c]),mh) := by
 have hc : cL [.tup (q.r.map .int),.str q.w,.tup q.nm,.tup [.int i,.int c]] = true := by
  show (cL (q.r.map .int) && (true && (cL q.nm && true))) = true
  rw [ints_closed,h]; rfl
 refine make_frozen (k := { init := 52,frozen := true,meths := [],data := [7,23,24,25] }) rfl rfl hc ?_ hc
 exact mcN (r := f52) rfl rfl (xc (xa (e_bcall (ec (el (by rfl)) rfl) (by exact rfl)) (g_attr (el (by rfl)) (by rfl) (by trivial) (by rfl) (by rfl))) (xc (xa (el (by rfl)) (g_attr (el (by rfl)) (by rfl) (by trivial) (by rfl) (by rfl))) (xc (xa (e_bcall (ec (el (by rfl)) rfl) (by exact rfl)) (g_attr (el (by rfl)) (by rfl) (by trivial) (by rfl) (by rfl))) (xc (xa (el (by rfl)) (g_attr (el (by rfl)) (by rfl) (by trivial) (by rfl) (by rfl))) rfl)))) (by exact fin_one (closed_under (n := 1) (v := .ins 4 [23,7,24,25] [.tup (q.r.map .int),.str q.w,.tup q.nm,.tup [.int i,.int c]]) hc))
theorem e_cells {C : Callee} (L : List Int) (hL : L.length ≤ 63) : ∃ cs : List Int,cs ≠ [] ∧ cs.length < 1000 ∧ ∀ vals mh,vals[0]? = some (some (.lst (L.map .int))) →
  evalE text C vals mh (.or [.bcall .list [.slice false (.loc 0) .none (.int 40)],.list false [.int 2]]) = some (.lst (cs.map .int),mh) := by
 have hs : ∀ mh,sliceV false mh (.lst (L.map .int)) .none (.int 40) = some (.lst ((L.take 40).map .int),mh) := fun mh => by
  show (if (pySlice (L.map MV.int) none (some ((40 : Nat) : Int))).length ≤ LIM then some (MV.lst (pySlice (L.map MV.int) none (some ((40 : Nat) : Int))),mh) else none) = _
  rw [pySlice_take]
  refine if_pos ?_
  rw [List.length_map,List.length_take]; unfold LIM; lia
 by_cases h : L.take 40 = []
 ·refine ⟨[2],by decide,by decide,fun vals mh h0 => ?_⟩
  rw [h] at hs
  exact evalE_or.trans (e_orF (e_bcall (ec (e_slice (el h0) rfl rfl (hs _)) rfl) rfl) rfl rfl (evalOr_one.trans (e_lst (ec rfl rfl))))
 ·refine ⟨L.take 40,h,by rw [List.length_take]; lia,fun vals mh h0 => ?_⟩
  refine evalE_or.trans (e_orT (e_bcall (ec (e_slice (el h0) rfl rfl (hs _)) rfl) rfl) rfl ?_)
  cases hh : L.take 40 with
  | nil => exact absurd hh h
  | cons x r => rfl
end
end
theorem rows_pick {L : List Rq} {v : Int} (h0 : 0 ≤ v) (h1 : v < L.length) : ∃ q ∈ L,pyIdx (L.map rqV) v = some (rqV q) := by
 have hx : v.toNat < L.length := by omega
 refine ⟨L[v.toNat]'hx,List.getElem_mem hx,?_⟩
 unfold pyIdx
 rw [if_pos h0,List.getElem?_map,List.getElem?_eq_getElem hx]; rfl
theorem eq_cut {o : Option By} {mh : MH} {i c : Int} : cmpV mh .Eq (dV (cutO o i c)) (dV (cutO o i c)) = some true := by
 induction o using Option.casesOn with
 | none => rfl
 | some b =>
  show some (decide (pySlice b (some i) (some (i + c)) = _)) = _
  rw [decide_eq_true rfl]
theorem und_law {o : MO} {X : MH} {l : List MV} (ho : underO 0 o = true) (hX : X.all (underO 0) = true) (hl : cL l = true) : Und (o :: (X ++ [MO.lst l])) := by
 refine und_ext (R := []) (X := X ++ [MO.lst l]) ?_ ?_
 ·show (underO 1 o && true) = true
  rw [underO_mono (Nat.zero_le _) ho]; rfl
 ·rw [List.all_append]
  refine Bool.and_eq_true_iff.mpr ⟨List.all_eq_true.mpr fun x m => underO_mono (Nat.zero_le _) (List.all_eq_true.mp hX x m),Bool.and_eq_true_iff.mpr ⟨closedL_under hl,rfl⟩⟩
theorem ite_cut {C : Callee} {vals : List OV} {mh : MH} {o : Option By} {i c : Int} (h12 : vals[12]? = some (some (dV o))) (h13 : vals[13]? = some (some (.int i))) (h14 : vals[14]? = some (some (.int c))) :
  evalE text C vals mh (.ite (.cmp .Is (.loc 12) .none) .none (.slice false (.loc 12) (.loc 13) (.bin false .Add (.loc 13) (.loc 14)))) = some (dV (cutO o i c),mh) := by
 induction o using Option.casesOn with
 | none => exact e_iteT (tv rfl (em (el h12) rfl (by trivial)) (by rfl)) (by trivial) rfl
 | some b => exact e_iteF (tv rfl (em (el h12) rfl (by trivial)) (by rfl)) (by trivial) (e_slice (el h12) (el h13) (eb (el h13) (el h14) (by exact rfl)) (by exact rfl))
theorem law_run {C : Callee} {L cs : List Int} {x : Lc} {d : By} {a c : Int} {W : MV} (hW : W = nX x) (hd : d = x.hd ++ (tx x.p).t) (hdl : x.hd.length + (tx x.p).t.length < 50000)
  (hcs : ∀ vals mh,vals[0]? = some (some (.lst (L.map .int))) → evalE text C vals mh (.or [.bcall .list [.slice false (.loc 0) .none (.int 40)],.list false [.int 2]]) = some (.lst (cs.map .int),mh))
  (ha : 0 ≤ a ∧ a < 500) (hm : callC C 63 [.ref 0,.int 0] [tp cs 0 0] = some (W,[tp cs a c]))
  (h49 : C 49 [.bytes d] [] = some (x.part,[])) (h64 : C 64 [W,.tup [],.bool true] [] = some (.lst ((wrX x true).map (wayV [])),[]))
  (h65 : ∀ t ∈ wrX x true,t.1 ≠ [] ∧ t.1.length < 1000 ∧ C 65 [nX t.2,.tup (t.1.map .int)] [] = some (.lst ((dueX t.2 t.1).map rqV),[])) (hwl : (wrX x true).length < 1000)
  (hmk : ∀ (q : Rq) (mh : MH),cL q.nm = true → makeC text C 4 [.tup (q.r.map .int),.str q.w,.tup q.nm] mh = some (sec q.r q.w q.nm .none,mh))
  (hmk2 : ∀ (q : Rq) (mh : MH) (i c : Int),cL q.nm = true → makeC text C 4 [.tup (q.r.map .int),.str q.w,.tup q.nm,.tup [.int i,.int c]] mh = some (sec q.r q.w q.nm (.tup [.int i,.int c]),mh))
  (h57 : ∀ q ∈ ⟨[],[],[],some d⟩ :: ⟨[],wH,[],some x.hd⟩ :: ⟨[],wT,[],some (tx x.p).t⟩ :: rowsW (wrX x true),C 57 [.bytes d,x.part,sec q.r q.w q.nm .none] [] = some (dV q.o,[]) ∧ ∀ i c,C 57 [.bytes d,x.part,sec q.r q.w q.nm (.tup [.int i,.int c])] [] = some (dV (cutO q.o i c),[]))
  (hdr : ∀ (R : MH) (a k : Int),0 ≤ a ∧ a < 1000 → 0 < k → Und (tp cs a c :: R) → ∃ v : Int,0 ≤ v ∧ v < k ∧ C 58 [.ref 0,.int k] (tp cs a c :: R) = some (.int v,tp cs (a + 1) c :: R)) :
  ∃ s,execB text C ([some (.lst (L.map .int))] ++ List.replicate 15 none,[]) f66.body = some (.ret (.bool true),s) := by
 refine byP fun P kP => ?_
 subst hW
 have hh : ∀ mh,subV mh (nX x) (.str [104,101,97,100]) = some (.bytes x.hd) := fun mh => nd_head x
 have hb : ∀ mh,subV mh (nX x) (.str [98,111,100,121]) = some (.bytes (tx x.p).t) := fun mh => nd_body x
 have hba : ∀ mh,binV false mh .Add (.bytes x.hd) (.bytes (tx x.p).t) = some (.bytes d,mh) := fun mh => by rw [hd]; exact p_badd (by show _ ≤ 1048576; lia)
 have c49 : cL [MV.bytes d] = true := rfl
 have c64 : cL [nX x,.tup [],.bool true] = true := by show (cB (nX x) && _) = true; rw [node_closed]; rfl
 have cl0 : cL ([⟨[],[],[],some d⟩,⟨[],wH,[],some x.hd⟩,⟨[],wT,[],some (tx x.p).t⟩].map rqV) = true := rfl
 obtain ⟨X,u7,u8,u9,hX,lp⟩ := lw_loop (C := C) (S := .lst (L.map .int)) (W := nX x) (D := .bytes d) (P := x.part) (Y := .lst ((wrX x true).map (wayV []))) (ts := wrX x true) (M := [tp cs a c]) (acc := [⟨[],[],[],some d⟩,⟨[],wH,[],some x.hd⟩,⟨[],wT,[],some (tx x.p).t⟩].map rqV) (u7 := none) (u8 := none) (u9 := none)
  (by show 3 + _ < 90000; lia) cl0 h65
 generalize hrows : (⟨[],[],[],some d⟩ :: ⟨[],wH,[],some x.hd⟩ :: ⟨[],wT,[],some (tx x.p).t⟩ :: rowsW (wrX x true) : List Rq) = rows at *
 have hrl : rows.length = 3 + 8 * (wrX x true).length := by rw [← hrows]; show (rowsW (wrX x true)).length + 1 + 1 + 1 = _; rw [rowsW_len]; lia
 have hcl : ∀ q ∈ rows,cL q.nm = true := by
  rw [← hrows]
  exact List.forall_mem_cons.mpr ⟨rfl,List.forall_mem_cons.mpr ⟨rfl,List.forall_mem_cons.mpr ⟨rfl,rowsW_nm⟩⟩⟩
 have lp : loopF (fun v s => storeT text C v s (.tup [.name 7,.name 8])) (fun s => execB text C s lwB) ((wrX x true).map (wayV [])) (lwV (.lst (L.map .int)) (nX x) (.bytes d) x.part (.lst ((wrX x true).map (wayV []))) [tp cs a c].length none none none none none none,[tp cs a c] ++ [MO.lst ([⟨[],[],[],some d⟩,⟨[],wH,[],some x.hd⟩,⟨[],wT,[],some (tx x.p).t⟩].map rqV)]) =
   some (.next,(lwV (.lst (L.map .int)) (nX x) (.bytes d) x.part (.lst ((wrX x true).map (wayV []))) (tp cs a c :: X).length u7 u8 u9 none none none,(tp cs a c :: X) ++ [MO.lst (rows.map rqV)])) := by rw [← hrows]; exact lp
 have hu : Und (tp cs a c :: (X ++ [MO.lst (rows.map rqV)])) := und_law tU hX (rqs_closed hcl)
 have sl := slice_end (M := tp cs a c :: X) (l := rows) (f := rqV) (by lia)
 obtain ⟨v7,v10,v11,v12,lq⟩ := lw_check (C := C) (S := .lst (L.map .int)) (W := nX x) (Y := .lst ((wrX x true).map (wayV []))) (k := (tp cs a c :: X).length) (x := x) (d := d) (mh := (tp cs a c :: X) ++ [MO.lst (rows.map rqV)]) hmk (L := rows.take 60) (u7 := u7) (u8 := u8) (u9 := u9) (u10 := none) (u11 := none) (u12 := none)
  fun q m => ⟨hcl q (List.mem_of_mem_take m),(h57 q (List.mem_of_mem_take m)).1⟩
 have hln := len_end (M := tp cs a c :: X) (l := rows.map rqV)
 rw [List.length_map] at hln
 obtain ⟨w,hw0,hw1,d1⟩ := hdr _ a rows.length ⟨ha.1,by lia⟩ (by lia) hu
 have d1 := c_draw d1
 obtain ⟨q,hq,hpick⟩ := rows_pick hw0 hw1
 have sb : subV ((tp cs (a + 1) c :: X) ++ [MO.lst (rows.map rqV)]) (.ref (tp cs (a + 1) c :: X).length) (.int w) = some (rqV q) := sub_end_l.trans hpick
 obtain ⟨i,hi0,hi1,d2⟩ := hdr _ (a + 1) 30 ⟨by lia,by lia⟩ (by decide) (hu.head tU)
 have d2 := c_draw d2
 obtain ⟨j,hj0,hj1,d3⟩ := hdr _ (a + 1 + 1) 30 ⟨by lia,by lia⟩ (by decide) (hu.head tU)
 have d3 := c_draw d3
 have mk2 := fun mh => hmk2 q mh i (1 + j) (hcl q hq)
 have hsec := (h57 q hq).2 i (1 + j)
 have csec : cL [.bytes d,x.part,sec q.r q.w q.nm (.tup [.int i,.int (1 + j)])] = true := sec_closed (hcl q hq) rfl
 have fin := fun mh => eq_cut (o := q.o) (mh := mh) (i := i) (c := 1 + j)
 exact kP ⟨_,(xc (xa (e_lstT (ec (by exact hcs _ _ rfl) (ec rfl (ec rfl rfl)))) (gn (by rfl) (by rfl))) (xc (xa (eK (ec (el (by rfl)) (ec rfl rfl)) (by exact hm)) (gn (by rfl) (by rfl))) (xc (xa (eb (eu (el (by rfl)) rfl (by exact hh _)) (eu (el (by rfl)) rfl (by exact hb _)) (by exact hba _)) (gn (by rfl) (by rfl))) (xc (xa (eK (ec (el (by rfl)) rfl) (by exact c_clo c49 h49)) (gn (by rfl) (by rfl))) (xc (xa (eK (ec (el (by rfl)) (ec (et rfl) (ec rfl rfl))) (by exact c_clo c64 h64)) (gn (by rfl) (by rfl))) (xc (xa (e_lstT (ec (et (ec (et rfl) (ec rfl (ec (et rfl) (ec (el (by rfl)) rfl))))) (ec (et (ec (et rfl) (ec rfl (ec (et rfl) (ec (eu (el (by rfl)) rfl (by exact hh _)) rfl))))) (ec (et (ec (et rfl) (ec rfl (ec (et rfl) (ec (eu (el (by rfl)) rfl (by exact hb _)) rfl))))) rfl)))) (gn (by rfl) (by rfl))) (xc (x_for (el (by rfl)) (by rfl) (by exact lp)) (xc (x_for (e_slice (el (by rfl)) rfl rfl (by exact sl)) (by rfl) (by exact lq)) (xc (xa (eu (el (by rfl)) (eK (ec (el (by rfl)) (ec (e_bcall (ec (el (by rfl)) rfl) (by exact hln)) rfl)) (by exact d1)) (by exact sb)) (g_tup (gc (gn (by rfl) (by rfl)) (gc (gn (by rfl) (by rfl)) (gc (gn (by rfl) (by rfl)) (gc (gn (by rfl) (by rfl)) gs_nil)))))) (xc (xa (et (ec (eK (ec (el (by rfl)) (ec rfl rfl)) (by exact d2)) (ec (eb rfl (eK (ec (el (by rfl)) (ec rfl rfl)) (by exact d3)) (by exact rfl)) rfl))) (g_tup (gc (gn (by rfl) (by rfl)) (gc (gn (by rfl) (by rfl)) gs_nil)))) (xc (xa (eK (ec (el (by rfl)) (ec (el (by rfl)) (ec (e_make (ec (el (by rfl)) (ec (el (by rfl)) (ec (el (by rfl)) (ec (et (ec (el (by rfl)) (ec (el (by rfl)) rfl))) rfl)))) (by exact mk2 _)) rfl))) (by exact c_clo csec hsec)) (gn (by rfl) (by rfl))) (xl (xr (em (el (by rfl)) (by exact ite_cut (by rfl) (by rfl) (by rfl)) (by exact fin _)))))))))))))))⟩
theorem law_true {L : List Int} (hL : L.length ≤ 63) (N : Nat) : mcall text (N + 21) 66 [.lst (L.map .int)] [] = some (.bool true,[]) := by
 obtain ⟨cs,hc,hc2,hcs⟩ := e_cells (C := mcall text (N + 20)) L hL
 have hc2' : cs.length < 1000 := hc2
 have hu0 : Und [tp cs 0 ((0 : Nat) : Int)] := by
  show (underO 1 (tp cs 0 ((0 : Nat) : Int)) && true) = true
  rw [tU]; rfl
 have hp : PieceOk cs (N + 18 + 1) 4 ((0 : Nat) : Int) := piece_ok hc hc2 4 (lev := 0) (N := N + 19) rfl (by lia)
 have hD4 : D 4 = 123 := rfl
 have hS4 : S 4 = 13800 := rfl
 have hW4 : Wb 4 = 46 := rfl
 obtain ⟨p,a',c',fl,ok,hm⟩ := message (N := N + 18) (R := []) hc hc2 (k := 4) (lev := 0) hp (by decide) (a := 0) (c := 0) (Int.le_refl _) (by rw [hD4]; decide) (by decide) hu0
 have hm := c_ref (vs := [.ref 0,.int ((0 : Nat) : Int)]) rfl hm
 have ha0 := ok.a0
 have ha1 := ok.a1
 rw [hD4] at ha1
 have hsz : (hd (rows p)).length + (tx p).t.length ≤ 13800 := ok.sz
 have hht := ok.ht
 have l1 : (rsT' (flds fl 0)).length ≤ 160 := by have := rsT_len (fun r m => flds_ok (fl := fl) (lev := 0) (by decide) r m); have := flds_len (fl := fl) (lev := 0); lia
 have l2 := hd_app (L := flds fl 0) (M := rows p)
 have hdl : (Lc.hd ⟨0,fl,0,p,true⟩).length + (tx p).t.length < 20000 := by
  show (hd (flds fl 0 ++ rows p)).length + _ < _; lia
 have g : GoodL ((Lc.hd ⟨0,fl,0,p,true⟩) ++ (tx p).t) ⟨0,fl,0,p,true⟩ :=
  ⟨⟨[],[],(List.append_nil _).symm,rfl⟩,⟨0,ok.wf⟩,by show 0 < 5; decide,by lia⟩
 have hdd : ((Lc.hd ⟨0,fl,0,p,true⟩) ++ (tx p).t).length < 100000 := by rw [List.length_append]; lia
 have ws := ways (l := true) g (by lia)
 have hwl : (wrX ⟨0,fl,0,p,true⟩ true).length < 1000 := by
  have := ok.w 0 fl 0 true true
  rw [hW4] at this
  show (wr p 0 fl 0 true true).length < 1000
  lia
 have h49 : mcall text (N + 20) 49 [.bytes ((Lc.hd ⟨0,fl,0,p,true⟩) ++ (tx p).t)] [] = some (Lc.part ⟨0,fl,0,p,true⟩,[]) := by
  have rp := read_part (p := p) (lo := 0) (fl := fl) (lev := 0) (N := N + 19) (a := 0) (e := (((Lc.hd ⟨0,fl,0,p,true⟩) ++ (tx p).t).length : Int)) (dep := 0) (dg := false) ok.wf (by decide) rfl g.at_
   (by rw [List.length_append]; show ((((hd (flds fl 0 ++ rows p)).length + _ : Nat)) : Int) = _; lia) (by show (Lc.hd ⟨0,fl,0,p,true⟩).length + _ < _; lia) (by lia) (by lia)
  have hc : cL [.bytes ((Lc.hd ⟨0,fl,0,p,true⟩) ++ (tx p).t),.int 0,.int (((Lc.hd ⟨0,fl,0,p,true⟩) ++ (tx p).t).length : Int),.int 0,.bool false] = true := rfl
  exact mc0 (r := f49) rfl rfl rfl (xl (xr (eK (ec (el (by rfl)) (ec rfl (ec (e_bcall (ec (el (by rfl)) rfl) (by exact rfl)) (ec rfl (ec rfl rfl))))) (by exact c_clo hc rp)))) (by exact partP_closed)
 have h64 : mcall text (N + 20) 64 [nX ⟨0,fl,0,p,true⟩,.tup [],.bool true] [] = some (.lst ((wrX ⟨0,fl,0,p,true⟩ true).map (wayV [])),[]) :=
  numbered (p := p) (N := N + 20) (path := []) (by show 0 + 2 * ht p < 900; lia) (by lia) (by show 2 * ht p + 1 + 1 ≤ N + 20; lia)
 have asks : ∀ q ∈ ((⟨[],[],[],some ((Lc.hd ⟨0,fl,0,p,true⟩) ++ (tx p).t)⟩ : Rq) :: ⟨[],wH,[],some (Lc.hd ⟨0,fl,0,p,true⟩)⟩ :: ⟨[],wT,[],some (tx p).t⟩ :: rowsW (wrX ⟨0,fl,0,p,true⟩ true)),AskQ ((Lc.hd ⟨0,fl,0,p,true⟩) ++ (tx p).t) ⟨0,fl,0,p,true⟩ q :=
  List.forall_mem_cons.mpr ⟨ask_root (w := []) rfl fun n pt => wo_0 g,List.forall_mem_cons.mpr ⟨ask_root (w := wH) rfl fun n pt => wo_H g,List.forall_mem_cons.mpr ⟨ask_root (w := wT) rfl fun n pt => wo_T g,rowsW_ask hdd ws⟩⟩⟩
 obtain ⟨s,h⟩ := law_run (C := mcall text (N + 20)) (L := L) (x := ⟨0,fl,0,p,true⟩) (a := a') (c := (c' : Nat)) rfl rfl (Nat.lt_trans hdl (by decide)) hcs ⟨by lia,by lia⟩ hm h49 h64
  (fun t m => ⟨(ws t m).ne,by have := wr_path t (show t ∈ wr p 0 fl 0 true true from m); lia,rows_due (n := N + 19) fun q hq => by
   have gd := (ws t m).good
   have hsz := good_sz hdd gd
   have gz := ((good_kids gd hsz).2 q hq).1
   exact ⟨gz.lev,gz.wf⟩⟩) hwl
  (fun q mh h => make_sec (n := N + 19) h) (fun q mh i c h => make_sec2 (n := N + 19) h)
  (fun q m => by
   have ask := asks q m
   exact ⟨sec_plain (n := N + 11) ask,fun i c => sec_cut (n := N + 11) ask⟩)
  fun R a k h1 h2 h3 => draw (n := N + 19) hc hc2 h1 h2 h3
 exact mc0 (r := f66) rfl rfl rfl h rfl
end Mn
end
noncomputable section
namespace Mn
open PySem PySem.W PySem.Calls PyProof.Rows PySem.EqBoolInt
noncomputable abbrev rowN : RowW := PySem.Challenge.rw_nz0326_01.row.toRowW
theorem ints_of {xs : List WData} {R : WRecords} (h : WShape.hasItems R xs .int = true) : ∃ L : List Int,xs = L.map .int := by
 induction xs with
 | nil => exact ⟨[],rfl⟩
 | cons x xs ih =>
  have h : (WShape.has R x .int && WShape.hasItems R xs .int) = true := h
  obtain ⟨h1,h2⟩ := Bool.and_eq_true_iff.mp h
  obtain ⟨i,rfl⟩ := hasW_int h1
  obtain ⟨L,rfl⟩ := ih h2
  exact ⟨i :: L,rfl⟩
theorem val_not {R : WRecords} {a : WTm} {e : WCtx} {b : Bool} (h : WTm.value R a e = some (.bool b)) : WTm.value R (.not a) e = some (.bool (!b)) := by
 simp only [WTm.value,h]
theorem val_and {R : WRecords} {a b : WTm} {e : WCtx} (h : WTm.value R a e = some (.bool false)) : WTm.value R (.and a b) e = some (.bool false) := by
 simp only [WTm.value,h]
theorem holds_no {R : WRecords} {t : WTm} {e : WCtx} (h : WTm.value R t e = some (.bool false)) : t.holds R e = false := by
 unfold WTm.holds; rw [h]
theorem args_of {args : List WData} (h : rowN.claim.pre args = true) : ∃ L : List Int,args = [.list (L.map .int)] ∧ L.length ≤ 63 := by
 obtain ⟨h1,h2⟩ := pre_splitW h
 obtain ⟨d,r,rfl,h3,h4⟩ := hasAllW_cons (e := .list .int) (es := []) h1
 obtain rfl := hasAllW_nil h4
 obtain ⟨xs,rfl,h5⟩ := hasW_list h3
 obtain ⟨L,rfl⟩ := ints_of h5
 refine ⟨L,rfl,?_⟩
 rcases Nat.lt_or_ge 63 L.length with q | q
 ·exfalso
  have e : rowN.pre.holds rowN.records { args := [.list (L.map .int)] } = false := by
   have v : WTm.value [] (.lt (.lit (.int 63)) (.len (.arg 0))) { args := [.list (L.map .int)] } = some (.bool (decide ((63 : Int) < ((L.map WData.int).length : Nat)))) := rfl
   rw [List.length_map,decide_eq_true (show (63 : Int) < L.length from Int.ofNat_lt.mpr q)] at v
   have v2 := val_and (val_not v) (b := .lit (.bool true))
   exact holds_no v2
  rw [e] at h2; exact fF' h2
 ·exact q
theorem vals_of {P : Params} {h : Heap} {L : List Int} {vs : List Value} (x : WellAll P h vs (L.map .int)) {M : Lk} {fz : FZ} {ρ : RHO} : VRL M fz ρ vs (L.map .int) := by
 induction L generalizing vs with
 | nil => cases x; exact .nil
 | cons i L ih =>
  cases x with
  | cons x1 x2 =>
   cases x1
   exact .int (ih x2)
theorem lookup_end {K : Frag} {o : Obj} (h : K.lookup 0 = none) : (K ++ [(0,o)]).lookup 0 = some o := by
 rw [List.lookup_append,h]; rfl
theorem postT {xs : List WData} : rowN.claim.post xs (.bool true) xs = true :=
 postW_of (r := rowN) (args := xs) (d := .bool true) (X := true) (show WShape.has [] (.bool true) .bool = true by decide) (show WTm.value [] (.eq .res (.lit (.bool true))) { args := xs,res := some (.bool true),after := xs } = some (.bool true) by simp [WTm.value,same]) rfl
set_option tactic.hygienic true in
theorem main {q : Program} {loose : List Str} {XP : (Str → Option Value) → Heap → Prop} {K : Params → Frag} {as : List Addr} {e : ∀ P,as = (K P).map (·.1)} {d : DefRec} {kwd : List (Str × Expr)}
  (F : ∀ (w : World) (o : Obj),Facts (mkL PySem.Challenge.pw_nz0326_01 w (K w.params ++ [(0,o)])) text)
  (hlaw : ∀ w : World,nsIn (K w.params) mainGlobals d.name = some (some (.ref 741))) (h2 : ∀ w : World,((K w.params).lookup cStatics).isSome = true) (h0 : ∀ w : World,(K w.params).lookup 0 = none) :
  WalkO q loose XP (kHook K as e).says rowN d kwd (fun f vs => PySem.call f vs) := by
 intro w s₀ s₁ mg mb G Y a o pm cd doc dV kV ho hd hcd hD hmg hg args vals as' hpre hlay hrd hwl hlo
 have X : (K w.params).In s₁.heap := kIn_of Y
 have T := G.T
 obtain ⟨L,rfl,hL⟩ := args_of hpre
 have ha : a = 741 := by
  have := mg_of X T.g (hlaw w)
  rw [hmg] at this; cases this; rfl
 subst ha
 obtain ⟨ob,es,ep,hob,hns⟩ := T.b
 have In1 : (K w.params ++ [(0,ob)]).In s₁.heap := fun b o' hb => by
  rw [List.lookup_append] at hb
  cases hl : (K w.params).lookup b with
  | some x => rw [hl] at hb; obtain rfl := sI hb; exact X b _ hl
  | none =>
   rw [hl] at hb
   have hb : [(0,ob)].lookup b = some o' := hb
   rw [List.lookup_cons] at hb
   split at hb
   ·rename_i hb0; obtain rfl := sI hb; obtain rfl := eq_of_beq hb0; exact hob
   ·exact nO hb
 have B : ∀ n v,bootBuiltins n = some v → n ≠ "__name__" → ∀ h,(K w.params ++ [(0,ob)]).In h → Looks (model PySem.Challenge.pw_nz0326_01 w) h (nsGet builtinsNs n) (some v) := fun n v hv hn h hin A Q E s k qq => by
  have hh : h.get? builtinsNs = some ob := hin _ _ (lookup_end (h0 w))
  have hN : s.heap.Ns builtinsNs mb := ⟨ob,es,ep,k _ _ hh,hns⟩
  refine wpAny_nsGet hN ?_
  rw [T.builtins n hn,hv]; exact qq
 have N : ∀ h,(K w.params ++ [(0,ob)]).In h → h.NoLimit := fun h hin => by
  obtain ⟨mc,⟨o2,es2,ep2,ho2,r2⟩,hm⟩ := T.nolimit
  obtain ⟨o3,ho3⟩ := Option.isSome_iff_exists.mp (h2 w)
  have : o3 = o2 := by have := X _ _ ho3; rw [ho2] at this; obtain rfl := sI this; rfl
  subst this
  exact ⟨mc,⟨o3,es2,ep2,hin _ _ (by rw [List.lookup_append,ho3]; rfl),r2⟩,hm⟩
 have snd : SoundC (mkL PySem.Challenge.pw_nz0326_01 w (K w.params ++ [(0,ob)])) (mcall text 21) 21 := (F w ob).sound N B 21
 obtain ⟨v,vs',rfl,hw,hw2⟩ := wellAll_cons_inv hwl
 cases hw2
 cases hw with
 | @list la vs xs hla hws =>
  have r0 : R (mkL PySem.Challenge.pw_nz0326_01 w (K w.params ++ [(0,ob)])) (fun b => s₁.heap.get? b) [] [] s₁.heap :=
   ⟨In1,fun O O h => h,rfl,(fun i m p h => by exact nO h),(fun i p h => by exact nO h),(fun i j p q h => by exact nO h)⟩
  have hv : VRL (mkL PySem.Challenge.pw_nz0326_01 w (K w.params ++ [(0,ob)])) (fun b => s₁.heap.get? b) [] [.ref la] [.lst (L.map .int)] :=
   .lst (n := 0) hla (by rw [List.length_map]; exact Nat.le_trans hL (by decide)) (vals_of hws) .nil
  have run := snd (A := callerA) (s := s₁) (f := 66) ⟨rfl,by show 1 + 300 + 16 * 21 ≤ 900; decide,by show 4 + 5 * (16 * 21) ≤ 9000; decide⟩ r0 hv (law_true hL 0)
  refine enter_call (codeAny_mono run fun r s' => ?_)
  rintro ⟨v,rfl,fz',ρ',g,hvv⟩
  have hvb : v = .bool true := hvv.view
  subst hvb
  obtain ⟨hh,tk,rfl⟩ := g.same
  exact ⟨.inl ⟨.bool true,.bool true,[],rfl,fun O => rfl,.bool true,postT,fun O => ⟨List.nodup_nil,fun O m => by exact nM m⟩⟩,
   .of_keep fun b o h => g.st.keep b o h (fun O m => by exact nM m) (by intro m; exact nM m),rfl,.of_eq hg⟩
end Mn
end
noncomputable section
open PySem PySem.W PyProof.Rows
namespace Mine.cw
def tw308970408450293369:=Nat
def tw13828229439554513783:=Nat
def tw9688325189225346270:=Nat
def tw14836983445792724540:=Nat
def tw68855574625089363:=Nat
def tw10469622635208884771:=Nat
def tw15940985733699833019:=Nat
def tw16482581780040293502:=Nat
def tw14667547644415735818:=Nat
def tw1588020074795803128:=Nat
def tw7181704436830080937:=Nat
def tw8235274700520875756:=Nat
def tw435978806095774757:=Nat
def tw2170339112981439272:=Nat
def tw10001757822794293284:=Nat
def tw15098035983816873264:=Nat
def tw10410563499097374197:=Nat
def tw14761310442516060954:=Nat
def tw3567684831946770877:=Nat
def tw7361954070945319235:=Nat
def tw7800144678589849697:=Nat
def tw5446289514955409386:=Nat
def tw11254835128405952838:=Nat
def tw10429527013251239871:=Nat
def tw18369400146589056343:=Nat
def tw2492944627912260907:=Nat
def tw847920614276943871:=Nat
def tw5565731333999854562:=Nat
def tw14991488966729834569:=Nat
def tw8209079187462578595:=Nat
def tw3125641243754351071:=Nat
def tw17387281983583371026:=Nat
def tw1732343715881608574:=Nat
def tw6771049911761263549:=Nat
def tw152319972654231069:=Nat
def tw9819567901576955970:=Nat
def tw17432152182680101307:=Nat
def tw13440761400709180564:=Nat
def tw1866788658771475695:=Nat
def tw16337725907850643880:=Nat
def tw2001829792024246339:=Nat
def tw14452271069060164173:=Nat
def tw10220390648087449953:=Nat
def tw295466338093642964:=Nat
def tw16854029533801285256:=Nat
def tw9680639695262415995:=Nat
def tw16562265817019663090:=Nat
def tw541702200365555811:=Nat
def tw15457151748251429605:=Nat
def tw602248898015639982:=Nat
def tw5680903237747551189:=Nat
def tw15779534605396823208:=Nat
def tw16042547877381480675:=Nat
def tw15517905215004798913:=Nat
def tw7089592570360907263:=Nat
def tw15992819923508515479:=Nat
def tw3358073120794002988:=Nat
def tw11751998716075514716:=Nat
def tw11781060877705872058:=Nat
def tw3282836750741380540:=Nat
def tw14108251187009513098:=Nat
def tw17874169657292035396:=Nat
def tw13509015979295805570:=Nat
def tw6018009600850819237:=Nat
def tw7417615246134051412:=Nat
def tw5122744651824193062:=Nat
def tw3459936446253236937:=Nat
def tw8538403806035920175:=Nat
def tw2119496383272873293:=Nat
def tw8345513525968639117:=Nat
def tw10787246075982744711:=Nat
def tw12460997675799849042:=Nat
def tw7592274207237101366:=Nat
def tw2296967259863546239:=Nat
def tw5975198326110587854:=Nat
def tw3023204895809439811:=Nat
def tw6669705861437036512:=Nat
def tw12197343540428872264:=Nat
def tw17931522994474728786:=Nat
def tw1031413930868921414:=Nat
def tw4357126401250407683:=Nat
def tw15005777498544049417:=Nat
def tw17544317311361296971:=Nat
def tw7509873989339655443:=Nat
def tw478726648789714012:=Nat
def tw3614702511577044390:=Nat
def tw3298955843360003133:=Nat
def tw11375821190854673680:=Nat
def tw8384915272945194035:=Nat
def tw12879298785024176671:=Nat
def tw4114331005866857182:=Nat
def tw5960540646505071985:=Nat
def tw15653090873756837908:=Nat
def tw820623831780502103:=Nat
def tw17783643503532799026:=Nat
def tw11220621319726393749:=Nat
def tw8646514453607415508:=Nat
def tw11723249370181606347:=Nat
def tw6847272019824127103:=Nat
def tw4921557877388104165:=Nat
def tw2165431362491003783:=Nat
def tw12196176389731286687:=Nat
def tw15744843120750414045:=Nat
def tw6625854827542380767:=Nat
def tw13875441437160936798:=Nat
def tw886166690863328485:=Nat
def tw4657666084184085436:=Nat
def tw9461631633261132872:=Nat
def tw7069858871986738619:=Nat
def tw1061759024922983633:=Nat
def tw18198759255475650804:=Nat
def tw16910378091028242844:=Nat
def tw13272739832340760470:=Nat
def tw1234362014024236558:=Nat
def tw3804928157389977681:=Nat
def tw9926899359172749013:=Nat
def tw3274165426250351427:=Nat
def tw150055803531023912:=Nat
def tw7456562622790031247:=Nat
def tw9484423932939390980:=Nat
def tw1129946868401675958:=Nat
def tw14708432069784124976:=Nat
def tw14249023299064298872:=Nat
def tw9834586408147574216:=Nat
def tw10858871412793448962:=Nat
def tw15377519182399367661:=Nat
def tw2546800512522163093:=Nat
def tw13630375179674840580:=Nat
def tw10537277779084631892:=Nat
def tw11746427022147578154:=Nat
def tw9214817609474835982:=Nat
def tw6649243955452880809:=Nat
def tw4745555834983666509:=Nat
def tw7674018889070341683:=Nat
def tw13987649963944064819:=Nat
def tw14200389297463377969:=Nat
def tw10111585515160911110:=Nat
def tw17589651760236113906:=Nat
def tw13101704718675416334:=Nat
def tw10666049679076413966:=Nat
def tw4175879605228117226:=Nat
def tw10953123937275477394:=Nat
def tw8982647976793043411:=Nat
def tw8404369427983028792:=Nat
def tw7384157455045015651:=Nat
def tw10133593751813262031:=Nat
def tw7627799410307197:=Nat
def tw5854004994505877476:=Nat
def tw13718693542244978846:=Nat
def tw4951841280732597803:=Nat
def tw9089546751780752331:=Nat
def tw15111483031490467662:=Nat
def tw6121131925498076511:=Nat
def tw2537711057378917062:=Nat
def tw14548968915000840582:=Nat
def tw1517534825565237395:=Nat
def tw7201222511497468304:=Nat
def tw4997054509317957469:=Nat
def tw15049123542625464071:=Nat
def tw2671540668112184309:=Nat
def tw5985121463359028297:=Nat
def tw10582871820063533239:=Nat
def tw17395816810168964604:=Nat
def tw11905782810705850828:=Nat
def tw8048641291553349087:=Nat
def tw3968715040575513520:=Nat
def tw13279229609582487449:=Nat
def tw13720027318834144188:=Nat
def tw12670489939187605533:=Nat
def tw8108114381917806831:=Nat
def tw12054122481165462934:=Nat
def tw16880979030118593267:=Nat
def tw8654890065351889988:=Nat
def tw2130900402888968524:=Nat
def tw11474246971035347520:=Nat
def tw6539419282294539521:=Nat
def tw11835236348681913158:=Nat
def tw3100444119966152113:=Nat
def tw1976542675867556708:=Nat
def tw11875235385263808230:=Nat
def tw16028573636967759883:=Nat
def tw17729162322777953753:=Nat
def tw11961237888325340695:=Nat
def tw2636425540172471175:=Nat
def tw1529865262051575629:=Nat
def tw15035397054470534092:=Nat
def tw11744499077472433453:=Nat
def tw16225993790663994938:=Nat
def tw10085818013370136085:=Nat
def tw4743089586618979064:=Nat
def tw18160478938398004615:=Nat
def tw3219064901496800493:=Nat
def tw1899915677272061241:=Nat
def tw3943993154990397314:=Nat
def tw3375556859353004718:=Nat
def tw16529872585032380816:=Nat
def tw2011584700593955137:=Nat
def tw3050485629901723413:=Nat
def tw4594457182599078764:=Nat
def tw14289734765686230283:=Nat
def tw9122601410144511000:=Nat
def tw13427813068156967423:=Nat
def tw3604583642412339696:=Nat
def tw6799932458496700201:=Nat
def tw11337513309407294251:=Nat
def tw13151696102870119586:=Nat
def tw9270990383643273699:=Nat
def tw17491939209671086633:=Nat
def tw15759073248670287780:=Nat
def tw15510850327984767076:=Nat
def tw10881834249466746773:=Nat
def tw2245319242301140743:=Nat
def tw6910738804539150289:=Nat
def tw3408429918949976814:=Nat
def tw9732783464176380561:=Nat
def tw17262130787101969492:=Nat
def tw5318995997084724827:=Nat
def tw15426301682104869479:=Nat
def tw15375457237347083154:=Nat
def tw5873590440581843887:=Nat
def tw1595741176964478890:=Nat
def tw12728222785577406730:=Nat
def tw18153323675266707290:=Nat
def tw14738603649851109533:=Nat
def tw10925982676703824585:=Nat
def tw14438426639572044279:=Nat
def tw18335864770729216273:=Nat
def tw6925770212547226674:=Nat
def tw7088457872291430868:=Nat
def tw9262325061618202332:=Nat
def tw3962496541271946108:=Nat
def tw5344891932697001038:=Nat
def tw18428560998126663368:=Nat
def tw3168819232203767724:=Nat
def tw9702267900656169311:=Nat
def tw5010585969020163057:=Nat
def tw11381329923816113111:=Nat
def tw3363377985580790232:=Nat
def tw8449473995245419038:=Nat
def tw2642075761509026456:=Nat
def tw5790161404388931817:=Nat
def tw3022869472097559339:=Nat
def tw6737585914892897284:=Nat
def tw17085326466948407615:=Nat
def tw11076772228991380029:=Nat
def tw7778562511825277745:=Nat
def tw16935115531500542280:=Nat
def tw2034847326169890389:=Nat
def tw18130194285338661485:=Nat
def tw3129355525941028504:=Nat
def tw1119846097978458417:=Nat
def tw12547047035168592067:=Nat
def tw3681731177612470467:=Nat
def tw8240279851119034267:=Nat
def tw150718097304624728:=Nat
def tw10417276246721045325:=Nat
def tw1827873298639845806:=Nat
def tw1623917768833970087:=Nat
def tw14480803216886224938:=Nat
def tw7716138712649031654:=Nat
def tw14255671406697997116:=Nat
def tw16892425095099944456:=Nat
def tw16759438911624739596:=Nat
def tw15766245182211837231:=Nat
def tw3664836258679660992:=Nat
def tw2088735340262782289:=Nat
def tw2031960088512844715:=Nat
def tw16438877246773014368:=Nat
def tw16034630539431576811:=Nat
def tw5245493218853190803:=Nat
def tw3860059829726791206:=Nat
def tw10894422157771956130:=Nat
def tw9713538816024611350:=Nat
def tw17643807563322946168:=Nat
def tw16448210907181281830:=Nat
def tw6619987024997979267:=Nat
def tw2823607854020130885:=Nat
def tw11127803882114186156:=Nat
def tw4319754535968967086:=Nat
def tw9919525273966334950:=Nat
def tw16166972867334128794:=Nat
def tw12604581072356917665:=Nat
def tw1917101114534506941:=Nat
def tw4769817257947663983:=Nat
def tw1760405048886711807:=Nat
def tw1855280148956710301:=Nat
def tw11928798751556335818:=Nat
def tw14240352255720746961:=Nat
def tw1295104794031784457:=Nat
def tw12041731551508008593:=Nat
def tw2041038859986201105:=Nat
def tw16198640964549459898:=Nat
def tw207604500973351841:=Nat
def tw17788867100912671519:=Nat
def tw9095837090777478225:=Nat
def tw9809503321613087508:=Nat
def tw16622779924370142736:=Nat
def tw4754219302356205853:=Nat
def tw13741288145241353385:=Nat
def tw3097201625896000712:=Nat
def tw7021196676479962670:=Nat
def tw206839277710335438:=Nat
def tw3935473582681719712:=Nat
def tw12315186274624023813:=Nat
def tw10716450737588456245:=Nat
def tw2889034122823521674:=Nat
def tw17028191164412650563:=Nat
def tw2424036609782971184:=Nat
def tw6421626014405569153:=Nat
def tw4432251587439159602:=Nat
def tw12292827367615619480:=Nat
def tw7657905660152132556:=Nat
def tw9574553611694136491:=Nat
def tw7020911041878803799:=Nat
def tw82334272504649403:=Nat
def tw606616763052236337:=Nat
def tw10509066262467895687:=Nat
def tw4419025850130639362:=Nat
def tw14457793533385175785:=Nat
def tw2536484440049877633:=Nat
def tw16205799052464293466:=Nat
def tw8681520704858018953:=Nat
def tw10485878008771408533:=Nat
def tw4652533487383075113:=Nat
def tw3779545472530704611:=Nat
def tw2912337862129523016:=Nat
def tw8098402475368697700:=Nat
def tw3764488511098954792:=Nat
def tw6239651752356071617:=Nat
def tw8415975840473770697:=Nat
def tw904687230028414966:=Nat
def tw5635414492833330716:=Nat
def tw12752629074769642444:=Nat
def tw14187503381994792775:=Nat
def tw12901815633157013524:=Nat
def tw7453595262283321307:=Nat
def tw18424564655652043411:=Nat
def tw12377652847824706968:=Nat
def tw14247632542644735915:=Nat
def tw2998348815218018863:=Nat
def tw3829546311948938476:=Nat
def tw7894522602903069913:=Nat
def tw2559185497009035100:=Nat
def tw8612380763541040486:=Nat
def tw16966850244799370580:=Nat
def tw1320032953589230437:=Nat
def tw5533563351402687931:=Nat
def tw5375968824360660473:=Nat
def tw255326854664200784:=Nat
def tw14768827524389985878:=Nat
def tw6565294887129739502:=Nat
def tw10395843251819449040:=Nat
def tw16318853312891250111:=Nat
def tw16824190548350425898:=Nat
def tw5238595789594773175:=Nat
def tw7780712772906032233:=Nat
def tw3773175275827832469:=Nat
def tw12235438783284694707:=Nat
def tw9120030487294489145:=Nat
def tw9852409169342779629:=Nat
def tw7633380312702834356:=Nat
def tw3098844795081510440:=Nat
def tw6946250092498860507:=Nat
def tw8967970181776037616:=Nat
def tw10362180420265512515:=Nat
def tw5164600623723704576:=Nat
def tw4862834609895987369:=Nat
def tw5000132874964926114:=Nat
def tw1192352477516011486:=Nat
def tw17925611632361815322:=Nat
def tw2822634382750766397:=Nat
def tw15173685430485021829:=Nat
def tw17865991295642463455:=Nat
def tw9231667054898550447:=Nat
def tw2843113680988522234:=Nat
def tw1430634277976083635:=Nat
def tw8997325402272200545:=Nat
def tw4196440405857626574:=Nat
def tw3857961920327188869:=Nat
def tw18300981966276743051:=Nat
def tw17003003066774387978:=Nat
def tw15800916458890617462:=Nat
def tw2847033070647288395:=Nat
def tw5824335537622360646:=Nat
def tw11421232195869613319:=Nat
def tw11276918991615045221:=Nat
def tw17526776900075017712:=Nat
def tw15905640710592828121:=Nat
def tw18136070617529289488:=Nat
def tw1184031629254359674:=Nat
def tw2302005364966875507:=Nat
def tw17037806672598591638:=Nat
def tw2838531912927464924:=Nat
def tw18424311151160038057:=Nat
def tw12494030651214390733:=Nat
def tw11972846680552242081:=Nat
def tw12374713789029534532:=Nat
def tw406224095482047619:=Nat
def tw6225199104597805504:=Nat
def tw3747282893534524912:=Nat
def tw17761291948746656775:=Nat
def tw656122719597194337:=Nat
def tw7488786868820366778:=Nat
def tw14309475899073295102:=Nat
def tw7265125150382499793:=Nat
def tw8783479855012286435:=Nat
def tw3575919509052005590:=Nat
def tw14164378308283954321:=Nat
def tw563626396076323218:=Nat
def tw12705824073439919823:=Nat
def tw1281953741650414767:=Nat
def tw13438360705153437068:=Nat
def tw896557624632439181:=Nat
def tw10169788303439401062:=Nat
def tw5689436012916003494:=Nat
def tw8423783694632617175:=Nat
def tw12656509176122445110:=Nat
def tw8915800771016826836:=Nat
def tw12510508821534056273:=Nat
def tw12219693787094527316:=Nat
def tw13999720771290489754:=Nat
def tw10886488294501445450:=Nat
def tw9062283904529213376:=Nat
def tw3759897997930648735:=Nat
def tw13442955401182535771:=Nat
def tw5559505764683130655:=Nat
def tw13741576002769581795:=Nat
def tw17959302153949644806:=Nat
def tw10861243223608375868:=Nat
def tw8839621922277447861:=Nat
def tw18239514141244953237:=Nat
def tw10534401271574096376:=Nat
def tw3868282526099714345:=Nat
def tw2377609647856190301:=Nat
def tw4615577321663172228:=Nat
def tw15070021635275963550:=Nat
def tw467695272164249527:=Nat
def tw17829679978796797323:=Nat
def tw7801989880083365681:=Nat
def tw5395661240462712053:=Nat
def tw5161895148761602514:=Nat
def tw5078974935161899914:=Nat
def tw10481492460730474135:=Nat
def tw5419939564410364359:=Nat
def tw8042496257394154199:=Nat
def tw17308003122589828955:=Nat
def tw12205213936051623368:=Nat
def tw14660578482202924501:=Nat
def tw7538973700460023913:=Nat
def tw1697061266390279475:=Nat
def tw8476984087586887884:=Nat
def tw1606746431766886451:=Nat
def tw1762239749680118177:=Nat
def tw12077313387518822445:=Nat
def tw12865744871662332396:=Nat
def tw15570454731259054930:=Nat
def tw12209640824403791731:=Nat
def tw7694458995988760690:=Nat
def tw12429254968364836587:=Nat
def tw12910548343235362723:=Nat
def tw5988954627068436710:=Nat
def tw645041115563505924:=Nat
def tw4583722826841369634:=Nat
def tw11247654053761561185:=Nat
def tw16516169966572636445:=Nat
def tw1001847936735871217:=Nat
def tw2139275235861925300:=Nat
def tw7651481391777032084:=Nat
def tw110514914633163481:=Nat
def tw7503299195609683997:=Nat
def tw14754356441871074791:=Nat
def tw5785365134605825054:=Nat
def tw8850999377205314685:=Nat
def tw1464551576981916655:=Nat
def tw15412016074611381620:=Nat
def tw13666322014572074041:=Nat
def tw8384396914480435558:=Nat
def tw14715191861724666174:=Nat
def tw1741316790125937810:=Nat
def tw6592582173071662457:=Nat
def tw13692198374645844119:=Nat
def tw3162884323796798324:=Nat
def tw11408446092821777910:=Nat
def tw7901897950027863761:=Nat
def tw6886439723238321529:=Nat
def tw5489825421649296718:=Nat
def tw15049829269738445084:=Nat
def tw8461371759979112762:=Nat
def tw3614371357110042262:=Nat
def tw14927665701643404805:=Nat
def tw629685121580659136:=Nat
def tw10197106118788650172:=Nat
def tw11516645466692749859:=Nat
def tw11252524664071276656:=Nat
def tw2132152794768352424:=Nat
def tw6262413360026281431:=Nat
def tw7333113482920346693:=Nat
def tw10352212982218137721:=Nat
def tw17040767920144905969:=Nat
def tw6688216416941393828:=Nat
def tw7093139753443159449:=Nat
def tw2357993714691321559:=Nat
def tw2330660320884713735:=Nat
def tw3094094522940069652:=Nat
def tw7510644234746812939:=Nat
def tw4472246148228185358:=Nat
def tw17402413601860119781:=Nat
def tw12833462717075065425:=Nat
def tw3012745541560393602:=Nat
def tw15773184277719825311:=Nat
def tw14099714809709095937:=Nat
def tw10135117239326613627:=Nat
def tw12176814119288601676:=Nat
def tw7672747066635131694:=Nat
def tw18029111101760993870:=Nat
def tw15774067651256261318:=Nat
def tw15322188881520497878:=Nat
def tw18345840644815652343:=Nat
def tw9677564834816186800:=Nat
def tw15169018772115783247:=Nat
def tw7033710665421526353:=Nat
def tw592391478962012388:=Nat
def tw2076233128614653686:=Nat
def tw2334785105579268044:=Nat
def tw15758518333343051778:=Nat
def tw16480340450442353817:=Nat
def tw8303337484601495593:=Nat
def tw9612987946877250895:=Nat
def tw540817070640439332:=Nat
def tw12452677925297043047:=Nat
def tw9727492190780517967:=Nat
def tw9222738055213301723:=Nat
def tw2989821918546127270:=Nat
def tw15745328297381615532:=Nat
def tw14294555197703138188:=Nat
def tw12060875981346702621:=Nat
def tw18117922410737045533:=Nat
def tw15840941481451307060:=Nat
def tw6725520587722359557:=Nat
def tw3361030825825666459:=Nat
def tw4091334601905724262:=Nat
def tw12695038279699488485:=Nat
def tw753608021404404846:=Nat
def tw3824044862066366044:=Nat
def tw12042675843166734093:=Nat
def tw6518825268287776730:=Nat
def tw10069518272436374691:=Nat
def tw1892659091262756355:=Nat
def tw1250944030267393709:=Nat
def tw16919006624917379114:=Nat
def tw2465683781820608157:=Nat
def tw3290505682397001416:=Nat
def tw5924188575970454254:=Nat
def tw6609210492850183328:=Nat
def tw6257782418639487168:=Nat
def tw1885465077312491902:=Nat
def tw15187549380642300617:=Nat
def tw1401924675934526888:=Nat
def tw2337283122182458881:=Nat
def tw12489783644897223078:=Nat
def tw4679047125852639892:=Nat
def tw12226890797950352311:=Nat
def tw12605311891778387269:=Nat
def tw3601989285102703135:=Nat
def tw1301324445596408646:=Nat
def tw12882992620219109879:=Nat
def tw2642582262576168789:=Nat
def tw17563542283209619210:=Nat
def tw15255245019290934669:=Nat
def tw17308626142430746681:=Nat
def tw15618827073052187588:=Nat
def tw3319371217981442370:=Nat
def tw9003574075524017939:=Nat
def tw11686667895163209963:=Nat
def tw15404323421726800491:=Nat
def tw16494870174620098323:=Nat
def tw18123910505689591576:=Nat
def tw13501799681924028450:=Nat
def tw12463041235864655075:=Nat
def tw11585968440157721218:=Nat
def tw9185669988235138405:=Nat
def tw16229377668062971087:=Nat
def tw8176753466678742014:=Nat
def tw16910040204873882888:=Nat
def tw7520782095223799989:=Nat
def tw7751601795067426584:=Nat
def tw6037621541623016170:=Nat
def tw6264319909386046901:=Nat
def tw1360143582568944794:=Nat
def tw10061564649832930533:=Nat
def tw5634961056595871360:=Nat
def tw10062538012251850071:=Nat
def tw4763627736303329388:=Nat
def tw12278796805692228438:=Nat
def tw3417918253651985003:=Nat
def tw15814692508387174452:=Nat
def tw3890490791861433327:=Nat
def tw13780061514556756106:=Nat
def tw7167882463906249088:=Nat
def tw15259678340491836669:=Nat
def tw13102360093064833186:=Nat
def tw3604256219676143697:=Nat
def tw6164836077763293698:=Nat
def tw9418208980753856983:=Nat
def tw5404140928995841619:=Nat
def tw7040901795538896096:=Nat
def tw2925586764646853542:=Nat
def tw12827193033740727419:=Nat
def tw6113719702558589905:=Nat
def tw7418429272371245016:=Nat
def tw64915050140990794:=Nat
def tw4678228505909690418:=Nat
def tw654914255534609300:=Nat
def tw15416668915506235044:=Nat
def tw9174292313716971547:=Nat
def tw17169840104539312714:=Nat
def tw9459749993489986317:=Nat
def tw4371838849506850062:=Nat
def tw3842579390982565735:=Nat
def tw11068519763337610334:=Nat
def tw6916408754081214177:=Nat
def tw118323927335803222:=Nat
def tw4010169821234746089:=Nat
def tw9892621777444792103:=Nat
def tw2956174288042839001:=Nat
def tw14817175158349075480:=Nat
def tw3743406837098934752:=Nat
def tw7138865461323901148:=Nat
def tw4374204336619362338:=Nat
def tw13340903015336370818:=Nat
def tw5425302946016262186:=Nat
def tw1829379434580166836:=Nat
def tw6685099253781938047:=Nat
def tw4857827882118868083:=Nat
def tw17089891964379074565:=Nat
def tw17685422501944348411:=Nat
def tw5126374337397710086:=Nat
def tw2395028089782186332:=Nat
def tw11940688272778093951:=Nat
def tw1482320130255755068:=Nat
def tw15271707326096061978:=Nat
def tw805211334105056691:=Nat
def tw3884597697412560326:=Nat
def tw4552068037823324109:=Nat
def tw1760614732078070354:=Nat
def tw2091858291159175532:=Nat
def tw14636836700144649316:=Nat
def tw11703850890434453405:=Nat
def tw12396489633257290764:=Nat
def tw16693563322189900785:=Nat
def tw15553636788685488629:=Nat
def tw13787465097613081314:=Nat
def tw7514944324457989047:=Nat
def tw13487605883176258320:=Nat
def tw9752024301308814762:=Nat
def tw11322065900247502948:=Nat
def tw14611389666579969553:=Nat
def tw3048211388526592803:=Nat
def tw6700036812594121839:=Nat
def tw10108442846848987267:=Nat
def tw15174872595650598156:=Nat
def tw1267503910884463994:=Nat
def tw16542500904821523501:=Nat
def tw13093843657069115452:=Nat
def tw15097409641171182138:=Nat
def tw17287780663196938410:=Nat
def tw8864285343174276969:=Nat
def tw13148802790596755050:=Nat
def tw16916544961682249480:=Nat
def tw10724568801947046133:=Nat
def tw14529530913711990989:=Nat
def tw57629765691920338:=Nat
def tw1124316342284699942:=Nat
def tw16827010436111850396:=Nat
def tw1649632962896475509:=Nat
def tw5149090442948278450:=Nat
def tw3983890510296347889:=Nat
def tw17068026537999513650:=Nat
def tw1670314551267926339:=Nat
def tw8265391832754436437:=Nat
def tw6137525091240039444:=Nat
def tw17329575702692675289:=Nat
def tw8891644299328461007:=Nat
def tw15190811547350698578:=Nat
def tw13634308598994951057:=Nat
def tw3055976588245971186:=Nat
def tw15025867594855188154:=Nat
def tw8561358924239353134:=Nat
def tw3558907823053836738:=Nat
def tw7150512123823774009:=Nat
def tw2582236779478434216:=Nat
def tw13848170296369581231:=Nat
def tw37409182203974944:=Nat
def tw6781855498832571557:=Nat
def tw7994088235161723493:=Nat
def tw856938784179008673:=Nat
def tw10629086032876430473:=Nat
def tw17317628386939406339:=Nat
def tw16337616911660049179:=Nat
def tw5310433231319247210:=Nat
def tw18304297806474590201:=Nat
def tw13661436319821634661:=Nat
def tw2437537016187366159:=Nat
def tw14280105962871662295:=Nat
def tw10235463451315482431:=Nat
def tw14150054720654349805:=Nat
def tw12474190365393862481:=Nat
def tw4827209162441322257:=Nat
def tw153048218768736021:=Nat
def tw4253261791629862154:=Nat
def tw1682289673648168252:=Nat
def tw1839846897034548856:=Nat
def tw13536430150218294711:=Nat
def tw582721551836217323:=Nat
def tw16195597304952758191:=Nat
def tw14967881026509808602:=Nat
def tw14086083280695772417:=Nat
def tw16764197438291155796:=Nat
def tw4009371830608400768:=Nat
def tw5778158966918368152:=Nat
def tw11922439085697448496:=Nat
def tw6670428324476073463:=Nat
def tw4445533615212121643:=Nat
def tw14890220570659453997:=Nat
def tw15008799145415156008:=Nat
def tw3347014687819508700:=Nat
def tw870068491826176850:=Nat
def tw12375031668852751663:=Nat
def tw5530794078816867800:=Nat
def tw9825134161736146420:=Nat
def tw9327030246230825579:=Nat
def tw11810827675469887966:=Nat
def tw2628702604883574243:=Nat
def tw14745492969458195020:=Nat
def tw13164890707912857118:=Nat
def tw8578200742203505518:=Nat
def tw8188605849907866690:=Nat
def tw12962241918747638429:=Nat
def tw13847606056765510174:=Nat
def tw16883990747239166564:=Nat
def tw901685015123543468:=Nat
def tw29858063095107952:=Nat
def tw15057926893657979891:=Nat
def tw15946318593155996306:=Nat
def tw9825890674449839999:=Nat
def tw12914080906435047031:=Nat
def tw3734221620433385596:=Nat
def tw13478071635555322896:=Nat
def tw6258142599283018679:=Nat
def tw12003891016840366342:=Nat
def tw6871870463070962967:=Nat
def tw1755542550043314460:=Nat
def tw16264189363682036076:=Nat
def tw8960846382218005785:=Nat
def tw4500777954724226787:=Nat
def tw7513980277918327852:=Nat
def tw17630338827588770586:=Nat
def tw8882174364445781296:=Nat
def tw2452513298381069132:=Nat
def tw14984256209660822020:=Nat
def tw8610043518512438269:=Nat
def tw13342451505449514251:=Nat
def tw14951641260305525846:=Nat
def tw15738741339427707777:=Nat
def tw4486984800207835088:=Nat
def tw6403810052837582342:=Nat
def tw5526725617500490228:=Nat
def tw13883313689258838075:=Nat
def tw16731437187866489228:=Nat
def tw14788520036634372961:=Nat
def tw3507111998910708107:=Nat
def tw16158396508865465868:=Nat
def tw2445987191836657637:=Nat
def tw11027963225746403852:=Nat
def tw5053520174088436177:=Nat
def tw1229450706765451929:=Nat
def tw11031672384367021116:=Nat
def tw4738187186842974323:=Nat
def tw7230402457038079701:=Nat
def tw13038600260403951778:=Nat
def tw5509295187161108035:=Nat
def tw9342044825446568168:=Nat
def tw359075836839905602:=Nat
def tw14344254070081302265:=Nat
def tw8053934496506724421:=Nat
def tw12221834168892352926:=Nat
def tw16858208665091772131:=Nat
def tw13903242043000922362:=Nat
def tw12824754323747924605:=Nat
def tw6522483516585440383:=Nat
def tw6292683812815191425:=Nat
def tw7576723933851433388:=Nat
def tw15736660714858869394:=Nat
def tw6233284533872315217:=Nat
def tw214405211444757829:=Nat
def tw14390909735814563984:=Nat
def tw14747597730937108322:=Nat
def tw2703655174499083724:=Nat
def tw4215404247513577527:=Nat
def tw9397263793525306524:=Nat
def tw6148836603771964624:=Nat
def tw3478454546514524786:=Nat
def tw17348829054838122163:=Nat
def tw5610338685648125367:=Nat
def tw3875128008577917844:=Nat
def tw17712537518068801530:=Nat
end Mine.cw
open Mn in
set_option Elab.async true in
set_option maxRecDepth 100000 in
set_option maxHeartbeats 8000000 in
theorem Mine.cw : PySem.Challenge.rw_nz0326_01.Holds := by
 w_on
 o_law
 k_head
 (case hw => w_witness2)
 exact Mn.main (fun w o => ⟨by kernel_rfl,by kernel_rfl,⟨⟨by kernel_rfl,bind_dflt (by kernel_rfl) ⟨(fun _ _ => ⟨_,rfl,by kernel_rfl⟩),(fun _ _ _ => ⟨_,rfl,by kernel_rfl⟩),(fun _ _ _ _ => ⟨_,rfl,by kernel_rfl⟩),trivial⟩⟩,
  ⟨by kernel_rfl,bind_of rfl (fun _ => by show _ = _; kernel_rfl)⟩,
  ⟨by kernel_rfl,bind_dflt (by kernel_rfl) ⟨(fun _ => ⟨_,rfl,by kernel_rfl⟩),(fun _ _ => ⟨_,rfl,by kernel_rfl⟩),trivial⟩⟩,
  ⟨by kernel_rfl,bind_of rfl (fun _ => by show _ = _; kernel_rfl)⟩,
  ⟨by kernel_rfl,bind_of rfl (fun _ _ => by show _ = _; kernel_rfl)⟩,
  ⟨by kernel_rfl,bind_of rfl (fun _ _ => by show _ = _; kernel_rfl)⟩,
  ⟨by kernel_rfl,bind_of rfl (fun _ => by show _ = _; kernel_rfl)⟩,
  ⟨by kernel_rfl,bind_of rfl (fun _ => by show _ = _; kernel_rfl)⟩,
  ⟨by kernel_rfl,bind_of rfl (fun _ => by show _ = _; kernel_rfl)⟩,
  ⟨by kernel_rfl,bind_dflt (by kernel_rfl) ⟨(fun _ => ⟨_,rfl,by kernel_rfl⟩),(fun _ _ => ⟨_,rfl,by kernel_rfl⟩),(fun _ _ _ => ⟨_,rfl,by kernel_rfl⟩),trivial⟩⟩,
  ⟨by kernel_rfl,bind_of rfl (fun _ _ _ => by show _ = _; kernel_rfl)⟩,
  ⟨by kernel_rfl,bind_of rfl (fun _ => by show _ = _; kernel_rfl)⟩,
  ⟨by kernel_rfl,bind_of rfl (fun _ _ _ => by show _ = _; kernel_rfl)⟩,
  ⟨by kernel_rfl,bind_of rfl (fun _ => by show _ = _; kernel_rfl)⟩,
  ⟨by kernel_rfl,bind_of rfl (fun _ _ _ => by show _ = _; kernel_rfl)⟩,
  ⟨by kernel_rfl,bind_dflt (by kernel_rfl) ⟨(fun _ => ⟨_,rfl,by kernel_rfl⟩),(fun _ _ => ⟨_,rfl,by kernel_rfl⟩),(fun _ _ _ => ⟨_,rfl,by kernel_rfl⟩),trivial⟩⟩,
  ⟨by kernel_rfl,bind_dflt (by kernel_rfl) ⟨(fun _ => ⟨_,rfl,by kernel_rfl⟩),(fun _ _ => ⟨_,rfl,by kernel_rfl⟩),(fun _ _ _ => ⟨_,rfl,by kernel_rfl⟩),trivial⟩⟩,
  ⟨by kernel_rfl,bind_of rfl (fun _ => by show _ = _; kernel_rfl)⟩,
  ⟨by kernel_rfl,bind_of rfl (fun _ => by show _ = _; kernel_rfl)⟩,
  ⟨by kernel_rfl,bind_of rfl (fun _ _ => by show _ = _; kernel_rfl)⟩,
  ⟨by kernel_rfl,bind_of rfl (fun _ => by show _ = _; kernel_rfl)⟩,
  ⟨by kernel_rfl,bind_of rfl (fun _ _ => by show _ = _; kernel_rfl)⟩,
  ⟨by kernel_rfl,bind_of rfl (fun _ _ _ => by show _ = _; kernel_rfl)⟩,
  ⟨by kernel_rfl,bind_of rfl (fun _ _ => by show _ = _; kernel_rfl)⟩,
  ⟨by kernel_rfl,bind_of rfl (fun _ => by show _ = _; kernel_rfl)⟩,
  ⟨by kernel_rfl,bind_of rfl (fun _ _ => by show _ = _; kernel_rfl)⟩,
  ⟨by kernel_rfl,bind_of rfl (fun _ _ _ => by show _ = _; kernel_rfl)⟩,
  ⟨by kernel_rfl,bind_of rfl (fun _ _ _ _ => by show _ = _; kernel_rfl)⟩,
  ⟨by kernel_rfl,bind_of rfl (fun _ _ _ _ => by show _ = _; kernel_rfl)⟩,
  ⟨by kernel_rfl,bind_of rfl (fun _ => by show _ = _; kernel_rfl)⟩,
  ⟨by kernel_rfl,bind_of rfl (fun _ => by show _ = _; kernel_rfl)⟩,
  ⟨by kernel_rfl,bind_of rfl (by show _ = _; kernel_rfl)⟩,
  ⟨by kernel_rfl,bind_of rfl (fun _ => by show _ = _; kernel_rfl)⟩,
  ⟨by kernel_rfl,bind_of rfl (fun _ => by show _ = _; kernel_rfl)⟩,
  ⟨by kernel_rfl,bind_of rfl (fun _ => by show _ = _; kernel_rfl)⟩,
  ⟨by kernel_rfl,bind_of rfl (fun _ => by show _ = _; kernel_rfl)⟩,
  ⟨by kernel_rfl,bind_of rfl (fun _ => by show _ = _; kernel_rfl)⟩,
  ⟨by kernel_rfl,bind_of rfl (fun _ => by show _ = _; kernel_rfl)⟩,
  ⟨by kernel_rfl,bind_of rfl (fun _ => by show _ = _; kernel_rfl)⟩,
  ⟨by kernel_rfl,bind_of rfl (fun _ => by show _ = _; kernel_rfl)⟩,
  ⟨by kernel_rfl,bind_of rfl (fun _ => by show _ = _; kernel_rfl)⟩,
  ⟨by kernel_rfl,bind_of rfl (fun _ => by show _ = _; kernel_rfl)⟩,
  ⟨by kernel_rfl,bind_of rfl (fun _ _ _ _ _ _ => by show _ = _; kernel_rfl)⟩,
  ⟨by kernel_rfl,bind_of rfl (fun _ => by show _ = _; kernel_rfl)⟩,
  ⟨by kernel_rfl,bind_of rfl (fun _ _ => by show _ = _; kernel_rfl)⟩,
  ⟨by kernel_rfl,bind_of rfl (fun _ _ _ _ => by show _ = _; kernel_rfl)⟩,
  ⟨by kernel_rfl,bind_of rfl (fun _ _ => by show _ = _; kernel_rfl)⟩,
  ⟨by kernel_rfl,bind_of rfl (fun _ => by show _ = _; kernel_rfl)⟩,
  ⟨by kernel_rfl,bind_of rfl (fun _ _ _ _ _ => by show _ = _; kernel_rfl)⟩,
  ⟨by kernel_rfl,bind_of rfl (fun _ => by show _ = _; kernel_rfl)⟩,
  ⟨by kernel_rfl,bind_of rfl (fun _ _ => by show _ = _; kernel_rfl)⟩,
  ⟨by kernel_rfl,bind_of rfl (fun _ _ => by show _ = _; kernel_rfl)⟩,
  ⟨by kernel_rfl,bind_dflt (by kernel_rfl) ⟨(fun _ _ => ⟨_,rfl,by kernel_rfl⟩),(fun _ _ _ => ⟨_,rfl,by kernel_rfl⟩),(fun _ _ _ _ => ⟨_,rfl,by kernel_rfl⟩),(fun _ _ _ _ _ => ⟨_,rfl,by kernel_rfl⟩),trivial⟩⟩,
  ⟨by kernel_rfl,bind_of rfl (fun _ _ _ _ => by show _ = _; kernel_rfl)⟩,
  ⟨by kernel_rfl,bind_of rfl (fun _ _ _ => by show _ = _; kernel_rfl)⟩,
  ⟨by kernel_rfl,bind_of rfl (fun _ _ _ _ => by show _ = _; kernel_rfl)⟩,
  ⟨by kernel_rfl,bind_of rfl (fun _ _ => by show _ = _; kernel_rfl)⟩,
  ⟨by kernel_rfl,bind_of rfl (fun _ _ _ => by show _ = _; kernel_rfl)⟩,
  ⟨by kernel_rfl,bind_of rfl (fun _ _ => by show _ = _; kernel_rfl)⟩,
  ⟨by kernel_rfl,bind_of rfl (fun _ => by show _ = _; kernel_rfl)⟩,
  ⟨by kernel_rfl,bind_of rfl (fun _ _ => by show _ = _; kernel_rfl)⟩,
  ⟨by kernel_rfl,bind_of rfl (fun _ _ => by show _ = _; kernel_rfl)⟩,
  ⟨by kernel_rfl,bind_of rfl (fun _ _ => by show _ = _; kernel_rfl)⟩,
  ⟨by kernel_rfl,bind_of rfl (fun _ _ => by show _ = _; kernel_rfl)⟩,
  ⟨by kernel_rfl,bind_of rfl (fun _ _ _ => by show _ = _; kernel_rfl)⟩,
  ⟨by kernel_rfl,bind_of rfl (fun _ _ => by show _ = _; kernel_rfl)⟩,
  ⟨by kernel_rfl,bind_of rfl (fun _ => by show _ = _; kernel_rfl)⟩,trivial⟩⟩) (fun _ => by kernel_rfl) (fun _ => by kernel_rfl) (fun _ => by kernel_rfl)
end
theorem PySem.Challenge.cw_nz0326_01_holds : PySem.Challenge.rw_nz0326_01.Holds :=
 Mine.cw
