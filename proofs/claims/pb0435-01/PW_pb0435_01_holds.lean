import PyProof.Rows.All
import Wide.All
import OpenK.AllK
import Wide.FinOn
import KE.KSortTup
import Lean
import PySem.Challenge.RW_pb0435_01
open PySem PySem.W PySem.Calls PyProof.Rows
set_option Elab.async false
set_option maxRecDepth 100000
set_option linter.all false
set_option autoImplicit false
set_option genSizeOf false
set_option genInjectivity false
namespace Mine
theorem said : PySem.Challenge.rw_pb0435_01.wellSaid = true := by
  rw [PySem.W.Fast.te9446332074065402090]
  iterate 18 (refine PySem.W.look_both ?_ (by kernel_rfl))
  kernel_rfl
end Mine
namespace Mine
inductive V where
  | non | boo (b : Bool) | int (i : Int) | str (s : Str)
  | tup (l : List V) | lst (l : List V) | obj (c : Nat) (l : List V) | ref (n : Nat)
inductive HO where
  | lst (l : List V)
  | app (l : List V)
  | inst (c : Nat) (l : List V)
  | dicI (l : List (Int × V))
  | dicS (l : List (Str × V))
noncomputable abbrev H := List HO
inductive BI where
  | len | abs | int | lst | tup | sorted | str
mutual
inductive Ex where
  | non | tru | fal
  | int (i : Int) | str (s : Str)
  | loc (x : Nat) | glo (x : Nat)
  | bin (op : Operator) (l r : Ex)
  | neg (e : Ex) | inv (e : Ex) | nt (e : Ex)
  | bol (op : BoolOp) (es : Exs)
  | cmp (op : CmpOp) (l r : Ex)
  | cmp2 (o1 o2 : CmpOp) (a b c : Ex)
  | ite (t a b : Ex)
  | attr (e : Ex) (x : Nat)
  | sub (e i : Ex)
  | slTo (e hi : Ex) | slFrom (e lo : Ex)
  | tup (es : Exs) | lst (es : Exs)
  | newLst (es : Exs) | newApp (es : Exs) | newMul (i : Int) (n : Nat) | mulL (i : Int) (n : Nat) | newList (e : Ex)
  | dic0 | dic2 (k1 : Str) (e1 : Ex) (k2 : Str) (e2 : Ex)
  | cf (f : Nat) (es : Exs)
  | cm (e : Ex) (m : Nat) (es : Exs)
  | cn (c : Nat) (es : Exs)
  | cnm (c : Nat) (es : Exs)
  | ci (c : Nat) (es : Exs)
  | cb (b : BI) (e : Ex)
  | spl0 (e : Ex) | spl1 (e d : Ex) | stw (e a : Ex) | fnd (e a : Ex) | idx (e a : Ex) | get2 (e a b : Ex) | app (e a : Ex)
  | lcAdd (e : Ex) (k : Int)
inductive Exs where
  | nil | cons (e : Ex) (es : Exs)
end
mutual
inductive St where
  | ret (e : Ex) | ret0
  | asg (x : Nat) (e : Ex)
  | asgA (o : Ex) (a : Nat) (e : Ex)
  | asgS (o i : Ex) (e : Ex)
  | asgT (xs : List Nat) (e : Ex)
  | asgX (xs : List Nat) (f : Nat) (es : Exs)
  | asgW (xs : List Nat) (es : Exs)
  | asgF (ts : List (Ex × Nat)) (es : Exs)
  | ite (t : Ex) (a b : Sts)
  | forV (x : Nat) (e : Ex) (b : Sts)
  | forR (x : Nat) (e : Ex) (b : Sts)
  | for2 (x y : Nat) (e : Ex) (b : Sts)
  | whl (t : Ex) (b : Sts)
  | exp (e : Ex)
  | expX (f : Nat) (es : Exs)
  | rai (c : Nat) (s : Str)
  | try1 (y f : Nat) (es : Exs) (x : Nat) (s : Str)
  | dcopy (p x y a : Nat)
  | raw
inductive Sts where
  | nil | cons (s : St) (ss : Sts)
end
structure Tab where
  nm : Nat → Str
  flds : Nat → List Nat
  meth : Nat → Nat → Option Nat
  init : Nat → Nat
  glob : Nat → Option V
  fnq : Nat → Bool
  n : Nat
noncomputable abbrev Env' := List (Nat × V)
noncomputable def put (x : Nat) (v : V) (ρ : Env') : Env' := List.rec [(x, v)] (fun p r ih => cond (Nat.beq x p.1) ((x, v) :: r) (p :: ih)) ρ
noncomputable def look (x : Nat) (ρ : Env') : Option V := List.rec none (fun p _ ih => cond (Nat.beq x p.1) (some p.2) ih) ρ
inductive Fl where
  | nxt | ret (v : V) | exc
noncomputable abbrev Orc := Nat → List V → H → (Option V → H → Prop) → Prop
noncomputable def beqL (a : List Nat) : List Nat → Bool := List.rec (fun b => List.rec true (fun _ _ _ => false) b) (fun x _ ih b => List.rec false (fun y b _ => Nat.beq x y && ih b) b) a
noncomputable def seq (a b : Str) : Bool := beqL a.cps.toList b.cps.toList
noncomputable def opt {α : Type} (o : Option α) (K : α → Prop) : Prop := Option.rec False K o
@[irreducible] noncomputable def optX {α : Type} (o : Option α) (K : α → Prop) : Prop := Option.rec False K o
noncomputable def ifW (c : Bool) (a b : Prop) : Prop := Bool.rec b a c
section
variable (v : V)
noncomputable def V.N (K : Prop) : Prop := V.casesOn (motive_1 := fun _ => Prop) v K (fun _ => False) (fun _ => False) (fun _ => False) (fun _ => False) (fun _ => False) (fun _ _ => False) fun _ => False
noncomputable def V.B (K : Bool → Prop) : Prop := V.casesOn (motive_1 := fun _ => Prop) v False K (fun _ => False) (fun _ => False) (fun _ => False) (fun _ => False) (fun _ _ => False) fun _ => False
noncomputable def V.I (K : Int → Prop) : Prop := V.casesOn (motive_1 := fun _ => Prop) v False (fun _ => False) K (fun _ => False) (fun _ => False) (fun _ => False) (fun _ _ => False) fun _ => False
noncomputable def V.S (K : Str → Prop) : Prop := V.casesOn (motive_1 := fun _ => Prop) v False (fun _ => False) (fun _ => False) K (fun _ => False) (fun _ => False) (fun _ _ => False) fun _ => False
noncomputable def V.T (K : List V → Prop) : Prop := V.casesOn (motive_1 := fun _ => Prop) v False (fun _ => False) (fun _ => False) (fun _ => False) K (fun _ => False) (fun _ _ => False) fun _ => False
noncomputable def V.L (K : List V → Prop) : Prop := V.casesOn (motive_1 := fun _ => Prop) v False (fun _ => False) (fun _ => False) (fun _ => False) (fun _ => False) K (fun _ _ => False) fun _ => False
noncomputable def V.R (K : Nat → Prop) : Prop := V.casesOn (motive_1 := fun _ => Prop) v False (fun _ => False) (fun _ => False) (fun _ => False) (fun _ => False) (fun _ => False) (fun _ _ => False) K
end
noncomputable def hL (o : Option HO) (K : List V → Prop) : Prop := opt o fun h => HO.casesOn h K (fun _ => False) (fun _ _ => False) (fun _ => False) fun _ => False
noncomputable def hA (o : Option HO) (K : List V → Prop) : Prop := opt o fun h => HO.casesOn h (fun _ => False) K (fun _ _ => False) (fun _ => False) fun _ => False
noncomputable def hI (o : Option HO) (K : Nat → List V → Prop) : Prop := opt o fun h => HO.casesOn h (fun _ => False) (fun _ => False) K (fun _ => False) fun _ => False
noncomputable def hD (o : Option HO) (K : List (Int × V) → Prop) : Prop := opt o fun h => HO.casesOn h (fun _ => False) (fun _ => False) (fun _ _ => False) K fun _ => False
noncomputable def hS (o : Option HO) (K : List (Str × V) → Prop) : Prop := opt o fun h => HO.casesOn h (fun _ => False) (fun _ => False) (fun _ _ => False) (fun _ => False) K
noncomputable def intW (op : Operator) (a b : Int) (K : V → Prop) : Prop := Operator.casesOn op
  (K (.int (a + b))) (K (.int (a - b))) ((a.natAbs < 2 ^ 64 ∨ b.natAbs < 2 ^ 64) ∧ K (.int (a * b))) False False
  (b ≠ 0 ∧ K (.int (a.fmod b))) ((0 ≤ b ∧ b ≤ 1000 ∧ a.natAbs < 2 ^ 64) ∧ K (.int (a ^ b.toNat)))
  ((0 ≤ b ∧ b ≤ 1000 ∧ a.natAbs < 2 ^ 256) ∧ K (.int (a * 2 ^ b.toNat))) (0 ≤ b ∧ K (.int (a.fdiv (2 ^ b.toNat))))
  (K (.int (Builtin.bitOr a b))) (K (.int (Builtin.bitXor a b))) (K (.int (Builtin.bitAnd a b)))
  ((b ≠ 0 ∧ b.natAbs < 2 ^ 256) ∧ K (.int (a.fdiv b)))
noncomputable def addW (op : Operator) (n : Nat) (K : Prop) : Prop := Operator.casesOn op (n ≤ 1000 ∧ K) False False False False False False False False False False False False
noncomputable def binW (op : Operator) (a b : V) (K : V → Prop) : Prop := V.casesOn (motive_1 := fun _ => Prop) a False (fun _ => False) (fun i => b.I fun j => intW op i j K)
  (fun s => b.S fun t => addW op (s.length + t.length) (K (.str (s ++ t)))) (fun _ => False) (fun l => b.L fun m => addW op (l.length + m.length) (K (.lst (l ++ m)))) (fun _ _ => False) fun _ => False
noncomputable def sucD {α : Type} (n : Nat) (k : Nat → Option α) : Option α := Nat.rec none (fun n _ => k n) n
noncomputable def toD (v : V) : Nat → Option PyData := V.rec (motive_1 := fun _ => Nat → Option PyData) (motive_2 := fun _ => Nat → Option (List PyData))
  (fun n => sucD n fun _ => some .none) (fun b n => sucD n fun _ => some (.bool b)) (fun i n => sucD n fun _ => some (.int i)) (fun s n => sucD n fun _ => cond (PyData.strOk s) (some (.str s)) none)
  (fun _ ih n => sucD n fun n => (ih n).map .tuple) (fun _ ih n => sucD n fun n => (ih n).map .list) (fun _ _ _ _ => none) (fun _ _ => none)
  (fun _ => some []) (fun _ _ h t n => (h n).bind fun d => (t n).map fun ds => d :: ds) v
noncomputable def toDs (l : List V) : Nat → Option (List PyData) := V.rec_1 (motive_1 := fun _ => Nat → Option PyData) (motive_2 := fun _ => Nat → Option (List PyData))
  (fun n => sucD n fun _ => some .none) (fun b n => sucD n fun _ => some (.bool b)) (fun i n => sucD n fun _ => some (.int i)) (fun s n => sucD n fun _ => cond (PyData.strOk s) (some (.str s)) none)
  (fun _ ih n => sucD n fun n => (ih n).map .tuple) (fun _ ih n => sucD n fun n => (ih n).map .list) (fun _ _ _ _ => none) (fun _ _ => none)
  (fun _ => some []) (fun _ _ h t n => (h n).bind fun d => (t n).map fun ds => d :: ds) l
noncomputable def drfO (v : V) (o : Option HO) : V := Option.rec v (fun h => HO.casesOn h .lst (fun _ => v) (fun _ _ => v) (fun _ => v) fun _ => v) o
noncomputable def drf (σ : H) (v : V) : V := V.casesOn (motive_1 := fun _ => V) v v (fun _ => v) (fun _ => v) (fun _ => v) (fun _ => v) (fun _ => v) (fun _ _ => v) fun n => drfO v σ[n]?
noncomputable def eqO (a b : V) : Option Bool := (toD a 6).bind fun x => (toD b 6).map fun y => PyData.eqv x y
noncomputable def eqW (a b : V) (K : Bool → Prop) : Prop := V.casesOn (motive_1 := fun _ => Prop) a (optX (eqO a b) K) (fun _ => optX (eqO a b) K)
  (fun i => V.casesOn (motive_1 := fun _ => Prop) b (optX (eqO a b) K) (fun _ => optX (eqO a b) K) (fun j => K (decide (i = j))) (fun _ => optX (eqO a b) K) (fun _ => optX (eqO a b) K) (fun _ => optX (eqO a b) K) (fun _ _ => optX (eqO a b) K) fun _ => optX (eqO a b) K)
  (fun _ => optX (eqO a b) K) (fun _ => optX (eqO a b) K) (fun _ => optX (eqO a b) K) (fun _ _ => optX (eqO a b) K) fun _ => optX (eqO a b) K
noncomputable def inO (a : V) (l : List V) : Option Bool := (toD a 6).bind fun x => (toDs l 6).map fun xs => xs.any fun y => PyData.eqv y x
noncomputable def inW (a b : V) (K : Bool → Prop) : Prop := V.casesOn (motive_1 := fun _ => Prop) b False (fun _ => False) (fun _ => False) (fun _ => False) (fun l => optX (inO a l) K) (fun l => optX (inO a l) K) (fun _ _ => False) fun _ => False
noncomputable def isNon (v : V) : Bool := V.casesOn (motive_1 := fun _ => Bool) v true (fun _ => false) (fun _ => false) (fun _ => false) (fun _ => false) (fun _ => false) (fun _ _ => false) fun _ => false
noncomputable def cmpW (σ : H) (op : CmpOp) (a b : V) (K : Bool → Prop) : Prop := CmpOp.casesOn op
  (eqW (drf σ a) (drf σ b) K) (eqW (drf σ a) (drf σ b) fun c => K (!c))
  (a.I fun i => b.I fun j => K (decide (i < j))) (a.I fun i => b.I fun j => K (decide (i ≤ j))) (a.I fun i => b.I fun j => K (decide (j < i))) (a.I fun i => b.I fun j => K (decide (j ≤ i)))
  (b.N (K (isNon a))) (b.N (K (!isNon a))) (inW a b K) (inW a b fun c => K (!c))
noncomputable def fidx (x : Nat) (fs : List Nat) : Option Nat := List.rec none (fun y _ ih => cond (Nat.beq x y) (some 0) (ih.map Nat.succ)) fs
noncomputable def fldW (T : Tab) (x c : Nat) (l : List V) (K : V → Prop) : Prop := opt (fidx x (T.flds c)) fun i => opt l[i]? K
noncomputable def attrW (T : Tab) (σ : H) (v : V) (x : Nat) (K : V → Prop) : Prop := V.casesOn (motive_1 := fun _ => Prop) v False (fun _ => False) (fun _ => False) (fun _ => False) (fun _ => False) (fun _ => False)
  (fun c l => fldW T x c l K) fun n => hI σ[n]? fun c l => fldW T x c l K
noncomputable def setAW (T : Tab) (σ : H) (v : V) (x : Nat) (u : V) (K : H → Prop) : Prop := v.R fun n => hI σ[n]? fun c l => opt (fidx x (T.flds c)) fun i =>
  i ≤ l.length ∧ K (σ.set n (.inst c (cond (Nat.blt i l.length) (l.set i u) (l ++ [u]))))
noncomputable def lookI (k : Int) (l : List (Int × V)) : Option V := List.rec none (fun p _ ih => cond (decide (p.1 = k)) (some p.2) ih) l
noncomputable def putI (k : Int) (v : V) (l : List (Int × V)) : List (Int × V) := List.rec [(k, v)] (fun p r ih => cond (decide (p.1 = k)) ((k, v) :: r) (p :: ih)) l
noncomputable def lookS (k : Str) (l : List (Str × V)) : Option V := List.rec none (fun p _ ih => cond (seq p.1 k) (some p.2) ih) l
noncomputable def atW (l : List V) (i : Int) (K : V → Prop) : Prop := (0 ≤ i ∧ i < 100000) ∧ opt l[i.toNat]? K
noncomputable def subW (σ : H) (a b : V) (K : V → Prop) : Prop := V.casesOn (motive_1 := fun _ => Prop) a False (fun _ => False) (fun _ => False)
  (fun s => b.I fun i => (0 ≤ i ∧ i < 100000) ∧ opt s.cps.toList[i.toNat]? fun c => K (.str ⟨#[c]⟩)) (fun l => b.I fun i => atW l i K) (fun l => b.I fun i => atW l i K) (fun _ _ => False)
  fun n => opt σ[n]? fun h => HO.casesOn h (fun l => b.I fun i => atW l i K) (fun _ => False) (fun _ _ => False) (fun l => b.I fun i => opt (lookI i l) K) fun l => b.S fun k => opt (lookS k l) K
noncomputable def setSW (σ : H) (a b v : V) (K : H → Prop) : Prop := a.R fun n => b.I fun i => opt σ[n]? fun h => HO.casesOn h
  (fun l => (0 ≤ i ∧ i < l.length ∧ i < 100000) ∧ K (σ.set n (.lst (l.set i.toNat v)))) (fun _ => False) (fun _ _ => False) (fun l => l.length ≤ 60 ∧ K (σ.set n (.dicI (putI i v l)))) fun _ => False
noncomputable def slToW (a b : V) (K : V → Prop) : Prop := V.casesOn (motive_1 := fun _ => Prop) a False (fun _ => False) (fun _ => False)
  (fun s => b.I fun h => (0 ≤ h ∧ h ≤ 100000 ∧ s.length ≤ 1000) ∧ K (.str (Txt.slice s none (some h)))) (fun _ => False)
  (fun l => b.I fun h => (0 ≤ h ∧ h ≤ 100000 ∧ l.length ≤ 100000) ∧ K (.lst (l.take h.toNat))) (fun _ _ => False) fun _ => False
noncomputable def slFromW (a b : V) (K : V → Prop) : Prop := a.S fun s => b.I fun h => (0 ≤ h ∧ h ≤ 100000 ∧ s.length ≤ 1000) ∧ K (.str (Txt.slice s (some h) none))
noncomputable def strsOf (l : List V) : Option (List Str) := List.rec (some []) (fun v _ ih => V.casesOn (motive_1 := fun _ => Option (List Str)) v none (fun _ => none) (fun _ => none) (fun s => ih.map fun r => s :: r) (fun _ => none) (fun _ => none) (fun _ _ => none) fun _ => none) l
noncomputable def intsOf (l : List V) : Option (List Int) := List.rec (some []) (fun v _ ih => V.casesOn (motive_1 := fun _ => Option (List Int)) v none (fun _ => none) (fun s => ih.map fun r => s :: r) (fun _ => none) (fun _ => none) (fun _ => none) (fun _ _ => none) fun _ => none) l
noncomputable def ltL (a : List Nat) : List Nat → Bool := List.rec (fun b => List.rec false (fun _ _ _ => true) b) (fun x _ ih b => List.rec false (fun y b _ => cond (Nat.blt x y) true (cond (Nat.beq x y) (ih b) false)) b) a
noncomputable def leS (a b : Str) : Bool := !decide (b.cps.toList < a.cps.toList)
noncomputable def insB {α : Type} (le : α → α → Bool) (x : α) (l : List α) : List α := List.rec [x] (fun y r ih => cond (le x y) (x :: y :: r) (y :: ih)) l
noncomputable def isort {α : Type} (le : α → α → Bool) (l : List α) : List α := List.rec [] (fun x _ ih => insB le x ih) l
noncomputable def itemsW (σ : H) (v : V) (K : List V → Prop) : Prop := V.casesOn (motive_1 := fun _ => Prop) v False (fun _ => False) (fun _ => False) (fun _ => False) K K (fun _ _ => False) fun n => hL σ[n]? K
noncomputable def listW (σ : H) (v : V) (K : List V → Prop) : Prop := V.casesOn (motive_1 := fun _ => Prop) v False (fun _ => False) (fun _ => False) (fun _ => False) (fun _ => False) K (fun _ _ => False)
  fun n => opt σ[n]? fun h => HO.casesOn h K K (fun _ _ => False) (fun _ => False) fun _ => False
noncomputable def lenW (σ : H) (v : V) (K : V → Prop) : Prop :=
  let k := fun (l : List V) => l.length ≤ 100000 ∧ K (.int l.length)
  V.casesOn (motive_1 := fun _ => Prop) v False (fun _ => False) (fun _ => False) (fun s => s.length ≤ 1000 ∧ K (.int s.length)) k k (fun _ _ => False) fun n => hL σ[n]? k
noncomputable def biW (σ : H) (b : BI) (v : V) (K : V → Prop) : Prop := BI.casesOn b
  (lenW σ v K) (v.I fun i => K (.int i.natAbs))
  (V.casesOn (motive_1 := fun _ => Prop) v False (fun b => K (.int (if b then 1 else 0))) (fun i => K (.int i)) (fun _ => False) (fun _ => False) (fun _ => False) (fun _ _ => False) fun _ => False)
  (itemsW σ v fun l => l.length ≤ 1000 ∧ K (.lst l)) (listW σ v fun l => l.length ≤ 1000 ∧ K (.tup l))
  (listW σ v fun l => (l.length < 64 ∧ (strsOf l).isSome = true) ∧ K (.lst ((isort leS ((strsOf l).getD [])).map .str)))
  (v.I fun i => (0 ≤ i ∧ i < 1000) ∧ K (.str (Str.ofString (toString i))))
noncomputable def idxS (k : Str) (l : List Str) : Option Nat := List.rec none (fun s _ ih => cond (seq s k) (some 0) (ih.map Nat.succ)) l
noncomputable def idxW (a b : V) (K : V → Prop) : Prop := a.L fun l => b.S fun k => l.length ≤ 1000 ∧ optX ((strsOf l).bind (idxS k)) fun i => K (.int (i : Nat))
noncomputable def fro (v : V) : Bool := V.rec (motive_1 := fun _ => Bool) (motive_2 := fun _ => Bool) true (fun _ => true) (fun _ => true) (fun _ => true) (fun _ h => h) (fun _ h => h) (fun _ _ h => h) (fun _ => false) true (fun _ _ a b => a && b) v
noncomputable def fros (l : List V) : Bool := V.rec_1 (motive_1 := fun _ => Bool) (motive_2 := fun _ => Bool) true (fun _ => true) (fun _ => true) (fun _ => true) (fun _ h => h) (fun _ h => h) (fun _ _ h => h) (fun _ => false) true (fun _ _ a b => a && b) l
noncomputable def oneI (σ : H) (K : Nat → List V → Prop) : Prop := List.casesOn σ False fun h r => List.casesOn r (hI (some h) K) fun _ _ => False
noncomputable abbrev KV := V → H → Prop
noncomputable abbrev KF := Fl → Env' → H → Prop
noncomputable def okK (K : KV) (r : Option V) (σ : H) : Prop := Option.rec False (fun v => K v σ) r
noncomputable def mkK (c : Nat) (σ : H) (K : KV) (r : Option V) (τ : H) : Prop := opt r fun u => u.N (oneI τ fun c' l => (c' = c ∧ fros l = true) ∧ K (.obj c l) σ)
noncomputable def muK (n : Nat) (K : KV) (r : Option V) (τ : H) : Prop := opt r fun u => u.N (K (.ref n) τ)
section
variable (T : Tab) (C : Orc)
section
variable (K : KV) (σ : H) (f g : H → KV → Prop)
noncomputable def kv (v : V) : Prop := K v σ
noncomputable def kb (b : Bool) : Prop := K (.boo b) σ
noncomputable def kBin2 (op : Operator) (a b : V) (σ : H) : Prop := binW op a b (kv K σ)
noncomputable def kBin (op : Operator) (a : V) (σ : H) : Prop := f σ (kBin2 K op a)
noncomputable def kNeg (a : V) (σ : H) : Prop := a.I fun i => K (.int (-i)) σ
noncomputable def kInv (a : V) (σ : H) : Prop := a.I fun i => K (.int (Builtin.bitNot i)) σ
noncomputable def kNt (a : V) (σ : H) : Prop := a.B fun b => K (.boo (!b)) σ
noncomputable def kCmp2 (op : CmpOp) (a b : V) (σ : H) : Prop := cmpW σ op a b (kb K σ)
noncomputable def kCmp (op : CmpOp) (a : V) (σ : H) : Prop := f σ (kCmp2 K op a)
noncomputable def kCh3 (o2 : CmpOp) (y : V) (d : Bool) : Prop := ifW d (g σ (kCmp2 K o2 y)) (K (.boo false) σ)
noncomputable def kCh2 (o1 o2 : CmpOp) (x y : V) (σ : H) : Prop := cmpW σ o1 x y (kCh3 K σ g o2 y)
noncomputable def kCh (o1 o2 : CmpOp) (x : V) (σ : H) : Prop := f σ (kCh2 K g o1 o2 x)
noncomputable def kIte (x : V) (σ : H) : Prop := x.B fun c => ifW c (f σ K) (g σ K)
noncomputable def kAttr (x : Nat) (v : V) (σ : H) : Prop := attrW T σ v x (kv K σ)
noncomputable def kSub2 (a b : V) (σ : H) : Prop := subW σ a b (kv K σ)
noncomputable def kSub (a : V) (σ : H) : Prop := f σ (kSub2 K a)
noncomputable def kTo2 (a b : V) (σ : H) : Prop := slToW a b (kv K σ)
noncomputable def kTo (a : V) (σ : H) : Prop := f σ (kTo2 K a)
noncomputable def kFrom2 (a b : V) (σ : H) : Prop := slFromW a b (kv K σ)
noncomputable def kFrom (a : V) (σ : H) : Prop := f σ (kFrom2 K a)
noncomputable def kTup (vs : List V) (σ : H) : Prop := K (.tup vs) σ
noncomputable def kLst (vs : List V) (σ : H) : Prop := K (.lst vs) σ
noncomputable def kNew (o : List V → HO) (vs : List V) (σ : H) : Prop := K (.ref σ.length) (σ ++ [o vs])
noncomputable def kNewL (a : V) (σ : H) : Prop := itemsW σ a fun l => l.length ≤ 1000 ∧ K (.ref σ.length) (σ ++ [.lst l])
noncomputable def kDic3 (n : Nat) (k1 k2 : Str) (a b : V) (σ : H) : Prop := σ[n]? = some (.dicS []) ∧ K (.ref n) (σ.set n (.dicS [(k1, a), (k2, b)]))
noncomputable def kDic2 (n : Nat) (k1 k2 : Str) (a : V) (σ : H) : Prop := f σ (kDic3 K n k1 k2 a)
noncomputable def kCall (m : Nat) (vs : List V) (σ : H) : Prop := C m vs σ (okK K)
noncomputable def kMeth2 (m n : Nat) (vs : List V) (σ : H) : Prop := C m (.ref n :: vs) σ (okK K)
noncomputable def kMeth (m : Nat) (f : H → (List V → H → Prop) → Prop) (o : V) (σ : H) : Prop := o.R fun n => hI σ[n]? fun c _ => opt (T.meth c m) fun m => f σ (kMeth2 C K m n)
noncomputable def kObj (c : Nat) (vs : List V) (σ : H) : Prop := fros vs = true ∧ C (T.init c) (.ref 0 :: vs) [.inst c []] (mkK c σ K)
noncomputable def kMut (c : Nat) (vs : List V) (σ : H) : Prop := C (T.init c) (.ref σ.length :: vs) (σ ++ [.inst c []]) (muK σ.length K)
noncomputable def kBi (b : BI) (a : V) (σ : H) : Prop := biW σ b a (kv K σ)
noncomputable def kSpl0 (a : V) (σ : H) : Prop := a.S fun s => s.length ≤ 1000 ∧ K (.lst ((Txt.words s).map .str)) σ
noncomputable def kSpl2 (s : Str) (b : V) (σ : H) : Prop := b.S fun d => (s.length ≤ 1000 ∧ 0 < d.length) ∧ K (.lst ((Txt.split s d).map .str)) σ
noncomputable def kStw2 (s : Str) (b : V) (σ : H) : Prop := b.S fun d => K (.boo (Txt.startswith s d)) σ
noncomputable def kFnd2 (s : Str) (b : V) (σ : H) : Prop := b.S fun d => K (.int (Txt.find s d)) σ
noncomputable def kStr (k : Str → KV) (a : V) (σ : H) : Prop := a.S fun s => f σ (k s)
noncomputable def kIdx2 (l : List V) (b : V) (σ : H) : Prop := idxW (.lst l) b (kv K σ)
noncomputable def kIdx (a : V) (σ : H) : Prop := a.L fun l => f σ (kIdx2 K l)
noncomputable def kGet3 (n : Nat) (b c : V) (σ : H) : Prop := b.I fun i => hD σ[n]? fun l => K ((lookI i l).getD c) σ
noncomputable def kGet2 (n : Nat) (b : V) (σ : H) : Prop := g σ (kGet3 K n b)
noncomputable def kGet (a : V) (σ : H) : Prop := a.R fun n => hD σ[n]? fun _ => f σ (kGet2 K g n)
noncomputable def kApp2 (n : Nat) (b : V) (σ : H) : Prop := hA σ[n]? fun l => l.length ≤ 1000 ∧ K .non (σ.set n (.app (l ++ [b])))
noncomputable def kApp (a : V) (σ : H) : Prop := a.R fun n => hA σ[n]? fun _ => f σ (kApp2 K n)
noncomputable def kLc (k : Int) (a : V) (σ : H) : Prop := a.L fun l => opt (intsOf l) fun is => l.length ≤ 500 ∧ K (.lst (is.map .int ++ [.int k])) σ
end
section
variable (K : List V → H → Prop)
noncomputable def kCons2 (v : V) (vs : List V) (σ : H) : Prop := K (v :: vs) σ
noncomputable def kCons (f : H → (List V → H → Prop) → Prop) (v : V) (σ : H) : Prop := f σ (kCons2 K v)
end
noncomputable def kBo (op : BoolOp) (es : Exs) (f : H → (Bool → H → Prop) → Prop) (K : Bool → H → Prop) (v : V) (σ : H) : Prop := v.B fun b =>
  Exs.casesOn (motive_2 := fun _ => Prop) es (K b σ) fun _ _ => BoolOp.casesOn op (ifW b (f σ K) (K false σ)) (ifW b (K true σ) (f σ K))
noncomputable def kBoo (K : KV) (b : Bool) (σ : H) : Prop := K (.boo b) σ
mutual
noncomputable def wE (ρ : Env') : Ex → H → KV → Prop
  | .non, σ, K => K .non σ
  | .tru, σ, K => K (.boo true) σ
  | .fal, σ, K => K (.boo false) σ
  | .int i, σ, K => K (.int i) σ
  | .str s, σ, K => K (.str s) σ
  | .loc x, σ, K => opt (look x ρ) (kv K σ)
  | .glo x, σ, K => opt (T.glob x) (kv K σ)
  | .bin op l r, σ, K => wE ρ l σ (kBin K (wE ρ r) op)
  | .neg e, σ, K => wE ρ e σ (kNeg K)
  | .inv e, σ, K => wE ρ e σ (kInv K)
  | .nt e, σ, K => wE ρ e σ (kNt K)
  | .bol op es, σ, K => wBo ρ op es σ (kBoo K)
  | .cmp op l r, σ, K => wE ρ l σ (kCmp K (wE ρ r) op)
  | .cmp2 o1 o2 a b c, σ, K => wE ρ a σ (kCh K (wE ρ b) (wE ρ c) o1 o2)
  | .ite t a b, σ, K => wE ρ t σ (kIte K (wE ρ a) (wE ρ b))
  | .attr e x, σ, K => wE ρ e σ (kAttr T K x)
  | .sub e i, σ, K => wE ρ e σ (kSub K (wE ρ i))
  | .slTo e h, σ, K => wE ρ e σ (kTo K (wE ρ h))
  | .slFrom e h, σ, K => wE ρ e σ (kFrom K (wE ρ h))
  | .tup es, σ, K => wEs ρ es σ (kTup K)
  | .lst es, σ, K => wEs ρ es σ (kLst K)
  | .newLst es, σ, K => wEs ρ es σ (kNew K .lst)
  | .newApp es, σ, K => wEs ρ es σ (kNew K .app)
  | .newMul i n, σ, K => K (.ref σ.length) (σ ++ [.lst (List.replicate n (.int i))])
  | .mulL i n, σ, K => K (.lst (List.replicate n (.int i))) σ
  | .newList e, σ, K => wE ρ e σ (kNewL K)
  | .dic0, σ, K => K (.ref σ.length) (σ ++ [.dicI []])
  | .dic2 k1 e1 k2 e2, σ, K => wE ρ e1 (σ ++ [.dicS []]) (kDic2 K (wE ρ e2) σ.length k1 k2)
  | .cf f es, σ, K => wEs ρ es σ (kCall C K f)
  | .cm e m es, σ, K => wE ρ e σ (kMeth T C K m (wEs ρ es))
  | .cn c es, σ, K => wEs ρ es σ (kObj T C K c)
  | .cnm c es, σ, K => wEs ρ es σ (kMut T C K c)
  | .ci c es, σ, K => wEs ρ es σ (kCall C K (T.init c))
  | .cb b e, σ, K => wE ρ e σ (kBi K b)
  | .spl0 e, σ, K => wE ρ e σ (kSpl0 K)
  | .spl1 e d, σ, K => wE ρ e σ (kStr (wE ρ d) (kSpl2 K))
  | .stw e d, σ, K => wE ρ e σ (kStr (wE ρ d) (kStw2 K))
  | .fnd e d, σ, K => wE ρ e σ (kStr (wE ρ d) (kFnd2 K))
  | .idx e d, σ, K => wE ρ e σ (kIdx K (wE ρ d))
  | .get2 e k d, σ, K => wE ρ e σ (kGet K (wE ρ k) (wE ρ d))
  | .app e d, σ, K => wE ρ e σ (kApp K (wE ρ d))
  | .lcAdd e k, σ, K => wE ρ e σ (kLc K k)
noncomputable def wEs (ρ : Env') : Exs → H → (List V → H → Prop) → Prop
  | .nil, σ, K => K [] σ
  | .cons e es, σ, K => wE ρ e σ (kCons K (wEs ρ es))
noncomputable def wBo (ρ : Env') (op : BoolOp) : Exs → H → (Bool → H → Prop) → Prop
  | .nil, _, _ => False
  | .cons e es, σ, K => wE ρ e σ (kBo op es (wBo ρ op es) K)
end
noncomputable def putsW (xs : List Nat) : List V → Env' → (Env' → Prop) → Prop := List.rec (fun vs ρ K => List.casesOn vs (K ρ) fun _ _ => False) (fun x _ ih vs ρ K => List.casesOn vs False fun v vs => ih vs (put x v ρ) K) xs
section
variable (K : KF) (ρ : Env')
noncomputable def kn (σ : H) (ρ : Env') : Prop := K .nxt ρ σ
noncomputable def kh (σ : H) : Prop := K .nxt ρ σ
noncomputable def kRet (v : V) (σ : H) : Prop := K (.ret v) ρ σ
noncomputable def kAsg (x : Nat) (v : V) (σ : H) : Prop := K .nxt (put x v ρ) σ
noncomputable def kAsA2 (x : Nat) (v b : V) (σ : H) : Prop := setAW T σ b x v (kh K ρ)
noncomputable def kAsA (f : H → KV → Prop) (x : Nat) (v : V) (σ : H) : Prop := f σ (kAsA2 T K ρ x v)
noncomputable def kAsS3 (v b i : V) (σ : H) : Prop := setSW σ b i v (kh K ρ)
noncomputable def kAsS2 (g : H → KV → Prop) (v b : V) (σ : H) : Prop := g σ (kAsS3 K ρ v b)
noncomputable def kAsS (f g : H → KV → Prop) (v : V) (σ : H) : Prop := f σ (kAsS2 K ρ g v)
noncomputable def kAsT (xs : List Nat) (v : V) (σ : H) : Prop := v.T fun vs => putsW xs vs ρ (kn K σ)
noncomputable def kAsX2 (xs : List Nat) (r : Option V) (σ : H) : Prop := Option.rec (K .exc ρ σ) (fun v => kAsT K ρ xs v σ) r
noncomputable def kAsX (xs : List Nat) (f : Nat) (vs : List V) (σ : H) : Prop := C f vs σ (kAsX2 K ρ xs)
noncomputable def kAsW (xs : List Nat) (vs : List V) (σ : H) : Prop := putsW xs.reverse vs.reverse ρ (kn K σ)
noncomputable def kSet (x : Nat) (v : V) (f : H → (H → Prop) → Prop) (G : H → Prop) (b : V) (σ : H) : Prop := setAW T σ b x v fun σ => f σ G
noncomputable def setsW (ts : List (Ex × Nat)) : List V → H → (H → Prop) → Prop := List.rec (fun vs σ G => List.casesOn vs (G σ) fun _ _ => False)
  (fun t _ ih vs σ G => List.casesOn vs False fun v vs => wE T C ρ t.1 σ (kSet T t.2 v (ih vs) G)) ts
noncomputable def kAsF (ts : List (Ex × Nat)) (vs : List V) (σ : H) : Prop := ts.length = vs.length ∧ setsW T C ρ ts vs σ (kh K ρ)
noncomputable def kIf (f g : Env' → H → KF → Prop) (v : V) (σ : H) : Prop := v.B fun c => ifW c (f ρ σ K) (g ρ σ K)
noncomputable def kExp (_ : V) (σ : H) : Prop := K .nxt ρ σ
noncomputable def kExX2 (r : Option V) (σ : H) : Prop := Option.rec (K .exc ρ σ) (fun _ => K .nxt ρ σ) r
noncomputable def kExX (f : Nat) (vs : List V) (σ : H) : Prop := C f vs σ (kExX2 K ρ)
noncomputable def kTry2 (y x : Nat) (s : Str) (r : Option V) (σ : H) : Prop := Option.rec (K .nxt (put x (.str s) ρ) σ) (fun v => K .nxt (put y v ρ) σ) r
noncomputable def kTry (y f x : Nat) (s : Str) (vs : List V) (σ : H) : Prop := C f vs σ (kTry2 K ρ y x s)
noncomputable def loopK (ih : Env' → H → Prop) (f : Fl) (ρ : Env') (σ : H) : Prop := Fl.casesOn f (ih ρ σ) (fun u => K (.ret u) ρ σ) False
noncomputable def forW (body : Env' → H → KF → Prop) (x : Nat) (vs : List V) : Env' → H → Prop := List.rec (fun ρ σ => K .nxt ρ σ) (fun v _ ih ρ σ => body (put x v ρ) σ (loopK K ih)) vs
noncomputable def for2W (body : Env' → H → KF → Prop) (x y : Nat) (vs : List V) : Nat → Env' → H → Prop := List.rec (fun _ ρ σ => K .nxt ρ σ) (fun v _ ih n ρ σ => body (put y v (put x (.int n) ρ)) σ (loopK K (ih (n + 1)))) vs
noncomputable def kWh (body : Env' → H → KF → Prop) (ih : Env' → H → Prop) (t : V) (σ : H) : Prop := t.B fun b => ifW b (body ρ σ (loopK K ih)) (K .nxt ρ σ)
noncomputable def whW (test : Env' → H → KV → Prop) (body : Env' → H → KF → Prop) (n : Nat) : Env' → H → Prop := Nat.rec (fun _ _ => False) (fun _ ih ρ σ => test ρ σ (kWh K ρ body ih)) n
noncomputable def kForV (body : Env' → H → KF → Prop) (x : Nat) (a : V) (σ : H) : Prop := V.casesOn (motive_1 := fun _ => Prop) a False (fun _ => False) (fun _ => False) (fun _ => False) (fun l => forW K body x l ρ σ) (fun l => forW K body x l ρ σ) (fun _ _ => False) fun _ => False
noncomputable def kForR (body : Env' → H → KF → Prop) (x : Nat) (a : V) (σ : H) : Prop := a.I fun n => (0 ≤ n ∧ n ≤ 1000) ∧ forW K body x ((List.range n.toNat).map fun i => V.int (i : Nat)) ρ σ
noncomputable def kFor2 (body : Env' → H → KF → Prop) (x y : Nat) (a : V) (σ : H) : Prop := a.L fun l => for2W K body x y l 0 ρ σ
noncomputable def cpEnv (p : Nat) (l : List (Int × V)) : Env' := l.foldl (fun ρ q => put p (.int q.1) ρ) ρ
noncomputable def cpW (p x y a : Nat) (σ : H) : Prop := opt (look x ρ) fun o => opt (look y ρ) fun o' => attrW T σ o a fun v => v.R fun m => attrW T σ o' a fun v' => v'.R fun m' =>
  hD σ[m]? fun l => hD σ[m']? fun l' => (m ≠ m' ∧ l' = []) ∧ K .nxt (cpEnv ρ p l) (σ.set m' (.dicI l))
noncomputable def seqK (f : Env' → H → KF → Prop) (fl : Fl) (ρ : Env') (σ : H) : Prop := Fl.casesOn fl (f ρ σ K) (fun u => K (.ret u) ρ σ) (K .exc ρ σ)
end
mutual
noncomputable def wS : St → Env' → H → KF → Prop
  | .ret e, ρ, σ, K => wE T C ρ e σ (kRet K ρ)
  | .ret0, ρ, σ, K => K (.ret .non) ρ σ
  | .asg x e, ρ, σ, K => wE T C ρ e σ (kAsg K ρ x)
  | .asgA o a e, ρ, σ, K => wE T C ρ e σ (kAsA T K ρ (wE T C ρ o) a)
  | .asgS o i e, ρ, σ, K => wE T C ρ e σ (kAsS K ρ (wE T C ρ o) (wE T C ρ i))
  | .asgT xs e, ρ, σ, K => wE T C ρ e σ (kAsT K ρ xs)
  | .asgX xs f es, ρ, σ, K => wEs T C ρ es σ (kAsX C K ρ xs f)
  | .asgW xs es, ρ, σ, K => wEs T C ρ es σ (kAsW K ρ xs)
  | .asgF ts es, ρ, σ, K => wEs T C ρ es σ (kAsF T C K ρ ts)
  | .ite t a b, ρ, σ, K => wE T C ρ t σ (kIf K ρ (wB a) (wB b))
  | .forV x e b, ρ, σ, K => wE T C ρ e σ (kForV K ρ (wB b) x)
  | .forR x e b, ρ, σ, K => wE T C ρ e σ (kForR K ρ (wB b) x)
  | .for2 x y e b, ρ, σ, K => wE T C ρ e σ (kFor2 K ρ (wB b) x y)
  | .whl t b, ρ, σ, K => whW K (fun ρ => wE T C ρ t) (wB b) 200 ρ σ
  | .exp e, ρ, σ, K => wE T C ρ e σ (kExp K ρ)
  | .expX f es, ρ, σ, K => wEs T C ρ es σ (kExX C K ρ f)
  | .rai _ _, ρ, σ, K => K .exc ρ σ
  | .try1 y f es x s, ρ, σ, K => wEs T C ρ es σ (kTry C K ρ y f x s)
  | .dcopy p x y a, ρ, σ, K => cpW T K ρ p x y a σ
  | .raw, _, _, _ => False
noncomputable def wB : Sts → Env' → H → KF → Prop
  | .nil, ρ, σ, K => K .nxt ρ σ
  | .cons s ss, ρ, σ, K => wS s ρ σ (seqK K (wB ss))
end
end
structure Fn where
  ps : List Nat
  ds : List V
  body : Sts
noncomputable def bindP (ps : List Nat) (ds : List V) : List V → Env' := List.rec (fun _ => []) (fun p ps ih args => List.casesOn args ((p :: ps).zip (ds.drop (ds.length - (ps.length + 1)))) fun v vs => (p, v) :: ih vs) ps
noncomputable def okN (ps : List Nat) (ds args : List V) : Bool := Nat.ble args.length ps.length && Nat.ble ps.length (args.length + ds.length)
noncomputable def endK (K : Option V → H → Prop) (f : Fl) (_ : Env') (σ : H) : Prop := Fl.casesOn f (K (some .non) σ) (fun v => K (some v) σ) (K none σ)
noncomputable def runF (T : Tab) (C : Orc) (f : Fn) (args : List V) (σ : H) (K : Option V → H → Prop) : Prop := cond (okN f.ps f.ds args) (wB T C f.body (bindP f.ps f.ds args) σ (endK K)) False
noncomputable def runN (T : Tab) (fns : Nat → Option Fn) (sp : Orc) (n : Nat) : Orc := Nat.rec (fun _ _ _ _ => False) (fun _ ih f args σ K => Option.rec (sp f args σ K) (fun fn => runF T ih fn args σ K) (fns f)) n
end Mine
namespace Mine
noncomputable def biName : BI → String
  | .len => "len" | .abs => "abs" | .int => "int" | .lst => "list" | .tup => "tuple" | .sorted => "sorted" | .str => "str"
noncomputable def lkp (x : Str) (l : List (Str × NameKind)) : Option NameKind := List.rec none (fun p _ ih => cond (seq x p.1) (some p.2) ih) l
noncomputable def isGlo (sc : Scope) (x : Str) : Bool := decide (lkp x sc.names = some .globalImplicit) && !seq x "__debug__"
noncomputable def isLoc (sc : Scope) (x : Str) : Bool := decide (lkp x sc.names = some .local) && !seq x "__debug__"
noncomputable def few (l : List Expr) : Bool := Nat.ble l.length 24
noncomputable def seqs (a : List Str) : List Str → Bool := List.rec (fun b => List.rec true (fun _ _ _ => false) b) (fun x _ ih b => List.rec false (fun y b _ => seq x y && ih b) b) a
noncomputable def swpLine (ts : List Expr) : Nat := (ts.head?.map (·.pos.line)).getD 0
noncomputable def swpNames (sc : Scope) (ts : List Expr) : List Str := ts.filterMap fun
  | .Name id pos => if sc.names.lookup id == some .local && pos.line == swpLine ts then some id else none
  | _ => none
noncomputable def swpOk (sc : Scope) (ts vs : List Expr) : Bool :=
  (ts.length == 2 || ts.length == 3) && vs.length == ts.length && !(vs.any fun | .Starred .. => true | _ => false) && (swpNames sc ts).length == ts.length && (swpNames sc ts).eraseDups.length == (swpNames sc ts).length && !(vs.all (foldedForSure 8)) && !(vs.all (constantsAlone 8))
noncomputable def oneLine (a p : Pos) : Bool := a.endLine == p.line
inductive PT where
  | lf
  | raw (s : Stmt)
  | nd (p : Pos) (k : Nat) (a b : PT)
noncomputable def PT.p : PT → Pos
  | .nd p _ _ _ => p
  | _ => ⟨0, 0, 0, 0⟩
noncomputable def PT.k : PT → Nat
  | .nd _ k _ _ => k
  | _ => 0
noncomputable def PT.a : PT → PT
  | .nd _ _ a _ => a
  | p => p
noncomputable def PT.b : PT → PT
  | .nd _ _ _ b => b
  | p => p
noncomputable def PT.s : PT → Stmt
  | .raw s => s
  | _ => .Pass ⟨0, 0, 0, 0⟩
noncomputable def lcS : Scope := ⟨.function, [(".0", .local), ("cell", .local), ("int", .globalImplicit)], false, false, []⟩
noncomputable def noSup (x : Ex) : Bool := match x with
  | .cf _ es => Exs.casesOn (motive_2 := fun _ => Bool) es false fun _ _ => true
  | .cn _ _ => false
  | .cnm _ _ => false
  | _ => true
noncomputable def noTup (x : Ex) : Bool := match x with
  | .tup _ => false
  | _ => true
section
variable (T : Tab)
mutual
noncomputable def toE : Ex → PT → Expr
  | .non, p => .Constant .none p.k p.p
  | .tru, p => .Constant (.bool true) p.k p.p
  | .fal, p => .Constant (.bool false) p.k p.p
  | .int i, p => .Constant (.int i) p.k p.p
  | .str s, p => .Constant (.str s) p.k p.p
  | .loc x, p => .Name (T.nm x) p.p
  | .glo x, p => .Name (T.nm x) p.p
  | .bin op l r, p => .BinOp (toE l p.a) op (toE r p.b) p.p
  | .neg x, p => .UnaryOp .USub (toE x p.a) p.p
  | .inv x, p => .UnaryOp .Invert (toE x p.a) p.p
  | .nt x, p => .UnaryOp .Not (toE x p.a) p.p
  | .bol op es, p => .BoolOp op (toEs es p.a) p.p
  | .cmp op l r, p => .Compare (toE l p.a) [op] [toE r p.b.a] p.p
  | .cmp2 o1 o2 a b c, p => .Compare (toE a p.a) [o1, o2] [toE b p.b.a, toE c p.b.b.a] p.p
  | .ite t a b, p => .IfExp (toE t p.a) (toE a p.b.a) (toE b p.b.b) p.p
  | .attr x a, p => .Attribute (toE x p.a) (T.nm a) p.p
  | .sub x i, p => .Subscript (toE x p.a) (toE i p.b) p.p
  | .slTo x h, p => .Subscript (toE x p.a) (.Slice none (some (toE h p.b.b)) none p.b.p) p.p
  | .slFrom x h, p => .Subscript (toE x p.a) (.Slice (some (toE h p.b.a)) none none p.b.p) p.p
  | .tup es, p => .Tuple (toEs es p.a) p.k p.p
  | .lst es, p => .List (toEs es p.a) p.p
  | .newLst es, p => .List (toEs es p.a) p.p
  | .newApp es, p => .List (toEs es p.a) p.p
  | .newMul i n, p => .BinOp (.List [.Constant (.int i) p.a.a.a.k p.a.a.a.p] p.a.p) .Mult (.Constant (.int (n : Nat)) p.b.k p.b.p) p.p
  | .mulL i n, p => .BinOp (.List [.Constant (.int i) p.a.a.a.k p.a.a.a.p] p.a.p) .Mult (.Constant (.int (n : Nat)) p.b.k p.b.p) p.p
  | .newList x, p => .Call (.Name (Str.ofString (biName .lst)) p.a.p) [toE x p.b.a] [] p.p
  | .dic0, p => .Dict [] [] p.p
  | .dic2 k1 e1 k2 e2, p => .Dict [some (.Constant (.str k1) p.a.a.k p.a.a.p), some (.Constant (.str k2) p.a.b.a.k p.a.b.a.p)] [toE e1 p.b.a, toE e2 p.b.b.a] p.p
  | .cf f es, p => .Call (.Name (T.nm f) p.a.p) (toEs es p.b) [] p.p
  | .cm x m es, p => .Call (.Attribute (toE x p.a.a) (T.nm m) p.a.p) (toEs es p.b) [] p.p
  | .cn c es, p => .Call (.Name (T.nm c) p.a.p) (toEs es p.b) [] p.p
  | .cnm c es, p => .Call (.Name (T.nm c) p.a.p) (toEs es p.b) [] p.p
  | .ci c es, p => .Call (.Attribute (.Name (T.nm c) p.a.a.p) "__init__" p.a.p) (toEs es p.b) [] p.p
  | .cb b x, p => .Call (.Name (Str.ofString (biName b)) p.a.p) [toE x p.b.a] [] p.p
  | .spl0 x, p => .Call (.Attribute (toE x p.a.a) "split" p.a.p) [] [] p.p
  | .spl1 x d, p => .Call (.Attribute (toE x p.a.a) "split" p.a.p) [toE d p.b.a] [] p.p
  | .stw x d, p => .Call (.Attribute (toE x p.a.a) "startswith" p.a.p) [toE d p.b.a] [] p.p
  | .fnd x d, p => .Call (.Attribute (toE x p.a.a) "find" p.a.p) [toE d p.b.a] [] p.p
  | .idx x d, p => .Call (.Attribute (toE x p.a.a) "index" p.a.p) [toE d p.b.a] [] p.p
  | .get2 x k d, p => .Call (.Attribute (toE x p.a.a) "get" p.a.p) [toE k p.b.a, toE d p.b.b.a] [] p.p
  | .app x d, p => .Call (.Attribute (toE x p.a.a) "append" p.a.p) [toE d p.b.a] [] p.p
  | .lcAdd x k, p => .BinOp (.ListComp (.Call (.Name (Str.ofString (biName .int)) p.a.a.a.p) [.Name "cell" p.a.a.b.a.p] [] p.a.a.p) [⟨.Name "cell" p.a.b.a.p, toE x p.a.b.b, [], 0⟩] lcS p.a.p) .Add (.List [.Constant (.int k) p.b.a.a.k p.b.a.a.p] p.b.p) p.p
noncomputable def toEs : Exs → PT → List Expr
  | .nil, _ => []
  | .cons e es, p => toE e p.a :: toEs es p.b
end
mutual
noncomputable def okE (sc : Scope) : Ex → PT → Bool
  | .loc x, _ => Nat.blt x T.n && isLoc sc (T.nm x)
  | .glo x, _ => isGlo sc (T.nm x)
  | .bin _ l r, p => okE sc l p.a && okE sc r p.b
  | .neg x, p => okE sc x p.a
  | .inv x, p => okE sc x p.a
  | .nt x, p => okE sc x p.a
  | .bol _ es, p => okEs sc es p.a
  | .cmp _ l r, p => okE sc l p.a && okE sc r p.b.a
  | .cmp2 _ _ a b c, p => okE sc a p.a && (okE sc b p.b.a && okE sc c p.b.b.a)
  | .ite t a b, p => okE sc t p.a && (okE sc a p.b.a && okE sc b p.b.b)
  | .attr x _, p => noSup x && okE sc x p.a
  | .sub x i, p => okE sc x p.a && okE sc i p.b
  | .slTo x h, p => okE sc x p.a && okE sc h p.b.b
  | .slFrom x h, p => okE sc x p.a && okE sc h p.b.a
  | .tup es, p => few (toEs T es p.a) && okEs sc es p.a
  | .lst es, p => few (toEs T es p.a) && okEs sc es p.a
  | .newLst es, p => few (toEs T es p.a) && okEs sc es p.a
  | .newApp es, p => few (toEs T es p.a) && okEs sc es p.a
  | .newMul _ n, _ => Nat.ble n 1000
  | .mulL _ n, _ => Nat.ble n 1000
  | .newList x, p => isGlo sc (Str.ofString (biName .lst)) && okE sc x p.b.a
  | .dic2 k1 e1 k2 e2, p => !seq k1 k2 && (okE sc e1 p.b.a && okE sc e2 p.b.b.a)
  | .cf f es, p => (T.fnq f && isGlo sc (T.nm f)) && (few (toEs T es p.b) && okEs sc es p.b)
  | .cm x _ es, p => (noSup x && oneLine p.a.p p.p) && (few (toEs T es p.b) && (okE sc x p.a.a && okEs sc es p.b))
  | .cn c es, p => (Nat.blt 0 (T.init c) && isGlo sc (T.nm c)) && (few (toEs T es p.b) && okEs sc es p.b)
  | .cnm c es, p => (Nat.blt 0 (T.init c) && isGlo sc (T.nm c)) && (few (toEs T es p.b) && okEs sc es p.b)
  | .ci c es, p => ((Nat.blt 0 (T.init c) && isGlo sc (T.nm c)) && oneLine p.a.p p.p) && (few (toEs T es p.b) && okEs sc es p.b)
  | .cb b x, p => isGlo sc (Str.ofString (biName b)) && okE sc x p.b.a
  | .spl0 x, p => (noSup x && oneLine p.a.p p.p) && okE sc x p.a.a
  | .spl1 x d, p => (noSup x && oneLine p.a.p p.p) && (okE sc x p.a.a && okE sc d p.b.a)
  | .stw x d, p => (noSup x && oneLine p.a.p p.p) && (okE sc x p.a.a && okE sc d p.b.a)
  | .fnd x d, p => (noSup x && oneLine p.a.p p.p) && (okE sc x p.a.a && okE sc d p.b.a)
  | .idx x d, p => (noSup x && oneLine p.a.p p.p) && (okE sc x p.a.a && okE sc d p.b.a)
  | .get2 x k d, p => (noSup x && oneLine p.a.p p.p) && (okE sc x p.a.a && (okE sc k p.b.a && okE sc d p.b.b.a))
  | .app x d, p => (noSup x && oneLine p.a.p p.p) && (okE sc x p.a.a && okE sc d p.b.a)
  | .lcAdd x _, p => okE sc x p.a.b.b
  | _, _ => true
noncomputable def okEs (sc : Scope) : Exs → PT → Bool
  | .nil, _ => true
  | .cons e es, p => okE sc e p.a && okEs sc es p.b
end
noncomputable def toTs : List Nat → PT → List Expr
  | [], _ => []
  | x :: xs, p => .Name (T.nm x) p.a.p :: toTs xs p.b
noncomputable def okTs (sc : Scope) (xs : List Nat) : Bool := xs.all fun x => Nat.blt x T.n && isLoc sc (T.nm x)
noncomputable def toFs : List (Ex × Nat) → PT → List Expr
  | [], _ => []
  | t :: ts, p => .Attribute (toE T t.1 p.a.a) (T.nm t.2) p.a.p :: toFs ts p.b
noncomputable def okFs (sc : Scope) : List (Ex × Nat) → PT → Bool
  | [], _ => true
  | t :: ts, p => okE T sc t.1 p.a.a && okFs sc ts p.b
mutual
noncomputable def toS : St → PT → Stmt
  | .ret e, p => .Return (some (toE T e p.a)) p.p
  | .ret0, p => .Return none p.p
  | .asg x e, p => .Assign [.Name (T.nm x) p.b.a.p] (toE T e p.a) p.p
  | .asgA o a e, p => .Assign [.Attribute (toE T o p.b.a.a) (T.nm a) p.b.a.p] (toE T e p.a) p.p
  | .asgS o i e, p => .Assign [.Subscript (toE T o p.b.a.a) (toE T i p.b.a.b) p.b.a.p] (toE T e p.a) p.p
  | .asgT xs e, p => .Assign [.Tuple (toTs T xs p.b.a.a) p.b.a.k p.b.a.p] (toE T e p.a) p.p
  | .asgX xs f es, p => .Assign [.Tuple (toTs T xs p.b.a.a) p.b.a.k p.b.a.p] (toE T (.cf f es) p.a) p.p
  | .asgW xs es, p => .Assign [.Tuple (toTs T xs p.b.a.a) p.b.a.k p.b.a.p] (toE T (.tup es) p.a) p.p
  | .asgF ts es, p => .Assign [.Tuple (toFs T ts p.b.a.a) p.b.a.k p.b.a.p] (toE T (.tup es) p.a) p.p
  | .ite t a b, p => .If (toE T t p.a) (toB a p.b.a) (toB b p.b.b) p.p
  | .forV x e b, p => .For (.Name (T.nm x) p.b.a.p) (toE T e p.b.b) (toB b p.a) [] p.p
  | .forR x e b, p => .For (.Name (T.nm x) p.b.a.p) (.Call (.Name "range" p.b.b.a.p) [toE T e p.b.b.b.a] [] p.b.b.p) (toB b p.a) [] p.p
  | .for2 x y e b, p => .For (.Tuple [.Name (T.nm x) p.b.a.a.a.p, .Name (T.nm y) p.b.a.a.b.a.p] p.b.a.k p.b.a.p) (.Call (.Name "enumerate" p.b.b.a.p) [toE T e p.b.b.b.a] [] p.b.b.p) (toB b p.a) [] p.p
  | .whl t b, p => .While (toE T t p.a) (toB b p.b) [] p.p
  | .exp e, p => .Expr (toE T e p.a) p.p
  | .expX f es, p => .Expr (toE T (.cf f es) p.a) p.p
  | .rai c x, p => .Raise (some (.Call (.Name (T.nm c) p.a.a.p) [.Constant (.str x) p.a.b.a.k p.a.b.a.p] [] p.a.p)) none p.p
  | .try1 y f es x w, p => .Try [.Assign [.Name (T.nm y) p.a.a.b.a.p] (.Call (.Name (T.nm f) p.a.a.a.a.p) (toEs T es p.a.a.a.b) [] p.a.a.a.p) p.a.a.p]
      [.ExceptHandler (some (.Name (T.nm 79) p.b.a.p)) none [.Assign [.Name (T.nm x) p.b.b.a.b.a.p] (.Constant (.str w) p.b.b.a.a.k p.b.b.a.a.p) p.b.b.a.p] p.b.p] [] [] p.p
  | .dcopy q x y a, p => .For (.Name (T.nm q) p.b.a.p) (.Attribute (.Name (T.nm x) p.b.b.a.p) (T.nm a) p.b.b.p)
      [.Assign [.Subscript (.Attribute (.Name (T.nm y) p.a.a.b.a.a.a.p) (T.nm a) p.a.a.b.a.a.p) (.Name (T.nm q) p.a.a.b.a.b.p) p.a.a.b.a.p]
        (.Subscript (.Attribute (.Name (T.nm x) p.a.a.a.a.a.p) (T.nm a) p.a.a.a.a.p) (.Name (T.nm q) p.a.a.a.b.p) p.a.a.a.p) p.a.a.p] [] p.p
  | .raw, p => p.b.s
noncomputable def toB : Sts → PT → List Stmt
  | .nil, _ => []
  | .cons s ss, p => toS s p.a :: toB ss p.b
end
mutual
noncomputable def okS (sc : Scope) : St → PT → Bool
  | .ret e, p => okE T sc e p.a
  | .asg x e, p => (Nat.blt x T.n && isLoc sc (T.nm x)) && okE T sc e p.a
  | .asgA o _ e, p => okE T sc o p.b.a.a && okE T sc e p.a
  | .asgS o i e, p => okE T sc o p.b.a.a && (okE T sc i p.b.a.b && okE T sc e p.a)
  | .asgT xs e, p => noTup e && (okTs T sc xs && okE T sc e p.a)
  | .asgX xs f es, p => okTs T sc xs && okE T sc (.cf f es) p.a
  | .asgW xs es, p => (swpOk sc (toTs T xs p.b.a.a) (toEs T es p.a.a) && seqs (swpNames sc (toTs T xs p.b.a.a)) (xs.map T.nm)) && (okTs T sc xs && okE T sc (.tup es) p.a)
  | .asgF ts es, p => okFs T sc ts p.b.a.a && okE T sc (.tup es) p.a
  | .ite t a b, p => okE T sc t p.a && (okB sc a p.b.a && okB sc b p.b.b)
  | .forV x e b, p => (Nat.blt x T.n && isLoc sc (T.nm x)) && (okE T sc e p.b.b && okB sc b p.a)
  | .forR x e b, p => (Nat.blt x T.n && isLoc sc (T.nm x)) && (isGlo sc "range" && (okE T sc e p.b.b.b.a && okB sc b p.a))
  | .for2 x y e b, p => okTs T sc [x, y] && (isGlo sc "enumerate" && (okE T sc e p.b.b.b.a && okB sc b p.a))
  | .whl t b, p => okE T sc t p.a && okB sc b p.b
  | .exp e, p => okE T sc e p.a
  | .expX f es, p => okE T sc (.cf f es) p.a
  | .rai c _, _ => Nat.beq c 79 && isGlo sc (T.nm c)
  | .try1 y f es x _, p => (isGlo sc (T.nm 79) && (Nat.blt x T.n && isLoc sc (T.nm x))) && ((Nat.blt y T.n && isLoc sc (T.nm y)) && okE T sc (.cf f es) p.a.a.a)
  | .dcopy q x y _, _ => ((Nat.blt q T.n && isLoc sc (T.nm q)) && ((Nat.blt x T.n && isLoc sc (T.nm x)) && (Nat.blt y T.n && isLoc sc (T.nm y)))) && (!Nat.beq q x && !Nat.beq q y)
  | .ret0, _ => true
  | .raw, _ => true
noncomputable def okB (sc : Scope) : Sts → PT → Bool
  | .nil, _ => true
  | .cons s ss, p => okS sc s p.a && okB sc ss p.b
end
end
noncomputable def posE : Nat → Expr → PT
  | 0, _ => .lf
  | n + 1, e => match e with
    | .BoolOp _ es p => .nd p 0 (es.foldr (fun x r => .nd p 0 (posE n x) r) .lf) .lf
    | .BinOp l _ r p => .nd p 0 (posE n l) (posE n r)
    | .UnaryOp _ x p => .nd p 0 (posE n x) .lf
    | .IfExp t a b p => .nd p 0 (posE n t) (.nd p 0 (posE n a) (posE n b))
    | .Dict ks vs p => .nd p 0 (ks.foldr (fun x r => .nd p 0 (match x with
      | some x => posE n x
      | none => .lf) r) .lf) (vs.foldr (fun x r => .nd p 0 (posE n x) r) .lf)
    | .Compare l _ rs p => .nd p 0 (posE n l) (rs.foldr (fun x r => .nd p 0 (posE n x) r) .lf)
    | .Call f as _ p => .nd p 0 (posE n f) (as.foldr (fun x r => .nd p 0 (posE n x) r) .lf)
    | .Constant _ k p => .nd p k .lf .lf
    | .Attribute x _ p => .nd p 0 (posE n x) .lf
    | .Subscript x i p => .nd p 0 (posE n x) (posE n i)
    | .Slice lo hi _ p => .nd p 0 (match lo with
      | some x => posE n x
      | none => .lf) (match hi with
      | some x => posE n x
      | none => .lf)
    | .Name _ p => .nd p 0 .lf .lf
    | .List es p => .nd p 0 (es.foldr (fun x r => .nd p 0 (posE n x) r) .lf) .lf
    | .Tuple es k p => .nd p k (es.foldr (fun x r => .nd p 0 (posE n x) r) .lf) .lf
    | .ListComp x gs _ p => .nd p 0 (posE n x) (match gs with
      | g :: _ => .nd p 0 (posE n g.target) (posE n g.iter)
      | [] => .lf)
    | _ => .lf
noncomputable def posS : Nat → Stmt → PT
  | 0, _ => .lf
  | n + 1, s => match s with
    | .Return (some e) p => .nd p 0 (posE n e) (.raw s)
    | .Return none p => .nd p 0 .lf .lf
    | .Assign ts e p => .nd p 0 (posE n e) (ts.foldr (fun x r => .nd p 0 (posE n x) r) .lf)
    | .If t a b p => .nd p 0 (posE n t) (.nd p 0 (a.foldr (fun x r => .nd p 0 (posS n x) r) .lf) (b.foldr (fun x r => .nd p 0 (posS n x) r) .lf))
    | .For t i b _ p => .nd p 0 (b.foldr (fun x r => .nd p 0 (posS n x) r) .lf) (.nd p 0 (posE n t) (posE n i))
    | .While t b _ p => .nd p 0 (posE n t) (b.foldr (fun x r => .nd p 0 (posS n x) r) .lf)
    | .Expr e p => .nd p 0 (posE n e) .lf
    | .Raise e _ p => .nd p 0 (match e with
      | some e => posE n e
      | none => .lf) (.raw s)
    | .Try b hs _ _ p => .nd p 0 (b.foldr (fun x r => .nd p 0 (posS n x) r) .lf) (match hs with
      | .ExceptHandler (some t) _ hb q :: _ => .nd q 0 (posE n t) (hb.foldr (fun x r => .nd p 0 (posS n x) r) .lf)
      | _ => .lf)
    | s => .nd ⟨0, 0, 0, 0⟩ 0 .lf (.raw s)
noncomputable def posB (b : List Stmt) : PT := b.foldr (fun x r => .nd ⟨0, 0, 0, 0⟩ 0 (posS 40 x) r) .lf
theorem andL {a b : Bool} (h : (a && b) = true) : a = true := (Bool.and_eq_true_iff.mp h).1
theorem andR {a b : Bool} (h : (a && b) = true) : b = true := (Bool.and_eq_true_iff.mp h).2
end Mine
namespace Mine
noncomputable def nms : List String := ["written", "mask", "size", "wrap", "worth", "signed", "low", "fits_signed", "half", "extended", "wide", "bit", "n", "ones", "count", "rest", "parity", "lowest_bit", "highest_bit", "place", "swapped", "width", "turned", "spot", "condition_names", "CONDITIONS", "condition_of", "name", "stem", "string_stem", "szp", "flags", "result", "told", "pf", "zf", "sf", "six_flags", "FLAG_NAMES", "reads_flags", "condition", "flags_of_condition", "writes_flags", "sure_flags", "prefix", "undefined_by_count", "found", "masked", "undefined_flags", "early_names", "NAMES_8", "NAMES_16", "NAMES_32", "NAMES_64", "late_ending", "gpr", "number", "Register", "names", "joined", "old", "masked_count", "shifted", "whole", "carry", "turned_left", "turn", "rotated", "rotated_through", "out", "double_shifted", "other", "product", "one", "is_signed", "is_wide", "quotient", "divisor", "part", "MachineError", "scanned", "with_bit", "clear_flags", "of", "cf", "af", "count_told", "state", "operand", "kind", "get", "register", "shift_deed", "instruction", "write", "target", "over", "SHIFTS", "ROTATES", "read", "operands", "size_of", "double_deed", "source", "by", "lay_wide", "put_halves", "high", "put", "halves", "product_deed", "quotient_deed", "bit_deed", "base", "memory", "zero", "offset", "scan_deed", "swap_deed", "widening_deed", "small", "conversion_deed", "CONVERSIONS", "SPREADS", "rotate_deed", "THROUGHS", "DOUBLES", "BITS", "SCANS", "WIDENINGS", "_law_cells", "script", "_law_below", "pen", "many", "cell", "_law_one_of", "things", "_law_rounds", "_law_set_by", "_law_open", "_law_goal", "Mem", "Reg", "_law_by", "Imm", "way", "_law_counted", "goal", "_law_double", "giver", "_law_uncounted", "sort", "taker", "more", "_law_line", "_law_register", "_law_begin", "regs", "at", "flag", "State", "_law_answer", "line", "_law_told_right", "_law_flags_right", "befores", "behinds", "pair", "still_open", "changed", "_law_line_right", "is_alike", "third", "heard", "untouched", "copy", "Instruction", "law", "self", "df", "Flags", "DF", "OF", "CF", "PF", "AF", "ZF", "SF", "pack", "unpack", "spots", "held", "Memory", "octet", "set_octet", "iset", "is_halted", "segments", "begin", "rip", "xmm", "put_low", "mem", "total", "index", "scale", "segment", "bases", "Operand"]
noncomputable def nmT (i : Nat) : Str := Str.ofString (nms.getD i "")
noncomputable def lkN {α : Type} (k : Nat) (l : List (Nat × α)) : Option α := List.rec none (fun p _ ih => cond (Nat.beq k p.1) (some p.2) ih) l
noncomputable def fldL : List (Nat × List Nat) := [(57, [27, 89, 56, 2]), (143, [89, 91]), (145, [89, 4, 27]), (142, [89, 113, 205, 206, 4, 2, 207, 27]), (177, [27, 100, 44]), (181, [84, 34, 85, 35, 36, 83, 180]), (193, [192]), (161, [196, 158, 201, 31, 114, 200, 199, 198, 197])]
noncomputable def methL : List (Nat × List (Nat × Nat)) := [(181, [(33, 701), (189, 702), (190, 703), (176, 704), (90, 705), (108, 706)]), (193, [(194, 709), (195, 710), (99, 711), (94, 712), (176, 713), (33, 714), (0, 731)]), (161, [(90, 716), (108, 717), (202, 718), (116, 719), (19, 720), (101, 721), (99, 722), (94, 723), (33, 724), (176, 725)])]
noncomputable def initL : List (Nat × Nat) := [(181, 700), (57, 707), (193, 708), (161, 715), (209, 726), (143, 727), (145, 728), (142, 729), (177, 730)]
noncomputable def globL : List (Nat × V) := [(25, (V.str (Str.ofString "o no b ae e ne be a s ns p np l ge le g"))), (184, (V.int 0)), (185, (V.int 2)), (186, (V.int 4)), (187, (V.int 6)), (188, (V.int 7)), (182, (V.int 10)), (183, (V.int 11)), (38, (V.str (Str.ofString "cf pf af zf sf of df"))), (50, (V.str (Str.ofString "al cl dl bl spl bpl sil dil"))), (51, (V.str (Str.ofString "ax cx dx bx sp bp si di"))), (52, (V.str (Str.ofString "eax ecx edx ebx esp ebp esi edi"))), (53, (V.str (Str.ofString "rax rcx rdx rbx rsp rbp rsi rdi"))), (97, (V.str (Str.ofString "shl shr sar"))), (98, (V.str (Str.ofString "rol ror"))), (125, (V.str (Str.ofString "rcl rcr"))), (126, (V.str (Str.ofString "shld shrd"))), (127, (V.str (Str.ofString "bt bts btr btc"))), (128, (V.str (Str.ofString "bsf bsr popcnt lzcnt tzcnt"))), (129, (V.str (Str.ofString "movzx movsx movsxd"))), (122, (V.str (Str.ofString "cbw cwde cdqe"))), (123, (V.str (Str.ofString "cwd cdq cqo")))]
noncomputable def fldT (c : Nat) : List Nat := (lkN c fldL).getD []
noncomputable def methT (c m : Nat) : Option Nat := lkN m ((lkN c methL).getD [])
noncomputable def initT (c : Nat) : Nat := (lkN c initL).getD 0
noncomputable def globT (x : Nat) : Option V := lkN x globL
noncomputable def f_mask : Fn := ⟨[2], [],
  (.cons (.ret (.bin .Sub (.bin .LShift (.int 1) (.loc 2)) (.int 1))) .nil)⟩
noncomputable def f_wrap : Fn := ⟨[4, 2], [],
  (.cons (.ret (.bin .BitAnd (.loc 4) (.cf 1 (.cons (.loc 2) .nil)))) .nil)⟩
noncomputable def f_signed : Fn := ⟨[4, 2], [],
  (.cons (.asg 6 (.cf 3 (.cons (.loc 4) (.cons (.loc 2) .nil)))) (.cons (.ite (.cmp .Eq (.bin .RShift (.loc 6) (.bin .Sub (.loc 2) (.int 1))) (.int 1)) (.cons (.ret (.bin .Sub (.loc 6) (.bin .LShift (.int 1) (.loc 2)))) .nil) .nil) (.cons (.ret (.loc 6)) .nil)))⟩
noncomputable def f_fits_signed : Fn := ⟨[4, 2], [],
  (.cons (.asg 8 (.bin .LShift (.int 1) (.bin .Sub (.loc 2) (.int 1)))) (.cons (.ret (.cmp2 .LtE .Lt (.neg (.loc 8)) (.loc 4) (.loc 8))) .nil))⟩
noncomputable def f_extended : Fn := ⟨[4, 2, 10], [],
  (.cons (.ret (.cf 3 (.cons (.cf 5 (.cons (.loc 4) (.cons (.loc 2) .nil))) (.cons (.loc 10) .nil)))) .nil)⟩
noncomputable def f_bit : Fn := ⟨[4, 12], [],
  (.cons (.ret (.bin .BitAnd (.bin .RShift (.loc 4) (.loc 12)) (.int 1))) .nil)⟩
noncomputable def f_ones : Fn := ⟨[4, 2], [],
  (.cons (.asg 15 (.cf 3 (.cons (.loc 4) (.cons (.loc 2) .nil)))) (.cons (.asg 14 (.int 0)) (.cons (.whl (.cmp .Gt (.loc 15) (.int 0)) (.cons (.asg 15 (.bin .BitAnd (.loc 15) (.bin .Sub (.loc 15) (.int 1)))) (.cons (.asg 14 (.bin .Add (.loc 14) (.int 1))) .nil))) (.cons (.ret (.loc 14)) .nil))))⟩
noncomputable def f_parity : Fn := ⟨[4], [],
  (.cons (.ret (.bin .Sub (.int 1) (.bin .Mod (.cf 13 (.cons (.loc 4) (.cons (.int 8) .nil))) (.int 2)))) .nil)⟩
noncomputable def f_lowest_bit : Fn := ⟨[4, 2], [],
  (.cons (.asg 6 (.cf 3 (.cons (.loc 4) (.cons (.loc 2) .nil)))) (.cons (.ite (.cmp .Eq (.loc 6) (.int 0)) (.cons (.ret (.neg (.int 1))) .nil) .nil) (.cons (.ret (.cf 13 (.cons (.bin .Sub (.bin .BitAnd (.loc 6) (.neg (.loc 6))) (.int 1)) (.cons (.loc 2) .nil)))) .nil)))⟩
noncomputable def f_highest_bit : Fn := ⟨[4, 2], [],
  (.cons (.asg 15 (.cf 3 (.cons (.loc 4) (.cons (.loc 2) .nil)))) (.cons (.asg 19 (.neg (.int 1))) (.cons (.whl (.cmp .Gt (.loc 15) (.int 0)) (.cons (.asg 15 (.bin .RShift (.loc 15) (.int 1))) (.cons (.asg 19 (.bin .Add (.loc 19) (.int 1))) .nil))) (.cons (.ret (.loc 19)) .nil))))⟩
noncomputable def f_swapped : Fn := ⟨[4, 21], [],
  (.cons (.asg 6 (.cf 3 (.cons (.loc 4) (.cons (.bin .Mult (.int 8) (.loc 21)) .nil)))) (.cons (.asg 22 (.int 0)) (.cons (.forR 23 (.loc 21) (.cons (.asg 22 (.bin .BitOr (.bin .LShift (.loc 22) (.int 8)) (.bin .BitAnd (.loc 6) (.int 255)))) (.cons (.asg 6 (.bin .RShift (.loc 6) (.int 8))) .nil))) (.cons (.ret (.loc 22)) .nil))))⟩
noncomputable def f_condition_names : Fn := ⟨[], [],
  (.cons (.ret (.spl1 (.glo 25) (.str (Str.ofString " ")))) .nil)⟩
noncomputable def f_condition_of : Fn := ⟨[27], [],
  (.cons (.forV 28 (.tup (.cons (.str (Str.ofString "j")) (.cons (.str (Str.ofString "set")) (.cons (.str (Str.ofString "cmov")) .nil)))) (.cons (.ite (.bol .And (.cons (.stw (.loc 27) (.loc 28)) (.cons (.cmp .In (.slFrom (.loc 27) (.cb .len (.loc 28))) (.cf 24 .nil)) .nil))) (.cons (.ret (.slFrom (.loc 27) (.cb .len (.loc 28)))) .nil) .nil) .nil)) (.cons (.ret (.str (Str.ofString ""))) .nil))⟩
noncomputable def f_string_stem : Fn := ⟨[27], [],
  (.cons (.ite (.bol .And (.cons (.cmp .In (.slTo (.loc 27) (.int 4)) (.tup (.cons (.str (Str.ofString "movs")) (.cons (.str (Str.ofString "cmps")) (.cons (.str (Str.ofString "stos")) (.cons (.str (Str.ofString "lods")) (.cons (.str (Str.ofString "scas")) .nil))))))) (.cons (.cmp .Eq (.cb .len (.loc 27)) (.int 5)) .nil))) (.cons (.asg 19 (.fnd (.str (Str.ofString "bwdq")) (.sub (.loc 27) (.int 4)))) (.cons (.ite (.cmp .GtE (.loc 19) (.int 0)) (.cons (.ret (.tup (.cons (.slTo (.loc 27) (.int 4)) (.cons (.bin .LShift (.int 8) (.loc 19)) .nil)))) .nil) .nil) .nil)) .nil) (.cons (.ret (.tup (.cons (.str (Str.ofString "")) (.cons (.int 0) .nil)))) .nil))⟩
noncomputable def f_szp : Fn := ⟨[31, 32, 2], [],
  (.cons (.asg 33 (.cf 3 (.cons (.loc 32) (.cons (.loc 2) .nil)))) (.cons (.asgA (.loc 31) 36 (.cf 11 (.cons (.loc 33) (.cons (.bin .Sub (.loc 2) (.int 1)) .nil)))) (.cons (.asgA (.loc 31) 35 (.ite (.cmp .Eq (.loc 33) (.int 0)) (.int 1) (.int 0))) (.cons (.asgA (.loc 31) 34 (.cf 16 (.cons (.loc 33) .nil))) (.cons (.ret (.loc 33)) .nil)))))⟩
noncomputable def f_six_flags : Fn := ⟨[], [],
  (.cons (.ret (.slTo (.spl0 (.glo 38)) (.int 6))) .nil)⟩
noncomputable def f_reads_flags : Fn := ⟨[27], [],
  (.cons (.asg 40 (.cf 26 (.cons (.loc 27) .nil))) (.cons (.ite (.cmp .NotEq (.loc 40) (.str (Str.ofString ""))) (.cons .raw .nil) .nil) (.cons (.ite (.cmp .In (.loc 27) (.tup (.cons (.str (Str.ofString "adc")) (.cons (.str (Str.ofString "sbb")) (.cons (.str (Str.ofString "rcl")) (.cons (.str (Str.ofString "rcr")) (.cons (.str (Str.ofString "cmc")) .nil))))))) (.cons (.ret (.lst (.cons (.str (Str.ofString "cf")) .nil))) .nil) .nil) (.cons (.ite (.cmp .In (.loc 27) (.tup (.cons (.str (Str.ofString "loope")) (.cons (.str (Str.ofString "loopne")) .nil)))) (.cons (.ret (.lst (.cons (.str (Str.ofString "zf")) .nil))) .nil) .nil) (.cons (.ite (.cmp .Eq (.loc 27) (.str (Str.ofString "lahf"))) (.cons (.ret (.slTo (.spl0 (.glo 38)) (.int 5))) .nil) .nil) (.cons (.ite (.cmp .Eq (.loc 27) (.str (Str.ofString "pushfq"))) (.cons (.ret (.spl0 (.glo 38))) .nil) .nil) (.cons (.ret (.ite (.cmp .NotEq (.sub (.cf 29 (.cons (.loc 27) .nil)) (.int 0)) (.str (Str.ofString ""))) (.lst (.cons (.str (Str.ofString "df")) .nil)) (.lst .nil))) .nil)))))))⟩
noncomputable def f_writes_flags : Fn := ⟨[27], [],
  (.cons (.ite (.cmp .In (.loc 27) (.tup (.cons (.str (Str.ofString "add")) (.cons (.str (Str.ofString "adc")) (.cons (.str (Str.ofString "sub")) (.cons (.str (Str.ofString "sbb")) (.cons (.str (Str.ofString "cmp")) (.cons (.str (Str.ofString "neg")) (.cons (.str (Str.ofString "and")) (.cons (.str (Str.ofString "or")) (.cons (.str (Str.ofString "xor")) (.cons (.str (Str.ofString "test")) (.cons (.str (Str.ofString "xadd")) (.cons (.str (Str.ofString "cmpxchg")) .nil)))))))))))))) (.cons (.ret (.cf 37 .nil)) .nil) .nil) (.cons (.ite (.cmp .In (.loc 27) (.tup (.cons (.str (Str.ofString "shl")) (.cons (.str (Str.ofString "shr")) (.cons (.str (Str.ofString "sar")) (.cons (.str (Str.ofString "shld")) (.cons (.str (Str.ofString "shrd")) (.cons (.str (Str.ofString "mul")) (.cons (.str (Str.ofString "imul")) (.cons (.str (Str.ofString "div")) (.cons (.str (Str.ofString "idiv")) .nil))))))))))) (.cons (.ret (.cf 37 .nil)) .nil) .nil) (.cons (.ite (.cmp .In (.loc 27) (.tup (.cons (.str (Str.ofString "bsf")) (.cons (.str (Str.ofString "bsr")) (.cons (.str (Str.ofString "popcnt")) (.cons (.str (Str.ofString "lzcnt")) (.cons (.str (Str.ofString "tzcnt")) .nil))))))) (.cons (.ret (.cf 37 .nil)) .nil) .nil) (.cons (.ite (.cmp .In (.loc 27) (.tup (.cons (.str (Str.ofString "bt")) (.cons (.str (Str.ofString "bts")) (.cons (.str (Str.ofString "btr")) (.cons (.str (Str.ofString "btc")) .nil)))))) (.cons (.ret (.lst (.cons (.str (Str.ofString "cf")) (.cons (.str (Str.ofString "pf")) (.cons (.str (Str.ofString "af")) (.cons (.str (Str.ofString "sf")) (.cons (.str (Str.ofString "of")) .nil))))))) .nil) .nil) (.cons (.ite (.cmp .In (.loc 27) (.tup (.cons (.str (Str.ofString "inc")) (.cons (.str (Str.ofString "dec")) .nil)))) (.cons (.ret (.slFrom (.cf 37 .nil) (.int 1))) .nil) .nil) (.cons (.ite (.cmp .In (.loc 27) (.tup (.cons (.str (Str.ofString "rol")) (.cons (.str (Str.ofString "ror")) (.cons (.str (Str.ofString "rcl")) (.cons (.str (Str.ofString "rcr")) .nil)))))) (.cons (.ret (.lst (.cons (.str (Str.ofString "cf")) (.cons (.str (Str.ofString "of")) .nil)))) .nil) .nil) (.cons (.ite (.cmp .In (.loc 27) (.tup (.cons (.str (Str.ofString "clc")) (.cons (.str (Str.ofString "stc")) (.cons (.str (Str.ofString "cmc")) .nil))))) (.cons (.ret (.lst (.cons (.str (Str.ofString "cf")) .nil))) .nil) .nil) (.cons (.ite (.cmp .In (.loc 27) (.tup (.cons (.str (Str.ofString "cld")) (.cons (.str (Str.ofString "std")) .nil)))) (.cons (.ret (.lst (.cons (.str (Str.ofString "df")) .nil))) .nil) .nil) (.cons (.ite (.cmp .Eq (.loc 27) (.str (Str.ofString "sahf"))) (.cons (.ret (.slTo (.spl0 (.glo 38)) (.int 5))) .nil) .nil) (.cons (.ite (.cmp .Eq (.loc 27) (.str (Str.ofString "popfq"))) (.cons (.ret (.spl0 (.glo 38))) .nil) .nil) (.cons (.ret (.ite (.cmp .In (.sub (.cf 29 (.cons (.loc 27) .nil)) (.int 0)) (.tup (.cons (.str (Str.ofString "cmps")) (.cons (.str (Str.ofString "scas")) .nil)))) (.cf 37 .nil) (.lst .nil))) .nil)))))))))))⟩
noncomputable def f_sure_flags : Fn := ⟨[27, 44], [(V.str (Str.ofString ""))],
  (.cons (.ite (.cmp .In (.loc 27) (.tup (.cons (.str (Str.ofString "shl")) (.cons (.str (Str.ofString "shr")) (.cons (.str (Str.ofString "sar")) (.cons (.str (Str.ofString "shld")) (.cons (.str (Str.ofString "shrd")) (.cons (.str (Str.ofString "rol")) (.cons (.str (Str.ofString "ror")) (.cons (.str (Str.ofString "rcl")) (.cons (.str (Str.ofString "rcr")) .nil))))))))))) (.cons (.ret (.lst .nil)) .nil) .nil) (.cons (.ite (.bol .And (.cons (.cmp .NotEq (.sub (.cf 29 (.cons (.loc 27) .nil)) (.int 0)) (.str (Str.ofString ""))) (.cons (.cmp .NotEq (.loc 44) (.str (Str.ofString ""))) .nil))) (.cons (.ret (.lst .nil)) .nil) .nil) (.cons (.ret (.cf 42 (.cons (.loc 27) .nil))) .nil)))⟩
noncomputable def f_undefined_by_count : Fn := ⟨[27, 14, 2], [],
  (.cons (.asg 47 (.bin .BitAnd (.loc 14) (.ite (.cmp .Eq (.loc 2) (.int 64)) (.int 63) (.int 31)))) (.cons (.ite (.cmp .Eq (.loc 47) (.int 0)) (.cons (.ret (.lst .nil)) .nil) .nil) (.cons (.ite (.cmp .In (.loc 27) (.tup (.cons (.str (Str.ofString "rol")) (.cons (.str (Str.ofString "ror")) (.cons (.str (Str.ofString "rcl")) (.cons (.str (Str.ofString "rcr")) .nil)))))) (.cons (.ret (.ite (.cmp .Eq (.loc 47) (.int 1)) (.lst .nil) (.lst (.cons (.str (Str.ofString "of")) .nil)))) .nil) .nil) (.cons (.ite (.bol .And (.cons (.cmp .In (.loc 27) (.tup (.cons (.str (Str.ofString "shld")) (.cons (.str (Str.ofString "shrd")) .nil)))) (.cons (.cmp .Gt (.loc 47) (.loc 2)) .nil))) (.cons (.ret (.cf 37 .nil)) .nil) .nil) (.cons (.asg 46 (.ite (.bol .And (.cons (.cmp .In (.loc 27) (.tup (.cons (.str (Str.ofString "shl")) (.cons (.str (Str.ofString "shr")) .nil)))) (.cons (.cmp .GtE (.loc 47) (.loc 2)) .nil))) (.newApp (.cons (.str (Str.ofString "cf")) .nil)) (.newApp .nil))) (.cons (.exp (.app (.loc 46) (.str (Str.ofString "af")))) (.cons (.ite (.cmp .NotEq (.loc 47) (.int 1)) (.cons (.exp (.app (.loc 46) (.str (Str.ofString "of")))) .nil) .nil) (.cons (.ret (.loc 46)) .nil))))))))⟩
noncomputable def f_undefined_flags : Fn := ⟨[27, 14, 2], [(V.int 1), (V.int 64)],
  (.cons (.ite (.cmp .In (.loc 27) (.tup (.cons (.str (Str.ofString "shl")) (.cons (.str (Str.ofString "shr")) (.cons (.str (Str.ofString "sar")) (.cons (.str (Str.ofString "shld")) (.cons (.str (Str.ofString "shrd")) (.cons (.str (Str.ofString "rol")) (.cons (.str (Str.ofString "ror")) (.cons (.str (Str.ofString "rcl")) (.cons (.str (Str.ofString "rcr")) .nil))))))))))) (.cons (.ret (.cf 45 (.cons (.loc 27) (.cons (.loc 14) (.cons (.loc 2) .nil))))) .nil) .nil) (.cons (.ite (.cmp .In (.loc 27) (.tup (.cons (.str (Str.ofString "and")) (.cons (.str (Str.ofString "or")) (.cons (.str (Str.ofString "xor")) (.cons (.str (Str.ofString "test")) .nil)))))) (.cons (.ret (.lst (.cons (.str (Str.ofString "af")) .nil))) .nil) .nil) (.cons (.ite (.cmp .In (.loc 27) (.tup (.cons (.str (Str.ofString "mul")) (.cons (.str (Str.ofString "imul")) .nil)))) (.cons (.ret (.lst (.cons (.str (Str.ofString "pf")) (.cons (.str (Str.ofString "af")) (.cons (.str (Str.ofString "zf")) (.cons (.str (Str.ofString "sf")) .nil)))))) .nil) .nil) (.cons (.ite (.cmp .In (.loc 27) (.tup (.cons (.str (Str.ofString "div")) (.cons (.str (Str.ofString "idiv")) .nil)))) (.cons (.ret (.cf 37 .nil)) .nil) .nil) (.cons (.ite (.cmp .In (.loc 27) (.tup (.cons (.str (Str.ofString "bsf")) (.cons (.str (Str.ofString "bsr")) .nil)))) (.cons (.ret (.lst (.cons (.str (Str.ofString "cf")) (.cons (.str (Str.ofString "pf")) (.cons (.str (Str.ofString "af")) (.cons (.str (Str.ofString "sf")) (.cons (.str (Str.ofString "of")) .nil))))))) .nil) .nil) (.cons (.ite (.cmp .In (.loc 27) (.tup (.cons (.str (Str.ofString "bt")) (.cons (.str (Str.ofString "bts")) (.cons (.str (Str.ofString "btr")) (.cons (.str (Str.ofString "btc")) (.cons (.str (Str.ofString "lzcnt")) (.cons (.str (Str.ofString "tzcnt")) .nil)))))))) (.cons (.ret (.lst (.cons (.str (Str.ofString "pf")) (.cons (.str (Str.ofString "af")) (.cons (.str (Str.ofString "sf")) (.cons (.str (Str.ofString "of")) .nil)))))) .nil) .nil) (.cons (.ret (.lst .nil)) .nil)))))))⟩
noncomputable def f_early_names : Fn := ⟨[2], [],
  (.cons (.ite (.cmp .Eq (.loc 2) (.int 64)) (.cons (.ret (.spl0 (.glo 53))) .nil) .nil) (.cons (.ite (.cmp .Eq (.loc 2) (.int 32)) (.cons (.ret (.spl0 (.glo 52))) .nil) .nil) (.cons (.ite (.cmp .Eq (.loc 2) (.int 16)) (.cons (.ret (.spl0 (.glo 51))) .nil) .nil) (.cons (.ite (.cmp .Eq (.loc 2) (.int 8)) (.cons (.ret (.spl0 (.glo 50))) .nil) .nil) (.cons (.ret (.lst .nil)) .nil)))))⟩
noncomputable def f_late_ending : Fn := ⟨[2], [],
  (.cons (.ite (.cmp .Eq (.loc 2) (.int 32)) (.cons (.ret (.str (Str.ofString "d"))) .nil) .nil) (.cons (.ite (.cmp .Eq (.loc 2) (.int 16)) (.cons (.ret (.str (Str.ofString "w"))) .nil) .nil) (.cons (.ite (.cmp .Eq (.loc 2) (.int 8)) (.cons (.ret (.str (Str.ofString "b"))) .nil) .nil) (.cons (.ret (.str (Str.ofString ""))) .nil))))⟩
noncomputable def f_gpr : Fn := ⟨[56, 2], [],
  (.cons (.asg 58 (.cf 49 (.cons (.loc 2) .nil))) (.cons (.ite (.bol .Or (.cons (.cmp .Eq (.loc 58) (.lst .nil)) (.cons (.nt (.cmp2 .LtE .LtE (.int 0) (.loc 56) (.int 15))) .nil))) (.cons .raw .nil) .nil) (.cons (.ite (.cmp .Lt (.loc 56) (.int 8)) (.cons (.ret (.cn 57 (.cons (.sub (.loc 58) (.loc 56)) (.cons (.str (Str.ofString "gpr")) (.cons (.loc 56) (.cons (.loc 2) .nil)))))) .nil) .nil) (.cons (.ret (.cn 57 (.cons (.bin .Add (.bin .Add (.str (Str.ofString "r")) (.cb .str (.loc 56))) (.cf 54 (.cons (.loc 2) .nil))) (.cons (.str (Str.ofString "gpr")) (.cons (.loc 56) (.cons (.loc 2) .nil)))))) .nil))))⟩
noncomputable def f_joined : Fn := ⟨[60, 4, 2], [],
  (.cons (.ite (.cmp .GtE (.loc 2) (.int 32)) (.cons (.ret (.loc 4)) .nil) .nil) (.cons (.ret (.bin .Add (.bin .Sub (.loc 60) (.cf 3 (.cons (.loc 60) (.cons (.loc 2) .nil)))) (.loc 4))) .nil))⟩
noncomputable def f_masked_count : Fn := ⟨[14, 2], [],
  (.cons (.ret (.cf 3 (.cons (.loc 14) (.cons (.ite (.cmp .Eq (.loc 2) (.int 64)) (.int 6) (.int 5)) .nil)))) .nil)⟩
noncomputable def f_shifted : Fn := ⟨[27, 4, 14, 2], [],
  (.cons (.ite (.cmp .Eq (.loc 27) (.str (Str.ofString "shl"))) (.cons (.asg 32 (.cf 3 (.cons (.bin .LShift (.loc 4) (.loc 14)) (.cons (.loc 2) .nil)))) (.cons (.asg 64 (.ite (.cmp .Lt (.loc 14) (.loc 2)) (.cf 11 (.cons (.loc 4) (.cons (.bin .Sub (.loc 2) (.loc 14)) .nil))) (.int 0))) (.cons (.ret (.tup (.cons (.loc 32) (.cons (.loc 64) (.cons (.bin .BitXor (.cf 11 (.cons (.loc 32) (.cons (.bin .Sub (.loc 2) (.int 1)) .nil))) (.loc 64)) .nil))))) .nil))) .nil) (.cons (.ite (.cmp .Eq (.loc 27) (.str (Str.ofString "shr"))) (.cons (.asg 64 (.ite (.cmp .Lt (.loc 14) (.loc 2)) (.cf 11 (.cons (.loc 4) (.cons (.bin .Sub (.loc 14) (.int 1)) .nil))) (.int 0))) (.cons (.ret (.tup (.cons (.bin .RShift (.loc 4) (.loc 14)) (.cons (.loc 64) (.cons (.cf 11 (.cons (.loc 4) (.cons (.bin .Sub (.loc 2) (.int 1)) .nil))) .nil))))) .nil)) .nil) (.cons (.asg 63 (.cf 5 (.cons (.loc 4) (.cons (.loc 2) .nil)))) (.cons (.ret (.tup (.cons (.cf 3 (.cons (.bin .RShift (.loc 63) (.loc 14)) (.cons (.loc 2) .nil))) (.cons (.cf 3 (.cons (.bin .RShift (.loc 63) (.bin .Sub (.loc 14) (.int 1))) (.cons (.int 1) .nil))) (.cons (.int 0) .nil))))) .nil))))⟩
noncomputable def f_turned_left : Fn := ⟨[4, 66, 2], [],
  (.cons (.ret (.bin .BitOr (.cf 3 (.cons (.bin .LShift (.loc 4) (.loc 66)) (.cons (.loc 2) .nil))) (.bin .RShift (.loc 4) (.bin .Sub (.loc 2) (.loc 66))))) .nil)⟩
noncomputable def f_rotated : Fn := ⟨[27, 4, 14, 2], [],
  (.cons (.asg 66 (.bin .Mod (.loc 14) (.loc 2))) (.cons (.ite (.cmp .Eq (.loc 27) (.str (Str.ofString "rol"))) (.cons (.asg 32 (.cf 65 (.cons (.loc 4) (.cons (.loc 66) (.cons (.loc 2) .nil))))) (.cons (.asg 64 (.cf 11 (.cons (.loc 32) (.cons (.int 0) .nil)))) (.cons (.ret (.tup (.cons (.loc 32) (.cons (.loc 64) (.cons (.bin .BitXor (.cf 11 (.cons (.loc 32) (.cons (.bin .Sub (.loc 2) (.int 1)) .nil))) (.loc 64)) .nil))))) .nil))) .nil) (.cons (.asg 32 (.cf 65 (.cons (.loc 4) (.cons (.bin .Mod (.bin .Sub (.loc 2) (.loc 66)) (.loc 2)) (.cons (.loc 2) .nil))))) (.cons (.asg 64 (.cf 11 (.cons (.loc 32) (.cons (.bin .Sub (.loc 2) (.int 1)) .nil)))) (.cons (.ret (.tup (.cons (.loc 32) (.cons (.loc 64) (.cons (.bin .BitXor (.loc 64) (.cf 11 (.cons (.loc 32) (.cons (.bin .Sub (.loc 2) (.int 2)) .nil)))) .nil))))) .nil)))))⟩
noncomputable def f_rotated_through : Fn := ⟨[27, 4, 64, 14, 2], [],
  (.cons (.asg 10 (.bin .Add (.loc 2) (.int 1))) (.cons (.asg 66 (.bin .Mod (.loc 14) (.loc 10))) (.cons (.ite (.cmp .Eq (.loc 27) (.str (Str.ofString "rcr"))) (.cons (.asg 66 (.bin .Mod (.bin .Sub (.loc 10) (.loc 66)) (.loc 10))) .nil) .nil) (.cons (.asg 63 (.cf 65 (.cons (.bin .BitOr (.bin .LShift (.loc 64) (.loc 2)) (.loc 4)) (.cons (.loc 66) (.cons (.loc 10) .nil))))) (.cons (.asgW [32, 69] (.cons (.cf 3 (.cons (.loc 63) (.cons (.loc 2) .nil))) (.cons (.cf 11 (.cons (.loc 63) (.cons (.loc 2) .nil))) .nil))) (.cons (.ite (.cmp .Eq (.loc 27) (.str (Str.ofString "rcr"))) (.cons (.ret (.tup (.cons (.loc 32) (.cons (.loc 69) (.cons (.bin .BitXor (.cf 11 (.cons (.loc 4) (.cons (.bin .Sub (.loc 2) (.int 1)) .nil))) (.loc 64)) .nil))))) .nil) .nil) (.cons (.ret (.tup (.cons (.loc 32) (.cons (.loc 69) (.cons (.bin .BitXor (.cf 11 (.cons (.loc 32) (.cons (.bin .Sub (.loc 2) (.int 1)) .nil))) (.loc 69)) .nil))))) .nil)))))))⟩
noncomputable def f_double_shifted : Fn := ⟨[27, 4, 71, 14, 2], [],
  (.cons (.ite (.cmp .Gt (.loc 14) (.loc 2)) (.cons (.ret .non) .nil) .nil) (.cons (.ite (.cmp .Eq (.loc 27) (.str (Str.ofString "shld"))) (.cons (.asg 32 (.cf 3 (.cons (.bin .RShift (.bin .BitOr (.bin .LShift (.loc 4) (.loc 2)) (.loc 71)) (.bin .Sub (.loc 2) (.loc 14))) (.cons (.loc 2) .nil)))) (.cons (.asg 64 (.cf 11 (.cons (.loc 4) (.cons (.bin .Sub (.loc 2) (.loc 14)) .nil)))) .nil)) (.cons (.asg 32 (.cf 3 (.cons (.bin .RShift (.bin .BitOr (.bin .LShift (.loc 71) (.loc 2)) (.loc 4)) (.loc 14)) (.cons (.loc 2) .nil)))) (.cons (.asg 64 (.cf 11 (.cons (.loc 4) (.cons (.bin .Sub (.loc 14) (.int 1)) .nil)))) .nil))) (.cons (.ret (.tup (.cons (.loc 32) (.cons (.loc 64) (.cons (.bin .BitXor (.cf 11 (.cons (.loc 32) (.cons (.bin .Sub (.loc 2) (.int 1)) .nil))) (.cf 11 (.cons (.loc 4) (.cons (.bin .Sub (.loc 2) (.int 1)) .nil)))) .nil))))) .nil)))⟩
noncomputable def f_product : Fn := ⟨[73, 71, 2, 74], [],
  (.cons (.ite (.loc 74) (.cons (.asg 63 (.bin .Mult (.cf 5 (.cons (.loc 73) (.cons (.loc 2) .nil))) (.cf 5 (.cons (.loc 71) (.cons (.loc 2) .nil))))) (.cons (.asg 75 (.ite (.cf 7 (.cons (.loc 63) (.cons (.loc 2) .nil))) (.int 0) (.int 1))) .nil)) (.cons (.asg 63 (.bin .Mult (.loc 73) (.loc 71))) (.cons (.asg 75 (.ite (.cmp .Eq (.bin .RShift (.loc 63) (.loc 2)) (.int 0)) (.int 0) (.int 1))) .nil))) (.cons (.ret (.tup (.cons (.cf 3 (.cons (.loc 63) (.cons (.loc 2) .nil))) (.cons (.cf 3 (.cons (.bin .RShift (.loc 63) (.loc 2)) (.cons (.loc 2) .nil))) (.cons (.loc 75) .nil))))) .nil))⟩
noncomputable def f_quotient : Fn := ⟨[56, 77, 2, 74], [],
  (.cons (.ite (.cmp .Eq (.loc 77) (.int 0)) (.cons (.rai 79 (Str.ofString "divide")) .nil) .nil) (.cons (.ite (.nt (.loc 74)) (.cons (.ite (.cmp .NotEq (.bin .RShift (.bin .FloorDiv (.loc 56) (.loc 77)) (.loc 2)) (.int 0)) (.cons (.rai 79 (Str.ofString "divide")) .nil) .nil) (.cons (.ret (.tup (.cons (.bin .FloorDiv (.loc 56) (.loc 77)) (.cons (.bin .Mod (.loc 56) (.loc 77)) .nil)))) .nil)) .nil) (.cons (.asgW [63, 78] (.cons (.cf 5 (.cons (.loc 56) (.cons (.bin .Mult (.int 2) (.loc 2)) .nil))) (.cons (.cf 5 (.cons (.loc 77) (.cons (.loc 2) .nil))) .nil))) (.cons (.asg 46 (.bin .FloorDiv (.cb .abs (.loc 63)) (.cb .abs (.loc 78)))) (.cons (.ite (.cmp .NotEq (.cmp .Lt (.loc 63) (.int 0)) (.cmp .Lt (.loc 78) (.int 0))) (.cons (.asg 46 (.neg (.loc 46))) .nil) .nil) (.cons (.ite (.nt (.cf 7 (.cons (.loc 46) (.cons (.loc 2) .nil)))) (.cons (.rai 79 (Str.ofString "divide")) .nil) .nil) (.cons (.ret (.tup (.cons (.cf 3 (.cons (.loc 46) (.cons (.loc 2) .nil))) (.cons (.cf 3 (.cons (.bin .Sub (.loc 63) (.bin .Mult (.loc 46) (.loc 78))) (.cons (.loc 2) .nil))) .nil)))) .nil)))))))⟩
noncomputable def f_scanned : Fn := ⟨[27, 4, 2], [],
  (.cons (.ite (.cmp .Eq (.loc 27) (.str (Str.ofString "popcnt"))) (.cons (.ret (.cf 13 (.cons (.loc 4) (.cons (.loc 2) .nil)))) .nil) .nil) (.cons (.ite (.cmp .Eq (.loc 4) (.int 0)) (.cons (.ret (.ite (.cmp .In (.loc 27) (.tup (.cons (.str (Str.ofString "lzcnt")) (.cons (.str (Str.ofString "tzcnt")) .nil)))) (.loc 2) .non)) .nil) .nil) (.cons (.ite (.cmp .In (.loc 27) (.tup (.cons (.str (Str.ofString "bsf")) (.cons (.str (Str.ofString "tzcnt")) .nil)))) (.cons (.ret (.cf 17 (.cons (.loc 4) (.cons (.loc 2) .nil)))) .nil) .nil) (.cons (.ite (.cmp .Eq (.loc 27) (.str (Str.ofString "bsr"))) (.cons (.ret (.cf 18 (.cons (.loc 4) (.cons (.loc 2) .nil)))) .nil) .nil) (.cons (.ret (.bin .Sub (.bin .Sub (.loc 2) (.int 1)) (.cf 18 (.cons (.loc 4) (.cons (.loc 2) .nil))))) .nil)))))⟩
noncomputable def f_with_bit : Fn := ⟨[27, 4, 23], [],
  (.cons (.asg 73 (.bin .LShift (.int 1) (.loc 23))) (.cons (.ite (.cmp .Eq (.loc 27) (.str (Str.ofString "bts"))) (.cons (.ret (.bin .BitOr (.loc 4) (.loc 73))) .nil) .nil) (.cons (.ite (.cmp .Eq (.loc 27) (.str (Str.ofString "btc"))) (.cons (.ret (.bin .BitXor (.loc 4) (.loc 73))) .nil) .nil) (.cons (.ret (.ite (.cmp .Eq (.cf 11 (.cons (.loc 4) (.cons (.loc 23) .nil))) (.int 1)) (.bin .BitXor (.loc 4) (.loc 73)) (.loc 4))) .nil))))⟩
noncomputable def f_clear_flags : Fn := ⟨[31], [],
  (.cons (.asgF [((.loc 31), 84), ((.loc 31), 34), ((.loc 31), 85)] (.cons (.int 0) (.cons (.int 0) (.cons (.int 0) .nil)))) (.cons (.asgF [((.loc 31), 35), ((.loc 31), 36), ((.loc 31), 83)] (.cons (.int 0) (.cons (.int 0) (.cons (.int 0) .nil)))) .nil))⟩
noncomputable def f_count_told : Fn := ⟨[87, 88, 2], [],
  (.cons (.asg 4 (.ite (.cmp .Eq (.attr (.loc 88) 89) (.str (Str.ofString "imm"))) (.attr (.loc 88) 4) (.cm (.loc 87) 90 (.cons (.attr (.loc 88) 91) .nil)))) (.cons (.ret (.cf 61 (.cons (.loc 4) (.cons (.loc 2) .nil)))) .nil))⟩
noncomputable def f_shift_deed : Fn := ⟨[87, 93], [],
  (.cons (.asg 27 (.attr (.loc 93) 27)) (.cons (.asg 95 (.sub (.attr (.loc 93) 100) (.int 0))) (.cons (.asg 2 (.cm (.loc 87) 101 (.cons (.loc 95) (.cons (.loc 93) .nil)))) (.cons (.asg 14 (.cf 86 (.cons (.loc 87) (.cons (.sub (.attr (.loc 93) 100) (.int 1)) (.cons (.loc 2) .nil))))) (.cons (.asg 4 (.cm (.loc 87) 99 (.cons (.loc 95) (.cons (.loc 2) .nil)))) (.cons (.ite (.cmp .Eq (.loc 14) (.int 0)) (.cons (.exp (.cm (.loc 87) 94 (.cons (.loc 95) (.cons (.loc 2) (.cons (.loc 4) .nil))))) (.cons .ret0 .nil)) .nil) (.cons (.ite (.cmp .In (.loc 27) (.spl0 (.glo 97))) (.cons (.asgT [32, 64, 96] (.cf 62 (.cons (.loc 27) (.cons (.loc 4) (.cons (.loc 14) (.cons (.loc 2) .nil)))))) (.cons (.exp (.cf 30 (.cons (.attr (.loc 87) 31) (.cons (.loc 32) (.cons (.loc 2) .nil))))) (.cons (.asgA (.attr (.loc 87) 31) 85 (.int 0)) .nil))) (.cons (.ite (.cmp .In (.loc 27) (.spl0 (.glo 98))) (.cons (.asgT [32, 64, 96] (.cf 67 (.cons (.loc 27) (.cons (.loc 4) (.cons (.loc 14) (.cons (.loc 2) .nil)))))) .nil) (.cons (.asgT [32, 64, 96] (.cf 68 (.cons (.loc 27) (.cons (.loc 4) (.cons (.attr (.attr (.loc 87) 31) 84) (.cons (.loc 14) (.cons (.loc 2) .nil))))))) .nil)) .nil)) (.cons (.asgA (.attr (.loc 87) 31) 84 (.loc 64)) (.cons (.asgA (.attr (.loc 87) 31) 83 (.ite (.cmp .Eq (.loc 14) (.int 1)) (.loc 96) (.int 0))) (.cons (.exp (.cm (.loc 87) 94 (.cons (.loc 95) (.cons (.loc 2) (.cons (.loc 32) .nil))))) .nil))))))))))⟩
noncomputable def f_double_deed : Fn := ⟨[87, 93], [],
  (.cons (.asgW [95, 103, 104] (.cons (.sub (.attr (.loc 93) 100) (.int 0)) (.cons (.sub (.attr (.loc 93) 100) (.int 1)) (.cons (.sub (.attr (.loc 93) 100) (.int 2)) .nil)))) (.cons (.asg 2 (.cm (.loc 87) 101 (.cons (.loc 95) (.cons (.loc 93) .nil)))) (.cons (.asg 14 (.cf 86 (.cons (.loc 87) (.cons (.loc 104) (.cons (.loc 2) .nil))))) (.cons (.asg 4 (.cm (.loc 87) 99 (.cons (.loc 95) (.cons (.loc 2) .nil)))) (.cons (.ite (.cmp .Eq (.loc 14) (.int 0)) (.cons (.exp (.cm (.loc 87) 94 (.cons (.loc 95) (.cons (.loc 2) (.cons (.loc 4) .nil))))) (.cons .ret0 .nil)) .nil) (.cons (.asg 46 (.cf 70 (.cons (.attr (.loc 93) 27) (.cons (.loc 4) (.cons (.cm (.loc 87) 99 (.cons (.loc 103) (.cons (.loc 2) .nil))) (.cons (.loc 14) (.cons (.loc 2) .nil))))))) (.cons (.exp (.cf 82 (.cons (.attr (.loc 87) 31) .nil))) (.cons (.ite (.cmp .Is (.loc 46) .non) (.cons .ret0 .nil) .nil) (.cons (.asgT [32, 64, 96] (.loc 46)) (.cons (.exp (.cf 30 (.cons (.attr (.loc 87) 31) (.cons (.loc 32) (.cons (.loc 2) .nil))))) (.cons (.asgA (.attr (.loc 87) 31) 84 (.loc 64)) (.cons (.asgA (.attr (.loc 87) 31) 83 (.ite (.cmp .Eq (.loc 14) (.int 1)) (.loc 96) (.int 0))) (.cons (.exp (.cm (.loc 87) 94 (.cons (.loc 95) (.cons (.loc 2) (.cons (.loc 32) .nil))))) .nil)))))))))))))⟩
noncomputable def f_lay_wide : Fn := ⟨[31, 75], [],
  (.cons (.exp (.cf 82 (.cons (.loc 31) .nil))) (.cons (.asgA (.loc 31) 84 (.loc 75)) (.cons (.asgA (.loc 31) 83 (.loc 75)) .nil)))⟩
noncomputable def f_put_halves : Fn := ⟨[87, 6, 107, 2], [],
  (.cons (.ite (.cmp .Eq (.loc 2) (.int 8)) (.cons (.exp (.cm (.loc 87) 108 (.cons (.cf 55 (.cons (.int 0) (.cons (.int 16) .nil))) (.cons (.bin .BitOr (.bin .LShift (.loc 107) (.int 8)) (.loc 6)) .nil)))) .nil) (.cons (.exp (.cm (.loc 87) 108 (.cons (.cf 55 (.cons (.int 2) (.cons (.loc 2) .nil))) (.cons (.loc 107) .nil)))) (.cons (.exp (.cm (.loc 87) 108 (.cons (.cf 55 (.cons (.int 0) (.cons (.loc 2) .nil))) (.cons (.loc 6) .nil)))) .nil))) .nil)⟩
noncomputable def f_halves : Fn := ⟨[87, 2], [],
  (.cons (.ite (.cmp .Eq (.loc 2) (.int 8)) (.cons (.ret (.cm (.loc 87) 90 (.cons (.cf 55 (.cons (.int 0) (.cons (.int 16) .nil))) .nil))) .nil) .nil) (.cons (.ret (.bin .BitOr (.bin .LShift (.cm (.loc 87) 90 (.cons (.cf 55 (.cons (.int 2) (.cons (.loc 2) .nil))) .nil)) (.loc 2)) (.cm (.loc 87) 90 (.cons (.cf 55 (.cons (.int 0) (.cons (.loc 2) .nil))) .nil)))) .nil))⟩
noncomputable def f_product_deed : Fn := ⟨[87, 93], [],
  (.cons (.asg 100 (.attr (.loc 93) 100)) (.cons (.asg 2 (.cm (.loc 87) 101 (.cons (.sub (.loc 100) (.int 0)) (.cons (.loc 93) .nil)))) (.cons (.asg 73 (.cm (.loc 87) 99 (.cons (.sub (.loc 100) (.int 0)) (.cons (.loc 2) .nil)))) (.cons (.ite (.cmp .Eq (.cb .len (.loc 100)) (.int 1)) (.cons (.asgT [6, 107, 75] (.cf 72 (.cons (.cm (.loc 87) 90 (.cons (.cf 55 (.cons (.int 0) (.cons (.loc 2) .nil))) .nil)) (.cons (.loc 73) (.cons (.loc 2) (.cons (.cmp .Eq (.attr (.loc 93) 27) (.str (Str.ofString "imul"))) .nil)))))) (.cons (.exp (.cf 106 (.cons (.loc 87) (.cons (.loc 6) (.cons (.loc 107) (.cons (.loc 2) .nil)))))) .nil)) (.cons (.asg 71 (.cm (.loc 87) 99 (.cons (.sub (.loc 100) (.int 1)) (.cons (.loc 2) .nil)))) (.cons (.ite (.cmp .Eq (.cb .len (.loc 100)) (.int 3)) (.cons (.asg 73 (.cm (.loc 87) 99 (.cons (.sub (.loc 100) (.int 2)) (.cons (.loc 2) .nil)))) .nil) .nil) (.cons (.asgT [6, 107, 75] (.cf 72 (.cons (.loc 73) (.cons (.loc 71) (.cons (.loc 2) (.cons .tru .nil)))))) (.cons (.exp (.cm (.loc 87) 94 (.cons (.sub (.loc 100) (.int 0)) (.cons (.loc 2) (.cons (.loc 6) .nil))))) .nil))))) (.cons (.exp (.cf 105 (.cons (.attr (.loc 87) 31) (.cons (.loc 75) .nil)))) .nil)))))⟩
noncomputable def f_quotient_deed : Fn := ⟨[87, 93], [],
  (.cons (.asg 88 (.sub (.attr (.loc 93) 100) (.int 0))) (.cons (.asg 2 (.cm (.loc 87) 101 (.cons (.loc 88) (.cons (.loc 93) .nil)))) (.cons (.asgX [6, 107] 76 (.cons (.cf 109 (.cons (.loc 87) (.cons (.loc 2) .nil))) (.cons (.cm (.loc 87) 99 (.cons (.loc 88) (.cons (.loc 2) .nil))) (.cons (.loc 2) (.cons (.cmp .Eq (.attr (.loc 93) 27) (.str (Str.ofString "idiv"))) .nil))))) (.cons (.exp (.cf 106 (.cons (.loc 87) (.cons (.loc 6) (.cons (.loc 107) (.cons (.loc 2) .nil)))))) (.cons (.exp (.cf 82 (.cons (.attr (.loc 87) 31) .nil))) .nil)))))⟩
noncomputable def f_bit_deed : Fn := ⟨[87, 93], [],
  (.cons (.asgW [113, 104] (.cons (.sub (.attr (.loc 93) 100) (.int 0)) (.cons (.sub (.attr (.loc 93) 100) (.int 1)) .nil))) (.cons (.asg 2 (.cm (.loc 87) 101 (.cons (.loc 113) (.cons (.loc 93) .nil)))) (.cons (.ite (.cmp .Eq (.attr (.loc 104) 89) (.str (Str.ofString "imm"))) (.cons (.asg 116 (.bin .Mod (.cf 3 (.cons (.attr (.loc 104) 4) (.cons (.int 8) .nil))) (.loc 2))) .nil) (.cons (.asg 116 (.cf 5 (.cons (.cm (.loc 87) 90 (.cons (.attr (.loc 104) 91) .nil)) (.cons (.loc 2) .nil)))) .nil)) (.cons (.asgW [23, 19] (.cons (.bin .Mod (.loc 116) (.loc 2)) (.cons (.int 0) .nil))) (.cons (.ite (.cmp .Eq (.attr (.loc 113) 89) (.str (Str.ofString "mem"))) (.cons (.asg 19 (.cf 3 (.cons (.bin .Add (.cm (.loc 87) 19 (.cons (.loc 113) .nil)) (.bin .Mult (.bin .FloorDiv (.loc 116) (.loc 2)) (.bin .FloorDiv (.loc 2) (.int 8)))) (.cons (.int 64) .nil)))) (.cons (.asg 4 (.cm (.attr (.loc 87) 114) 99 (.cons (.loc 19) (.cons (.bin .FloorDiv (.loc 2) (.int 8)) .nil)))) .nil)) (.cons (.asg 4 (.cm (.loc 87) 99 (.cons (.loc 113) (.cons (.loc 2) .nil)))) .nil)) (.cons (.asg 115 (.attr (.attr (.loc 87) 31) 35)) (.cons (.exp (.cf 82 (.cons (.attr (.loc 87) 31) .nil))) (.cons (.asgF [((.attr (.loc 87) 31), 84), ((.attr (.loc 87) 31), 35)] (.cons (.cf 11 (.cons (.loc 4) (.cons (.loc 23) .nil))) (.cons (.loc 115) .nil))) (.cons (.ite (.cmp .Eq (.attr (.loc 93) 27) (.str (Str.ofString "bt"))) (.cons .ret0 .nil) .nil) (.cons (.ite (.cmp .Eq (.attr (.loc 113) 89) (.str (Str.ofString "mem"))) (.cons (.exp (.cm (.attr (.loc 87) 114) 94 (.cons (.loc 19) (.cons (.bin .FloorDiv (.loc 2) (.int 8)) (.cons (.cf 81 (.cons (.attr (.loc 93) 27) (.cons (.loc 4) (.cons (.loc 23) .nil)))) .nil))))) .nil) (.cons (.exp (.cm (.loc 87) 94 (.cons (.loc 113) (.cons (.loc 2) (.cons (.cf 81 (.cons (.attr (.loc 93) 27) (.cons (.loc 4) (.cons (.loc 23) .nil)))) .nil))))) .nil)) .nil))))))))))⟩
noncomputable def f_scan_deed : Fn := ⟨[87, 93], [],
  (.cons (.asgW [27, 95] (.cons (.attr (.loc 93) 27) (.cons (.sub (.attr (.loc 93) 100) (.int 0)) .nil))) (.cons (.asg 2 (.cm (.loc 87) 101 (.cons (.loc 95) (.cons (.loc 93) .nil)))) (.cons (.asg 4 (.cm (.loc 87) 99 (.cons (.sub (.attr (.loc 93) 100) (.int 1)) (.cons (.loc 2) .nil)))) (.cons (.asg 46 (.cf 80 (.cons (.loc 27) (.cons (.loc 4) (.cons (.loc 2) .nil))))) (.cons (.exp (.cf 82 (.cons (.attr (.loc 87) 31) .nil))) (.cons (.ite (.cmp .In (.loc 27) (.tup (.cons (.str (Str.ofString "lzcnt")) (.cons (.str (Str.ofString "tzcnt")) .nil)))) (.cons (.asgA (.attr (.loc 87) 31) 84 (.ite (.cmp .Eq (.loc 4) (.int 0)) (.int 1) (.int 0))) (.cons (.asgA (.attr (.loc 87) 31) 35 (.ite (.cmp .Eq (.loc 46) (.int 0)) (.int 1) (.int 0))) .nil)) (.cons (.asgA (.attr (.loc 87) 31) 35 (.ite (.cmp .Eq (.loc 4) (.int 0)) (.int 1) (.int 0))) .nil)) (.cons (.ite (.cmp .IsNot (.loc 46) .non) (.cons (.exp (.cm (.loc 87) 94 (.cons (.loc 95) (.cons (.loc 2) (.cons (.loc 46) .nil))))) .nil) .nil) .nil)))))))⟩
noncomputable def f_swap_deed : Fn := ⟨[87, 93], [],
  (.cons (.asg 88 (.sub (.attr (.loc 93) 100) (.int 0))) (.cons (.asg 2 (.cm (.loc 87) 101 (.cons (.loc 88) (.cons (.loc 93) .nil)))) (.cons (.ite (.cmp .Eq (.loc 2) (.int 16)) (.cons .raw .nil) .nil) (.cons (.exp (.cm (.loc 87) 94 (.cons (.loc 88) (.cons (.loc 2) (.cons (.cf 20 (.cons (.cm (.loc 87) 99 (.cons (.loc 88) (.cons (.loc 2) .nil))) (.cons (.bin .FloorDiv (.loc 2) (.int 8)) .nil))) .nil))))) .nil))))⟩
noncomputable def f_widening_deed : Fn := ⟨[87, 93], [],
  (.cons (.asgW [95, 103] (.cons (.sub (.attr (.loc 93) 100) (.int 0)) (.cons (.sub (.attr (.loc 93) 100) (.int 1)) .nil))) (.cons (.asgW [2, 120] (.cons (.cm (.loc 87) 101 (.cons (.loc 95) (.cons (.loc 93) .nil))) (.cons (.cm (.loc 87) 101 (.cons (.loc 103) (.cons (.loc 93) .nil))) .nil))) (.cons (.asg 4 (.cm (.loc 87) 99 (.cons (.loc 103) (.cons (.loc 120) .nil)))) (.cons (.ite (.cmp .NotEq (.attr (.loc 93) 27) (.str (Str.ofString "movzx"))) (.cons (.asg 4 (.cf 9 (.cons (.loc 4) (.cons (.loc 120) (.cons (.loc 2) .nil))))) .nil) .nil) (.cons (.exp (.cm (.loc 87) 94 (.cons (.loc 95) (.cons (.loc 2) (.cons (.loc 4) .nil))))) .nil)))))⟩
noncomputable def f_conversion_deed : Fn := ⟨[87, 27], [],
  (.cons (.ite (.cmp .In (.loc 27) (.spl0 (.glo 122))) (.cons (.asg 2 (.bin .LShift (.int 16) (.idx (.spl0 (.glo 122)) (.loc 27)))) (.cons (.asg 120 (.cm (.loc 87) 90 (.cons (.cf 55 (.cons (.int 0) (.cons (.bin .FloorDiv (.loc 2) (.int 2)) .nil))) .nil))) (.cons (.exp (.cm (.loc 87) 108 (.cons (.cf 55 (.cons (.int 0) (.cons (.loc 2) .nil))) (.cons (.cf 9 (.cons (.loc 120) (.cons (.bin .FloorDiv (.loc 2) (.int 2)) (.cons (.loc 2) .nil)))) .nil)))) .nil))) (.cons (.asg 2 (.bin .LShift (.int 16) (.idx (.spl0 (.glo 123)) (.loc 27)))) (.cons (.asg 4 (.cm (.loc 87) 90 (.cons (.cf 55 (.cons (.int 0) (.cons (.loc 2) .nil))) .nil))) (.cons (.exp (.cm (.loc 87) 108 (.cons (.cf 55 (.cons (.int 2) (.cons (.loc 2) .nil))) (.cons (.cf 3 (.cons (.neg (.cf 11 (.cons (.loc 4) (.cons (.bin .Sub (.loc 2) (.int 1)) .nil)))) (.cons (.loc 2) .nil))) .nil)))) .nil)))) .nil)⟩
noncomputable def f_rotate_deed : Fn := ⟨[87, 93], [],
  (.cons (.asg 27 (.attr (.loc 93) 27)) (.cons (.ite (.bol .Or (.cons (.cmp .In (.loc 27) (.spl0 (.glo 97))) (.cons (.cmp .In (.loc 27) (.spl0 (.glo 98))) (.cons (.cmp .In (.loc 27) (.spl0 (.glo 125))) .nil)))) (.cons (.exp (.cf 92 (.cons (.loc 87) (.cons (.loc 93) .nil)))) .nil) (.cons (.ite (.cmp .In (.loc 27) (.spl0 (.glo 126))) (.cons (.exp (.cf 102 (.cons (.loc 87) (.cons (.loc 93) .nil)))) .nil) (.cons (.ite (.cmp .In (.loc 27) (.tup (.cons (.str (Str.ofString "mul")) (.cons (.str (Str.ofString "imul")) .nil)))) (.cons (.exp (.cf 110 (.cons (.loc 87) (.cons (.loc 93) .nil)))) .nil) (.cons (.ite (.cmp .In (.loc 27) (.tup (.cons (.str (Str.ofString "div")) (.cons (.str (Str.ofString "idiv")) .nil)))) (.cons (.expX 111 (.cons (.loc 87) (.cons (.loc 93) .nil))) .nil) (.cons (.ite (.cmp .In (.loc 27) (.spl0 (.glo 127))) (.cons (.exp (.cf 112 (.cons (.loc 87) (.cons (.loc 93) .nil)))) .nil) (.cons (.ite (.cmp .In (.loc 27) (.spl0 (.glo 128))) (.cons (.exp (.cf 117 (.cons (.loc 87) (.cons (.loc 93) .nil)))) .nil) (.cons (.ite (.cmp .Eq (.loc 27) (.str (Str.ofString "bswap"))) (.cons (.exp (.cf 118 (.cons (.loc 87) (.cons (.loc 93) .nil)))) .nil) (.cons (.ite (.cmp .In (.loc 27) (.spl0 (.glo 129))) (.cons (.exp (.cf 119 (.cons (.loc 87) (.cons (.loc 93) .nil)))) .nil) (.cons (.ite (.bol .Or (.cons (.cmp .In (.loc 27) (.spl0 (.glo 122))) (.cons (.cmp .In (.loc 27) (.spl0 (.glo 123))) .nil))) (.cons (.exp (.cf 121 (.cons (.loc 87) (.cons (.loc 27) .nil)))) .nil) (.cons (.ret .fal) .nil)) .nil)) .nil)) .nil)) .nil)) .nil)) .nil)) .nil)) .nil)) (.cons (.ret .tru) .nil)))⟩
noncomputable def f_law_cells : Fn := ⟨[131], [],
  (.cons (.ret (.newLst (.cons (.lcAdd (.slTo (.loc 131) (.int 30)) 41) (.cons (.int 0) (.cons (.int 0) .nil))))) .nil)⟩
noncomputable def f_law_below : Fn := ⟨[133, 134], [],
  (.cons (.ite (.cmp .Eq (.sub (.loc 133) (.int 2)) (.int 0)) (.cons (.asg 135 (.sub (.sub (.loc 133) (.int 0)) (.bin .Mod (.sub (.loc 133) (.int 1)) (.cb .len (.sub (.loc 133) (.int 0)))))) (.cons (.asgS (.loc 133) (.int 1) (.bin .Add (.sub (.loc 133) (.int 1)) (.int 1))) (.cons (.asgS (.loc 133) (.int 2) (.bin .Add (.bin .Add (.bin .Mod (.bin .Add (.bin .Mult (.int 2) (.cb .abs (.loc 135))) (.cb .int (.cmp .Lt (.loc 135) (.int 0)))) (.bin .Pow (.int 10) (.int 36))) (.bin .Mult (.int 104729) (.bin .Pow (.sub (.loc 133) (.int 1)) (.int 3)))) (.int 1))) .nil))) .nil) (.cons (.asg 46 (.bin .Mod (.sub (.loc 133) (.int 2)) (.loc 134))) (.cons (.asgS (.loc 133) (.int 2) (.bin .FloorDiv (.sub (.loc 133) (.int 2)) (.loc 134))) (.cons (.ret (.loc 46)) .nil))))⟩
noncomputable def f_law_one_of : Fn := ⟨[133, 137], [],
  (.cons (.ret (.sub (.loc 137) (.cf 132 (.cons (.loc 133) (.cons (.cb .len (.loc 137)) .nil))))) .nil)⟩
noncomputable def f_law_rounds : Fn := ⟨[27], [],
  (.cons (.ret (.cmp .In (.loc 27) (.tup (.cons (.str (Str.ofString "shl")) (.cons (.str (Str.ofString "shr")) (.cons (.str (Str.ofString "sar")) (.cons (.str (Str.ofString "rol")) (.cons (.str (Str.ofString "ror")) (.cons (.str (Str.ofString "rcl")) (.cons (.str (Str.ofString "rcr")) (.cons (.str (Str.ofString "shld")) (.cons (.str (Str.ofString "shrd")) .nil)))))))))))) .nil)⟩
noncomputable def f_law_set_by : Fn := ⟨[27], [],
  (.cons (.ite (.cmp .In (.loc 27) (.tup (.cons (.str (Str.ofString "rol")) (.cons (.str (Str.ofString "ror")) (.cons (.str (Str.ofString "rcl")) (.cons (.str (Str.ofString "rcr")) .nil)))))) (.cons (.ret (.lst (.cons (.str (Str.ofString "cf")) (.cons (.str (Str.ofString "of")) .nil)))) .nil) .nil) (.cons (.ite (.cmp .In (.loc 27) (.tup (.cons (.str (Str.ofString "bt")) (.cons (.str (Str.ofString "bts")) (.cons (.str (Str.ofString "btr")) (.cons (.str (Str.ofString "btc")) .nil)))))) (.cons (.ret (.lst (.cons (.str (Str.ofString "cf")) (.cons (.str (Str.ofString "pf")) (.cons (.str (Str.ofString "af")) (.cons (.str (Str.ofString "sf")) (.cons (.str (Str.ofString "of")) .nil))))))) .nil) .nil) (.cons (.ite (.bol .Or (.cons (.cf 138 (.cons (.loc 27) .nil)) (.cons (.cmp .In (.loc 27) (.tup (.cons (.str (Str.ofString "mul")) (.cons (.str (Str.ofString "imul")) (.cons (.str (Str.ofString "div")) (.cons (.str (Str.ofString "idiv")) (.cons (.str (Str.ofString "bsf")) (.cons (.str (Str.ofString "bsr")) (.cons (.str (Str.ofString "popcnt")) (.cons (.str (Str.ofString "lzcnt")) (.cons (.str (Str.ofString "tzcnt")) .nil))))))))))) .nil))) (.cons (.ret (.lst (.cons (.str (Str.ofString "cf")) (.cons (.str (Str.ofString "pf")) (.cons (.str (Str.ofString "af")) (.cons (.str (Str.ofString "zf")) (.cons (.str (Str.ofString "sf")) (.cons (.str (Str.ofString "of")) .nil)))))))) .nil) .nil) (.cons (.ret (.lst .nil)) .nil))))⟩
noncomputable def f_law_open : Fn := ⟨[27, 14, 2], [],
  (.cons (.ite (.cmp .In (.loc 27) (.tup (.cons (.str (Str.ofString "mul")) (.cons (.str (Str.ofString "imul")) .nil)))) (.cons (.ret (.lst (.cons (.str (Str.ofString "pf")) (.cons (.str (Str.ofString "af")) (.cons (.str (Str.ofString "zf")) (.cons (.str (Str.ofString "sf")) .nil)))))) .nil) .nil) (.cons (.ite (.cmp .In (.loc 27) (.tup (.cons (.str (Str.ofString "div")) (.cons (.str (Str.ofString "idiv")) .nil)))) (.cons (.ret (.lst (.cons (.str (Str.ofString "cf")) (.cons (.str (Str.ofString "pf")) (.cons (.str (Str.ofString "af")) (.cons (.str (Str.ofString "zf")) (.cons (.str (Str.ofString "sf")) (.cons (.str (Str.ofString "of")) .nil)))))))) .nil) .nil) (.cons (.ite (.cmp .In (.loc 27) (.tup (.cons (.str (Str.ofString "bsf")) (.cons (.str (Str.ofString "bsr")) .nil)))) (.cons (.ret (.lst (.cons (.str (Str.ofString "cf")) (.cons (.str (Str.ofString "pf")) (.cons (.str (Str.ofString "af")) (.cons (.str (Str.ofString "sf")) (.cons (.str (Str.ofString "of")) .nil))))))) .nil) .nil) (.cons (.ite (.cmp .In (.loc 27) (.tup (.cons (.str (Str.ofString "bt")) (.cons (.str (Str.ofString "bts")) (.cons (.str (Str.ofString "btr")) (.cons (.str (Str.ofString "btc")) (.cons (.str (Str.ofString "lzcnt")) (.cons (.str (Str.ofString "tzcnt")) .nil)))))))) (.cons (.ret (.lst (.cons (.str (Str.ofString "pf")) (.cons (.str (Str.ofString "af")) (.cons (.str (Str.ofString "sf")) (.cons (.str (Str.ofString "of")) .nil)))))) .nil) .nil) (.cons (.ite (.bol .Or (.cons (.nt (.cf 138 (.cons (.loc 27) .nil))) (.cons (.cmp .Eq (.loc 14) (.int 0)) .nil))) (.cons (.ret (.lst .nil)) .nil) .nil) (.cons (.ite (.cmp .In (.slTo (.loc 27) (.int 2)) (.tup (.cons (.str (Str.ofString "ro")) (.cons (.str (Str.ofString "rc")) .nil)))) (.cons (.ret (.ite (.cmp .Gt (.loc 14) (.int 1)) (.lst (.cons (.str (Str.ofString "of")) .nil)) (.lst .nil))) .nil) .nil) (.cons (.ite (.bol .And (.cons (.cmp .Eq (.cb .len (.loc 27)) (.int 4)) (.cons (.cmp .Gt (.loc 14) (.loc 2)) .nil))) (.cons (.ret (.lst (.cons (.str (Str.ofString "cf")) (.cons (.str (Str.ofString "pf")) (.cons (.str (Str.ofString "af")) (.cons (.str (Str.ofString "zf")) (.cons (.str (Str.ofString "sf")) (.cons (.str (Str.ofString "of")) .nil)))))))) .nil) .nil) (.cons (.asg 31 (.bin .Add (.lst (.cons (.str (Str.ofString "af")) .nil)) (.ite (.cmp .Gt (.loc 14) (.int 1)) (.lst (.cons (.str (Str.ofString "of")) .nil)) (.lst .nil)))) (.cons (.ret (.bin .Add (.loc 31) (.ite (.bol .And (.cons (.cmp .In (.loc 27) (.tup (.cons (.str (Str.ofString "shl")) (.cons (.str (Str.ofString "shr")) .nil)))) (.cons (.cmp .GtE (.loc 14) (.loc 2)) .nil))) (.lst (.cons (.str (Str.ofString "cf")) .nil)) (.lst .nil)))) .nil)))))))))⟩
noncomputable def f_law_goal : Fn := ⟨[133, 2], [],
  (.cons (.ite (.cmp .Lt (.cf 132 (.cons (.loc 133) (.cons (.int 3) .nil))) (.int 2)) (.cons (.ret (.cn 143 (.cons (.cf 55 (.cons (.cf 132 (.cons (.loc 133) (.cons (.int 16) .nil))) (.cons (.loc 2) .nil))) .nil))) .nil) .nil) (.cons (.ret (.cn 142 (.cons (.cf 55 (.cons (.cf 136 (.cons (.loc 133) (.cons (.lst (.cons (.int 3) (.cons (.int 5) (.cons (.int 6) (.cons (.int 12) .nil))))) .nil))) (.cons (.int 64) .nil))) (.cons .non (.cons (.int 1) (.cons (.bin .Sub (.cf 132 (.cons (.loc 133) (.cons (.int 41) .nil))) (.int 20)) (.cons (.loc 2) .nil))))))) .nil))⟩
noncomputable def f_law_by : Fn := ⟨[133], [],
  (.cons (.asg 146 (.cf 132 (.cons (.loc 133) (.cons (.int 4) .nil)))) (.cons (.ite (.cmp .Eq (.loc 146) (.int 0)) (.cons (.ret (.tup (.cons (.cn 145 (.cons (.int 1) .nil)) (.cons (.int 1) .nil)))) .nil) .nil) (.cons (.ite (.cmp .Eq (.loc 146) (.int 1)) (.cons (.ret (.tup (.cons (.cn 143 (.cons (.cf 55 (.cons (.int 1) (.cons (.int 8) .nil))) .nil)) (.cons (.neg (.int 1)) .nil)))) .nil) .nil) (.cons (.asg 56 (.cf 136 (.cons (.loc 133) (.cons (.lst (.cons (.int 0) (.cons (.int 1) (.cons (.int 2) (.cons (.int 7) (.cons (.int 8) (.cons (.int 9) (.cons (.int 15) (.cons (.int 16) (.cons (.int 17) (.cons (.int 31) (.cons (.int 32) (.cons (.int 33) (.cons (.int 63) (.cons (.int 64) (.cons (.int 65) (.cons (.int 255) .nil))))))))))))))))) .nil)))) (.cons (.ret (.tup (.cons (.cn 145 (.cons (.loc 56) .nil)) (.cons (.loc 56) .nil)))) .nil)))))⟩
noncomputable def f_law_counted : Fn := ⟨[133], [],
  (.cons (.asgW [27, 2] (.cons (.cf 136 (.cons (.loc 133) (.cons (.lst (.cons (.str (Str.ofString "shl")) (.cons (.str (Str.ofString "shr")) (.cons (.str (Str.ofString "sar")) (.cons (.str (Str.ofString "rol")) (.cons (.str (Str.ofString "ror")) (.cons (.str (Str.ofString "rcl")) (.cons (.str (Str.ofString "rcr")) .nil)))))))) .nil))) (.cons (.cf 136 (.cons (.loc 133) (.cons (.lst (.cons (.int 8) (.cons (.int 16) (.cons (.int 32) (.cons (.int 64) .nil))))) .nil))) .nil))) (.cons (.asg 148 (.cf 141 (.cons (.loc 133) (.cons (.loc 2) .nil)))) (.cons (.asgT [104, 56] (.cf 144 (.cons (.loc 133) .nil))) (.cons (.ret (.tup (.cons (.loc 27) (.cons (.loc 2) (.cons (.loc 56) (.cons (.lst (.cons (.loc 148) (.cons (.loc 104) .nil))) .nil)))))) .nil))))⟩
noncomputable def f_law_double : Fn := ⟨[133], [],
  (.cons (.asgW [27, 2] (.cons (.cf 136 (.cons (.loc 133) (.cons (.lst (.cons (.str (Str.ofString "shld")) (.cons (.str (Str.ofString "shrd")) .nil))) .nil))) (.cons (.cf 136 (.cons (.loc 133) (.cons (.lst (.cons (.int 16) (.cons (.int 32) (.cons (.int 64) .nil)))) .nil))) .nil))) (.cons (.asgW [148, 150] (.cons (.cf 141 (.cons (.loc 133) (.cons (.loc 2) .nil))) (.cons (.cn 143 (.cons (.cf 55 (.cons (.cf 132 (.cons (.loc 133) (.cons (.int 16) .nil))) (.cons (.loc 2) .nil))) .nil)) .nil))) (.cons (.asgT [104, 56] (.cf 144 (.cons (.loc 133) .nil))) (.cons (.ret (.tup (.cons (.loc 27) (.cons (.loc 2) (.cons (.loc 56) (.cons (.lst (.cons (.loc 148) (.cons (.loc 150) (.cons (.loc 104) .nil)))) .nil)))))) .nil))))⟩
noncomputable def f_law_uncounted : Fn := ⟨[133, 152], [],
  (.cons (.ite (.cmp .Eq (.loc 152) (.int 2)) (.cons (.asg 2 (.cf 136 (.cons (.loc 133) (.cons (.lst (.cons (.int 8) (.cons (.int 16) (.cons (.int 32) (.cons (.int 64) .nil))))) .nil)))) (.cons (.ret (.tup (.cons (.cf 136 (.cons (.loc 133) (.cons (.lst (.cons (.str (Str.ofString "mul")) (.cons (.str (Str.ofString "imul")) (.cons (.str (Str.ofString "div")) (.cons (.str (Str.ofString "idiv")) (.cons (.str (Str.ofString "div")) .nil)))))) .nil))) (.cons (.loc 2) (.cons (.int 1) (.cons (.lst (.cons (.cf 141 (.cons (.loc 133) (.cons (.loc 2) .nil))) .nil)) .nil)))))) .nil)) .nil) (.cons (.asg 2 (.cf 136 (.cons (.loc 133) (.cons (.lst (.cons (.int 16) (.cons (.int 32) (.cons (.int 64) .nil)))) .nil)))) (.cons (.asg 153 (.cn 143 (.cons (.cf 55 (.cons (.cf 132 (.cons (.loc 133) (.cons (.int 16) .nil))) (.cons (.loc 2) .nil))) .nil))) (.cons (.ite (.cmp .Eq (.loc 152) (.int 3)) (.cons (.asg 154 (.ite (.cmp .Eq (.cf 132 (.cons (.loc 133) (.cons (.int 2) .nil))) (.int 1)) (.lst (.cons (.cn 145 (.cons (.bin .Sub (.cf 132 (.cons (.loc 133) (.cons (.int 256) .nil))) (.int 128)) .nil)) .nil)) (.lst .nil))) (.cons (.ret (.tup (.cons (.str (Str.ofString "imul")) (.cons (.loc 2) (.cons (.int 1) (.cons (.bin .Add (.lst (.cons (.loc 153) (.cons (.cf 141 (.cons (.loc 133) (.cons (.loc 2) .nil))) .nil))) (.loc 154)) .nil)))))) .nil)) .nil) (.cons (.ite (.cmp .Eq (.loc 152) (.int 4)) (.cons (.asg 23 (.ite (.cmp .Eq (.cf 132 (.cons (.loc 133) (.cons (.int 2) .nil))) (.int 1)) (.cn 145 (.cons (.cf 132 (.cons (.loc 133) (.cons (.int 256) .nil))) .nil)) (.loc 153))) (.cons (.ret (.tup (.cons (.cf 136 (.cons (.loc 133) (.cons (.lst (.cons (.str (Str.ofString "bt")) (.cons (.str (Str.ofString "bts")) (.cons (.str (Str.ofString "btr")) (.cons (.str (Str.ofString "btc")) .nil))))) .nil))) (.cons (.loc 2) (.cons (.int 1) (.cons (.lst (.cons (.cf 141 (.cons (.loc 133) (.cons (.loc 2) .nil))) (.cons (.loc 23) .nil))) .nil)))))) .nil)) .nil) (.cons (.ite (.cmp .Eq (.loc 152) (.int 5)) (.cons (.ret (.tup (.cons (.cf 136 (.cons (.loc 133) (.cons (.lst (.cons (.str (Str.ofString "bsf")) (.cons (.str (Str.ofString "bsr")) (.cons (.str (Str.ofString "popcnt")) (.cons (.str (Str.ofString "lzcnt")) (.cons (.str (Str.ofString "tzcnt")) .nil)))))) .nil))) (.cons (.loc 2) (.cons (.int 1) (.cons (.lst (.cons (.loc 153) (.cons (.cf 141 (.cons (.loc 133) (.cons (.loc 2) .nil))) .nil))) .nil)))))) .nil) .nil) (.cons (.ite (.cmp .Eq (.loc 152) (.int 6)) (.cons (.asg 27 (.cf 136 (.cons (.loc 133) (.cons (.lst (.cons (.str (Str.ofString "movzx")) (.cons (.str (Str.ofString "movsx")) (.cons (.str (Str.ofString "bswap")) .nil)))) .nil)))) (.cons (.ite (.cmp .Eq (.loc 27) (.str (Str.ofString "bswap"))) (.cons (.ret (.tup (.cons (.loc 27) (.cons (.int 64) (.cons (.int 1) (.cons (.lst (.cons (.cn 143 (.cons (.cf 55 (.cons (.cf 132 (.cons (.loc 133) (.cons (.int 16) .nil))) (.cons (.cf 136 (.cons (.loc 133) (.cons (.lst (.cons (.int 32) (.cons (.int 64) .nil))) .nil))) .nil))) .nil)) .nil)) .nil)))))) .nil) .nil) (.cons (.ret (.tup (.cons (.loc 27) (.cons (.loc 2) (.cons (.int 1) (.cons (.lst (.cons (.loc 153) (.cons (.cf 141 (.cons (.loc 133) (.cons (.int 8) .nil))) .nil))) .nil)))))) .nil))) .nil) (.cons (.ret (.tup (.cons (.cf 136 (.cons (.loc 133) (.cons (.lst (.cons (.str (Str.ofString "cbw")) (.cons (.str (Str.ofString "cwde")) (.cons (.str (Str.ofString "cdqe")) (.cons (.str (Str.ofString "cwd")) (.cons (.str (Str.ofString "cdq")) (.cons (.str (Str.ofString "cqo")) .nil))))))) .nil))) (.cons (.int 64) (.cons (.int 1) (.cons (.lst .nil) .nil)))))) .nil))))))))⟩
noncomputable def f_law_line : Fn := ⟨[133], [],
  (.cons (.asg 152 (.cf 132 (.cons (.loc 133) (.cons (.int 8) .nil)))) (.cons (.ite (.cmp .Eq (.loc 152) (.int 0)) (.cons (.ret (.cf 147 (.cons (.loc 133) .nil))) .nil) .nil) (.cons (.ret (.ite (.cmp .Eq (.loc 152) (.int 1)) (.cf 149 (.cons (.loc 133) .nil)) (.cf 151 (.cons (.loc 133) (.cons (.loc 152) .nil))))) .nil)))⟩
noncomputable def f_law_register : Fn := ⟨[133, 56], [],
  (.cons (.ite (.cmp .In (.loc 56) (.tup (.cons (.int 3) (.cons (.int 5) (.cons (.int 6) (.cons (.int 12) .nil)))))) (.cons (.ret (.bin .Add (.int 4096) (.cf 132 (.cons (.loc 133) (.cons (.int 32) .nil))))) .nil) .nil) (.cons (.asg 146 (.cf 132 (.cons (.loc 133) (.cons (.int 5) .nil)))) (.cons (.ite (.cmp .Eq (.loc 146) (.int 0)) (.cons (.ret (.cf 136 (.cons (.loc 133) (.cons (.lst (.cons (.int 0) (.cons (.int 1) (.cons (.bin .Pow (.int 2) (.int 63)) (.cons (.bin .Sub (.bin .Pow (.int 2) (.int 64)) (.int 1)) .nil))))) .nil)))) .nil) .nil) (.cons (.ret (.ite (.cmp .Eq (.loc 146) (.int 1)) (.cf 132 (.cons (.loc 133) (.cons (.int 256) .nil))) (.cf 132 (.cons (.loc 133) (.cons (.bin .Pow (.int 2) (.int 64)) .nil))))) .nil))))⟩
noncomputable def f_law_begin : Fn := ⟨[133, 31, 27], [],
  (.cons (.asg 87 (.cnm 161 (.cons .non .nil))) (.cons (.for2 159 160 (.lst (.cons (.str (Str.ofString "cf")) (.cons (.str (Str.ofString "pf")) (.cons (.str (Str.ofString "af")) (.cons (.str (Str.ofString "zf")) (.cons (.str (Str.ofString "sf")) (.cons (.str (Str.ofString "of")) (.cons (.str (Str.ofString "df")) .nil)))))))) (.cons (.exp (.cm (.attr (.loc 87) 31) 108 (.cons (.loc 160) (.cons (.bin .Mod (.bin .FloorDiv (.loc 31) (.bin .Pow (.int 2) (.loc 159))) (.int 2)) .nil)))) .nil)) (.cons (.forR 56 (.int 16) (.cons (.asgS (.attr (.loc 87) 158) (.loc 56) (.cf 156 (.cons (.loc 133) (.cons (.loc 56) .nil)))) .nil)) (.cons (.forR 66 (.int 6) (.cons (.exp (.cm (.attr (.loc 87) 114) 94 (.cons (.bin .Add (.int 4070) (.cf 132 (.cons (.loc 133) (.cons (.int 80) .nil)))) (.cons (.int 1) (.cons (.cf 132 (.cons (.loc 133) (.cons (.int 256) .nil))) .nil))))) .nil)) (.cons (.ite (.bol .And (.cons (.cmp .In (.loc 27) (.tup (.cons (.str (Str.ofString "div")) (.cons (.str (Str.ofString "idiv")) .nil)))) (.cons (.cmp .Gt (.cf 132 (.cons (.loc 133) (.cons (.int 3) .nil))) (.int 0)) .nil))) (.cons (.asgS (.attr (.loc 87) 158) (.int 2) (.int 0)) (.cons (.asgS (.attr (.loc 87) 158) (.int 0) (.bin .Mod (.sub (.attr (.loc 87) 158) (.int 0)) (.int 120))) .nil)) .nil) (.cons (.ret (.loc 87)) .nil))))))⟩
noncomputable def f_law_answer : Fn := ⟨[87, 163], [],
  (.cons (.try1 33 124 (.cons (.loc 87) (.cons (.loc 163) .nil)) 33 (Str.ofString "no")) (.cons (.ret (.loc 33)) .nil))⟩
noncomputable def f_law_told_right : Fn := ⟨[27, 2, 56, 14], [],
  (.cons (.ite (.bol .Or (.cons (.cmp .NotEq (.cf 39 (.cons (.loc 27) .nil)) (.ite (.cmp .In (.loc 27) (.tup (.cons (.str (Str.ofString "rcl")) (.cons (.str (Str.ofString "rcr")) .nil)))) (.lst (.cons (.str (Str.ofString "cf")) .nil)) (.lst .nil))) (.cons (.cmp .NotEq (.cf 42 (.cons (.loc 27) .nil)) (.cf 139 (.cons (.loc 27) .nil))) .nil))) (.cons (.ret .fal) .nil) .nil) (.cons (.ite (.cmp .NotEq (.cf 43 (.cons (.loc 27) .nil)) (.ite (.cf 138 (.cons (.loc 27) .nil)) (.lst .nil) (.cf 139 (.cons (.loc 27) .nil)))) (.cons (.ret .fal) .nil) .nil) (.cons (.asg 33 (.ite (.cf 138 (.cons (.loc 27) .nil)) (.cf 48 (.cons (.loc 27) (.cons (.loc 56) (.cons (.loc 2) .nil)))) (.cf 48 (.cons (.loc 27) .nil)))) (.cons (.ret (.cmp .Eq (.cb .sorted (.loc 33)) (.cb .sorted (.cf 140 (.cons (.loc 27) (.cons (.loc 14) (.cons (.loc 2) .nil))))))) .nil))))⟩
noncomputable def f_law_flags_right : Fn := ⟨[27, 2, 14, 166, 167], [],
  (.cons (.asg 170 (.ite (.bol .And (.cons (.cf 138 (.cons (.loc 27) .nil)) (.cons (.cmp .Eq (.loc 14) (.int 0)) .nil))) (.lst .nil) (.cf 139 (.cons (.loc 27) .nil)))) (.cons (.asg 169 (.cf 140 (.cons (.loc 27) (.cons (.loc 14) (.cons (.loc 2) .nil))))) (.cons (.for2 159 160 (.lst (.cons (.str (Str.ofString "cf")) (.cons (.str (Str.ofString "pf")) (.cons (.str (Str.ofString "af")) (.cons (.str (Str.ofString "zf")) (.cons (.str (Str.ofString "sf")) (.cons (.str (Str.ofString "of")) (.cons (.str (Str.ofString "df")) .nil)))))))) (.cons (.asg 168 (.tup (.cons (.sub (.sub (.loc 167) (.int 0)) (.loc 159)) (.cons (.sub (.sub (.loc 167) (.int 1)) (.loc 159)) .nil)))) (.cons (.ite (.bol .And (.cons (.cmp .NotIn (.loc 160) (.loc 170)) (.cons (.cmp .NotEq (.loc 168) (.tup (.cons (.sub (.sub (.loc 166) (.int 0)) (.loc 159)) (.cons (.sub (.sub (.loc 166) (.int 1)) (.loc 159)) .nil)))) .nil))) (.cons (.ret .fal) .nil) .nil) (.cons (.ite (.bol .And (.cons (.cmp .In (.loc 160) (.loc 170)) (.cons (.cmp .NotEq (.sub (.loc 168) (.int 0)) (.sub (.loc 168) (.int 1))) .nil))) (.cons (.ret .fal) .nil) .nil) (.cons (.ite (.bol .And (.cons (.cmp .In (.loc 160) (.loc 170)) (.cons (.cmp .In (.loc 160) (.loc 169)) (.cons (.cmp .NotEq (.sub (.loc 168) (.int 0)) (.int 0)) .nil)))) (.cons (.ret .fal) .nil) .nil) .nil))))) (.cons (.ret .tru) .nil))))⟩
noncomputable def f_law_line_right : Fn := ⟨[133], [],
  (.cons (.asgT [27, 2, 56, 100] (.cf 155 (.cons (.loc 133) .nil))) (.cons (.asgW [163, 73] (.cons (.cn 177 (.cons (.loc 27) (.cons (.loc 100) .nil))) (.cons (.cf 157 (.cons (.loc 133) (.cons (.cf 132 (.cons (.loc 133) (.cons (.int 128) .nil))) (.cons (.loc 27) .nil)))) .nil))) (.cons (.asgW [71, 173] (.cons (.cm (.loc 73) 176 .nil) (.cons (.cm (.loc 73) 176 .nil) .nil))) (.cons (.forV 160 (.lst (.cons (.str (Str.ofString "cf")) (.cons (.str (Str.ofString "pf")) (.cons (.str (Str.ofString "af")) (.cons (.str (Str.ofString "zf")) (.cons (.str (Str.ofString "sf")) (.cons (.str (Str.ofString "of")) (.cons (.str (Str.ofString "df")) .nil)))))))) (.cons (.ite (.cmp .NotIn (.loc 160) (.cf 39 (.cons (.loc 27) .nil))) (.cons (.exp (.cm (.attr (.loc 71) 31) 108 (.cons (.loc 160) (.cons (.bin .Sub (.int 1) (.cm (.attr (.loc 73) 31) 90 (.cons (.loc 160) .nil))) .nil)))) .nil) .nil) .nil)) (.cons (.ite (.cmp .Eq (.loc 56) (.neg (.int 1))) (.cons (.asg 56 (.bin .Mod (.sub (.attr (.loc 73) 158) (.int 1)) (.int 256))) .nil) .nil) (.cons (.asg 14 (.bin .Mod (.loc 56) (.ite (.cmp .Eq (.loc 2) (.int 64)) (.int 64) (.int 32)))) (.cons (.ite (.nt (.cf 164 (.cons (.loc 27) (.cons (.loc 2) (.cons (.loc 56) (.cons (.loc 14) .nil)))))) (.cons (.ret .fal) .nil) .nil) (.cons (.asgW [166, 175] (.cons (.tup (.cons (.cm (.attr (.loc 73) 31) 33 .nil) (.cons (.cm (.attr (.loc 71) 31) 33 .nil) .nil))) (.cons (.cm (.loc 73) 33 .nil) .nil))) (.cons (.asg 174 (.cf 162 (.cons (.loc 73) (.cons (.loc 163) .nil)))) (.cons (.ite (.cmp .NotEq (.cf 162 (.cons (.loc 71) (.cons (.loc 163) .nil))) (.loc 174)) (.cons (.ret .fal) .nil) .nil) (.cons (.ite (.cmp .Eq (.loc 174) (.str (Str.ofString "no"))) (.cons (.ret (.bol .And (.cons (.cmp .In (.loc 27) (.tup (.cons (.str (Str.ofString "div")) (.cons (.str (Str.ofString "idiv")) .nil)))) (.cons (.cmp .Eq (.cm (.loc 73) 33 .nil) (.loc 175)) (.cons (.cmp .Eq (.cm (.attr (.loc 71) 31) 33 .nil) (.sub (.loc 166) (.int 1))) .nil))))) .nil) .nil) (.cons (.ite (.bol .Or (.cons (.cmp .NotEq (.loc 174) .tru) (.cons (.cmp .NotEq (.attr (.loc 73) 158) (.attr (.loc 71) 158)) (.cons (.cmp .NotEq (.cm (.attr (.loc 73) 114) 33 .nil) (.cm (.attr (.loc 71) 114) 33 .nil)) .nil)))) (.cons (.ret .fal) .nil) .nil) (.cons (.ite (.nt (.cf 165 (.cons (.loc 27) (.cons (.loc 2) (.cons (.loc 14) (.cons (.loc 166) (.cons (.tup (.cons (.cm (.attr (.loc 73) 31) 33 .nil) (.cons (.cm (.attr (.loc 71) 31) 33 .nil) .nil))) .nil))))))) (.cons (.ret .fal) .nil) .nil) (.cons (.ite (.cmp .NotIn (.loc 27) (.tup (.cons (.str (Str.ofString "rcl")) (.cons (.str (Str.ofString "rcr")) .nil)))) (.cons (.ret .tru) .nil) .nil) (.cons (.exp (.cm (.attr (.loc 173) 31) 108 (.cons (.str (Str.ofString "cf")) (.cons (.bin .Sub (.int 1) (.cm (.attr (.loc 173) 31) 90 (.cons (.str (Str.ofString "cf")) .nil))) .nil)))) (.cons (.asg 172 (.bol .And (.cons (.cmp .Eq (.cf 162 (.cons (.loc 173) (.cons (.loc 163) .nil))) .tru) (.cons (.cmp .Eq (.attr (.loc 173) 158) (.attr (.loc 73) 158)) (.cons (.cmp .Eq (.cm (.attr (.loc 173) 114) 33 .nil) (.cm (.attr (.loc 73) 114) 33 .nil)) .nil))))) (.cons (.ret (.cmp .Eq (.loc 172) (.cmp .Eq (.bin .Mod (.loc 14) (.bin .Add (.loc 2) (.int 1))) (.int 0)))) .nil)))))))))))))))))⟩
noncomputable def f_law : Fn := ⟨[131], [],
  (.cons (.asg 133 (.cf 130 (.cons (.loc 131) .nil))) (.cons (.forR 66 (.int 3) (.cons (.ite (.nt (.cf 171 (.cons (.loc 133) .nil))) (.cons (.ret .fal) .nil) .nil) .nil)) (.cons (.ret .tru) .nil)))⟩
noncomputable def f_Flags_init : Fn := ⟨[179], [],
  (.cons (.asgA (.loc 179) 84 (.int 0)) (.cons (.asgA (.loc 179) 34 (.int 0)) (.cons (.asgA (.loc 179) 85 (.int 0)) (.cons (.asgA (.loc 179) 35 (.int 0)) (.cons (.asgA (.loc 179) 36 (.int 0)) (.cons (.asgA (.loc 179) 83 (.int 0)) (.cons (.asgA (.loc 179) 180 (.int 0)) .nil)))))))⟩
noncomputable def f_Flags_told : Fn := ⟨[179], [],
  (.cons (.ret (.tup (.cons (.attr (.loc 179) 84) (.cons (.attr (.loc 179) 34) (.cons (.attr (.loc 179) 85) (.cons (.attr (.loc 179) 35) (.cons (.attr (.loc 179) 36) (.cons (.attr (.loc 179) 83) (.cons (.attr (.loc 179) 180) .nil))))))))) .nil)⟩
noncomputable def f_Flags_pack : Fn := ⟨[179], [],
  (.cons (.asg 6 (.bin .BitOr (.bin .BitOr (.bin .BitOr (.bin .BitOr (.bin .BitOr (.int 2) (.bin .LShift (.attr (.loc 179) 84) (.glo 184))) (.bin .LShift (.attr (.loc 179) 34) (.glo 185))) (.bin .LShift (.attr (.loc 179) 85) (.glo 186))) (.bin .LShift (.attr (.loc 179) 35) (.glo 187))) (.bin .LShift (.attr (.loc 179) 36) (.glo 188)))) (.cons (.ret (.bin .BitOr (.bin .BitOr (.loc 6) (.bin .LShift (.attr (.loc 179) 180) (.glo 182))) (.bin .LShift (.attr (.loc 179) 83) (.glo 183)))) .nil))⟩
noncomputable def f_Flags_unpack : Fn := ⟨[179, 56], [],
  (.cons (.asgA (.loc 179) 84 (.cf 11 (.cons (.loc 56) (.cons (.glo 184) .nil)))) (.cons (.asgA (.loc 179) 34 (.cf 11 (.cons (.loc 56) (.cons (.glo 185) .nil)))) (.cons (.asgA (.loc 179) 85 (.cf 11 (.cons (.loc 56) (.cons (.glo 186) .nil)))) (.cons (.asgA (.loc 179) 35 (.cf 11 (.cons (.loc 56) (.cons (.glo 187) .nil)))) (.cons (.asgA (.loc 179) 36 (.cf 11 (.cons (.loc 56) (.cons (.glo 188) .nil)))) (.cons (.asgA (.loc 179) 180 (.cf 11 (.cons (.loc 56) (.cons (.glo 182) .nil)))) (.cons (.asgA (.loc 179) 83 (.cf 11 (.cons (.loc 56) (.cons (.glo 183) .nil)))) .nil)))))))⟩
noncomputable def f_Flags_copy : Fn := ⟨[179], [],
  (.cons (.asg 46 (.cnm 181 .nil)) (.cons (.exp (.cm (.loc 46) 190 (.cons (.cm (.loc 179) 189 .nil) .nil))) (.cons (.ret (.loc 46)) .nil)))⟩
noncomputable def f_Flags_get : Fn := ⟨[179, 27], [],
  (.cons (.asg 58 (.spl0 (.glo 38))) (.cons (.ite (.cmp .NotIn (.loc 27) (.loc 58)) (.cons .raw .nil) .nil) (.cons (.ret (.sub (.cm (.loc 179) 33 .nil) (.idx (.loc 58) (.loc 27)))) .nil)))⟩
noncomputable def f_Flags_put : Fn := ⟨[179, 27, 4], [],
  (.cons (.ite (.cmp .NotIn (.loc 27) (.spl0 (.glo 38))) (.cons .raw .nil) .nil) (.cons (.asg 191 (.lst (.cons (.glo 184) (.cons (.glo 185) (.cons (.glo 186) (.cons (.glo 187) (.cons (.glo 188) (.cons (.glo 183) (.cons (.glo 182) .nil))))))))) (.cons (.asg 23 (.sub (.loc 191) (.idx (.spl0 (.glo 38)) (.loc 27)))) (.cons (.asg 56 (.bin .BitAnd (.cm (.loc 179) 189 .nil) (.inv (.bin .LShift (.int 1) (.loc 23))))) (.cons (.exp (.cm (.loc 179) 190 (.cons (.bin .BitOr (.loc 56) (.ite (.cmp .NotEq (.loc 4) (.int 0)) (.bin .LShift (.int 1) (.loc 23)) (.int 0))) .nil))) .nil)))))⟩
noncomputable def f_Register_init : Fn := ⟨[179, 27, 89, 56, 2], [],
  (.cons (.asgA (.loc 179) 27 (.loc 27)) (.cons (.asgA (.loc 179) 89 (.loc 89)) (.cons (.asgA (.loc 179) 56 (.loc 56)) (.cons (.asgA (.loc 179) 2 (.loc 2)) .nil))))⟩
noncomputable def f_Memory_init : Fn := ⟨[179], [],
  (.cons (.asgA (.loc 179) 192 .dic0) .nil)⟩
noncomputable def f_Memory_octet : Fn := ⟨[179, 19], [],
  (.cons (.ret (.get2 (.attr (.loc 179) 192) (.cf 3 (.cons (.loc 19) (.cons (.int 64) .nil))) (.int 0))) .nil)⟩
noncomputable def f_Memory_set_octet : Fn := ⟨[179, 19, 194], [],
  (.cons (.asgS (.attr (.loc 179) 192) (.cf 3 (.cons (.loc 19) (.cons (.int 64) .nil))) (.loc 194)) .nil)⟩
noncomputable def f_Memory_read : Fn := ⟨[179, 19, 21], [],
  (.cons (.asg 4 (.int 0)) (.cons (.forR 159 (.loc 21) (.cons (.asg 4 (.bin .Add (.loc 4) (.bin .LShift (.cm (.loc 179) 194 (.cons (.bin .Add (.loc 19) (.loc 159)) .nil)) (.bin .Mult (.int 8) (.loc 159))))) .nil)) (.cons (.ret (.loc 4)) .nil)))⟩
noncomputable def f_Memory_write : Fn := ⟨[179, 19, 21, 4], [],
  (.cons (.forR 159 (.loc 21) (.cons (.exp (.cm (.loc 179) 195 (.cons (.bin .Add (.loc 19) (.loc 159)) (.cons (.bin .BitAnd (.bin .RShift (.loc 4) (.bin .Mult (.int 8) (.loc 159))) (.int 255)) .nil)))) .nil)) .nil)⟩
noncomputable def f_Memory_copy : Fn := ⟨[179], [],
  (.cons (.asg 71 (.cnm 193 .nil)) (.cons (.dcopy 19 179 71 192) (.cons (.ret (.loc 71)) .nil)))⟩
noncomputable def f_Memory_told : Fn := ⟨[179], [],
  (.cons (.ret (.cb .tup (.cm (.loc 179) 0 .nil))) .nil)⟩
noncomputable def f_State_init : Fn := ⟨[179, 196], [],
  (.cons (.asgA (.loc 179) 196 (.loc 196)) (.cons (.asgA (.loc 179) 158 (.newMul 0 16)) (.cons (.asgA (.loc 179) 201 (.mulL 0 16)) (.cons (.asgA (.loc 179) 31 (.cnm 181 .nil)) (.cons (.asgA (.loc 179) 114 (.cnm 193 .nil)) (.cons (.asgA (.loc 179) 200 (.int 0)) (.cons (.asgA (.loc 179) 199 (.int 0)) (.cons (.asgA (.loc 179) 198 (.dic2 (Str.ofString "fs") (.int 0) (Str.ofString "gs") (.int 0))) (.cons (.asgA (.loc 179) 197 .fal) .nil)))))))))⟩
noncomputable def f_State_get : Fn := ⟨[179, 91], [],
  (.cons (.ite (.cmp .Eq (.attr (.loc 91) 89) (.str (Str.ofString "gpr"))) (.cons (.ret (.cf 3 (.cons (.sub (.attr (.loc 179) 158) (.attr (.loc 91) 56)) (.cons (.attr (.loc 91) 2) .nil)))) .nil) .nil) (.cons (.ite (.cmp .Eq (.attr (.loc 91) 89) (.str (Str.ofString "high"))) (.cons (.ret (.cf 3 (.cons (.bin .RShift (.sub (.attr (.loc 179) 158) (.bin .Sub (.attr (.loc 91) 56) (.int 4))) (.int 8)) (.cons (.int 8) .nil)))) .nil) .nil) (.cons (.ite (.cmp .Eq (.attr (.loc 91) 89) (.str (Str.ofString "xmm"))) (.cons (.ret (.sub (.attr (.loc 179) 201) (.attr (.loc 91) 56))) .nil) .nil) (.cons (.ite (.cmp .Eq (.attr (.loc 91) 89) (.str (Str.ofString "rip"))) (.cons (.ret (.attr (.loc 179) 200)) .nil) .nil) (.cons .raw .nil)))))⟩
noncomputable def f_State_put : Fn := ⟨[179, 91, 4], [],
  (.cons (.asg 4 (.cf 3 (.cons (.loc 4) (.cons (.attr (.loc 91) 2) .nil)))) (.cons (.ite (.cmp .Eq (.attr (.loc 91) 89) (.str (Str.ofString "gpr"))) (.cons (.asgS (.attr (.loc 179) 158) (.attr (.loc 91) 56) (.cf 59 (.cons (.sub (.attr (.loc 179) 158) (.attr (.loc 91) 56)) (.cons (.loc 4) (.cons (.attr (.loc 91) 2) .nil))))) .nil) (.cons (.ite (.cmp .Eq (.attr (.loc 91) 89) (.str (Str.ofString "high"))) (.cons (.asg 60 (.sub (.attr (.loc 179) 158) (.bin .Sub (.attr (.loc 91) 56) (.int 4)))) (.cons (.asgS (.attr (.loc 179) 158) (.bin .Sub (.attr (.loc 91) 56) (.int 4)) (.bin .Add (.loc 60) (.bin .LShift (.bin .Sub (.loc 4) (.cf 3 (.cons (.bin .RShift (.loc 60) (.int 8)) (.cons (.int 8) .nil)))) (.int 8)))) .nil)) (.cons (.ite (.cmp .Eq (.attr (.loc 91) 89) (.str (Str.ofString "xmm"))) (.cons (.asgS (.attr (.loc 179) 201) (.attr (.loc 91) 56) (.loc 4)) .nil) (.cons .raw .nil)) .nil)) .nil)) .nil))⟩
noncomputable def f_State_put_low : Fn := ⟨[179, 91, 2, 4], [],
  (.cons (.ite (.bol .And (.cons (.cmp .Eq (.attr (.loc 91) 89) (.str (Str.ofString "xmm"))) (.cons (.cmp .Lt (.loc 2) (.int 128)) .nil))) (.cons (.asg 60 (.sub (.attr (.loc 179) 201) (.attr (.loc 91) 56))) (.cons (.asgS (.attr (.loc 179) 201) (.attr (.loc 91) 56) (.bin .Add (.bin .Sub (.loc 60) (.cf 3 (.cons (.loc 60) (.cons (.loc 2) .nil)))) (.cf 3 (.cons (.loc 4) (.cons (.loc 2) .nil))))) .nil)) (.cons (.exp (.cm (.loc 179) 108 (.cons (.loc 91) (.cons (.loc 4) .nil)))) .nil)) .nil)⟩
noncomputable def f_State_offset : Fn := ⟨[179, 203], [],
  (.cons (.asg 204 (.attr (.loc 203) 4)) (.cons (.ite (.cmp .IsNot (.attr (.loc 203) 113) .non) (.cons (.asg 204 (.bin .Add (.loc 204) (.cm (.loc 179) 90 (.cons (.attr (.loc 203) 113) .nil)))) .nil) .nil) (.cons (.ite (.cmp .IsNot (.attr (.loc 203) 205) .non) (.cons (.asg 204 (.bin .Add (.loc 204) (.bin .Mult (.cm (.loc 179) 90 (.cons (.attr (.loc 203) 205) .nil)) (.attr (.loc 203) 206)))) .nil) .nil) (.cons (.ret (.cf 3 (.cons (.loc 204) (.cons (.int 64) .nil)))) .nil))))⟩
noncomputable def f_State_place : Fn := ⟨[179, 203], [],
  (.cons (.asg 113 (.ite (.cmp .Eq (.attr (.loc 203) 207) (.str (Str.ofString ""))) (.int 0) (.sub (.attr (.loc 179) 198) (.attr (.loc 203) 207)))) (.cons (.ret (.cf 3 (.cons (.bin .Add (.cm (.loc 179) 116 (.cons (.loc 203) .nil)) (.loc 113)) (.cons (.int 64) .nil)))) .nil))⟩
noncomputable def f_State_size_of : Fn := ⟨[179, 88, 93], [],
  (.cons (.forV 73 (.bin .Add (.lst (.cons (.loc 88) .nil)) (.cb .lst (.attr (.loc 93) 100))) (.cons (.ite (.cmp .Eq (.attr (.loc 73) 89) (.str (Str.ofString "reg"))) (.cons (.ret (.attr (.attr (.loc 73) 91) 2)) .nil) .nil) (.cons (.ite (.bol .And (.cons (.cmp .Eq (.attr (.loc 73) 89) (.str (Str.ofString "mem"))) (.cons (.cmp .Gt (.attr (.loc 73) 2) (.int 0)) .nil))) (.cons (.ret (.attr (.loc 73) 2)) .nil) .nil) .nil))) (.cons (.ret (.int 64)) .nil))⟩
noncomputable def f_State_read : Fn := ⟨[179, 88, 2], [],
  (.cons (.ite (.cmp .Eq (.attr (.loc 88) 89) (.str (Str.ofString "reg"))) (.cons (.ret (.cf 3 (.cons (.cm (.loc 179) 90 (.cons (.attr (.loc 88) 91) .nil)) (.cons (.loc 2) .nil)))) .nil) .nil) (.cons (.ite (.cmp .Eq (.attr (.loc 88) 89) (.str (Str.ofString "mem"))) (.cons (.ret (.cm (.attr (.loc 179) 114) 99 (.cons (.cm (.loc 179) 19 (.cons (.loc 88) .nil)) (.cons (.bin .FloorDiv (.loc 2) (.int 8)) .nil)))) .nil) .nil) (.cons (.ret (.cf 3 (.cons (.attr (.loc 88) 4) (.cons (.loc 2) .nil)))) .nil)))⟩
noncomputable def f_State_write : Fn := ⟨[179, 88, 2, 4], [],
  (.cons (.ite (.cmp .Eq (.attr (.loc 88) 89) (.str (Str.ofString "reg"))) (.cons (.exp (.cm (.loc 179) 202 (.cons (.attr (.loc 88) 91) (.cons (.loc 2) (.cons (.loc 4) .nil))))) .nil) (.cons (.ite (.cmp .Eq (.attr (.loc 88) 89) (.str (Str.ofString "mem"))) (.cons (.exp (.cm (.attr (.loc 179) 114) 94 (.cons (.cm (.loc 179) 19 (.cons (.loc 88) .nil)) (.cons (.bin .FloorDiv (.loc 2) (.int 8)) (.cons (.loc 4) .nil))))) .nil) (.cons .raw .nil)) .nil)) .nil)⟩
noncomputable def f_State_told : Fn := ⟨[179], [],
  (.cons (.asg 208 (.tup (.cons (.sub (.attr (.loc 179) 198) (.str (Str.ofString "fs"))) (.cons (.sub (.attr (.loc 179) 198) (.str (Str.ofString "gs"))) .nil)))) (.cons (.ret (.tup (.cons (.cb .tup (.attr (.loc 179) 158)) (.cons (.cb .tup (.attr (.loc 179) 201)) (.cons (.cm (.attr (.loc 179) 31) 33 .nil) (.cons (.cm (.attr (.loc 179) 114) 33 .nil) (.cons (.attr (.loc 179) 200) (.cons (.loc 208) (.cons (.attr (.loc 179) 197) .nil))))))))) .nil))⟩
noncomputable def f_State_copy : Fn := ⟨[179], [],
  (.cons (.asg 71 (.cnm 161 (.cons (.attr (.loc 179) 196) .nil))) (.cons (.asgA (.loc 71) 158 (.newList (.attr (.loc 179) 158))) (.cons (.asgA (.loc 71) 201 (.cb .lst (.attr (.loc 179) 201))) (.cons (.asgA (.loc 71) 31 (.cm (.attr (.loc 179) 31) 176 .nil)) (.cons (.asgA (.loc 71) 114 (.cm (.attr (.loc 179) 114) 176 .nil)) (.cons (.asgA (.loc 71) 200 (.attr (.loc 179) 200)) (.cons (.asgA (.loc 71) 199 (.attr (.loc 179) 199)) (.cons (.asgA (.loc 71) 198 (.dic2 (Str.ofString "fs") (.sub (.attr (.loc 179) 198) (.str (Str.ofString "fs"))) (Str.ofString "gs") (.sub (.attr (.loc 179) 198) (.str (Str.ofString "gs"))))) (.cons (.asgA (.loc 71) 197 (.attr (.loc 179) 197)) (.cons (.ret (.loc 71)) .nil))))))))))⟩
noncomputable def f_Operand_init : Fn := ⟨[179, 89], [],
  (.cons (.asgA (.loc 179) 89 (.loc 89)) .nil)⟩
noncomputable def f_Reg_init : Fn := ⟨[179, 91], [],
  (.cons (.exp (.ci 209 (.cons (.loc 179) (.cons (.str (Str.ofString "reg")) .nil)))) (.cons (.asgA (.loc 179) 91 (.loc 91)) .nil))⟩
noncomputable def f_Imm_init : Fn := ⟨[179, 4, 27], [(V.str (Str.ofString ""))],
  (.cons (.exp (.ci 209 (.cons (.loc 179) (.cons (.str (Str.ofString "imm")) .nil)))) (.cons (.asgA (.loc 179) 4 (.loc 4)) (.cons (.asgA (.loc 179) 27 (.loc 27)) .nil)))⟩
noncomputable def f_Mem_init : Fn := ⟨[179, 113, 205, 206, 4, 2, 207, 27], [(V.int 0), (V.str (Str.ofString "")), (V.str (Str.ofString ""))],
  (.cons (.exp (.ci 209 (.cons (.loc 179) (.cons (.str (Str.ofString "mem")) .nil)))) (.cons (.asgA (.loc 179) 113 (.loc 113)) (.cons (.asgA (.loc 179) 205 (.loc 205)) (.cons (.asgA (.loc 179) 206 (.loc 206)) (.cons (.asgA (.loc 179) 4 (.loc 4)) (.cons (.asgA (.loc 179) 2 (.loc 2)) (.cons (.asgA (.loc 179) 207 (.loc 207)) (.cons (.asgA (.loc 179) 27 (.loc 27)) .nil))))))))⟩
noncomputable def f_Instruction_init : Fn := ⟨[179, 27, 100, 44], [(V.str (Str.ofString ""))],
  (.cons (.asgA (.loc 179) 27 (.loc 27)) (.cons (.asgA (.loc 179) 100 (.cb .tup (.loc 100))) (.cons (.asgA (.loc 179) 44 (.loc 44)) .nil)))⟩
noncomputable def fnL : List (Nat × Fn) := [(1, f_mask), (3, f_wrap), (5, f_signed), (7, f_fits_signed), (9, f_extended), (11, f_bit), (13, f_ones), (16, f_parity), (17, f_lowest_bit), (18, f_highest_bit), (20, f_swapped), (24, f_condition_names), (26, f_condition_of), (29, f_string_stem), (30, f_szp), (37, f_six_flags), (39, f_reads_flags), (42, f_writes_flags), (43, f_sure_flags), (45, f_undefined_by_count), (48, f_undefined_flags), (49, f_early_names), (54, f_late_ending), (55, f_gpr), (59, f_joined), (61, f_masked_count), (62, f_shifted), (65, f_turned_left), (67, f_rotated), (68, f_rotated_through), (70, f_double_shifted), (72, f_product), (76, f_quotient), (80, f_scanned), (81, f_with_bit), (82, f_clear_flags), (86, f_count_told), (92, f_shift_deed), (102, f_double_deed), (105, f_lay_wide), (106, f_put_halves), (109, f_halves), (110, f_product_deed), (111, f_quotient_deed), (112, f_bit_deed), (117, f_scan_deed), (118, f_swap_deed), (119, f_widening_deed), (121, f_conversion_deed), (124, f_rotate_deed), (130, f_law_cells), (132, f_law_below), (136, f_law_one_of), (138, f_law_rounds), (139, f_law_set_by), (140, f_law_open), (141, f_law_goal), (144, f_law_by), (147, f_law_counted), (149, f_law_double), (151, f_law_uncounted), (155, f_law_line), (156, f_law_register), (157, f_law_begin), (162, f_law_answer), (164, f_law_told_right), (165, f_law_flags_right), (171, f_law_line_right), (178, f_law), (700, f_Flags_init), (701, f_Flags_told), (702, f_Flags_pack), (703, f_Flags_unpack), (704, f_Flags_copy), (705, f_Flags_get), (706, f_Flags_put), (707, f_Register_init), (708, f_Memory_init), (709, f_Memory_octet), (710, f_Memory_set_octet), (711, f_Memory_read), (712, f_Memory_write), (713, f_Memory_copy), (715, f_State_init), (716, f_State_get), (717, f_State_put), (718, f_State_put_low), (719, f_State_offset), (720, f_State_place), (721, f_State_size_of), (722, f_State_read), (723, f_State_write), (724, f_State_told), (725, f_State_copy), (726, f_Operand_init), (727, f_Reg_init), (728, f_Imm_init), (729, f_Mem_init), (730, f_Instruction_init)]
noncomputable def fnsT (f : Nat) : Option Fn := lkN f fnL
noncomputable def tab : Tab := ⟨nmT, fldT, methT, initT, globT, fun f => (fnsT f).isSome && Nat.blt f 210, 210⟩
end Mine
namespace Mine
noncomputable abbrev pw : Program := PySem.Challenge.pw_pb0435_01
noncomputable def bs : List Stmt := behindTheImports pw
noncomputable def st (i : Nat) : Stmt := (bs.drop i).headD (.Pass ⟨0, 0, 0, 0⟩)
noncomputable def sb (s : Stmt) (j : Nat) : Stmt := match s with
  | .ClassDef _ _ _ b _ _ _ _ _ _ _ => (b.drop j).headD (.Pass ⟨0, 0, 0, 0⟩)
  | s => s
noncomputable def fN (s : Stmt) : Str := match s with | .FunctionDef n _ _ _ _ _ _ _ _ _ => n | _ => Str.empty
noncomputable def fA (s : Stmt) : Arguments := match s with | .FunctionDef _ a _ _ _ _ _ _ _ _ => a | _ => default
noncomputable def fB (s : Stmt) : List Stmt := match s with | .FunctionDef _ _ b _ _ _ _ _ _ _ => b | _ => []
noncomputable def fS (s : Stmt) : Scope := match s with | .FunctionDef _ _ _ _ _ _ c _ _ _ => c | _ => default
noncomputable def chArgs : List Nat → List Arg → Bool
  | [], [] => true
  | x :: xs, a :: as => seq a.arg (nmT x) && chArgs xs as
  | _, _ => false
end Mine
namespace Mine
noncomputable def fd (s : Stmt) (qual : Str) (g : Addr) (dV kV doc pm cd : Value) : FuncData :=
  { name := fN s, qualname := qual, params := fA s, body := .stmts (fB s), scope := fS s, globals := g, closure := [], defaults := dV, kwdefaults := kV, doc := doc, pyModule := pm, code := cd }
noncomputable def de (P : Params) (x : Str) (t : Nat) (v : Value) : DictEntry := ⟨PyData.keyHash P x, .str x t, v⟩
noncomputable def env : Env := { scope := pw.main.scope, locals := mainNs, globals := mainNs, cells := [], code := .ref 13, frame := some 14 }
noncomputable abbrev cE : Code := .body bs env
noncomputable def qI (n : Nat) : Value := .int (.ofNat n) 0
noncomputable def tu (l : List Value) : Obj := ⟨.type "tuple", none, .seq ⟨l⟩ 0, ⟨[]⟩⟩
noncomputable def qf (l : List Value) : Obj := ⟨.none, none, .fields ⟨l⟩, ⟨[]⟩⟩
noncomputable def u0 : Obj := tu []
noncomputable def q0 : Obj := qf []
noncomputable def qk (s : String) (l : List Value) : Obj := ⟨.type s, none, .fields ⟨l⟩, ⟨[]⟩⟩
noncomputable def qd (l : List DictEntry) (n : Nat) : Obj := ⟨.type "dict", none, .dict ⟨l⟩ n, ⟨[]⟩⟩
noncomputable def qg (s : Stmt) (q : Str) : Obj := ⟨.none, none, .func (fd s q 0 .none .none .none .none .none), ⟨[]⟩⟩
noncomputable def qh (s : Stmt) (q : Str) (a b c d e : Value) : Obj := ⟨.type "function", none, .func (fd s q 3 a b c d e), ⟨[]⟩⟩
noncomputable def qc (n q : Str) (t t1 t2 a b c d e r : Nat) (z : Bool) (r1 r2 r3 r4 u v : Nat) : Obj := qk "code" [.str n t, .str q t1, .str "/claim/cut.py" t2, qI a, qI b, qI c, qI d, qI e, .ref r, .bool z, qI 181, .ref r1, .none, .ref r2, .ref r3, .ref r4, qI u, qI a, .str "/claim/cut.py" v]
noncomputable def z0 : Value := .str "octetmint.machine" 690
noncomputable def z1 : Value := .str "octetmint.operands" 975
noncomputable def z2 : Value := .str "octetmint.rotates" 1257
noncomputable def z3 : Value := .str "octetmint.flags" 391
noncomputable def z4 : Value := .str "law_pb0435_01" 1569
noncomputable def z5 : Value := .str "octetmint.basics" 194
noncomputable def z6 : Value := .str "octetmint.registers" 587
noncomputable def z7 : Value := .str "Operand" 985
noncomputable def z8 : Value := .str "MintError" 204
noncomputable def z9 : Value := .str "Operand" 977
noncomputable def e0 (P : Params) := de P "__name__" 165 z5
noncomputable def e1 (P : Params) := de P "__doc__" 166 .none
noncomputable def e2 (P : Params) := de P "__package__" 167 .none
noncomputable def e3 (P : Params) := de P "__loader__" 168 (.builtin "__main__.__loader__#opaque")
noncomputable def e4 (P : Params) := de P "__spec__" 169 .none
noncomputable def e5 (P : Params) := de P "__annotations__" 170 (.ref 6)
noncomputable def e6 (P : Params) := de P "__builtins__" 171 (.ref 4)
noncomputable def e7 (P : Params) := de P "__file__" 173 (.str "/claim/cut.py" 172)
noncomputable def e8 (P : Params) := de P "__cached__" 174 .none
noncomputable def e9 (P : Params) := de P "_wall" 193 (.ref 21)
noncomputable def e10 (P : Params) := de P "MintError" 233 (.ref 46)
noncomputable def e11 (P : Params) := de P "__module__" 203 z5
noncomputable def e12 (P : Params) := de P "__init__" 216 (.ref 36)
noncomputable def e13 (P : Params) := de P "told" 223 (.ref 43)
noncomputable def e14 (P : Params) := de P "__static_attributes__" 226 (.ref 44)
noncomputable def e15 (P : Params) := de P "OperandError" 249 (.ref 59)
noncomputable def e16 (P : Params) := de P "__module__" 241 z5
noncomputable def e17 (P : Params) := de P "__static_attributes__" 246 (.ref 57)
noncomputable def e18 (P : Params) := de P "MachineError" 265 (.ref 71)
noncomputable def e19 (P : Params) := de P "mask" 272 (.ref 80)
noncomputable def e20 (P : Params) := de P "wrap" 280 (.ref 87)
noncomputable def e21 (P : Params) := de P "signed" 289 (.ref 94)
noncomputable def e22 (P : Params) := de P "fits_signed" 298 (.ref 101)
noncomputable def e23 (P : Params) := de P "extended" 307 (.ref 108)
noncomputable def e24 (P : Params) := de P "bit" 315 (.ref 115)
noncomputable def e25 (P : Params) := de P "__module__" 257 z5
noncomputable def e26 (P : Params) := de P "__static_attributes__" 262 (.ref 69)
noncomputable def e27 (P : Params) := de P "__name__" 165 z3
noncomputable def e28 (P : Params) := de P "ones" 325 (.ref 122)
noncomputable def e29 (P : Params) := de P "parity" 332 (.ref 129)
noncomputable def e30 (P : Params) := de P "lowest_bit" 341 (.ref 136)
noncomputable def e31 (P : Params) := de P "highest_bit" 351 (.ref 143)
noncomputable def e32 (P : Params) := de P "swapped" 362 (.ref 150)
noncomputable def e33 (P : Params) := de P "CONDITIONS" 366 (.str "o no b ae e ne be a s ns p np l ge le g" 365)
noncomputable def e34 (P : Params) := de P "condition_names" 372 (.ref 157)
noncomputable def e35 (P : Params) := de P "condition_of" 382 (.ref 164)
noncomputable def e36 (P : Params) := de P "string_stem" 390 (.ref 171)
noncomputable def e37 (P : Params) := de P "FLAG_NAMES" 408 (.str "cf pf af zf sf of df" 407)
noncomputable def e38 (P : Params) := de P "Flags" 509 (.ref 244)
noncomputable def e39 (P : Params) := de P "__module__" 416 z3
noncomputable def e40 (P : Params) := de P "__init__" 427 (.ref 185)
noncomputable def e41 (P : Params) := de P "told" 434 (.ref 192)
noncomputable def e42 (P : Params) := de P "pack" 442 (.ref 199)
noncomputable def e43 (P : Params) := de P "unpack" 450 (.ref 206)
noncomputable def e44 (P : Params) := de P "unpack_low" 458 (.ref 213)
noncomputable def e45 (P : Params) := de P "copy" 466 (.ref 220)
noncomputable def e46 (P : Params) := de P "get" 475 (.ref 227)
noncomputable def e47 (P : Params) := de P "put" 487 (.ref 234)
noncomputable def e48 (P : Params) := de P "show" 494 (.ref 241)
noncomputable def e49 (P : Params) := de P "__static_attributes__" 502 (.ref 242)
noncomputable def e50 (P : Params) := de P "__name__" 165 z6
noncomputable def e51 (P : Params) := de P "condition_number" 516 (.ref 255)
noncomputable def e52 (P : Params) := de P "szp" 526 (.ref 262)
noncomputable def e53 (P : Params) := de P "six_flags" 532 (.ref 269)
noncomputable def e54 (P : Params) := de P "flags_of_condition" 540 (.ref 276)
noncomputable def e55 (P : Params) := de P "reads_flags" 548 (.ref 283)
noncomputable def e56 (P : Params) := de P "writes_flags" 555 (.ref 290)
noncomputable def e57 (P : Params) := de P "sure_flags" 564 (.ref 298)
noncomputable def e58 (P : Params) := de P "undefined_by_count" 575 (.ref 305)
noncomputable def e59 (P : Params) := de P "undefined_flags" 586 (.ref 313)
noncomputable def e60 (P : Params) := de P "NAMES_8" 590 (.str "al cl dl bl spl bpl sil dil" 589)
noncomputable def e61 (P : Params) := de P "NAMES_16" 592 (.str "ax cx dx bx sp bp si di" 591)
noncomputable def e62 (P : Params) := de P "NAMES_32" 594 (.str "eax ecx edx ebx esp ebp esi edi" 593)
noncomputable def e63 (P : Params) := de P "NAMES_64" 596 (.str "rax rcx rdx rbx rsp rbp rsi rdi" 595)
noncomputable def e64 (P : Params) := de P "Register" 666 (.ref 365)
noncomputable def e65 (P : Params) := de P "__module__" 604 z6
noncomputable def e66 (P : Params) := de P "__init__" 619 (.ref 327)
noncomputable def e67 (P : Params) := de P "code" 626 (.ref 334)
noncomputable def e68 (P : Params) := de P "is_extended" 633 (.ref 341)
noncomputable def e69 (P : Params) := de P "is_high" 640 (.ref 348)
noncomputable def e70 (P : Params) := de P "needs_rex" 647 (.ref 355)
noncomputable def e71 (P : Params) := de P "told" 654 (.ref 362)
noncomputable def e72 (P : Params) := de P "__static_attributes__" 659 (.ref 363)
noncomputable def e73 (P : Params) := de P "__name__" 165 z0
noncomputable def e74 (P : Params) := de P "early_names" 673 (.ref 376)
noncomputable def e75 (P : Params) := de P "late_ending" 680 (.ref 383)
noncomputable def e76 (P : Params) := de P "gpr" 689 (.ref 390)
noncomputable def e77 (P : Params) := de P "Memory" 813 (.ref 480)
noncomputable def e78 (P : Params) := de P "__module__" 699 z0
noncomputable def e79 (P : Params) := de P "__init__" 710 (.ref 404)
noncomputable def e80 (P : Params) := de P "octet" 718 (.ref 411)
noncomputable def e81 (P : Params) := de P "set_octet" 727 (.ref 418)
noncomputable def e82 (P : Params) := de P "read" 738 (.ref 425)
noncomputable def e83 (P : Params) := de P "write" 749 (.ref 432)
noncomputable def e84 (P : Params) := de P "load" 758 (.ref 439)
noncomputable def e85 (P : Params) := de P "octets" 764 (.ref 444)
noncomputable def e86 (P : Params) := de P "written" 770 (.ref 449)
noncomputable def e87 (P : Params) := de P "spans" 777 (.ref 456)
noncomputable def e88 (P : Params) := de P "find" 788 (.ref 463)
noncomputable def e89 (P : Params) := de P "copy" 797 (.ref 470)
noncomputable def e90 (P : Params) := de P "told" 804 (.ref 477)
noncomputable def e91 (P : Params) := de P "__static_attributes__" 806 (.ref 478)
noncomputable def e92 (P : Params) := de P "joined" 822 (.ref 491)
noncomputable def e93 (P : Params) := de P "State" 974 (.ref 597)
noncomputable def e94 (P : Params) := de P "__module__" 830 z0
noncomputable def e95 (P : Params) := de P "__init__" 842 (.ref 505)
noncomputable def e96 (P : Params) := de P "get" 850 (.ref 512)
noncomputable def e97 (P : Params) := de P "put" 860 (.ref 519)
noncomputable def e98 (P : Params) := de P "put_low" 871 (.ref 526)
noncomputable def e99 (P : Params) := de P "registers" 877 (.ref 531)
noncomputable def e100 (P : Params) := de P "offset" 886 (.ref 538)
noncomputable def e101 (P : Params) := de P "place" 895 (.ref 545)
noncomputable def e102 (P : Params) := de P "size_of" 905 (.ref 552)
noncomputable def e103 (P : Params) := de P "read" 914 (.ref 559)
noncomputable def e104 (P : Params) := de P "write" 924 (.ref 566)
noncomputable def e105 (P : Params) := de P "push" 933 (.ref 573)
noncomputable def e106 (P : Params) := de P "pop" 941 (.ref 580)
noncomputable def e107 (P : Params) := de P "told" 949 (.ref 587)
noncomputable def e108 (P : Params) := de P "copy" 957 (.ref 594)
noncomputable def e109 (P : Params) := de P "__static_attributes__" 967 (.ref 595)
noncomputable def e110 (P : Params) := de P "__name__" 165 z1
noncomputable def e111 (P : Params) := de P "Operand" 1026 (.ref 639)
noncomputable def e112 (P : Params) := de P "__module__" 984 z1
noncomputable def e113 (P : Params) := de P "__init__" 996 (.ref 615)
noncomputable def e114 (P : Params) := de P "told" 1003 (.ref 622)
noncomputable def e115 (P : Params) := de P "symbol" 1010 (.ref 629)
noncomputable def e116 (P : Params) := de P "registers" 1017 (.ref 636)
noncomputable def e117 (P : Params) := de P "__static_attributes__" 1019 (.ref 637)
noncomputable def e118 (P : Params) := de P "Reg" 1065 (.ref 674)
noncomputable def e119 (P : Params) := de P "__module__" 1034 z1
noncomputable def e120 (P : Params) := de P "__init__" 1046 (.ref 657)
noncomputable def e121 (P : Params) := de P "told" 1053 (.ref 664)
noncomputable def e122 (P : Params) := de P "registers" 1060 (.ref 671)
noncomputable def e123 (P : Params) := de P "__static_attributes__" 1062 (.ref 672)
noncomputable def e124 (P : Params) := de P "Imm" 1107 (.ref 708)
noncomputable def e125 (P : Params) := de P "__module__" 1073 z1
noncomputable def e126 (P : Params) := de P "__init__" 1087 (.ref 691)
noncomputable def e127 (P : Params) := de P "told" 1094 (.ref 698)
noncomputable def e128 (P : Params) := de P "symbol" 1101 (.ref 705)
noncomputable def e129 (P : Params) := de P "__static_attributes__" 1104 (.ref 706)
noncomputable def e130 (P : Params) := de P "Mem" 1183 (.ref 761)
noncomputable def e131 (P : Params) := de P "__module__" 1115 z1
noncomputable def e132 (P : Params) := de P "__init__" 1136 (.ref 725)
noncomputable def e133 (P : Params) := de P "told" 1145 (.ref 732)
noncomputable def e134 (P : Params) := de P "symbol" 1152 (.ref 739)
noncomputable def e135 (P : Params) := de P "registers" 1158 (.ref 744)
noncomputable def e136 (P : Params) := de P "is_rip" 1165 (.ref 751)
noncomputable def e137 (P : Params) := de P "is_absolute" 1172 (.ref 758)
noncomputable def e138 (P : Params) := de P "__static_attributes__" 1180 (.ref 759)
noncomputable def e139 (P : Params) := de P "__name__" 165 z2
noncomputable def e140 (P : Params) := de P "Instruction" 1256 (.ref 814)
noncomputable def e141 (P : Params) := de P "__module__" 1191 z1
noncomputable def e142 (P : Params) := de P "__init__" 1206 (.ref 778)
noncomputable def e143 (P : Params) := de P "told" 1212 (.ref 783)
noncomputable def e144 (P : Params) := de P "memory_at" 1221 (.ref 790)
noncomputable def e145 (P : Params) := de P "memory" 1229 (.ref 797)
noncomputable def e146 (P : Params) := de P "symbols" 1236 (.ref 804)
noncomputable def e147 (P : Params) := de P "replaced" 1245 (.ref 811)
noncomputable def e148 (P : Params) := de P "__static_attributes__" 1249 (.ref 812)
noncomputable def e149 (P : Params) := de P "SHIFTS" 1260 (.str "shl shr sar" 1259)
noncomputable def e150 (P : Params) := de P "ROTATES" 1262 (.str "rol ror" 1261)
noncomputable def e151 (P : Params) := de P "THROUGHS" 1264 (.str "rcl rcr" 1263)
noncomputable def e152 (P : Params) := de P "DOUBLES" 1266 (.str "shld shrd" 1265)
noncomputable def e153 (P : Params) := de P "BITS" 1268 (.str "bt bts btr btc" 1267)
noncomputable def e154 (P : Params) := de P "SCANS" 1270 (.str "bsf bsr popcnt lzcnt tzcnt" 1269)
noncomputable def e155 (P : Params) := de P "WIDENINGS" 1272 (.str "movzx movsx movsxd" 1271)
noncomputable def e156 (P : Params) := de P "CONVERSIONS" 1274 (.str "cbw cwde cdqe" 1273)
noncomputable def e157 (P : Params) := de P "SPREADS" 1276 (.str "cwd cdq cqo" 1275)
noncomputable def e158 (P : Params) := de P "masked_count" 1284 (.ref 825)
noncomputable def e159 (P : Params) := de P "shifted" 1297 (.ref 832)
noncomputable def e160 (P : Params) := de P "turned_left" 1306 (.ref 839)
noncomputable def e161 (P : Params) := de P "rotated" 1319 (.ref 846)
noncomputable def e162 (P : Params) := de P "rotated_through" 1335 (.ref 853)
noncomputable def e163 (P : Params) := de P "double_shifted" 1348 (.ref 860)
noncomputable def e164 (P : Params) := de P "product" 1360 (.ref 867)
noncomputable def e165 (P : Params) := de P "quotient" 1373 (.ref 874)
noncomputable def e166 (P : Params) := de P "scanned" 1382 (.ref 881)
noncomputable def e167 (P : Params) := de P "with_bit" 1392 (.ref 888)
noncomputable def e168 (P : Params) := de P "clear_flags" 1399 (.ref 895)
noncomputable def e169 (P : Params) := de P "count_told" 1409 (.ref 902)
noncomputable def e170 (P : Params) := de P "shift_deed" 1425 (.ref 909)
noncomputable def e171 (P : Params) := de P "double_deed" 1443 (.ref 916)
noncomputable def e172 (P : Params) := de P "lay_wide" 1451 (.ref 923)
noncomputable def e173 (P : Params) := de P "put_halves" 1461 (.ref 930)
noncomputable def e174 (P : Params) := de P "halves" 1469 (.ref 937)
noncomputable def e175 (P : Params) := de P "product_deed" 1484 (.ref 944)
noncomputable def e176 (P : Params) := de P "quotient_deed" 1496 (.ref 951)
noncomputable def e177 (P : Params) := de P "bit_deed" 1512 (.ref 958)
noncomputable def e178 (P : Params) := de P "__name__" 165 z4
noncomputable def e179 (P : Params) := de P "scan_deed" 1525 (.ref 965)
noncomputable def e180 (P : Params) := de P "swap_deed" 1535 (.ref 972)
noncomputable def e181 (P : Params) := de P "widening_deed" 1548 (.ref 979)
noncomputable def e182 (P : Params) := de P "conversion_deed" 1559 (.ref 986)
noncomputable def e183 (P : Params) := de P "rotate_deed" 1568 (.ref 993)
noncomputable def e184 (P : Params) := de P "_law_cells" 1576 (.ref 998)
noncomputable def e185 (P : Params) := de P "_law_below" 1586 (.ref 1005)
noncomputable def e186 (P : Params) := de P "_law_one_of" 1594 (.ref 1012)
noncomputable def e187 (P : Params) := de P "_law_rounds" 1601 (.ref 1019)
noncomputable def e188 (P : Params) := de P "_law_set_by" 1608 (.ref 1026)
noncomputable def e189 (P : Params) := de P "_law_open" 1618 (.ref 1033)
noncomputable def e190 (P : Params) := de P "_law_goal" 1626 (.ref 1040)
noncomputable def e191 (P : Params) := de P "_law_by" 1635 (.ref 1047)
noncomputable def e192 (P : Params) := de P "_law_counted" 1647 (.ref 1054)
noncomputable def e193 (P : Params) := de P "_law_double" 1660 (.ref 1061)
noncomputable def e194 (P : Params) := de P "_law_uncounted" 1673 (.ref 1068)
noncomputable def e195 (P : Params) := de P "_law_line" 1681 (.ref 1075)
noncomputable def e196 (P : Params) := de P "_law_register" 1690 (.ref 1082)
noncomputable def e197 (P : Params) := de P "_law_begin" 1704 (.ref 1089)
noncomputable def e198 (P : Params) := de P "_law_answer" 1713 (.ref 1096)
noncomputable def e199 (P : Params) := de P "_law_told_right" 1724 (.ref 1103)
noncomputable def e200 (P : Params) := de P "_law_flags_right" 1740 (.ref 1110)
noncomputable def e201 (P : Params) := de P "_law_line_right" 1761 (.ref 1117)
noncomputable def o11 (P : Params) : Obj := tu []
noncomputable def tp (P : Params) : BT := (BT.nil |>.ins 0 (boot_o_0 P) |>.ins 1 (boot_o_1 P) |>.ins 2 (boot_o_2 P) |>.ins 3 (boot_o_3 P) |>.ins 4 (boot_o_4 P) |>.ins 5 (boot_o_5 P) |>.ins 6 (boot_o_6 P) |>.ins 7 (boot_o_7 P) |>.ins 8 (boot_o_8 P) |>.ins 9 (boot_o_9 P) |>.ins 10 (boot_o_10 P) |>.ins 11 (o11 P) |>.ins 12 q0 |>.ins 13 (qk "code" [.str "<module>" 182, .str "<module>" 183, .str "/claim/cut.py" 184, qI 1, qI 0, qI 0, qI 0, qI 0, .ref 11, .bool false, qI 181, .ref 12, .none, .none, .none, .none, qI 185, qI 1, .str "/claim/cut.py" 186]) |>.ins 14 (⟨(.type "frame"), none, .plain, ⟨[(some (.ref 13)), (some (.ref 3)), (some (.ref 3)), none, (some (.str "__main__" 164)), none, (some (.ref 0))]⟩⟩))
noncomputable def sp (w : World) (os : OsState) : SharedT := ⟨tp w.params, 15, {}, ⟨[]⟩, boot_drawn, 187, os⟩
noncomputable def t0 (P : Params) : BT := ((tp P))
noncomputable def s0 (w : World) (os : OsState) : SharedT := ⟨t0 w.params, 15, {}, ⟨[]⟩, boot_drawn, 187, os⟩
noncomputable def o2v1 (P : Params) : Obj := ⟨.none, none, (.dict ⟨[de P "type.__subclasses__.Exception.0" 230 (qI 46), de P "type.__subclasses__.Exception.n" 231 (qI 1)]⟩ 2), ⟨[]⟩⟩
noncomputable def o24 (P : Params) : Obj := qd [e11 P, de P "__qualname__" 205 z8, de P "__firstlineno__" 207 (.int (.ofNat 5) 206), e12 P, e13 P, e14 P] 6
noncomputable def o29 (P : Params) : Obj := tu [.none]
noncomputable def o35 (P : Params) : Obj := qc "__init__" "MintError.__init__" 208 209 210 7 3 0 0 3 30 true 31 32 33 34 214 215
noncomputable def o36 (P : Params) : Obj := qh (sb (st 2) 0) "MintError.__init__" (.ref 29) .none .none z5 (.ref 35)
noncomputable def o45 (P : Params) : Obj := qd [e11 P, de P "__firstlineno__" 207 (.int (.ofNat 5) 206), e12 P, e13 P, e14 P, de P "__weakref__" 228 (.ref 47), de P "__doc__" 229 .none] 3
noncomputable def t1 (P : Params) : BT := ((t0 P) |>.set 2 (fun _ => o2v1 P) |>.set 3 (fun _ => qd [e0 P, e1 P, e2 P, e3 P, e4 P, e5 P, e6 P, e7 P, e8 P, e9 P, e10 P] 11) |>.set 12 (fun _ => qf [qI 1, qI 0, .ref 20, qI 5, qI 0, .ref 27]) |>.ins 15 u0 |>.ins 16 q0 |>.ins 17 (tu [.str "k" 190]) |>.ins 18 u0 |>.ins 19 (qg (st 0) "_wall") |>.ins 20 (qc "_wall" "_wall" 187 188 189 1 1 0 0 3 15 true 16 17 18 19 191 192) |>.ins 21 (qh (st 0) "_wall" .none .none .none (.str "__main__" 164) (.ref 20)) |>.ins 22 (tu [.type "Exception"]) |>.ins 23 (qk "builtin_function_or_method" [.builtin "type.__prepare__", .type "type"]) |>.ins 24 (o24 P) |>.ins 25 u0 |>.ins 26 (qf [qI 7, qI 4, .ref 35, qI 12, qI 4, .ref 42]) |>.ins 27 (qk "code" [.str "MintError" 198, .str "MintError" 199, .str "/claim/cut.py" 200, qI 5, qI 0, qI 0, qI 0, qI 0, .ref 25, .bool false, qI 181, .ref 26, .none, .none, .none, .none, qI 201, qI 5, .str "/claim/cut.py" 202]) |>.ins 28 (⟨(.type "frame"), none, .plain, ⟨[(some (.ref 27)), (some (.ref 3)), (some (.ref 24)), none, (some z5), none, (some (.ref 0))]⟩⟩) |>.ins 29 (o29 P) |>.ins 30 u0 |>.ins 31 q0 |>.ins 32 (tu [.str "self" 211, .str "what" 212, .str "at" 213]) |>.ins 33 u0 |>.ins 34 (qg (sb (st 2) 0) "MintError.__init__") |>.ins 35 (o35 P) |>.ins 36 (o36 P) |>.ins 37 u0 |>.ins 38 q0 |>.ins 39 (tu [.str "self" 220]) |>.ins 40 u0 |>.ins 41 (qg (sb (st 2) 1) "MintError.told") |>.ins 42 (qc "told" "MintError.told" 217 218 219 12 1 0 0 3 37 true 38 39 40 41 221 222) |>.ins 43 (qh (sb (st 2) 1) "MintError.told" .none .none .none z5 (.ref 42)) |>.ins 44 (tu [.str "at" 224, .str "what" 225]) |>.ins 45 (o45 P) |>.ins 46 (⟨(.type "type"), none, (.cls ⟨"MintError", [.type "Exception"], [.ref 46, .type "Exception", .type "BaseException", .type "object"], 45, "MintError", true, [], [], false, none, false⟩), ⟨[(some (.ref 22)), none, (some (.str "MintError" 196)), (some z8), (some (.builtin "Exception.__new__")), (some (.bool true))]⟩⟩) |>.ins 47 (qk "getset_descriptor" [.str "__weakref__" 227, .ref 46, .builtin "ExceptionGroup.__weakref__", .none]) |>.ins 48 (qk "super" [.ref 46, .ref 46, .ref 46]) |>.ins 49 (qk "builtin_function_or_method" [.builtin "object.__init_subclass__", .ref 46]))
noncomputable def s1 (w : World) (os : OsState) : SharedT := ⟨t1 w.params, 50, {}, ⟨[]⟩, boot_drawn, 234, os⟩
noncomputable def o52 (P : Params) : Obj := qd [e16 P, de P "__qualname__" 243 (.str "OperandError" 242), de P "__firstlineno__" 245 (.int (.ofNat 16) 244), e17 P] 4
noncomputable def o58 (P : Params) : Obj := qd [e16 P, de P "__firstlineno__" 245 (.int (.ofNat 16) 244), e17 P, de P "__doc__" 247 .none] 2
noncomputable def o59 (P : Params) : Obj := ⟨(.type "type"), none, (.cls ⟨"OperandError", [.ref 46], [.ref 59, .ref 46, .type "Exception", .type "BaseException", .type "object"], 58, "OperandError", true, [], [], false, none, false⟩), ⟨[(some (.ref 50)), none, (some (.str "OperandError" 234)), (some (.str "OperandError" 242)), (some (.builtin "Exception.__new__")), (some (.bool true))]⟩⟩
noncomputable def t2 (P : Params) : BT := ((t1 P) |>.set 3 (fun _ => qd [e0 P, e1 P, e2 P, e3 P, e4 P, e5 P, e6 P, e7 P, e8 P, e9 P, e10 P, e15 P] 12) |>.set 12 (fun _ => qf [qI 1, qI 0, .ref 20, qI 5, qI 0, .ref 27, qI 16, qI 0, .ref 55]) |>.set 46 (fun _ => ⟨(.type "type"), none, (.cls ⟨"MintError", [.type "Exception"], [.ref 46, .type "Exception", .type "BaseException", .type "object"], 45, "MintError", true, [], [.ref 59], false, none, false⟩), ⟨[(some (.ref 22)), none, (some (.str "MintError" 196)), (some z8), (some (.builtin "Exception.__new__")), (some (.bool true))]⟩⟩) |>.ins 50 (tu [.ref 46]) |>.ins 51 (qk "builtin_function_or_method" [.builtin "type.__prepare__", .type "type"]) |>.ins 52 (o52 P) |>.ins 53 u0 |>.ins 54 q0 |>.ins 55 (qk "code" [.str "OperandError" 236, .str "OperandError" 237, .str "/claim/cut.py" 238, qI 16, qI 0, qI 0, qI 0, qI 0, .ref 53, .bool false, qI 181, .ref 54, .none, .none, .none, .none, qI 239, qI 16, .str "/claim/cut.py" 240]) |>.ins 56 (⟨(.type "frame"), none, .plain, ⟨[(some (.ref 55)), (some (.ref 3)), (some (.ref 52)), none, (some z5), none, (some (.ref 0))]⟩⟩) |>.ins 57 u0 |>.ins 58 (o58 P) |>.ins 59 (o59 P) |>.ins 60 (qk "super" [.ref 59, .ref 59, .ref 59]) |>.ins 61 (qk "builtin_function_or_method" [.builtin "object.__init_subclass__", .ref 59]))
noncomputable def s2 (w : World) (os : OsState) : SharedT := ⟨t2 w.params, 62, {}, ⟨[]⟩, boot_drawn, 250, os⟩
noncomputable def o46v2 (P : Params) : Obj := ⟨(.type "type"), none, (.cls ⟨"MintError", [.type "Exception"], [.ref 46, .type "Exception", .type "BaseException", .type "object"], 45, "MintError", true, [], [.ref 59, .ref 71], false, none, false⟩), ⟨[(some (.ref 22)), none, (some (.str "MintError" 196)), (some z8), (some (.builtin "Exception.__new__")), (some (.bool true))]⟩⟩
noncomputable def o64 (P : Params) : Obj := qd [e25 P, de P "__qualname__" 259 (.str "MachineError" 258), de P "__firstlineno__" 261 (.int (.ofNat 18) 260), e26 P] 4
noncomputable def o70 (P : Params) : Obj := qd [e25 P, de P "__firstlineno__" 261 (.int (.ofNat 18) 260), e26 P, de P "__doc__" 263 .none] 2
noncomputable def o71 (P : Params) : Obj := ⟨(.type "type"), none, (.cls ⟨"MachineError", [.ref 46], [.ref 71, .ref 46, .type "Exception", .type "BaseException", .type "object"], 70, "MachineError", true, [], [], false, none, false⟩), ⟨[(some (.ref 62)), none, (some (.str "MachineError" 250)), (some (.str "MachineError" 258)), (some (.builtin "Exception.__new__")), (some (.bool true))]⟩⟩
noncomputable def o79 (P : Params) : Obj := qc "mask" "mask" 266 267 268 20 1 0 0 3 74 true 75 76 77 78 270 271
noncomputable def o80 (P : Params) : Obj := qh (st 5) "mask" .none .none .none z5 (.ref 79)
noncomputable def o86 (P : Params) : Obj := qc "wrap" "wrap" 273 274 275 22 2 0 0 3 81 true 82 83 84 85 278 279
noncomputable def o87 (P : Params) : Obj := qh (st 6) "wrap" .none .none .none z5 (.ref 86)
noncomputable def o93 (P : Params) : Obj := qc "signed" "signed" 281 282 283 24 2 0 0 3 88 true 89 90 91 92 287 288
noncomputable def o94 (P : Params) : Obj := qh (st 7) "signed" .none .none .none z5 (.ref 93)
noncomputable def o100 (P : Params) : Obj := qc "fits_signed" "fits_signed" 290 291 292 29 2 0 0 3 95 true 96 97 98 99 296 297
noncomputable def o101 (P : Params) : Obj := qh (st 8) "fits_signed" .none .none .none z5 (.ref 100)
noncomputable def o107 (P : Params) : Obj := qc "extended" "extended" 299 300 301 32 3 0 0 3 102 true 103 104 105 106 305 306
noncomputable def o108 (P : Params) : Obj := qh (st 9) "extended" .none .none .none z5 (.ref 107)
noncomputable def o114 (P : Params) : Obj := qc "bit" "bit" 308 309 310 34 2 0 0 3 109 true 110 111 112 113 313 314
noncomputable def o115 (P : Params) : Obj := qh (st 10) "bit" .none .none .none z5 (.ref 114)
noncomputable def t3 (P : Params) : BT := ((t2 P) |>.set 3 (fun _ => qd [e0 P, e1 P, e2 P, e3 P, e4 P, e5 P, e6 P, e7 P, e8 P, e9 P, e10 P, e15 P, e18 P, e19 P, e20 P, e21 P, e22 P, e23 P, e24 P] 19) |>.set 12 (fun _ => qf [qI 1, qI 0, .ref 20, qI 5, qI 0, .ref 27, qI 16, qI 0, .ref 55, qI 18, qI 0, .ref 67, qI 20, qI 0, .ref 79, qI 22, qI 0, .ref 86, qI 24, qI 0, .ref 93, qI 29, qI 0, .ref 100, qI 32, qI 0, .ref 107, qI 34, qI 0, .ref 114]) |>.set 46 (fun _ => o46v2 P) |>.ins 62 (tu [.ref 46]) |>.ins 63 (qk "builtin_function_or_method" [.builtin "type.__prepare__", .type "type"]) |>.ins 64 (o64 P) |>.ins 65 u0 |>.ins 66 q0 |>.ins 67 (qk "code" [.str "MachineError" 252, .str "MachineError" 253, .str "/claim/cut.py" 254, qI 18, qI 0, qI 0, qI 0, qI 0, .ref 65, .bool false, qI 181, .ref 66, .none, .none, .none, .none, qI 255, qI 18, .str "/claim/cut.py" 256]) |>.ins 68 (⟨(.type "frame"), none, .plain, ⟨[(some (.ref 67)), (some (.ref 3)), (some (.ref 64)), none, (some z5), none, (some (.ref 0))]⟩⟩) |>.ins 69 u0 |>.ins 70 (o70 P) |>.ins 71 (o71 P) |>.ins 72 (qk "super" [.ref 71, .ref 71, .ref 71]) |>.ins 73 (qk "builtin_function_or_method" [.builtin "object.__init_subclass__", .ref 71]) |>.ins 74 u0 |>.ins 75 q0 |>.ins 76 (tu [.str "size" 269]) |>.ins 77 u0 |>.ins 78 (qg (st 5) "mask") |>.ins 79 (o79 P) |>.ins 80 (o80 P) |>.ins 81 u0 |>.ins 82 q0 |>.ins 83 (tu [.str "worth" 276, .str "size" 277]) |>.ins 84 u0 |>.ins 85 (qg (st 6) "wrap") |>.ins 86 (o86 P) |>.ins 87 (o87 P) |>.ins 88 u0 |>.ins 89 q0 |>.ins 90 (tu [.str "worth" 284, .str "size" 285, .str "low" 286]) |>.ins 91 u0 |>.ins 92 (qg (st 7) "signed") |>.ins 93 (o93 P) |>.ins 94 (o94 P) |>.ins 95 u0 |>.ins 96 q0 |>.ins 97 (tu [.str "worth" 293, .str "size" 294, .str "half" 295]) |>.ins 98 u0 |>.ins 99 (qg (st 8) "fits_signed") |>.ins 100 (o100 P) |>.ins 101 (o101 P) |>.ins 102 u0 |>.ins 103 q0 |>.ins 104 (tu [.str "worth" 302, .str "size" 303, .str "wide" 304]) |>.ins 105 u0 |>.ins 106 (qg (st 9) "extended") |>.ins 107 (o107 P) |>.ins 108 (o108 P) |>.ins 109 u0 |>.ins 110 q0 |>.ins 111 (tu [.str "worth" 311, .str "n" 312]) |>.ins 112 u0 |>.ins 113 (qg (st 10) "bit") |>.ins 114 (o114 P) |>.ins 115 (o115 P))
noncomputable def s3 (w : World) (os : OsState) : SharedT := ⟨t3 w.params, 116, {}, ⟨[]⟩, boot_drawn, 316, os⟩
noncomputable def o121 (P : Params) : Obj := qc "ones" "ones" 316 317 318 36 2 0 0 3 116 true 117 118 119 120 323 324
noncomputable def o122 (P : Params) : Obj := qh (st 11) "ones" .none .none .none z5 (.ref 121)
noncomputable def o128 (P : Params) : Obj := qc "parity" "parity" 326 327 328 43 1 0 0 3 123 true 124 125 126 127 330 331
noncomputable def o129 (P : Params) : Obj := qh (st 12) "parity" .none .none .none z5 (.ref 128)
noncomputable def o135 (P : Params) : Obj := qc "lowest_bit" "lowest_bit" 333 334 335 45 2 0 0 3 130 true 131 132 133 134 339 340
noncomputable def o136 (P : Params) : Obj := qh (st 13) "lowest_bit" .none .none .none z5 (.ref 135)
noncomputable def o142 (P : Params) : Obj := qc "highest_bit" "highest_bit" 342 343 344 50 2 0 0 3 137 true 138 139 140 141 349 350
noncomputable def o143 (P : Params) : Obj := qh (st 14) "highest_bit" .none .none .none z5 (.ref 142)
noncomputable def o149 (P : Params) : Obj := qc "swapped" "swapped" 352 353 354 57 2 0 0 3 144 true 145 146 147 148 360 361
noncomputable def o150 (P : Params) : Obj := qh (st 15) "swapped" .none .none .none z5 (.ref 149)
noncomputable def o156 (P : Params) : Obj := qc "condition_names" "condition_names" 367 368 369 66 0 0 0 3 151 true 152 153 154 155 370 371
noncomputable def o157 (P : Params) : Obj := qh (st 18) "condition_names" .none .none .none (.str "octetmint.forms" 363) (.ref 156)
noncomputable def o163 (P : Params) : Obj := qc "condition_of" "condition_of" 375 376 377 69 1 0 0 3 158 true 159 160 161 162 380 381
noncomputable def o164 (P : Params) : Obj := qh (st 20) "condition_of" .none .none .none (.str "octetmint.flow" 373) (.ref 163)
noncomputable def o170 (P : Params) : Obj := qc "string_stem" "string_stem" 383 384 385 74 1 0 0 3 165 true 166 167 168 169 388 389
noncomputable def o171 (P : Params) : Obj := qh (st 21) "string_stem" .none .none .none (.str "octetmint.flow" 373) (.ref 170)
noncomputable def t4 (P : Params) : BT := ((t3 P) |>.set 3 (fun _ => qd [e27 P, e1 P, e2 P, e3 P, e4 P, e5 P, e6 P, e7 P, e8 P, e9 P, e10 P, e15 P, e18 P, e19 P, e20 P, e21 P, e22 P, e23 P, e24 P, e28 P, e29 P, e30 P, e31 P, e32 P, e33 P, e34 P, e35 P, e36 P, de P "CF" 394 (.int (.ofNat 0) 393), de P "PF" 396 (.int (.ofNat 2) 395), de P "AF" 398 (.int (.ofNat 4) 397), de P "ZF" 400 (.int (.ofNat 6) 399), de P "SF" 402 (.int (.ofNat 7) 401), de P "DF" 404 (.int (.ofNat 10) 403), de P "OF" 406 (.int (.ofNat 11) 405), e37 P] 36) |>.set 12 (fun _ => qf [qI 1, qI 0, .ref 20, qI 5, qI 0, .ref 27, qI 16, qI 0, .ref 55, qI 18, qI 0, .ref 67, qI 20, qI 0, .ref 79, qI 22, qI 0, .ref 86, qI 24, qI 0, .ref 93, qI 29, qI 0, .ref 100, qI 32, qI 0, .ref 107, qI 34, qI 0, .ref 114, qI 36, qI 0, .ref 121, qI 43, qI 0, .ref 128, qI 45, qI 0, .ref 135, qI 50, qI 0, .ref 142, qI 57, qI 0, .ref 149, qI 66, qI 0, .ref 156, qI 69, qI 0, .ref 163, qI 74, qI 0, .ref 170]) |>.ins 116 u0 |>.ins 117 q0 |>.ins 118 (tu [.str "worth" 319, .str "size" 320, .str "rest" 321, .str "count" 322]) |>.ins 119 u0 |>.ins 120 (qg (st 11) "ones") |>.ins 121 (o121 P) |>.ins 122 (o122 P) |>.ins 123 u0 |>.ins 124 q0 |>.ins 125 (tu [.str "worth" 329]) |>.ins 126 u0 |>.ins 127 (qg (st 12) "parity") |>.ins 128 (o128 P) |>.ins 129 (o129 P) |>.ins 130 u0 |>.ins 131 q0 |>.ins 132 (tu [.str "worth" 336, .str "size" 337, .str "low" 338]) |>.ins 133 u0 |>.ins 134 (qg (st 13) "lowest_bit") |>.ins 135 (o135 P) |>.ins 136 (o136 P) |>.ins 137 u0 |>.ins 138 q0 |>.ins 139 (tu [.str "worth" 345, .str "size" 346, .str "rest" 347, .str "place" 348]) |>.ins 140 u0 |>.ins 141 (qg (st 14) "highest_bit") |>.ins 142 (o142 P) |>.ins 143 (o143 P) |>.ins 144 u0 |>.ins 145 q0 |>.ins 146 (tu [.str "worth" 355, .str "width" 356, .str "low" 357, .str "turned" 358, .str "spot" 359]) |>.ins 147 u0 |>.ins 148 (qg (st 15) "swapped") |>.ins 149 (o149 P) |>.ins 150 (o150 P) |>.ins 151 u0 |>.ins 152 q0 |>.ins 153 u0 |>.ins 154 u0 |>.ins 155 (qg (st 18) "condition_names") |>.ins 156 (o156 P) |>.ins 157 (o157 P) |>.ins 158 u0 |>.ins 159 q0 |>.ins 160 (tu [.str "name" 378, .str "stem" 379]) |>.ins 161 u0 |>.ins 162 (qg (st 20) "condition_of") |>.ins 163 (o163 P) |>.ins 164 (o164 P) |>.ins 165 u0 |>.ins 166 q0 |>.ins 167 (tu [.str "name" 386, .str "place" 387]) |>.ins 168 u0 |>.ins 169 (qg (st 21) "string_stem") |>.ins 170 (o170 P) |>.ins 171 (o171 P))
noncomputable def s4 (w : World) (os : OsState) : SharedT := ⟨t4 w.params, 172, {}, ⟨[]⟩, boot_drawn, 409, os⟩
noncomputable def o174 (P : Params) : Obj := qd [e39 P, de P "__qualname__" 418 (.str "Flags" 417), de P "__firstlineno__" 420 (.int (.ofNat 89) 419), e40 P, e41 P, e42 P, e43 P, e44 P, e45 P, e46 P, e47 P, e48 P, e49 P] 13
noncomputable def o184 (P : Params) : Obj := qc "__init__" "Flags.__init__" 421 422 423 91 1 0 0 3 179 true 180 181 182 183 425 426
noncomputable def o185 (P : Params) : Obj := qh (sb (st 31) 0) "Flags.__init__" .none .none .none z3 (.ref 184)
noncomputable def o191 (P : Params) : Obj := qc "told" "Flags.told" 428 429 430 100 1 0 0 3 186 true 187 188 189 190 432 433
noncomputable def o192 (P : Params) : Obj := qh (sb (st 31) 1) "Flags.told" .none .none .none z3 (.ref 191)
noncomputable def o198 (P : Params) : Obj := qc "pack" "Flags.pack" 435 436 437 103 1 0 0 3 193 true 194 195 196 197 440 441
noncomputable def o199 (P : Params) : Obj := qh (sb (st 31) 2) "Flags.pack" .none .none .none z3 (.ref 198)
noncomputable def o205 (P : Params) : Obj := qc "unpack" "Flags.unpack" 443 444 445 107 2 0 0 3 200 true 201 202 203 204 448 449
noncomputable def o206 (P : Params) : Obj := qh (sb (st 31) 3) "Flags.unpack" .none .none .none z3 (.ref 205)
noncomputable def o219 (P : Params) : Obj := qc "copy" "Flags.copy" 459 460 461 119 1 0 0 3 214 true 215 216 217 218 464 465
noncomputable def o220 (P : Params) : Obj := qh (sb (st 31) 5) "Flags.copy" .none .none .none z3 (.ref 219)
noncomputable def o226 (P : Params) : Obj := qc "get" "Flags.get" 467 468 469 124 2 0 0 3 221 true 222 223 224 225 473 474
noncomputable def o227 (P : Params) : Obj := qh (sb (st 31) 6) "Flags.get" .none .none .none z3 (.ref 226)
noncomputable def o233 (P : Params) : Obj := qc "put" "Flags.put" 476 477 478 130 3 0 0 3 228 true 229 230 231 232 485 486
noncomputable def o234 (P : Params) : Obj := qh (sb (st 31) 7) "Flags.put" .none .none .none z3 (.ref 233)
noncomputable def o243 (P : Params) : Obj := qd [e39 P, de P "__firstlineno__" 420 (.int (.ofNat 89) 419), e40 P, e41 P, e42 P, e43 P, e44 P, e45 P, e46 P, e47 P, e48 P, e49 P, de P "__dict__" 504 (.ref 245), de P "__weakref__" 506 (.ref 246), de P "__doc__" 507 .none] 4
noncomputable def o244 (P : Params) : Obj := ⟨(.type "type"), none, (.cls ⟨"Flags", [.type "object"], [.ref 244, .type "object"], 243, "Flags", true, [], [], false, none, false⟩), ⟨[none, none, (some (.str "Flags" 409)), (some (.str "Flags" 417)), (some (.builtin "object.__new__")), (some (.bool true))]⟩⟩
noncomputable def t5 (P : Params) : BT := ((t4 P) |>.set 3 (fun _ => qd [e27 P, e1 P, e2 P, e3 P, e4 P, e5 P, e6 P, e7 P, e8 P, e9 P, e10 P, e15 P, e18 P, e19 P, e20 P, e21 P, e22 P, e23 P, e24 P, e28 P, e29 P, e30 P, e31 P, e32 P, e33 P, e34 P, e35 P, e36 P, de P "CF" 394 (.int (.ofNat 0) 393), de P "PF" 396 (.int (.ofNat 2) 395), de P "AF" 398 (.int (.ofNat 4) 397), de P "ZF" 400 (.int (.ofNat 6) 399), de P "SF" 402 (.int (.ofNat 7) 401), de P "DF" 404 (.int (.ofNat 10) 403), de P "OF" 406 (.int (.ofNat 11) 405), e37 P, e38 P] 37) |>.set 12 (fun _ => qf [qI 1, qI 0, .ref 20, qI 5, qI 0, .ref 27, qI 16, qI 0, .ref 55, qI 18, qI 0, .ref 67, qI 20, qI 0, .ref 79, qI 22, qI 0, .ref 86, qI 24, qI 0, .ref 93, qI 29, qI 0, .ref 100, qI 32, qI 0, .ref 107, qI 34, qI 0, .ref 114, qI 36, qI 0, .ref 121, qI 43, qI 0, .ref 128, qI 45, qI 0, .ref 135, qI 50, qI 0, .ref 142, qI 57, qI 0, .ref 149, qI 66, qI 0, .ref 156, qI 69, qI 0, .ref 163, qI 74, qI 0, .ref 170, qI 89, qI 0, .ref 177]) |>.ins 172 u0 |>.ins 173 (qk "builtin_function_or_method" [.builtin "type.__prepare__", .type "type"]) |>.ins 174 (o174 P) |>.ins 175 u0 |>.ins 176 (qf [qI 91, qI 4, .ref 184, qI 100, qI 4, .ref 191, qI 103, qI 4, .ref 198, qI 107, qI 4, .ref 205, qI 116, qI 4, .ref 212, qI 119, qI 4, .ref 219, qI 124, qI 4, .ref 226, qI 130, qI 4, .ref 233, qI 138, qI 4, .ref 240]) |>.ins 177 (qk "code" [.str "Flags" 411, .str "Flags" 412, .str "/claim/cut.py" 413, qI 89, qI 0, qI 0, qI 0, qI 0, .ref 175, .bool false, qI 181, .ref 176, .none, .none, .none, .none, qI 414, qI 89, .str "/claim/cut.py" 415]) |>.ins 178 (⟨(.type "frame"), none, .plain, ⟨[(some (.ref 177)), (some (.ref 3)), (some (.ref 174)), none, (some z3), none, (some (.ref 0))]⟩⟩) |>.ins 179 u0 |>.ins 180 q0 |>.ins 181 (tu [.str "self" 424]) |>.ins 182 u0 |>.ins 183 (qg (sb (st 31) 0) "Flags.__init__") |>.ins 184 (o184 P) |>.ins 185 (o185 P) |>.ins 186 u0 |>.ins 187 q0 |>.ins 188 (tu [.str "self" 431]) |>.ins 189 u0 |>.ins 190 (qg (sb (st 31) 1) "Flags.told") |>.ins 191 (o191 P) |>.ins 192 (o192 P) |>.ins 193 u0 |>.ins 194 q0 |>.ins 195 (tu [.str "self" 438, .str "low" 439]) |>.ins 196 u0 |>.ins 197 (qg (sb (st 31) 2) "Flags.pack") |>.ins 198 (o198 P) |>.ins 199 (o199 P) |>.ins 200 u0 |>.ins 201 q0 |>.ins 202 (tu [.str "self" 446, .str "number" 447]) |>.ins 203 u0 |>.ins 204 (qg (sb (st 31) 3) "Flags.unpack") |>.ins 205 (o205 P) |>.ins 206 (o206 P) |>.ins 207 u0 |>.ins 208 q0 |>.ins 209 (tu [.str "self" 454, .str "octet" 455]) |>.ins 210 u0 |>.ins 211 (qg (sb (st 31) 4) "Flags.unpack_low") |>.ins 212 (qc "unpack_low" "Flags.unpack_low" 451 452 453 116 2 0 0 3 207 true 208 209 210 211 456 457) |>.ins 213 (qh (sb (st 31) 4) "Flags.unpack_low" .none .none .none z3 (.ref 212)) |>.ins 214 u0 |>.ins 215 q0 |>.ins 216 (tu [.str "self" 462, .str "found" 463]) |>.ins 217 u0 |>.ins 218 (qg (sb (st 31) 5) "Flags.copy") |>.ins 219 (o219 P) |>.ins 220 (o220 P) |>.ins 221 u0 |>.ins 222 q0 |>.ins 223 (tu [.str "self" 470, .str "name" 471, .str "names" 472]) |>.ins 224 u0 |>.ins 225 (qg (sb (st 31) 6) "Flags.get") |>.ins 226 (o226 P) |>.ins 227 (o227 P) |>.ins 228 u0 |>.ins 229 q0 |>.ins 230 (tu [.str "self" 479, .str "name" 480, .str "worth" 481, .str "spots" 482, .str "spot" 483, .str "number" 484]) |>.ins 231 u0 |>.ins 232 (qg (sb (st 31) 7) "Flags.put") |>.ins 233 (o233 P) |>.ins 234 (o234 P) |>.ins 235 u0 |>.ins 236 q0 |>.ins 237 (tu [.str "self" 491]) |>.ins 238 u0 |>.ins 239 (qg (sb (st 31) 8) "Flags.show") |>.ins 240 (qc "show" "Flags.show" 488 489 490 138 1 0 0 3 235 true 236 237 238 239 492 493) |>.ins 241 (qh (sb (st 31) 8) "Flags.show" .none .none .none z3 (.ref 240)) |>.ins 242 (tu [.str "af" 495, .str "cf" 496, .str "df" 497, .str "of" 498, .str "pf" 499, .str "sf" 500, .str "zf" 501]) |>.ins 243 (o243 P) |>.ins 244 (o244 P) |>.ins 245 (qk "getset_descriptor" [.str "__dict__" 503, .ref 244, .builtin "function.__dict__", .builtin "function.__dict__#set"]) |>.ins 246 (qk "getset_descriptor" [.str "__weakref__" 505, .ref 244, .builtin "ExceptionGroup.__weakref__", .none]) |>.ins 247 (qk "super" [.ref 244, .ref 244, .ref 244]) |>.ins 248 (qk "builtin_function_or_method" [.builtin "object.__init_subclass__", .ref 244]))
noncomputable def s5 (w : World) (os : OsState) : SharedT := ⟨t5 w.params, 249, {}, ⟨[]⟩, boot_drawn, 510, os⟩
noncomputable def o261 (P : Params) : Obj := qc "szp" "szp" 517 518 519 144 3 0 0 3 256 true 257 258 259 260 524 525
noncomputable def o262 (P : Params) : Obj := qh (st 33) "szp" .none .none .none z3 (.ref 261)
noncomputable def o268 (P : Params) : Obj := qc "six_flags" "six_flags" 527 528 529 150 0 0 0 3 263 true 264 265 266 267 530 531
noncomputable def o269 (P : Params) : Obj := qh (st 34) "six_flags" .none .none .none z3 (.ref 268)
noncomputable def o282 (P : Params) : Obj := qc "reads_flags" "reads_flags" 541 542 543 155 1 0 0 3 277 true 278 279 280 281 546 547
noncomputable def o283 (P : Params) : Obj := qh (st 36) "reads_flags" .none .none .none z3 (.ref 282)
noncomputable def o289 (P : Params) : Obj := qc "writes_flags" "writes_flags" 549 550 551 168 1 0 0 3 284 true 285 286 287 288 553 554
noncomputable def o290 (P : Params) : Obj := qh (st 37) "writes_flags" .none .none .none z3 (.ref 289)
noncomputable def o291 (P : Params) : Obj := tu [.str "" 556]
noncomputable def o297 (P : Params) : Obj := qc "sure_flags" "sure_flags" 557 558 559 190 2 0 0 3 292 true 293 294 295 296 562 563
noncomputable def o298 (P : Params) : Obj := qh (st 38) "sure_flags" (.ref 291) .none .none z3 (.ref 297)
noncomputable def o304 (P : Params) : Obj := qc "undefined_by_count" "undefined_by_count" 565 566 567 196 3 0 0 3 299 true 300 301 302 303 573 574
noncomputable def o305 (P : Params) : Obj := qh (st 39) "undefined_by_count" .none .none .none z3 (.ref 304)
noncomputable def o306 (P : Params) : Obj := tu [(.int (.ofNat 1) 576), (.int (.ofNat 64) 577)]
noncomputable def o312 (P : Params) : Obj := qc "undefined_flags" "undefined_flags" 578 579 580 209 3 0 0 3 307 true 308 309 310 311 584 585
noncomputable def o313 (P : Params) : Obj := qh (st 40) "undefined_flags" (.ref 306) .none .none z3 (.ref 312)
noncomputable def t6 (P : Params) : BT := ((t5 P) |>.set 3 (fun _ => qd [e50 P, e1 P, e2 P, e3 P, e4 P, e5 P, e6 P, e7 P, e8 P, e9 P, e10 P, e15 P, e18 P, e19 P, e20 P, e21 P, e22 P, e23 P, e24 P, e28 P, e29 P, e30 P, e31 P, e32 P, e33 P, e34 P, e35 P, e36 P, de P "CF" 394 (.int (.ofNat 0) 393), de P "PF" 396 (.int (.ofNat 2) 395), de P "AF" 398 (.int (.ofNat 4) 397), de P "ZF" 400 (.int (.ofNat 6) 399), de P "SF" 402 (.int (.ofNat 7) 401), de P "DF" 404 (.int (.ofNat 10) 403), de P "OF" 406 (.int (.ofNat 11) 405), e37 P, e38 P, e51 P, e52 P, e53 P, e54 P, e55 P, e56 P, e57 P, e58 P, e59 P, e60 P, e61 P, e62 P, e63 P] 50) |>.set 12 (fun _ => qf [qI 1, qI 0, .ref 20, qI 5, qI 0, .ref 27, qI 16, qI 0, .ref 55, qI 18, qI 0, .ref 67, qI 20, qI 0, .ref 79, qI 22, qI 0, .ref 86, qI 24, qI 0, .ref 93, qI 29, qI 0, .ref 100, qI 32, qI 0, .ref 107, qI 34, qI 0, .ref 114, qI 36, qI 0, .ref 121, qI 43, qI 0, .ref 128, qI 45, qI 0, .ref 135, qI 50, qI 0, .ref 142, qI 57, qI 0, .ref 149, qI 66, qI 0, .ref 156, qI 69, qI 0, .ref 163, qI 74, qI 0, .ref 170, qI 89, qI 0, .ref 177, qI 140, qI 0, .ref 254, qI 144, qI 0, .ref 261, qI 150, qI 0, .ref 268, qI 152, qI 0, .ref 275, qI 155, qI 0, .ref 282, qI 168, qI 0, .ref 289, qI 190, qI 0, .ref 297, qI 196, qI 0, .ref 304, qI 209, qI 0, .ref 312]) |>.ins 249 u0 |>.ins 250 q0 |>.ins 251 (tu [.str "condition" 513]) |>.ins 252 u0 |>.ins 253 (qg (st 32) "condition_number") |>.ins 254 (qc "condition_number" "condition_number" 510 511 512 140 1 0 0 3 249 true 250 251 252 253 514 515) |>.ins 255 (qh (st 32) "condition_number" .none .none .none z3 (.ref 254)) |>.ins 256 u0 |>.ins 257 q0 |>.ins 258 (tu [.str "flags" 520, .str "result" 521, .str "size" 522, .str "told" 523]) |>.ins 259 u0 |>.ins 260 (qg (st 33) "szp") |>.ins 261 (o261 P) |>.ins 262 (o262 P) |>.ins 263 u0 |>.ins 264 q0 |>.ins 265 u0 |>.ins 266 u0 |>.ins 267 (qg (st 34) "six_flags") |>.ins 268 (o268 P) |>.ins 269 (o269 P) |>.ins 270 u0 |>.ins 271 q0 |>.ins 272 (tu [.str "condition" 536, .str "rows" 537]) |>.ins 273 u0 |>.ins 274 (qg (st 35) "flags_of_condition") |>.ins 275 (qc "flags_of_condition" "flags_of_condition" 533 534 535 152 1 0 0 3 270 true 271 272 273 274 538 539) |>.ins 276 (qh (st 35) "flags_of_condition" .none .none .none z3 (.ref 275)) |>.ins 277 u0 |>.ins 278 q0 |>.ins 279 (tu [.str "name" 544, .str "condition" 545]) |>.ins 280 u0 |>.ins 281 (qg (st 36) "reads_flags") |>.ins 282 (o282 P) |>.ins 283 (o283 P) |>.ins 284 u0 |>.ins 285 q0 |>.ins 286 (tu [.str "name" 552]) |>.ins 287 u0 |>.ins 288 (qg (st 37) "writes_flags") |>.ins 289 (o289 P) |>.ins 290 (o290 P) |>.ins 291 (o291 P) |>.ins 292 u0 |>.ins 293 q0 |>.ins 294 (tu [.str "name" 560, .str "prefix" 561]) |>.ins 295 u0 |>.ins 296 (qg (st 38) "sure_flags") |>.ins 297 (o297 P) |>.ins 298 (o298 P) |>.ins 299 u0 |>.ins 300 q0 |>.ins 301 (tu [.str "name" 568, .str "count" 569, .str "size" 570, .str "masked" 571, .str "found" 572]) |>.ins 302 u0 |>.ins 303 (qg (st 39) "undefined_by_count") |>.ins 304 (o304 P) |>.ins 305 (o305 P) |>.ins 306 (o306 P) |>.ins 307 u0 |>.ins 308 q0 |>.ins 309 (tu [.str "name" 581, .str "count" 582, .str "size" 583]) |>.ins 310 u0 |>.ins 311 (qg (st 40) "undefined_flags") |>.ins 312 (o312 P) |>.ins 313 (o313 P))
noncomputable def s6 (w : World) (os : OsState) : SharedT := ⟨t6 w.params, 314, {}, ⟨[]⟩, boot_drawn, 597, os⟩
noncomputable def o316 (P : Params) : Obj := qd [e65 P, de P "__qualname__" 606 (.str "Register" 605), de P "__firstlineno__" 608 (.int (.ofNat 228) 607), e66 P, e67 P, e68 P, e69 P, e70 P, e71 P, e72 P] 10
noncomputable def o326 (P : Params) : Obj := qc "__init__" "Register.__init__" 609 610 611 230 5 0 0 3 321 true 322 323 324 325 617 618
noncomputable def o327 (P : Params) : Obj := qh (sb (st 46) 0) "Register.__init__" .none .none .none z6 (.ref 326)
noncomputable def o364 (P : Params) : Obj := qd [e65 P, de P "__firstlineno__" 608 (.int (.ofNat 228) 607), e66 P, e67 P, e68 P, e69 P, e70 P, e71 P, e72 P, de P "__dict__" 661 (.ref 366), de P "__weakref__" 663 (.ref 367), de P "__doc__" 664 .none] 4
noncomputable def o365 (P : Params) : Obj := ⟨(.type "type"), none, (.cls ⟨"Register", [.type "object"], [.ref 365, .type "object"], 364, "Register", true, [], [], false, none, false⟩), ⟨[none, none, (some (.str "Register" 597)), (some (.str "Register" 605)), (some (.builtin "object.__new__")), (some (.bool true))]⟩⟩
noncomputable def t7 (P : Params) : BT := ((t6 P) |>.set 3 (fun _ => qd [e50 P, e1 P, e2 P, e3 P, e4 P, e5 P, e6 P, e7 P, e8 P, e9 P, e10 P, e15 P, e18 P, e19 P, e20 P, e21 P, e22 P, e23 P, e24 P, e28 P, e29 P, e30 P, e31 P, e32 P, e33 P, e34 P, e35 P, e36 P, de P "CF" 394 (.int (.ofNat 0) 393), de P "PF" 396 (.int (.ofNat 2) 395), de P "AF" 398 (.int (.ofNat 4) 397), de P "ZF" 400 (.int (.ofNat 6) 399), de P "SF" 402 (.int (.ofNat 7) 401), de P "DF" 404 (.int (.ofNat 10) 403), de P "OF" 406 (.int (.ofNat 11) 405), e37 P, e38 P, e51 P, e52 P, e53 P, e54 P, e55 P, e56 P, e57 P, e58 P, e59 P, e60 P, e61 P, e62 P, e63 P, e64 P] 51) |>.set 12 (fun _ => qf [qI 1, qI 0, .ref 20, qI 5, qI 0, .ref 27, qI 16, qI 0, .ref 55, qI 18, qI 0, .ref 67, qI 20, qI 0, .ref 79, qI 22, qI 0, .ref 86, qI 24, qI 0, .ref 93, qI 29, qI 0, .ref 100, qI 32, qI 0, .ref 107, qI 34, qI 0, .ref 114, qI 36, qI 0, .ref 121, qI 43, qI 0, .ref 128, qI 45, qI 0, .ref 135, qI 50, qI 0, .ref 142, qI 57, qI 0, .ref 149, qI 66, qI 0, .ref 156, qI 69, qI 0, .ref 163, qI 74, qI 0, .ref 170, qI 89, qI 0, .ref 177, qI 140, qI 0, .ref 254, qI 144, qI 0, .ref 261, qI 150, qI 0, .ref 268, qI 152, qI 0, .ref 275, qI 155, qI 0, .ref 282, qI 168, qI 0, .ref 289, qI 190, qI 0, .ref 297, qI 196, qI 0, .ref 304, qI 209, qI 0, .ref 312, qI 228, qI 0, .ref 319]) |>.ins 314 u0 |>.ins 315 (qk "builtin_function_or_method" [.builtin "type.__prepare__", .type "type"]) |>.ins 316 (o316 P) |>.ins 317 u0 |>.ins 318 (qf [qI 230, qI 4, .ref 326, qI 236, qI 4, .ref 333, qI 239, qI 4, .ref 340, qI 242, qI 4, .ref 347, qI 245, qI 4, .ref 354, qI 248, qI 4, .ref 361]) |>.ins 319 (qk "code" [.str "Register" 599, .str "Register" 600, .str "/claim/cut.py" 601, qI 228, qI 0, qI 0, qI 0, qI 0, .ref 317, .bool false, qI 181, .ref 318, .none, .none, .none, .none, qI 602, qI 228, .str "/claim/cut.py" 603]) |>.ins 320 (⟨(.type "frame"), none, .plain, ⟨[(some (.ref 319)), (some (.ref 3)), (some (.ref 316)), none, (some z6), none, (some (.ref 0))]⟩⟩) |>.ins 321 u0 |>.ins 322 q0 |>.ins 323 (tu [.str "self" 612, .str "name" 613, .str "kind" 614, .str "number" 615, .str "size" 616]) |>.ins 324 u0 |>.ins 325 (qg (sb (st 46) 0) "Register.__init__") |>.ins 326 (o326 P) |>.ins 327 (o327 P) |>.ins 328 u0 |>.ins 329 q0 |>.ins 330 (tu [.str "self" 623]) |>.ins 331 u0 |>.ins 332 (qg (sb (st 46) 1) "Register.code") |>.ins 333 (qc "code" "Register.code" 620 621 622 236 1 0 0 3 328 true 329 330 331 332 624 625) |>.ins 334 (qh (sb (st 46) 1) "Register.code" .none .none .none z6 (.ref 333)) |>.ins 335 u0 |>.ins 336 q0 |>.ins 337 (tu [.str "self" 630]) |>.ins 338 u0 |>.ins 339 (qg (sb (st 46) 2) "Register.is_extended") |>.ins 340 (qc "is_extended" "Register.is_extended" 627 628 629 239 1 0 0 3 335 true 336 337 338 339 631 632) |>.ins 341 (qh (sb (st 46) 2) "Register.is_extended" .none .none .none z6 (.ref 340)) |>.ins 342 u0 |>.ins 343 q0 |>.ins 344 (tu [.str "self" 637]) |>.ins 345 u0 |>.ins 346 (qg (sb (st 46) 3) "Register.is_high") |>.ins 347 (qc "is_high" "Register.is_high" 634 635 636 242 1 0 0 3 342 true 343 344 345 346 638 639) |>.ins 348 (qh (sb (st 46) 3) "Register.is_high" .none .none .none z6 (.ref 347)) |>.ins 349 u0 |>.ins 350 q0 |>.ins 351 (tu [.str "self" 644]) |>.ins 352 u0 |>.ins 353 (qg (sb (st 46) 4) "Register.needs_rex") |>.ins 354 (qc "needs_rex" "Register.needs_rex" 641 642 643 245 1 0 0 3 349 true 350 351 352 353 645 646) |>.ins 355 (qh (sb (st 46) 4) "Register.needs_rex" .none .none .none z6 (.ref 354)) |>.ins 356 u0 |>.ins 357 q0 |>.ins 358 (tu [.str "self" 651]) |>.ins 359 u0 |>.ins 360 (qg (sb (st 46) 5) "Register.told") |>.ins 361 (qc "told" "Register.told" 648 649 650 248 1 0 0 3 356 true 357 358 359 360 652 653) |>.ins 362 (qh (sb (st 46) 5) "Register.told" .none .none .none z6 (.ref 361)) |>.ins 363 (tu [.str "kind" 655, .str "name" 656, .str "number" 657, .str "size" 658]) |>.ins 364 (o364 P) |>.ins 365 (o365 P) |>.ins 366 (qk "getset_descriptor" [.str "__dict__" 660, .ref 365, .builtin "function.__dict__", .builtin "function.__dict__#set"]) |>.ins 367 (qk "getset_descriptor" [.str "__weakref__" 662, .ref 365, .builtin "ExceptionGroup.__weakref__", .none]) |>.ins 368 (qk "super" [.ref 365, .ref 365, .ref 365]) |>.ins 369 (qk "builtin_function_or_method" [.builtin "object.__init_subclass__", .ref 365]))
noncomputable def s7 (w : World) (os : OsState) : SharedT := ⟨t7 w.params, 370, {}, ⟨[]⟩, boot_drawn, 667, os⟩
noncomputable def o375 (P : Params) : Obj := qc "early_names" "early_names" 667 668 669 250 1 0 0 3 370 true 371 372 373 374 671 672
noncomputable def o376 (P : Params) : Obj := qh (st 47) "early_names" .none .none .none z6 (.ref 375)
noncomputable def o382 (P : Params) : Obj := qc "late_ending" "late_ending" 674 675 676 260 1 0 0 3 377 true 378 379 380 381 678 679
noncomputable def o383 (P : Params) : Obj := qh (st 48) "late_ending" .none .none .none z6 (.ref 382)
noncomputable def o389 (P : Params) : Obj := qc "gpr" "gpr" 681 682 683 268 2 0 0 3 384 true 385 386 387 388 687 688
noncomputable def o390 (P : Params) : Obj := qh (st 49) "gpr" .none .none .none z6 (.ref 389)
noncomputable def t8 (P : Params) : BT := ((t7 P) |>.set 3 (fun _ => qd [e73 P, e1 P, e2 P, e3 P, e4 P, e5 P, e6 P, e7 P, e8 P, e9 P, e10 P, e15 P, e18 P, e19 P, e20 P, e21 P, e22 P, e23 P, e24 P, e28 P, e29 P, e30 P, e31 P, e32 P, e33 P, e34 P, e35 P, e36 P, de P "CF" 394 (.int (.ofNat 0) 393), de P "PF" 396 (.int (.ofNat 2) 395), de P "AF" 398 (.int (.ofNat 4) 397), de P "ZF" 400 (.int (.ofNat 6) 399), de P "SF" 402 (.int (.ofNat 7) 401), de P "DF" 404 (.int (.ofNat 10) 403), de P "OF" 406 (.int (.ofNat 11) 405), e37 P, e38 P, e51 P, e52 P, e53 P, e54 P, e55 P, e56 P, e57 P, e58 P, e59 P, e60 P, e61 P, e62 P, e63 P, e64 P, e74 P, e75 P, e76 P] 54) |>.set 12 (fun _ => qf [qI 1, qI 0, .ref 20, qI 5, qI 0, .ref 27, qI 16, qI 0, .ref 55, qI 18, qI 0, .ref 67, qI 20, qI 0, .ref 79, qI 22, qI 0, .ref 86, qI 24, qI 0, .ref 93, qI 29, qI 0, .ref 100, qI 32, qI 0, .ref 107, qI 34, qI 0, .ref 114, qI 36, qI 0, .ref 121, qI 43, qI 0, .ref 128, qI 45, qI 0, .ref 135, qI 50, qI 0, .ref 142, qI 57, qI 0, .ref 149, qI 66, qI 0, .ref 156, qI 69, qI 0, .ref 163, qI 74, qI 0, .ref 170, qI 89, qI 0, .ref 177, qI 140, qI 0, .ref 254, qI 144, qI 0, .ref 261, qI 150, qI 0, .ref 268, qI 152, qI 0, .ref 275, qI 155, qI 0, .ref 282, qI 168, qI 0, .ref 289, qI 190, qI 0, .ref 297, qI 196, qI 0, .ref 304, qI 209, qI 0, .ref 312, qI 228, qI 0, .ref 319, qI 250, qI 0, .ref 375, qI 260, qI 0, .ref 382, qI 268, qI 0, .ref 389]) |>.ins 370 u0 |>.ins 371 q0 |>.ins 372 (tu [.str "size" 670]) |>.ins 373 u0 |>.ins 374 (qg (st 47) "early_names") |>.ins 375 (o375 P) |>.ins 376 (o376 P) |>.ins 377 u0 |>.ins 378 q0 |>.ins 379 (tu [.str "size" 677]) |>.ins 380 u0 |>.ins 381 (qg (st 48) "late_ending") |>.ins 382 (o382 P) |>.ins 383 (o383 P) |>.ins 384 u0 |>.ins 385 q0 |>.ins 386 (tu [.str "number" 684, .str "size" 685, .str "names" 686]) |>.ins 387 u0 |>.ins 388 (qg (st 49) "gpr") |>.ins 389 (o389 P) |>.ins 390 (o390 P))
noncomputable def s8 (w : World) (os : OsState) : SharedT := ⟨t8 w.params, 391, {}, ⟨[]⟩, boot_drawn, 692, os⟩
noncomputable def o393 (P : Params) : Obj := qd [e78 P, de P "__qualname__" 701 (.str "Memory" 700), de P "__firstlineno__" 703 (.int (.ofNat 276) 702), e79 P, e80 P, e81 P, e82 P, e83 P, e84 P, e85 P, e86 P, e87 P, e88 P, e89 P, e90 P, e91 P] 16
noncomputable def o403 (P : Params) : Obj := qc "__init__" "Memory.__init__" 704 705 706 278 1 0 0 3 398 true 399 400 401 402 708 709
noncomputable def o404 (P : Params) : Obj := qh (sb (st 51) 0) "Memory.__init__" .none .none .none z0 (.ref 403)
noncomputable def o410 (P : Params) : Obj := qc "octet" "Memory.octet" 711 712 713 281 2 0 0 3 405 true 406 407 408 409 716 717
noncomputable def o411 (P : Params) : Obj := qh (sb (st 51) 1) "Memory.octet" .none .none .none z0 (.ref 410)
noncomputable def o417 (P : Params) : Obj := qc "set_octet" "Memory.set_octet" 719 720 721 284 3 0 0 3 412 true 413 414 415 416 725 726
noncomputable def o418 (P : Params) : Obj := qh (sb (st 51) 2) "Memory.set_octet" .none .none .none z0 (.ref 417)
noncomputable def o424 (P : Params) : Obj := qc "read" "Memory.read" 728 729 730 287 3 0 0 3 419 true 420 421 422 423 736 737
noncomputable def o425 (P : Params) : Obj := qh (sb (st 51) 3) "Memory.read" .none .none .none z0 (.ref 424)
noncomputable def o431 (P : Params) : Obj := qc "write" "Memory.write" 739 740 741 293 4 0 0 3 426 true 427 428 429 430 747 748
noncomputable def o432 (P : Params) : Obj := qh (sb (st 51) 4) "Memory.write" .none .none .none z0 (.ref 431)
noncomputable def o448 (P : Params) : Obj := qk "code" [.str "written" 765, .str "Memory.written" 766, .str "/claim/cut.py" 767, qI 303, qI 1, qI 0, qI 0, qI 3, .ref 445, .bool true, qI 181, .ref 446, .none, .none, .none, .ref 447, qI 768, qI 303, .str "/claim/cut.py" 769]
noncomputable def o449 (P : Params) : Obj := qh (sb (st 51) 7) "Memory.written" .none .none .none z0 (.ref 448)
noncomputable def o469 (P : Params) : Obj := qc "copy" "Memory.copy" 789 790 791 315 1 0 0 3 464 true 465 466 467 468 795 796
noncomputable def o470 (P : Params) : Obj := qh (sb (st 51) 10) "Memory.copy" .none .none .none z0 (.ref 469)
noncomputable def o476 (P : Params) : Obj := qc "told" "Memory.told" 798 799 800 321 1 0 0 3 471 true 472 473 474 475 802 803
noncomputable def o477 (P : Params) : Obj := qh (sb (st 51) 11) "Memory.told" .none .none .none z0 (.ref 476)
noncomputable def o479 (P : Params) : Obj := qd [e78 P, de P "__firstlineno__" 703 (.int (.ofNat 276) 702), e79 P, e80 P, e81 P, e82 P, e83 P, e84 P, e85 P, e86 P, e87 P, e88 P, e89 P, e90 P, e91 P, de P "__dict__" 808 (.ref 481), de P "__weakref__" 810 (.ref 482), de P "__doc__" 811 .none] 4
noncomputable def o480 (P : Params) : Obj := ⟨(.type "type"), none, (.cls ⟨"Memory", [.type "object"], [.ref 480, .type "object"], 479, "Memory", true, [], [], false, none, false⟩), ⟨[none, none, (some (.str "Memory" 692)), (some (.str "Memory" 700)), (some (.builtin "object.__new__")), (some (.bool true))]⟩⟩
noncomputable def t9 (P : Params) : BT := ((t8 P) |>.set 3 (fun _ => qd [e73 P, e1 P, e2 P, e3 P, e4 P, e5 P, e6 P, e7 P, e8 P, e9 P, e10 P, e15 P, e18 P, e19 P, e20 P, e21 P, e22 P, e23 P, e24 P, e28 P, e29 P, e30 P, e31 P, e32 P, e33 P, e34 P, e35 P, e36 P, de P "CF" 394 (.int (.ofNat 0) 393), de P "PF" 396 (.int (.ofNat 2) 395), de P "AF" 398 (.int (.ofNat 4) 397), de P "ZF" 400 (.int (.ofNat 6) 399), de P "SF" 402 (.int (.ofNat 7) 401), de P "DF" 404 (.int (.ofNat 10) 403), de P "OF" 406 (.int (.ofNat 11) 405), e37 P, e38 P, e51 P, e52 P, e53 P, e54 P, e55 P, e56 P, e57 P, e58 P, e59 P, e60 P, e61 P, e62 P, e63 P, e64 P, e74 P, e75 P, e76 P, e77 P] 55) |>.set 12 (fun _ => qf [qI 1, qI 0, .ref 20, qI 5, qI 0, .ref 27, qI 16, qI 0, .ref 55, qI 18, qI 0, .ref 67, qI 20, qI 0, .ref 79, qI 22, qI 0, .ref 86, qI 24, qI 0, .ref 93, qI 29, qI 0, .ref 100, qI 32, qI 0, .ref 107, qI 34, qI 0, .ref 114, qI 36, qI 0, .ref 121, qI 43, qI 0, .ref 128, qI 45, qI 0, .ref 135, qI 50, qI 0, .ref 142, qI 57, qI 0, .ref 149, qI 66, qI 0, .ref 156, qI 69, qI 0, .ref 163, qI 74, qI 0, .ref 170, qI 89, qI 0, .ref 177, qI 140, qI 0, .ref 254, qI 144, qI 0, .ref 261, qI 150, qI 0, .ref 268, qI 152, qI 0, .ref 275, qI 155, qI 0, .ref 282, qI 168, qI 0, .ref 289, qI 190, qI 0, .ref 297, qI 196, qI 0, .ref 304, qI 209, qI 0, .ref 312, qI 228, qI 0, .ref 319, qI 250, qI 0, .ref 375, qI 260, qI 0, .ref 382, qI 268, qI 0, .ref 389, qI 276, qI 0, .ref 396]) |>.ins 391 u0 |>.ins 392 (qk "builtin_function_or_method" [.builtin "type.__prepare__", .type "type"]) |>.ins 393 (o393 P) |>.ins 394 u0 |>.ins 395 (qf [qI 278, qI 4, .ref 403, qI 281, qI 4, .ref 410, qI 284, qI 4, .ref 417, qI 287, qI 4, .ref 424, qI 293, qI 4, .ref 431, qI 297, qI 4, .ref 438, qI 300, qI 4, .ref 443, qI 303, qI 4, .ref 448, qI 306, qI 4, .ref 455, qI 309, qI 4, .ref 462, qI 315, qI 4, .ref 469, qI 321, qI 4, .ref 476]) |>.ins 396 (qk "code" [.str "Memory" 694, .str "Memory" 695, .str "/claim/cut.py" 696, qI 276, qI 0, qI 0, qI 0, qI 0, .ref 394, .bool false, qI 181, .ref 395, .none, .none, .none, .none, qI 697, qI 276, .str "/claim/cut.py" 698]) |>.ins 397 (⟨(.type "frame"), none, .plain, ⟨[(some (.ref 396)), (some (.ref 3)), (some (.ref 393)), none, (some z0), none, (some (.ref 0))]⟩⟩) |>.ins 398 u0 |>.ins 399 q0 |>.ins 400 (tu [.str "self" 707]) |>.ins 401 u0 |>.ins 402 (qg (sb (st 51) 0) "Memory.__init__") |>.ins 403 (o403 P) |>.ins 404 (o404 P) |>.ins 405 u0 |>.ins 406 q0 |>.ins 407 (tu [.str "self" 714, .str "place" 715]) |>.ins 408 u0 |>.ins 409 (qg (sb (st 51) 1) "Memory.octet") |>.ins 410 (o410 P) |>.ins 411 (o411 P) |>.ins 412 u0 |>.ins 413 q0 |>.ins 414 (tu [.str "self" 722, .str "place" 723, .str "octet" 724]) |>.ins 415 u0 |>.ins 416 (qg (sb (st 51) 2) "Memory.set_octet") |>.ins 417 (o417 P) |>.ins 418 (o418 P) |>.ins 419 u0 |>.ins 420 q0 |>.ins 421 (tu [.str "self" 731, .str "place" 732, .str "width" 733, .str "worth" 734, .str "at" 735]) |>.ins 422 u0 |>.ins 423 (qg (sb (st 51) 3) "Memory.read") |>.ins 424 (o424 P) |>.ins 425 (o425 P) |>.ins 426 u0 |>.ins 427 q0 |>.ins 428 (tu [.str "self" 742, .str "place" 743, .str "width" 744, .str "worth" 745, .str "at" 746]) |>.ins 429 u0 |>.ins 430 (qg (sb (st 51) 4) "Memory.write") |>.ins 431 (o431 P) |>.ins 432 (o432 P) |>.ins 433 u0 |>.ins 434 q0 |>.ins 435 (tu [.str "self" 753, .str "place" 754, .str "octets" 755]) |>.ins 436 u0 |>.ins 437 (qg (sb (st 51) 5) "Memory.load") |>.ins 438 (qc "load" "Memory.load" 750 751 752 297 3 0 0 3 433 true 434 435 436 437 756 757) |>.ins 439 (qh (sb (st 51) 5) "Memory.load" .none .none .none z0 (.ref 438)) |>.ins 440 u0 |>.ins 441 q0 |>.ins 442 (qg (sb (st 51) 6) "Memory.octets") |>.ins 443 (qk "code" [.str "octets" 759, .str "Memory.octets" 760, .str "/claim/cut.py" 761, qI 300, qI 3, qI 0, qI 0, qI 3, .ref 440, .bool true, qI 181, .ref 441, .none, .none, .none, .ref 442, qI 762, qI 300, .str "/claim/cut.py" 763]) |>.ins 444 (qh (sb (st 51) 6) "Memory.octets" .none .none .none z0 (.ref 443)) |>.ins 445 u0 |>.ins 446 q0 |>.ins 447 (qg (sb (st 51) 7) "Memory.written") |>.ins 448 (o448 P) |>.ins 449 (o449 P) |>.ins 450 u0 |>.ins 451 q0 |>.ins 452 (tu [.str "self" 774]) |>.ins 453 u0 |>.ins 454 (qg (sb (st 51) 8) "Memory.spans") |>.ins 455 (qc "spans" "Memory.spans" 771 772 773 306 1 0 0 3 450 true 451 452 453 454 775 776) |>.ins 456 (qh (sb (st 51) 8) "Memory.spans" .none .none .none z0 (.ref 455)) |>.ins 457 u0 |>.ins 458 q0 |>.ins 459 (tu [.str "self" 781, .str "octets" 782, .str "begin" 783, .str "end" 784, .str "place" 785]) |>.ins 460 u0 |>.ins 461 (qg (sb (st 51) 9) "Memory.find") |>.ins 462 (qc "find" "Memory.find" 778 779 780 309 4 0 0 3 457 true 458 459 460 461 786 787) |>.ins 463 (qh (sb (st 51) 9) "Memory.find" .none .none .none z0 (.ref 462)) |>.ins 464 u0 |>.ins 465 q0 |>.ins 466 (tu [.str "self" 792, .str "other" 793, .str "place" 794]) |>.ins 467 u0 |>.ins 468 (qg (sb (st 51) 10) "Memory.copy") |>.ins 469 (o469 P) |>.ins 470 (o470 P) |>.ins 471 u0 |>.ins 472 q0 |>.ins 473 (tu [.str "self" 801]) |>.ins 474 u0 |>.ins 475 (qg (sb (st 51) 11) "Memory.told") |>.ins 476 (o476 P) |>.ins 477 (o477 P) |>.ins 478 (tu [.str "held" 805]) |>.ins 479 (o479 P) |>.ins 480 (o480 P) |>.ins 481 (qk "getset_descriptor" [.str "__dict__" 807, .ref 480, .builtin "function.__dict__", .builtin "function.__dict__#set"]) |>.ins 482 (qk "getset_descriptor" [.str "__weakref__" 809, .ref 480, .builtin "ExceptionGroup.__weakref__", .none]) |>.ins 483 (qk "super" [.ref 480, .ref 480, .ref 480]) |>.ins 484 (qk "builtin_function_or_method" [.builtin "object.__init_subclass__", .ref 480]))
noncomputable def s9 (w : World) (os : OsState) : SharedT := ⟨t9 w.params, 485, {}, ⟨[]⟩, boot_drawn, 814, os⟩
noncomputable def o490 (P : Params) : Obj := qc "joined" "joined" 814 815 816 323 3 0 0 3 485 true 486 487 488 489 820 821
noncomputable def o491 (P : Params) : Obj := qh (st 52) "joined" .none .none .none z0 (.ref 490)
noncomputable def t10 (P : Params) : BT := ((t9 P) |>.set 3 (fun _ => qd [e73 P, e1 P, e2 P, e3 P, e4 P, e5 P, e6 P, e7 P, e8 P, e9 P, e10 P, e15 P, e18 P, e19 P, e20 P, e21 P, e22 P, e23 P, e24 P, e28 P, e29 P, e30 P, e31 P, e32 P, e33 P, e34 P, e35 P, e36 P, de P "CF" 394 (.int (.ofNat 0) 393), de P "PF" 396 (.int (.ofNat 2) 395), de P "AF" 398 (.int (.ofNat 4) 397), de P "ZF" 400 (.int (.ofNat 6) 399), de P "SF" 402 (.int (.ofNat 7) 401), de P "DF" 404 (.int (.ofNat 10) 403), de P "OF" 406 (.int (.ofNat 11) 405), e37 P, e38 P, e51 P, e52 P, e53 P, e54 P, e55 P, e56 P, e57 P, e58 P, e59 P, e60 P, e61 P, e62 P, e63 P, e64 P, e74 P, e75 P, e76 P, e77 P, e92 P] 56) |>.set 12 (fun _ => qf [qI 1, qI 0, .ref 20, qI 5, qI 0, .ref 27, qI 16, qI 0, .ref 55, qI 18, qI 0, .ref 67, qI 20, qI 0, .ref 79, qI 22, qI 0, .ref 86, qI 24, qI 0, .ref 93, qI 29, qI 0, .ref 100, qI 32, qI 0, .ref 107, qI 34, qI 0, .ref 114, qI 36, qI 0, .ref 121, qI 43, qI 0, .ref 128, qI 45, qI 0, .ref 135, qI 50, qI 0, .ref 142, qI 57, qI 0, .ref 149, qI 66, qI 0, .ref 156, qI 69, qI 0, .ref 163, qI 74, qI 0, .ref 170, qI 89, qI 0, .ref 177, qI 140, qI 0, .ref 254, qI 144, qI 0, .ref 261, qI 150, qI 0, .ref 268, qI 152, qI 0, .ref 275, qI 155, qI 0, .ref 282, qI 168, qI 0, .ref 289, qI 190, qI 0, .ref 297, qI 196, qI 0, .ref 304, qI 209, qI 0, .ref 312, qI 228, qI 0, .ref 319, qI 250, qI 0, .ref 375, qI 260, qI 0, .ref 382, qI 268, qI 0, .ref 389, qI 276, qI 0, .ref 396, qI 323, qI 0, .ref 490]) |>.ins 485 u0 |>.ins 486 q0 |>.ins 487 (tu [.str "old" 817, .str "worth" 818, .str "size" 819]) |>.ins 488 u0 |>.ins 489 (qg (st 52) "joined") |>.ins 490 (o490 P) |>.ins 491 (o491 P))
noncomputable def s10 (w : World) (os : OsState) : SharedT := ⟨t10 w.params, 492, {}, ⟨[]⟩, boot_drawn, 823, os⟩
noncomputable def o494 (P : Params) : Obj := qd [e94 P, de P "__qualname__" 832 (.str "State" 831), de P "__firstlineno__" 834 (.int (.ofNat 327) 833), e95 P, e96 P, e97 P, e98 P, e99 P, e100 P, e101 P, e102 P, e103 P, e104 P, e105 P, e106 P, e107 P, e108 P, e109 P] 18
noncomputable def o504 (P : Params) : Obj := qc "__init__" "State.__init__" 835 836 837 329 2 0 0 3 499 true 500 501 502 503 840 841
noncomputable def o505 (P : Params) : Obj := qh (sb (st 53) 0) "State.__init__" .none .none .none z0 (.ref 504)
noncomputable def o511 (P : Params) : Obj := qc "get" "State.get" 843 844 845 340 2 0 0 3 506 true 507 508 509 510 848 849
noncomputable def o512 (P : Params) : Obj := qh (sb (st 53) 1) "State.get" .none .none .none z0 (.ref 511)
noncomputable def o518 (P : Params) : Obj := qc "put" "State.put" 851 852 853 351 3 0 0 3 513 true 514 515 516 517 858 859
noncomputable def o519 (P : Params) : Obj := qh (sb (st 53) 2) "State.put" .none .none .none z0 (.ref 518)
noncomputable def o525 (P : Params) : Obj := qc "put_low" "State.put_low" 861 862 863 363 4 0 0 3 520 true 521 522 523 524 869 870
noncomputable def o526 (P : Params) : Obj := qh (sb (st 53) 3) "State.put_low" .none .none .none z0 (.ref 525)
noncomputable def o537 (P : Params) : Obj := qc "offset" "State.offset" 878 879 880 373 2 0 0 3 532 true 533 534 535 536 884 885
noncomputable def o538 (P : Params) : Obj := qh (sb (st 53) 5) "State.offset" .none .none .none z0 (.ref 537)
noncomputable def o544 (P : Params) : Obj := qc "place" "State.place" 887 888 889 381 2 0 0 3 539 true 540 541 542 543 893 894
noncomputable def o545 (P : Params) : Obj := qh (sb (st 53) 6) "State.place" .none .none .none z0 (.ref 544)
noncomputable def o551 (P : Params) : Obj := qc "size_of" "State.size_of" 896 897 898 385 3 0 0 3 546 true 547 548 549 550 903 904
noncomputable def o552 (P : Params) : Obj := qh (sb (st 53) 7) "State.size_of" .none .none .none z0 (.ref 551)
noncomputable def o558 (P : Params) : Obj := qc "read" "State.read" 906 907 908 393 3 0 0 3 553 true 554 555 556 557 912 913
noncomputable def o559 (P : Params) : Obj := qh (sb (st 53) 8) "State.read" .none .none .none z0 (.ref 558)
noncomputable def o565 (P : Params) : Obj := qc "write" "State.write" 915 916 917 400 4 0 0 3 560 true 561 562 563 564 922 923
noncomputable def o566 (P : Params) : Obj := qh (sb (st 53) 9) "State.write" .none .none .none z0 (.ref 565)
noncomputable def o586 (P : Params) : Obj := qc "told" "State.told" 942 943 944 414 1 0 0 3 581 true 582 583 584 585 947 948
noncomputable def o587 (P : Params) : Obj := qh (sb (st 53) 12) "State.told" .none .none .none z0 (.ref 586)
noncomputable def o593 (P : Params) : Obj := qc "copy" "State.copy" 950 951 952 418 1 0 0 3 588 true 589 590 591 592 955 956
noncomputable def o594 (P : Params) : Obj := qh (sb (st 53) 13) "State.copy" .none .none .none z0 (.ref 593)
noncomputable def o596 (P : Params) : Obj := qd [e94 P, de P "__firstlineno__" 834 (.int (.ofNat 327) 833), e95 P, e96 P, e97 P, e98 P, e99 P, e100 P, e101 P, e102 P, e103 P, e104 P, e105 P, e106 P, e107 P, e108 P, e109 P, de P "__dict__" 969 (.ref 598), de P "__weakref__" 971 (.ref 599), de P "__doc__" 972 .none] 4
noncomputable def o597 (P : Params) : Obj := ⟨(.type "type"), none, (.cls ⟨"State", [.type "object"], [.ref 597, .type "object"], 596, "State", true, [], [], false, none, false⟩), ⟨[none, none, (some (.str "State" 823)), (some (.str "State" 831)), (some (.builtin "object.__new__")), (some (.bool true))]⟩⟩
noncomputable def t11 (P : Params) : BT := ((t10 P) |>.set 3 (fun _ => qd [e73 P, e1 P, e2 P, e3 P, e4 P, e5 P, e6 P, e7 P, e8 P, e9 P, e10 P, e15 P, e18 P, e19 P, e20 P, e21 P, e22 P, e23 P, e24 P, e28 P, e29 P, e30 P, e31 P, e32 P, e33 P, e34 P, e35 P, e36 P, de P "CF" 394 (.int (.ofNat 0) 393), de P "PF" 396 (.int (.ofNat 2) 395), de P "AF" 398 (.int (.ofNat 4) 397), de P "ZF" 400 (.int (.ofNat 6) 399), de P "SF" 402 (.int (.ofNat 7) 401), de P "DF" 404 (.int (.ofNat 10) 403), de P "OF" 406 (.int (.ofNat 11) 405), e37 P, e38 P, e51 P, e52 P, e53 P, e54 P, e55 P, e56 P, e57 P, e58 P, e59 P, e60 P, e61 P, e62 P, e63 P, e64 P, e74 P, e75 P, e76 P, e77 P, e92 P, e93 P] 57) |>.set 12 (fun _ => qf [qI 1, qI 0, .ref 20, qI 5, qI 0, .ref 27, qI 16, qI 0, .ref 55, qI 18, qI 0, .ref 67, qI 20, qI 0, .ref 79, qI 22, qI 0, .ref 86, qI 24, qI 0, .ref 93, qI 29, qI 0, .ref 100, qI 32, qI 0, .ref 107, qI 34, qI 0, .ref 114, qI 36, qI 0, .ref 121, qI 43, qI 0, .ref 128, qI 45, qI 0, .ref 135, qI 50, qI 0, .ref 142, qI 57, qI 0, .ref 149, qI 66, qI 0, .ref 156, qI 69, qI 0, .ref 163, qI 74, qI 0, .ref 170, qI 89, qI 0, .ref 177, qI 140, qI 0, .ref 254, qI 144, qI 0, .ref 261, qI 150, qI 0, .ref 268, qI 152, qI 0, .ref 275, qI 155, qI 0, .ref 282, qI 168, qI 0, .ref 289, qI 190, qI 0, .ref 297, qI 196, qI 0, .ref 304, qI 209, qI 0, .ref 312, qI 228, qI 0, .ref 319, qI 250, qI 0, .ref 375, qI 260, qI 0, .ref 382, qI 268, qI 0, .ref 389, qI 276, qI 0, .ref 396, qI 323, qI 0, .ref 490, qI 327, qI 0, .ref 497]) |>.ins 492 u0 |>.ins 493 (qk "builtin_function_or_method" [.builtin "type.__prepare__", .type "type"]) |>.ins 494 (o494 P) |>.ins 495 u0 |>.ins 496 (qf [qI 329, qI 4, .ref 504, qI 340, qI 4, .ref 511, qI 351, qI 4, .ref 518, qI 363, qI 4, .ref 525, qI 370, qI 4, .ref 530, qI 373, qI 4, .ref 537, qI 381, qI 4, .ref 544, qI 385, qI 4, .ref 551, qI 393, qI 4, .ref 558, qI 400, qI 4, .ref 565, qI 408, qI 4, .ref 572, qI 411, qI 4, .ref 579, qI 414, qI 4, .ref 586, qI 418, qI 4, .ref 593]) |>.ins 497 (qk "code" [.str "State" 825, .str "State" 826, .str "/claim/cut.py" 827, qI 327, qI 0, qI 0, qI 0, qI 0, .ref 495, .bool false, qI 181, .ref 496, .none, .none, .none, .none, qI 828, qI 327, .str "/claim/cut.py" 829]) |>.ins 498 (⟨(.type "frame"), none, .plain, ⟨[(some (.ref 497)), (some (.ref 3)), (some (.ref 494)), none, (some z0), none, (some (.ref 0))]⟩⟩) |>.ins 499 u0 |>.ins 500 q0 |>.ins 501 (tu [.str "self" 838, .str "iset" 839]) |>.ins 502 u0 |>.ins 503 (qg (sb (st 53) 0) "State.__init__") |>.ins 504 (o504 P) |>.ins 505 (o505 P) |>.ins 506 u0 |>.ins 507 q0 |>.ins 508 (tu [.str "self" 846, .str "register" 847]) |>.ins 509 u0 |>.ins 510 (qg (sb (st 53) 1) "State.get") |>.ins 511 (o511 P) |>.ins 512 (o512 P) |>.ins 513 u0 |>.ins 514 q0 |>.ins 515 (tu [.str "self" 854, .str "register" 855, .str "worth" 856, .str "old" 857]) |>.ins 516 u0 |>.ins 517 (qg (sb (st 53) 2) "State.put") |>.ins 518 (o518 P) |>.ins 519 (o519 P) |>.ins 520 u0 |>.ins 521 q0 |>.ins 522 (tu [.str "self" 864, .str "register" 865, .str "size" 866, .str "worth" 867, .str "old" 868]) |>.ins 523 u0 |>.ins 524 (qg (sb (st 53) 3) "State.put_low") |>.ins 525 (o525 P) |>.ins 526 (o526 P) |>.ins 527 u0 |>.ins 528 q0 |>.ins 529 (qg (sb (st 53) 4) "State.registers") |>.ins 530 (qk "code" [.str "registers" 872, .str "State.registers" 873, .str "/claim/cut.py" 874, qI 370, qI 1, qI 0, qI 0, qI 3, .ref 527, .bool true, qI 181, .ref 528, .none, .none, .none, .ref 529, qI 875, qI 370, .str "/claim/cut.py" 876]) |>.ins 531 (qh (sb (st 53) 4) "State.registers" .none .none .none z0 (.ref 530)) |>.ins 532 u0 |>.ins 533 q0 |>.ins 534 (tu [.str "self" 881, .str "mem" 882, .str "total" 883]) |>.ins 535 u0 |>.ins 536 (qg (sb (st 53) 5) "State.offset") |>.ins 537 (o537 P) |>.ins 538 (o538 P) |>.ins 539 u0 |>.ins 540 q0 |>.ins 541 (tu [.str "self" 890, .str "mem" 891, .str "base" 892]) |>.ins 542 u0 |>.ins 543 (qg (sb (st 53) 6) "State.place") |>.ins 544 (o544 P) |>.ins 545 (o545 P) |>.ins 546 u0 |>.ins 547 q0 |>.ins 548 (tu [.str "self" 899, .str "operand" 900, .str "instruction" 901, .str "one" 902]) |>.ins 549 u0 |>.ins 550 (qg (sb (st 53) 7) "State.size_of") |>.ins 551 (o551 P) |>.ins 552 (o552 P) |>.ins 553 u0 |>.ins 554 q0 |>.ins 555 (tu [.str "self" 909, .str "operand" 910, .str "size" 911]) |>.ins 556 u0 |>.ins 557 (qg (sb (st 53) 8) "State.read") |>.ins 558 (o558 P) |>.ins 559 (o559 P) |>.ins 560 u0 |>.ins 561 q0 |>.ins 562 (tu [.str "self" 918, .str "operand" 919, .str "size" 920, .str "worth" 921]) |>.ins 563 u0 |>.ins 564 (qg (sb (st 53) 9) "State.write") |>.ins 565 (o565 P) |>.ins 566 (o566 P) |>.ins 567 u0 |>.ins 568 q0 |>.ins 569 (tu [.str "self" 928, .str "worth" 929, .str "width" 930]) |>.ins 570 u0 |>.ins 571 (qg (sb (st 53) 10) "State.push") |>.ins 572 (qc "push" "State.push" 925 926 927 408 3 0 0 3 567 true 568 569 570 571 931 932) |>.ins 573 (qh (sb (st 53) 10) "State.push" .none .none .none z0 (.ref 572)) |>.ins 574 u0 |>.ins 575 q0 |>.ins 576 (tu [.str "self" 937, .str "width" 938]) |>.ins 577 u0 |>.ins 578 (qg (sb (st 53) 11) "State.pop") |>.ins 579 (qc "pop" "State.pop" 934 935 936 411 2 0 0 3 574 true 575 576 577 578 939 940) |>.ins 580 (qh (sb (st 53) 11) "State.pop" .none .none .none z0 (.ref 579)) |>.ins 581 u0 |>.ins 582 q0 |>.ins 583 (tu [.str "self" 945, .str "bases" 946]) |>.ins 584 u0 |>.ins 585 (qg (sb (st 53) 12) "State.told") |>.ins 586 (o586 P) |>.ins 587 (o587 P) |>.ins 588 u0 |>.ins 589 q0 |>.ins 590 (tu [.str "self" 953, .str "other" 954]) |>.ins 591 u0 |>.ins 592 (qg (sb (st 53) 13) "State.copy") |>.ins 593 (o593 P) |>.ins 594 (o594 P) |>.ins 595 (tu [.str "begin" 958, .str "flags" 959, .str "is_halted" 960, .str "iset" 961, .str "memory" 962, .str "regs" 963, .str "rip" 964, .str "segments" 965, .str "xmm" 966]) |>.ins 596 (o596 P) |>.ins 597 (o597 P) |>.ins 598 (qk "getset_descriptor" [.str "__dict__" 968, .ref 597, .builtin "function.__dict__", .builtin "function.__dict__#set"]) |>.ins 599 (qk "getset_descriptor" [.str "__weakref__" 970, .ref 597, .builtin "ExceptionGroup.__weakref__", .none]) |>.ins 600 (qk "super" [.ref 597, .ref 597, .ref 597]) |>.ins 601 (qk "builtin_function_or_method" [.builtin "object.__init_subclass__", .ref 597]))
noncomputable def s11 (w : World) (os : OsState) : SharedT := ⟨t11 w.params, 602, {}, ⟨[]⟩, boot_drawn, 975, os⟩
noncomputable def o604 (P : Params) : Obj := qd [e112 P, de P "__qualname__" 986 z7, de P "__firstlineno__" 988 (.int (.ofNat 430) 987), e113 P, e114 P, e115 P, e116 P, e117 P] 8
noncomputable def o614 (P : Params) : Obj := qc "__init__" "Operand.__init__" 989 990 991 432 2 0 0 3 609 true 610 611 612 613 994 995
noncomputable def o615 (P : Params) : Obj := qh (sb (st 55) 0) "Operand.__init__" .none .none .none z1 (.ref 614)
noncomputable def o638 (P : Params) : Obj := qd [e112 P, de P "__firstlineno__" 988 (.int (.ofNat 430) 987), e113 P, e114 P, e115 P, e116 P, e117 P, de P "__dict__" 1021 (.ref 640), de P "__weakref__" 1023 (.ref 641), de P "__doc__" 1024 .none] 4
noncomputable def t12 (P : Params) : BT := ((t11 P) |>.set 3 (fun _ => qd [e110 P, e1 P, e2 P, e3 P, e4 P, e5 P, e6 P, e7 P, e8 P, e9 P, e10 P, e15 P, e18 P, e19 P, e20 P, e21 P, e22 P, e23 P, e24 P, e28 P, e29 P, e30 P, e31 P, e32 P, e33 P, e34 P, e35 P, e36 P, de P "CF" 394 (.int (.ofNat 0) 393), de P "PF" 396 (.int (.ofNat 2) 395), de P "AF" 398 (.int (.ofNat 4) 397), de P "ZF" 400 (.int (.ofNat 6) 399), de P "SF" 402 (.int (.ofNat 7) 401), de P "DF" 404 (.int (.ofNat 10) 403), de P "OF" 406 (.int (.ofNat 11) 405), e37 P, e38 P, e51 P, e52 P, e53 P, e54 P, e55 P, e56 P, e57 P, e58 P, e59 P, e60 P, e61 P, e62 P, e63 P, e64 P, e74 P, e75 P, e76 P, e77 P, e92 P, e93 P, e111 P] 58) |>.set 12 (fun _ => qf [qI 1, qI 0, .ref 20, qI 5, qI 0, .ref 27, qI 16, qI 0, .ref 55, qI 18, qI 0, .ref 67, qI 20, qI 0, .ref 79, qI 22, qI 0, .ref 86, qI 24, qI 0, .ref 93, qI 29, qI 0, .ref 100, qI 32, qI 0, .ref 107, qI 34, qI 0, .ref 114, qI 36, qI 0, .ref 121, qI 43, qI 0, .ref 128, qI 45, qI 0, .ref 135, qI 50, qI 0, .ref 142, qI 57, qI 0, .ref 149, qI 66, qI 0, .ref 156, qI 69, qI 0, .ref 163, qI 74, qI 0, .ref 170, qI 89, qI 0, .ref 177, qI 140, qI 0, .ref 254, qI 144, qI 0, .ref 261, qI 150, qI 0, .ref 268, qI 152, qI 0, .ref 275, qI 155, qI 0, .ref 282, qI 168, qI 0, .ref 289, qI 190, qI 0, .ref 297, qI 196, qI 0, .ref 304, qI 209, qI 0, .ref 312, qI 228, qI 0, .ref 319, qI 250, qI 0, .ref 375, qI 260, qI 0, .ref 382, qI 268, qI 0, .ref 389, qI 276, qI 0, .ref 396, qI 323, qI 0, .ref 490, qI 327, qI 0, .ref 497, qI 430, qI 0, .ref 607]) |>.ins 602 u0 |>.ins 603 (qk "builtin_function_or_method" [.builtin "type.__prepare__", .type "type"]) |>.ins 604 (o604 P) |>.ins 605 u0 |>.ins 606 (qf [qI 432, qI 4, .ref 614, qI 435, qI 4, .ref 621, qI 438, qI 4, .ref 628, qI 441, qI 4, .ref 635]) |>.ins 607 (qk "code" [.str "Operand" 979, .str "Operand" 980, .str "/claim/cut.py" 981, qI 430, qI 0, qI 0, qI 0, qI 0, .ref 605, .bool false, qI 181, .ref 606, .none, .none, .none, .none, qI 982, qI 430, .str "/claim/cut.py" 983]) |>.ins 608 (⟨(.type "frame"), none, .plain, ⟨[(some (.ref 607)), (some (.ref 3)), (some (.ref 604)), none, (some z1), none, (some (.ref 0))]⟩⟩) |>.ins 609 u0 |>.ins 610 q0 |>.ins 611 (tu [.str "self" 992, .str "kind" 993]) |>.ins 612 u0 |>.ins 613 (qg (sb (st 55) 0) "Operand.__init__") |>.ins 614 (o614 P) |>.ins 615 (o615 P) |>.ins 616 u0 |>.ins 617 q0 |>.ins 618 (tu [.str "self" 1000]) |>.ins 619 u0 |>.ins 620 (qg (sb (st 55) 1) "Operand.told") |>.ins 621 (qc "told" "Operand.told" 997 998 999 435 1 0 0 3 616 true 617 618 619 620 1001 1002) |>.ins 622 (qh (sb (st 55) 1) "Operand.told" .none .none .none z1 (.ref 621)) |>.ins 623 u0 |>.ins 624 q0 |>.ins 625 (tu [.str "self" 1007]) |>.ins 626 u0 |>.ins 627 (qg (sb (st 55) 2) "Operand.symbol") |>.ins 628 (qc "symbol" "Operand.symbol" 1004 1005 1006 438 1 0 0 3 623 true 624 625 626 627 1008 1009) |>.ins 629 (qh (sb (st 55) 2) "Operand.symbol" .none .none .none z1 (.ref 628)) |>.ins 630 u0 |>.ins 631 q0 |>.ins 632 (tu [.str "self" 1014]) |>.ins 633 u0 |>.ins 634 (qg (sb (st 55) 3) "Operand.registers") |>.ins 635 (qc "registers" "Operand.registers" 1011 1012 1013 441 1 0 0 3 630 true 631 632 633 634 1015 1016) |>.ins 636 (qh (sb (st 55) 3) "Operand.registers" .none .none .none z1 (.ref 635)) |>.ins 637 (tu [.str "kind" 1018]) |>.ins 638 (o638 P) |>.ins 639 (⟨(.type "type"), none, (.cls ⟨"Operand", [.type "object"], [.ref 639, .type "object"], 638, "Operand", true, [], [], false, none, false⟩), ⟨[none, none, (some z9), (some z7), (some (.builtin "object.__new__")), (some (.bool true))]⟩⟩) |>.ins 640 (qk "getset_descriptor" [.str "__dict__" 1020, .ref 639, .builtin "function.__dict__", .builtin "function.__dict__#set"]) |>.ins 641 (qk "getset_descriptor" [.str "__weakref__" 1022, .ref 639, .builtin "ExceptionGroup.__weakref__", .none]) |>.ins 642 (qk "super" [.ref 639, .ref 639, .ref 639]) |>.ins 643 (qk "builtin_function_or_method" [.builtin "object.__init_subclass__", .ref 639]))
noncomputable def s12 (w : World) (os : OsState) : SharedT := ⟨t12 w.params, 644, {}, ⟨[]⟩, boot_drawn, 1027, os⟩
noncomputable def o646 (P : Params) : Obj := qd [e119 P, de P "__qualname__" 1036 (.str "Reg" 1035), de P "__firstlineno__" 1038 (.int (.ofNat 443) 1037), e120 P, e121 P, e122 P, e123 P] 7
noncomputable def o656 (P : Params) : Obj := qc "__init__" "Reg.__init__" 1039 1040 1041 445 2 0 0 3 651 true 652 653 654 655 1044 1045
noncomputable def o657 (P : Params) : Obj := qh (sb (st 56) 0) "Reg.__init__" .none .none .none z1 (.ref 656)
noncomputable def o673 (P : Params) : Obj := qd [e119 P, de P "__firstlineno__" 1038 (.int (.ofNat 443) 1037), e120 P, e121 P, e122 P, e123 P, de P "__doc__" 1063 .none] 2
noncomputable def o674 (P : Params) : Obj := ⟨(.type "type"), none, (.cls ⟨"Reg", [.ref 639], [.ref 674, .ref 639, .type "object"], 673, "Reg", true, [], [], false, none, false⟩), ⟨[(some (.ref 644)), none, (some (.str "Reg" 1027)), (some (.str "Reg" 1035)), (some (.builtin "object.__new__")), (some (.bool true))]⟩⟩
noncomputable def t13 (P : Params) : BT := ((t12 P) |>.set 3 (fun _ => qd [e110 P, e1 P, e2 P, e3 P, e4 P, e5 P, e6 P, e7 P, e8 P, e9 P, e10 P, e15 P, e18 P, e19 P, e20 P, e21 P, e22 P, e23 P, e24 P, e28 P, e29 P, e30 P, e31 P, e32 P, e33 P, e34 P, e35 P, e36 P, de P "CF" 394 (.int (.ofNat 0) 393), de P "PF" 396 (.int (.ofNat 2) 395), de P "AF" 398 (.int (.ofNat 4) 397), de P "ZF" 400 (.int (.ofNat 6) 399), de P "SF" 402 (.int (.ofNat 7) 401), de P "DF" 404 (.int (.ofNat 10) 403), de P "OF" 406 (.int (.ofNat 11) 405), e37 P, e38 P, e51 P, e52 P, e53 P, e54 P, e55 P, e56 P, e57 P, e58 P, e59 P, e60 P, e61 P, e62 P, e63 P, e64 P, e74 P, e75 P, e76 P, e77 P, e92 P, e93 P, e111 P, e118 P] 59) |>.set 12 (fun _ => qf [qI 1, qI 0, .ref 20, qI 5, qI 0, .ref 27, qI 16, qI 0, .ref 55, qI 18, qI 0, .ref 67, qI 20, qI 0, .ref 79, qI 22, qI 0, .ref 86, qI 24, qI 0, .ref 93, qI 29, qI 0, .ref 100, qI 32, qI 0, .ref 107, qI 34, qI 0, .ref 114, qI 36, qI 0, .ref 121, qI 43, qI 0, .ref 128, qI 45, qI 0, .ref 135, qI 50, qI 0, .ref 142, qI 57, qI 0, .ref 149, qI 66, qI 0, .ref 156, qI 69, qI 0, .ref 163, qI 74, qI 0, .ref 170, qI 89, qI 0, .ref 177, qI 140, qI 0, .ref 254, qI 144, qI 0, .ref 261, qI 150, qI 0, .ref 268, qI 152, qI 0, .ref 275, qI 155, qI 0, .ref 282, qI 168, qI 0, .ref 289, qI 190, qI 0, .ref 297, qI 196, qI 0, .ref 304, qI 209, qI 0, .ref 312, qI 228, qI 0, .ref 319, qI 250, qI 0, .ref 375, qI 260, qI 0, .ref 382, qI 268, qI 0, .ref 389, qI 276, qI 0, .ref 396, qI 323, qI 0, .ref 490, qI 327, qI 0, .ref 497, qI 430, qI 0, .ref 607, qI 443, qI 0, .ref 649]) |>.set 639 (fun _ => ⟨(.type "type"), none, (.cls ⟨"Operand", [.type "object"], [.ref 639, .type "object"], 638, "Operand", true, [], [.ref 674], false, none, false⟩), ⟨[none, none, (some z9), (some z7), (some (.builtin "object.__new__")), (some (.bool true))]⟩⟩) |>.ins 644 (tu [.ref 639]) |>.ins 645 (qk "builtin_function_or_method" [.builtin "type.__prepare__", .type "type"]) |>.ins 646 (o646 P) |>.ins 647 u0 |>.ins 648 (qf [qI 445, qI 4, .ref 656, qI 449, qI 4, .ref 663, qI 452, qI 4, .ref 670]) |>.ins 649 (qk "code" [.str "Reg" 1029, .str "Reg" 1030, .str "/claim/cut.py" 1031, qI 443, qI 0, qI 0, qI 0, qI 0, .ref 647, .bool false, qI 181, .ref 648, .none, .none, .none, .none, qI 1032, qI 443, .str "/claim/cut.py" 1033]) |>.ins 650 (⟨(.type "frame"), none, .plain, ⟨[(some (.ref 649)), (some (.ref 3)), (some (.ref 646)), none, (some z1), none, (some (.ref 0))]⟩⟩) |>.ins 651 u0 |>.ins 652 q0 |>.ins 653 (tu [.str "self" 1042, .str "register" 1043]) |>.ins 654 u0 |>.ins 655 (qg (sb (st 56) 0) "Reg.__init__") |>.ins 656 (o656 P) |>.ins 657 (o657 P) |>.ins 658 u0 |>.ins 659 q0 |>.ins 660 (tu [.str "self" 1050]) |>.ins 661 u0 |>.ins 662 (qg (sb (st 56) 1) "Reg.told") |>.ins 663 (qc "told" "Reg.told" 1047 1048 1049 449 1 0 0 3 658 true 659 660 661 662 1051 1052) |>.ins 664 (qh (sb (st 56) 1) "Reg.told" .none .none .none z1 (.ref 663)) |>.ins 665 u0 |>.ins 666 q0 |>.ins 667 (tu [.str "self" 1057]) |>.ins 668 u0 |>.ins 669 (qg (sb (st 56) 2) "Reg.registers") |>.ins 670 (qc "registers" "Reg.registers" 1054 1055 1056 452 1 0 0 3 665 true 666 667 668 669 1058 1059) |>.ins 671 (qh (sb (st 56) 2) "Reg.registers" .none .none .none z1 (.ref 670)) |>.ins 672 (tu [.str "register" 1061]) |>.ins 673 (o673 P) |>.ins 674 (o674 P) |>.ins 675 (qk "super" [.ref 674, .ref 674, .ref 674]) |>.ins 676 (qk "builtin_function_or_method" [.builtin "object.__init_subclass__", .ref 674]))
noncomputable def s13 (w : World) (os : OsState) : SharedT := ⟨t13 w.params, 677, {}, ⟨[]⟩, boot_drawn, 1066, os⟩
noncomputable def o679 (P : Params) : Obj := qd [e125 P, de P "__qualname__" 1075 (.str "Imm" 1074), de P "__firstlineno__" 1077 (.int (.ofNat 454) 1076), e126 P, e127 P, e128 P, e129 P] 7
noncomputable def o684 (P : Params) : Obj := tu [.str "" 1078]
noncomputable def o690 (P : Params) : Obj := qc "__init__" "Imm.__init__" 1079 1080 1081 456 3 0 0 3 685 true 686 687 688 689 1085 1086
noncomputable def o691 (P : Params) : Obj := qh (sb (st 57) 0) "Imm.__init__" (.ref 684) .none .none z1 (.ref 690)
noncomputable def o707 (P : Params) : Obj := qd [e125 P, de P "__firstlineno__" 1077 (.int (.ofNat 454) 1076), e126 P, e127 P, e128 P, e129 P, de P "__doc__" 1105 .none] 2
noncomputable def o708 (P : Params) : Obj := ⟨(.type "type"), none, (.cls ⟨"Imm", [.ref 639], [.ref 708, .ref 639, .type "object"], 707, "Imm", true, [], [], false, none, false⟩), ⟨[(some (.ref 677)), none, (some (.str "Imm" 1066)), (some (.str "Imm" 1074)), (some (.builtin "object.__new__")), (some (.bool true))]⟩⟩
noncomputable def t14 (P : Params) : BT := ((t13 P) |>.set 3 (fun _ => qd [e110 P, e1 P, e2 P, e3 P, e4 P, e5 P, e6 P, e7 P, e8 P, e9 P, e10 P, e15 P, e18 P, e19 P, e20 P, e21 P, e22 P, e23 P, e24 P, e28 P, e29 P, e30 P, e31 P, e32 P, e33 P, e34 P, e35 P, e36 P, de P "CF" 394 (.int (.ofNat 0) 393), de P "PF" 396 (.int (.ofNat 2) 395), de P "AF" 398 (.int (.ofNat 4) 397), de P "ZF" 400 (.int (.ofNat 6) 399), de P "SF" 402 (.int (.ofNat 7) 401), de P "DF" 404 (.int (.ofNat 10) 403), de P "OF" 406 (.int (.ofNat 11) 405), e37 P, e38 P, e51 P, e52 P, e53 P, e54 P, e55 P, e56 P, e57 P, e58 P, e59 P, e60 P, e61 P, e62 P, e63 P, e64 P, e74 P, e75 P, e76 P, e77 P, e92 P, e93 P, e111 P, e118 P, e124 P] 60) |>.set 12 (fun _ => qf [qI 1, qI 0, .ref 20, qI 5, qI 0, .ref 27, qI 16, qI 0, .ref 55, qI 18, qI 0, .ref 67, qI 20, qI 0, .ref 79, qI 22, qI 0, .ref 86, qI 24, qI 0, .ref 93, qI 29, qI 0, .ref 100, qI 32, qI 0, .ref 107, qI 34, qI 0, .ref 114, qI 36, qI 0, .ref 121, qI 43, qI 0, .ref 128, qI 45, qI 0, .ref 135, qI 50, qI 0, .ref 142, qI 57, qI 0, .ref 149, qI 66, qI 0, .ref 156, qI 69, qI 0, .ref 163, qI 74, qI 0, .ref 170, qI 89, qI 0, .ref 177, qI 140, qI 0, .ref 254, qI 144, qI 0, .ref 261, qI 150, qI 0, .ref 268, qI 152, qI 0, .ref 275, qI 155, qI 0, .ref 282, qI 168, qI 0, .ref 289, qI 190, qI 0, .ref 297, qI 196, qI 0, .ref 304, qI 209, qI 0, .ref 312, qI 228, qI 0, .ref 319, qI 250, qI 0, .ref 375, qI 260, qI 0, .ref 382, qI 268, qI 0, .ref 389, qI 276, qI 0, .ref 396, qI 323, qI 0, .ref 490, qI 327, qI 0, .ref 497, qI 430, qI 0, .ref 607, qI 443, qI 0, .ref 649, qI 454, qI 0, .ref 682]) |>.set 639 (fun _ => ⟨(.type "type"), none, (.cls ⟨"Operand", [.type "object"], [.ref 639, .type "object"], 638, "Operand", true, [], [.ref 674, .ref 708], false, none, false⟩), ⟨[none, none, (some z9), (some z7), (some (.builtin "object.__new__")), (some (.bool true))]⟩⟩) |>.ins 677 (tu [.ref 639]) |>.ins 678 (qk "builtin_function_or_method" [.builtin "type.__prepare__", .type "type"]) |>.ins 679 (o679 P) |>.ins 680 u0 |>.ins 681 (qf [qI 456, qI 4, .ref 690, qI 461, qI 4, .ref 697, qI 464, qI 4, .ref 704]) |>.ins 682 (qk "code" [.str "Imm" 1068, .str "Imm" 1069, .str "/claim/cut.py" 1070, qI 454, qI 0, qI 0, qI 0, qI 0, .ref 680, .bool false, qI 181, .ref 681, .none, .none, .none, .none, qI 1071, qI 454, .str "/claim/cut.py" 1072]) |>.ins 683 (⟨(.type "frame"), none, .plain, ⟨[(some (.ref 682)), (some (.ref 3)), (some (.ref 679)), none, (some z1), none, (some (.ref 0))]⟩⟩) |>.ins 684 (o684 P) |>.ins 685 u0 |>.ins 686 q0 |>.ins 687 (tu [.str "self" 1082, .str "worth" 1083, .str "name" 1084]) |>.ins 688 u0 |>.ins 689 (qg (sb (st 57) 0) "Imm.__init__") |>.ins 690 (o690 P) |>.ins 691 (o691 P) |>.ins 692 u0 |>.ins 693 q0 |>.ins 694 (tu [.str "self" 1091]) |>.ins 695 u0 |>.ins 696 (qg (sb (st 57) 1) "Imm.told") |>.ins 697 (qc "told" "Imm.told" 1088 1089 1090 461 1 0 0 3 692 true 693 694 695 696 1092 1093) |>.ins 698 (qh (sb (st 57) 1) "Imm.told" .none .none .none z1 (.ref 697)) |>.ins 699 u0 |>.ins 700 q0 |>.ins 701 (tu [.str "self" 1098]) |>.ins 702 u0 |>.ins 703 (qg (sb (st 57) 2) "Imm.symbol") |>.ins 704 (qc "symbol" "Imm.symbol" 1095 1096 1097 464 1 0 0 3 699 true 700 701 702 703 1099 1100) |>.ins 705 (qh (sb (st 57) 2) "Imm.symbol" .none .none .none z1 (.ref 704)) |>.ins 706 (tu [.str "name" 1102, .str "worth" 1103]) |>.ins 707 (o707 P) |>.ins 708 (o708 P) |>.ins 709 (qk "super" [.ref 708, .ref 708, .ref 708]) |>.ins 710 (qk "builtin_function_or_method" [.builtin "object.__init_subclass__", .ref 708]))
noncomputable def s14 (w : World) (os : OsState) : SharedT := ⟨t14 w.params, 711, {}, ⟨[]⟩, boot_drawn, 1108, os⟩
noncomputable def o639v3 (P : Params) : Obj := ⟨(.type "type"), none, (.cls ⟨"Operand", [.type "object"], [.ref 639, .type "object"], 638, "Operand", true, [], [.ref 674, .ref 708, .ref 761], false, none, false⟩), ⟨[none, none, (some z9), (some z7), (some (.builtin "object.__new__")), (some (.bool true))]⟩⟩
noncomputable def o713 (P : Params) : Obj := qd [e131 P, de P "__qualname__" 1117 (.str "Mem" 1116), de P "__firstlineno__" 1119 (.int (.ofNat 466) 1118), e132 P, e133 P, e134 P, e135 P, e136 P, e137 P, e138 P] 10
noncomputable def o718 (P : Params) : Obj := tu [(.int (.ofNat 0) 1120), .str "" 1121, .str "" 1122]
noncomputable def o724 (P : Params) : Obj := qc "__init__" "Mem.__init__" 1123 1124 1125 468 8 0 0 3 719 true 720 721 722 723 1134 1135
noncomputable def o725 (P : Params) : Obj := qh (sb (st 58) 0) "Mem.__init__" (.ref 718) .none .none z1 (.ref 724)
noncomputable def o760 (P : Params) : Obj := qd [e131 P, de P "__firstlineno__" 1119 (.int (.ofNat 466) 1118), e132 P, e133 P, e134 P, e135 P, e136 P, e137 P, e138 P, de P "__doc__" 1181 .none] 2
noncomputable def o761 (P : Params) : Obj := ⟨(.type "type"), none, (.cls ⟨"Mem", [.ref 639], [.ref 761, .ref 639, .type "object"], 760, "Mem", true, [], [], false, none, false⟩), ⟨[(some (.ref 711)), none, (some (.str "Mem" 1108)), (some (.str "Mem" 1116)), (some (.builtin "object.__new__")), (some (.bool true))]⟩⟩
noncomputable def t15 (P : Params) : BT := ((t14 P) |>.set 3 (fun _ => qd [e110 P, e1 P, e2 P, e3 P, e4 P, e5 P, e6 P, e7 P, e8 P, e9 P, e10 P, e15 P, e18 P, e19 P, e20 P, e21 P, e22 P, e23 P, e24 P, e28 P, e29 P, e30 P, e31 P, e32 P, e33 P, e34 P, e35 P, e36 P, de P "CF" 394 (.int (.ofNat 0) 393), de P "PF" 396 (.int (.ofNat 2) 395), de P "AF" 398 (.int (.ofNat 4) 397), de P "ZF" 400 (.int (.ofNat 6) 399), de P "SF" 402 (.int (.ofNat 7) 401), de P "DF" 404 (.int (.ofNat 10) 403), de P "OF" 406 (.int (.ofNat 11) 405), e37 P, e38 P, e51 P, e52 P, e53 P, e54 P, e55 P, e56 P, e57 P, e58 P, e59 P, e60 P, e61 P, e62 P, e63 P, e64 P, e74 P, e75 P, e76 P, e77 P, e92 P, e93 P, e111 P, e118 P, e124 P, e130 P] 61) |>.set 12 (fun _ => qf [qI 1, qI 0, .ref 20, qI 5, qI 0, .ref 27, qI 16, qI 0, .ref 55, qI 18, qI 0, .ref 67, qI 20, qI 0, .ref 79, qI 22, qI 0, .ref 86, qI 24, qI 0, .ref 93, qI 29, qI 0, .ref 100, qI 32, qI 0, .ref 107, qI 34, qI 0, .ref 114, qI 36, qI 0, .ref 121, qI 43, qI 0, .ref 128, qI 45, qI 0, .ref 135, qI 50, qI 0, .ref 142, qI 57, qI 0, .ref 149, qI 66, qI 0, .ref 156, qI 69, qI 0, .ref 163, qI 74, qI 0, .ref 170, qI 89, qI 0, .ref 177, qI 140, qI 0, .ref 254, qI 144, qI 0, .ref 261, qI 150, qI 0, .ref 268, qI 152, qI 0, .ref 275, qI 155, qI 0, .ref 282, qI 168, qI 0, .ref 289, qI 190, qI 0, .ref 297, qI 196, qI 0, .ref 304, qI 209, qI 0, .ref 312, qI 228, qI 0, .ref 319, qI 250, qI 0, .ref 375, qI 260, qI 0, .ref 382, qI 268, qI 0, .ref 389, qI 276, qI 0, .ref 396, qI 323, qI 0, .ref 490, qI 327, qI 0, .ref 497, qI 430, qI 0, .ref 607, qI 443, qI 0, .ref 649, qI 454, qI 0, .ref 682, qI 466, qI 0, .ref 716]) |>.set 639 (fun _ => o639v3 P) |>.ins 711 (tu [.ref 639]) |>.ins 712 (qk "builtin_function_or_method" [.builtin "type.__prepare__", .type "type"]) |>.ins 713 (o713 P) |>.ins 714 u0 |>.ins 715 (qf [qI 468, qI 4, .ref 724, qI 478, qI 4, .ref 731, qI 483, qI 4, .ref 738, qI 486, qI 4, .ref 743, qI 489, qI 4, .ref 750, qI 492, qI 4, .ref 757]) |>.ins 716 (qk "code" [.str "Mem" 1110, .str "Mem" 1111, .str "/claim/cut.py" 1112, qI 466, qI 0, qI 0, qI 0, qI 0, .ref 714, .bool false, qI 181, .ref 715, .none, .none, .none, .none, qI 1113, qI 466, .str "/claim/cut.py" 1114]) |>.ins 717 (⟨(.type "frame"), none, .plain, ⟨[(some (.ref 716)), (some (.ref 3)), (some (.ref 713)), none, (some z1), none, (some (.ref 0))]⟩⟩) |>.ins 718 (o718 P) |>.ins 719 u0 |>.ins 720 q0 |>.ins 721 (tu [.str "self" 1126, .str "base" 1127, .str "index" 1128, .str "scale" 1129, .str "worth" 1130, .str "size" 1131, .str "segment" 1132, .str "name" 1133]) |>.ins 722 u0 |>.ins 723 (qg (sb (st 58) 0) "Mem.__init__") |>.ins 724 (o724 P) |>.ins 725 (o725 P) |>.ins 726 u0 |>.ins 727 q0 |>.ins 728 (tu [.str "self" 1140, .str "base" 1141, .str "index" 1142]) |>.ins 729 u0 |>.ins 730 (qg (sb (st 58) 1) "Mem.told") |>.ins 731 (qc "told" "Mem.told" 1137 1138 1139 478 1 0 0 3 726 true 727 728 729 730 1143 1144) |>.ins 732 (qh (sb (st 58) 1) "Mem.told" .none .none .none z1 (.ref 731)) |>.ins 733 u0 |>.ins 734 q0 |>.ins 735 (tu [.str "self" 1149]) |>.ins 736 u0 |>.ins 737 (qg (sb (st 58) 2) "Mem.symbol") |>.ins 738 (qc "symbol" "Mem.symbol" 1146 1147 1148 483 1 0 0 3 733 true 734 735 736 737 1150 1151) |>.ins 739 (qh (sb (st 58) 2) "Mem.symbol" .none .none .none z1 (.ref 738)) |>.ins 740 u0 |>.ins 741 q0 |>.ins 742 (qg (sb (st 58) 3) "Mem.registers") |>.ins 743 (qk "code" [.str "registers" 1153, .str "Mem.registers" 1154, .str "/claim/cut.py" 1155, qI 486, qI 1, qI 0, qI 0, qI 3, .ref 740, .bool true, qI 181, .ref 741, .none, .none, .none, .ref 742, qI 1156, qI 486, .str "/claim/cut.py" 1157]) |>.ins 744 (qh (sb (st 58) 3) "Mem.registers" .none .none .none z1 (.ref 743)) |>.ins 745 u0 |>.ins 746 q0 |>.ins 747 (tu [.str "self" 1162]) |>.ins 748 u0 |>.ins 749 (qg (sb (st 58) 4) "Mem.is_rip") |>.ins 750 (qc "is_rip" "Mem.is_rip" 1159 1160 1161 489 1 0 0 3 745 true 746 747 748 749 1163 1164) |>.ins 751 (qh (sb (st 58) 4) "Mem.is_rip" .none .none .none z1 (.ref 750)) |>.ins 752 u0 |>.ins 753 q0 |>.ins 754 (tu [.str "self" 1169]) |>.ins 755 u0 |>.ins 756 (qg (sb (st 58) 5) "Mem.is_absolute") |>.ins 757 (qc "is_absolute" "Mem.is_absolute" 1166 1167 1168 492 1 0 0 3 752 true 753 754 755 756 1170 1171) |>.ins 758 (qh (sb (st 58) 5) "Mem.is_absolute" .none .none .none z1 (.ref 757)) |>.ins 759 (tu [.str "base" 1173, .str "index" 1174, .str "name" 1175, .str "scale" 1176, .str "segment" 1177, .str "size" 1178, .str "worth" 1179]) |>.ins 760 (o760 P) |>.ins 761 (o761 P) |>.ins 762 (qk "super" [.ref 761, .ref 761, .ref 761]) |>.ins 763 (qk "builtin_function_or_method" [.builtin "object.__init_subclass__", .ref 761]))
noncomputable def s15 (w : World) (os : OsState) : SharedT := ⟨t15 w.params, 764, {}, ⟨[]⟩, boot_drawn, 1184, os⟩
noncomputable def o766 (P : Params) : Obj := qd [e141 P, de P "__qualname__" 1193 (.str "Instruction" 1192), de P "__firstlineno__" 1195 (.int (.ofNat 494) 1194), e142 P, e143 P, e144 P, e145 P, e146 P, e147 P, e148 P] 10
noncomputable def o771 (P : Params) : Obj := tu [.str "" 1196]
noncomputable def o777 (P : Params) : Obj := qc "__init__" "Instruction.__init__" 1197 1198 1199 496 4 0 0 3 772 true 773 774 775 776 1204 1205
noncomputable def o778 (P : Params) : Obj := qh (sb (st 59) 0) "Instruction.__init__" (.ref 771) .none .none z1 (.ref 777)
noncomputable def o813 (P : Params) : Obj := qd [e141 P, de P "__firstlineno__" 1195 (.int (.ofNat 494) 1194), e142 P, e143 P, e144 P, e145 P, e146 P, e147 P, e148 P, de P "__dict__" 1251 (.ref 815), de P "__weakref__" 1253 (.ref 816), de P "__doc__" 1254 .none] 4
noncomputable def o814 (P : Params) : Obj := ⟨(.type "type"), none, (.cls ⟨"Instruction", [.type "object"], [.ref 814, .type "object"], 813, "Instruction", true, [], [], false, none, false⟩), ⟨[none, none, (some (.str "Instruction" 1184)), (some (.str "Instruction" 1192)), (some (.builtin "object.__new__")), (some (.bool true))]⟩⟩
noncomputable def t16 (P : Params) : BT := ((t15 P) |>.set 3 (fun _ => qd [e139 P, e1 P, e2 P, e3 P, e4 P, e5 P, e6 P, e7 P, e8 P, e9 P, e10 P, e15 P, e18 P, e19 P, e20 P, e21 P, e22 P, e23 P, e24 P, e28 P, e29 P, e30 P, e31 P, e32 P, e33 P, e34 P, e35 P, e36 P, de P "CF" 394 (.int (.ofNat 0) 393), de P "PF" 396 (.int (.ofNat 2) 395), de P "AF" 398 (.int (.ofNat 4) 397), de P "ZF" 400 (.int (.ofNat 6) 399), de P "SF" 402 (.int (.ofNat 7) 401), de P "DF" 404 (.int (.ofNat 10) 403), de P "OF" 406 (.int (.ofNat 11) 405), e37 P, e38 P, e51 P, e52 P, e53 P, e54 P, e55 P, e56 P, e57 P, e58 P, e59 P, e60 P, e61 P, e62 P, e63 P, e64 P, e74 P, e75 P, e76 P, e77 P, e92 P, e93 P, e111 P, e118 P, e124 P, e130 P, e140 P] 62) |>.set 12 (fun _ => qf [qI 1, qI 0, .ref 20, qI 5, qI 0, .ref 27, qI 16, qI 0, .ref 55, qI 18, qI 0, .ref 67, qI 20, qI 0, .ref 79, qI 22, qI 0, .ref 86, qI 24, qI 0, .ref 93, qI 29, qI 0, .ref 100, qI 32, qI 0, .ref 107, qI 34, qI 0, .ref 114, qI 36, qI 0, .ref 121, qI 43, qI 0, .ref 128, qI 45, qI 0, .ref 135, qI 50, qI 0, .ref 142, qI 57, qI 0, .ref 149, qI 66, qI 0, .ref 156, qI 69, qI 0, .ref 163, qI 74, qI 0, .ref 170, qI 89, qI 0, .ref 177, qI 140, qI 0, .ref 254, qI 144, qI 0, .ref 261, qI 150, qI 0, .ref 268, qI 152, qI 0, .ref 275, qI 155, qI 0, .ref 282, qI 168, qI 0, .ref 289, qI 190, qI 0, .ref 297, qI 196, qI 0, .ref 304, qI 209, qI 0, .ref 312, qI 228, qI 0, .ref 319, qI 250, qI 0, .ref 375, qI 260, qI 0, .ref 382, qI 268, qI 0, .ref 389, qI 276, qI 0, .ref 396, qI 323, qI 0, .ref 490, qI 327, qI 0, .ref 497, qI 430, qI 0, .ref 607, qI 443, qI 0, .ref 649, qI 454, qI 0, .ref 682, qI 466, qI 0, .ref 716, qI 494, qI 0, .ref 769]) |>.ins 764 u0 |>.ins 765 (qk "builtin_function_or_method" [.builtin "type.__prepare__", .type "type"]) |>.ins 766 (o766 P) |>.ins 767 u0 |>.ins 768 (qf [qI 496, qI 4, .ref 777, qI 501, qI 4, .ref 782, qI 504, qI 4, .ref 789, qI 510, qI 4, .ref 796, qI 514, qI 4, .ref 803, qI 517, qI 4, .ref 810]) |>.ins 769 (qk "code" [.str "Instruction" 1186, .str "Instruction" 1187, .str "/claim/cut.py" 1188, qI 494, qI 0, qI 0, qI 0, qI 0, .ref 767, .bool false, qI 181, .ref 768, .none, .none, .none, .none, qI 1189, qI 494, .str "/claim/cut.py" 1190]) |>.ins 770 (⟨(.type "frame"), none, .plain, ⟨[(some (.ref 769)), (some (.ref 3)), (some (.ref 766)), none, (some z1), none, (some (.ref 0))]⟩⟩) |>.ins 771 (o771 P) |>.ins 772 u0 |>.ins 773 q0 |>.ins 774 (tu [.str "self" 1200, .str "name" 1201, .str "operands" 1202, .str "prefix" 1203]) |>.ins 775 u0 |>.ins 776 (qg (sb (st 59) 0) "Instruction.__init__") |>.ins 777 (o777 P) |>.ins 778 (o778 P) |>.ins 779 u0 |>.ins 780 q0 |>.ins 781 (qg (sb (st 59) 1) "Instruction.told") |>.ins 782 (qk "code" [.str "told" 1207, .str "Instruction.told" 1208, .str "/claim/cut.py" 1209, qI 501, qI 1, qI 0, qI 0, qI 3, .ref 779, .bool true, qI 181, .ref 780, .none, .none, .none, .ref 781, qI 1210, qI 501, .str "/claim/cut.py" 1211]) |>.ins 783 (qh (sb (st 59) 1) "Instruction.told" .none .none .none z1 (.ref 782)) |>.ins 784 u0 |>.ins 785 q0 |>.ins 786 (tu [.str "self" 1216, .str "at" 1217, .str "operand" 1218]) |>.ins 787 u0 |>.ins 788 (qg (sb (st 59) 2) "Instruction.memory_at") |>.ins 789 (qc "memory_at" "Instruction.memory_at" 1213 1214 1215 504 1 0 0 3 784 true 785 786 787 788 1219 1220) |>.ins 790 (qh (sb (st 59) 2) "Instruction.memory_at" .none .none .none z1 (.ref 789)) |>.ins 791 u0 |>.ins 792 q0 |>.ins 793 (tu [.str "self" 1225, .str "at" 1226]) |>.ins 794 u0 |>.ins 795 (qg (sb (st 59) 3) "Instruction.memory") |>.ins 796 (qc "memory" "Instruction.memory" 1222 1223 1224 510 1 0 0 3 791 true 792 793 794 795 1227 1228) |>.ins 797 (qh (sb (st 59) 3) "Instruction.memory" .none .none .none z1 (.ref 796)) |>.ins 798 u0 |>.ins 799 q0 |>.ins 800 (tu [.str "self" 1233]) |>.ins 801 u0 |>.ins 802 (qg (sb (st 59) 4) "Instruction.symbols") |>.ins 803 (qc "symbols" "Instruction.symbols" 1230 1231 1232 514 1 0 0 3 798 true 799 800 801 802 1234 1235) |>.ins 804 (qh (sb (st 59) 4) "Instruction.symbols" .none .none .none z1 (.ref 803)) |>.ins 805 u0 |>.ins 806 q0 |>.ins 807 (tu [.str "self" 1240, .str "at" 1241, .str "operand" 1242]) |>.ins 808 u0 |>.ins 809 (qg (sb (st 59) 5) "Instruction.replaced") |>.ins 810 (qc "replaced" "Instruction.replaced" 1237 1238 1239 517 3 0 0 3 805 true 806 807 808 809 1243 1244) |>.ins 811 (qh (sb (st 59) 5) "Instruction.replaced" .none .none .none z1 (.ref 810)) |>.ins 812 (tu [.str "name" 1246, .str "operands" 1247, .str "prefix" 1248]) |>.ins 813 (o813 P) |>.ins 814 (o814 P) |>.ins 815 (qk "getset_descriptor" [.str "__dict__" 1250, .ref 814, .builtin "function.__dict__", .builtin "function.__dict__#set"]) |>.ins 816 (qk "getset_descriptor" [.str "__weakref__" 1252, .ref 814, .builtin "ExceptionGroup.__weakref__", .none]) |>.ins 817 (qk "super" [.ref 814, .ref 814, .ref 814]) |>.ins 818 (qk "builtin_function_or_method" [.builtin "object.__init_subclass__", .ref 814]))
noncomputable def s16 (w : World) (os : OsState) : SharedT := ⟨t16 w.params, 819, {}, ⟨[]⟩, boot_drawn, 1259, os⟩
noncomputable def o824 (P : Params) : Obj := qc "masked_count" "masked_count" 1277 1278 1279 529 2 0 0 3 819 true 820 821 822 823 1282 1283
noncomputable def o825 (P : Params) : Obj := qh (st 70) "masked_count" .none .none .none z2 (.ref 824)
noncomputable def o831 (P : Params) : Obj := qc "shifted" "shifted" 1285 1286 1287 531 4 0 0 3 826 true 827 828 829 830 1295 1296
noncomputable def o832 (P : Params) : Obj := qh (st 71) "shifted" .none .none .none z2 (.ref 831)
noncomputable def o838 (P : Params) : Obj := qc "turned_left" "turned_left" 1298 1299 1300 541 3 0 0 3 833 true 834 835 836 837 1304 1305
noncomputable def o839 (P : Params) : Obj := qh (st 72) "turned_left" .none .none .none z2 (.ref 838)
noncomputable def o845 (P : Params) : Obj := qc "rotated" "rotated" 1307 1308 1309 543 4 0 0 3 840 true 841 842 843 844 1317 1318
noncomputable def o846 (P : Params) : Obj := qh (st 73) "rotated" .none .none .none z2 (.ref 845)
noncomputable def o852 (P : Params) : Obj := qc "rotated_through" "rotated_through" 1320 1321 1322 552 5 0 0 3 847 true 848 849 850 851 1333 1334
noncomputable def o853 (P : Params) : Obj := qh (st 74) "rotated_through" .none .none .none z2 (.ref 852)
noncomputable def o859 (P : Params) : Obj := qc "double_shifted" "double_shifted" 1336 1337 1338 562 5 0 0 3 854 true 855 856 857 858 1346 1347
noncomputable def o860 (P : Params) : Obj := qh (st 75) "double_shifted" .none .none .none z2 (.ref 859)
noncomputable def o866 (P : Params) : Obj := qc "product" "product" 1349 1350 1351 572 4 0 0 3 861 true 862 863 864 865 1358 1359
noncomputable def o867 (P : Params) : Obj := qh (st 76) "product" .none .none .none z2 (.ref 866)
noncomputable def o873 (P : Params) : Obj := qc "quotient" "quotient" 1361 1362 1363 580 4 0 0 3 868 true 869 870 871 872 1371 1372
noncomputable def o874 (P : Params) : Obj := qh (st 77) "quotient" .none .none .none z2 (.ref 873)
noncomputable def o880 (P : Params) : Obj := qc "scanned" "scanned" 1374 1375 1376 594 3 0 0 3 875 true 876 877 878 879 1380 1381
noncomputable def o881 (P : Params) : Obj := qh (st 78) "scanned" .none .none .none z2 (.ref 880)
noncomputable def t17 (P : Params) : BT := ((t16 P) |>.set 3 (fun _ => qd [e139 P, e1 P, e2 P, e3 P, e4 P, e5 P, e6 P, e7 P, e8 P, e9 P, e10 P, e15 P, e18 P, e19 P, e20 P, e21 P, e22 P, e23 P, e24 P, e28 P, e29 P, e30 P, e31 P, e32 P, e33 P, e34 P, e35 P, e36 P, de P "CF" 394 (.int (.ofNat 0) 393), de P "PF" 396 (.int (.ofNat 2) 395), de P "AF" 398 (.int (.ofNat 4) 397), de P "ZF" 400 (.int (.ofNat 6) 399), de P "SF" 402 (.int (.ofNat 7) 401), de P "DF" 404 (.int (.ofNat 10) 403), de P "OF" 406 (.int (.ofNat 11) 405), e37 P, e38 P, e51 P, e52 P, e53 P, e54 P, e55 P, e56 P, e57 P, e58 P, e59 P, e60 P, e61 P, e62 P, e63 P, e64 P, e74 P, e75 P, e76 P, e77 P, e92 P, e93 P, e111 P, e118 P, e124 P, e130 P, e140 P, e149 P, e150 P, e151 P, e152 P, e153 P, e154 P, e155 P, e156 P, e157 P, e158 P, e159 P, e160 P, e161 P, e162 P, e163 P, e164 P, e165 P, e166 P] 80) |>.set 12 (fun _ => qf [qI 1, qI 0, .ref 20, qI 5, qI 0, .ref 27, qI 16, qI 0, .ref 55, qI 18, qI 0, .ref 67, qI 20, qI 0, .ref 79, qI 22, qI 0, .ref 86, qI 24, qI 0, .ref 93, qI 29, qI 0, .ref 100, qI 32, qI 0, .ref 107, qI 34, qI 0, .ref 114, qI 36, qI 0, .ref 121, qI 43, qI 0, .ref 128, qI 45, qI 0, .ref 135, qI 50, qI 0, .ref 142, qI 57, qI 0, .ref 149, qI 66, qI 0, .ref 156, qI 69, qI 0, .ref 163, qI 74, qI 0, .ref 170, qI 89, qI 0, .ref 177, qI 140, qI 0, .ref 254, qI 144, qI 0, .ref 261, qI 150, qI 0, .ref 268, qI 152, qI 0, .ref 275, qI 155, qI 0, .ref 282, qI 168, qI 0, .ref 289, qI 190, qI 0, .ref 297, qI 196, qI 0, .ref 304, qI 209, qI 0, .ref 312, qI 228, qI 0, .ref 319, qI 250, qI 0, .ref 375, qI 260, qI 0, .ref 382, qI 268, qI 0, .ref 389, qI 276, qI 0, .ref 396, qI 323, qI 0, .ref 490, qI 327, qI 0, .ref 497, qI 430, qI 0, .ref 607, qI 443, qI 0, .ref 649, qI 454, qI 0, .ref 682, qI 466, qI 0, .ref 716, qI 494, qI 0, .ref 769, qI 529, qI 0, .ref 824, qI 531, qI 0, .ref 831, qI 541, qI 0, .ref 838, qI 543, qI 0, .ref 845, qI 552, qI 0, .ref 852, qI 562, qI 0, .ref 859, qI 572, qI 0, .ref 866, qI 580, qI 0, .ref 873, qI 594, qI 0, .ref 880]) |>.ins 819 u0 |>.ins 820 q0 |>.ins 821 (tu [.str "count" 1280, .str "size" 1281]) |>.ins 822 u0 |>.ins 823 (qg (st 70) "masked_count") |>.ins 824 (o824 P) |>.ins 825 (o825 P) |>.ins 826 u0 |>.ins 827 q0 |>.ins 828 (tu [.str "name" 1288, .str "worth" 1289, .str "count" 1290, .str "size" 1291, .str "result" 1292, .str "carry" 1293, .str "whole" 1294]) |>.ins 829 u0 |>.ins 830 (qg (st 71) "shifted") |>.ins 831 (o831 P) |>.ins 832 (o832 P) |>.ins 833 u0 |>.ins 834 q0 |>.ins 835 (tu [.str "worth" 1301, .str "turn" 1302, .str "size" 1303]) |>.ins 836 u0 |>.ins 837 (qg (st 72) "turned_left") |>.ins 838 (o838 P) |>.ins 839 (o839 P) |>.ins 840 u0 |>.ins 841 q0 |>.ins 842 (tu [.str "name" 1310, .str "worth" 1311, .str "count" 1312, .str "size" 1313, .str "turn" 1314, .str "result" 1315, .str "carry" 1316]) |>.ins 843 u0 |>.ins 844 (qg (st 73) "rotated") |>.ins 845 (o845 P) |>.ins 846 (o846 P) |>.ins 847 u0 |>.ins 848 q0 |>.ins 849 (tu [.str "name" 1323, .str "worth" 1324, .str "carry" 1325, .str "count" 1326, .str "size" 1327, .str "wide" 1328, .str "turn" 1329, .str "whole" 1330, .str "result" 1331, .str "out" 1332]) |>.ins 850 u0 |>.ins 851 (qg (st 74) "rotated_through") |>.ins 852 (o852 P) |>.ins 853 (o853 P) |>.ins 854 u0 |>.ins 855 q0 |>.ins 856 (tu [.str "name" 1339, .str "worth" 1340, .str "other" 1341, .str "count" 1342, .str "size" 1343, .str "result" 1344, .str "carry" 1345]) |>.ins 857 u0 |>.ins 858 (qg (st 75) "double_shifted") |>.ins 859 (o859 P) |>.ins 860 (o860 P) |>.ins 861 u0 |>.ins 862 q0 |>.ins 863 (tu [.str "one" 1352, .str "other" 1353, .str "size" 1354, .str "is_signed" 1355, .str "whole" 1356, .str "is_wide" 1357]) |>.ins 864 u0 |>.ins 865 (qg (st 76) "product") |>.ins 866 (o866 P) |>.ins 867 (o867 P) |>.ins 868 u0 |>.ins 869 q0 |>.ins 870 (tu [.str "number" 1364, .str "divisor" 1365, .str "size" 1366, .str "is_signed" 1367, .str "whole" 1368, .str "part" 1369, .str "found" 1370]) |>.ins 871 u0 |>.ins 872 (qg (st 77) "quotient") |>.ins 873 (o873 P) |>.ins 874 (o874 P) |>.ins 875 u0 |>.ins 876 q0 |>.ins 877 (tu [.str "name" 1377, .str "worth" 1378, .str "size" 1379]) |>.ins 878 u0 |>.ins 879 (qg (st 78) "scanned") |>.ins 880 (o880 P) |>.ins 881 (o881 P))
noncomputable def s17 (w : World) (os : OsState) : SharedT := ⟨t17 w.params, 882, {}, ⟨[]⟩, boot_drawn, 1383, os⟩
noncomputable def o887 (P : Params) : Obj := qc "with_bit" "with_bit" 1383 1384 1385 604 3 0 0 3 882 true 883 884 885 886 1390 1391
noncomputable def o888 (P : Params) : Obj := qh (st 79) "with_bit" .none .none .none z2 (.ref 887)
noncomputable def o894 (P : Params) : Obj := qc "clear_flags" "clear_flags" 1393 1394 1395 611 1 0 0 3 889 true 890 891 892 893 1397 1398
noncomputable def o895 (P : Params) : Obj := qh (st 80) "clear_flags" .none .none .none z2 (.ref 894)
noncomputable def o901 (P : Params) : Obj := qc "count_told" "count_told" 1400 1401 1402 614 3 0 0 3 896 true 897 898 899 900 1407 1408
noncomputable def o902 (P : Params) : Obj := qh (st 81) "count_told" .none .none .none z2 (.ref 901)
noncomputable def o908 (P : Params) : Obj := qc "shift_deed" "shift_deed" 1410 1411 1412 617 2 0 0 3 903 true 904 905 906 907 1423 1424
noncomputable def o909 (P : Params) : Obj := qh (st 82) "shift_deed" .none .none .none z2 (.ref 908)
noncomputable def o915 (P : Params) : Obj := qc "double_deed" "double_deed" 1426 1427 1428 637 2 0 0 3 910 true 911 912 913 914 1441 1442
noncomputable def o916 (P : Params) : Obj := qh (st 83) "double_deed" .none .none .none z2 (.ref 915)
noncomputable def o922 (P : Params) : Obj := qc "lay_wide" "lay_wide" 1444 1445 1446 654 2 0 0 3 917 true 918 919 920 921 1449 1450
noncomputable def o923 (P : Params) : Obj := qh (st 84) "lay_wide" .none .none .none z2 (.ref 922)
noncomputable def o929 (P : Params) : Obj := qc "put_halves" "put_halves" 1452 1453 1454 658 4 0 0 3 924 true 925 926 927 928 1459 1460
noncomputable def o930 (P : Params) : Obj := qh (st 85) "put_halves" .none .none .none z2 (.ref 929)
noncomputable def o936 (P : Params) : Obj := qc "halves" "halves" 1462 1463 1464 664 2 0 0 3 931 true 932 933 934 935 1467 1468
noncomputable def o937 (P : Params) : Obj := qh (st 86) "halves" .none .none .none z2 (.ref 936)
noncomputable def o943 (P : Params) : Obj := qc "product_deed" "product_deed" 1470 1471 1472 668 2 0 0 3 938 true 939 940 941 942 1482 1483
noncomputable def o944 (P : Params) : Obj := qh (st 87) "product_deed" .none .none .none z2 (.ref 943)
noncomputable def o950 (P : Params) : Obj := qc "quotient_deed" "quotient_deed" 1485 1486 1487 682 2 0 0 3 945 true 946 947 948 949 1494 1495
noncomputable def o951 (P : Params) : Obj := qh (st 88) "quotient_deed" .none .none .none z2 (.ref 950)
noncomputable def o957 (P : Params) : Obj := qc "bit_deed" "bit_deed" 1497 1498 1499 688 2 0 0 3 952 true 953 954 955 956 1510 1511
noncomputable def o958 (P : Params) : Obj := qh (st 89) "bit_deed" .none .none .none z2 (.ref 957)
noncomputable def t18 (P : Params) : BT := ((t17 P) |>.set 3 (fun _ => qd [e139 P, e1 P, e2 P, e3 P, e4 P, e5 P, e6 P, e7 P, e8 P, e9 P, e10 P, e15 P, e18 P, e19 P, e20 P, e21 P, e22 P, e23 P, e24 P, e28 P, e29 P, e30 P, e31 P, e32 P, e33 P, e34 P, e35 P, e36 P, de P "CF" 394 (.int (.ofNat 0) 393), de P "PF" 396 (.int (.ofNat 2) 395), de P "AF" 398 (.int (.ofNat 4) 397), de P "ZF" 400 (.int (.ofNat 6) 399), de P "SF" 402 (.int (.ofNat 7) 401), de P "DF" 404 (.int (.ofNat 10) 403), de P "OF" 406 (.int (.ofNat 11) 405), e37 P, e38 P, e51 P, e52 P, e53 P, e54 P, e55 P, e56 P, e57 P, e58 P, e59 P, e60 P, e61 P, e62 P, e63 P, e64 P, e74 P, e75 P, e76 P, e77 P, e92 P, e93 P, e111 P, e118 P, e124 P, e130 P, e140 P, e149 P, e150 P, e151 P, e152 P, e153 P, e154 P, e155 P, e156 P, e157 P, e158 P, e159 P, e160 P, e161 P, e162 P, e163 P, e164 P, e165 P, e166 P, e167 P, e168 P, e169 P, e170 P, e171 P, e172 P, e173 P, e174 P, e175 P, e176 P, e177 P] 91) |>.set 12 (fun _ => qf [qI 1, qI 0, .ref 20, qI 5, qI 0, .ref 27, qI 16, qI 0, .ref 55, qI 18, qI 0, .ref 67, qI 20, qI 0, .ref 79, qI 22, qI 0, .ref 86, qI 24, qI 0, .ref 93, qI 29, qI 0, .ref 100, qI 32, qI 0, .ref 107, qI 34, qI 0, .ref 114, qI 36, qI 0, .ref 121, qI 43, qI 0, .ref 128, qI 45, qI 0, .ref 135, qI 50, qI 0, .ref 142, qI 57, qI 0, .ref 149, qI 66, qI 0, .ref 156, qI 69, qI 0, .ref 163, qI 74, qI 0, .ref 170, qI 89, qI 0, .ref 177, qI 140, qI 0, .ref 254, qI 144, qI 0, .ref 261, qI 150, qI 0, .ref 268, qI 152, qI 0, .ref 275, qI 155, qI 0, .ref 282, qI 168, qI 0, .ref 289, qI 190, qI 0, .ref 297, qI 196, qI 0, .ref 304, qI 209, qI 0, .ref 312, qI 228, qI 0, .ref 319, qI 250, qI 0, .ref 375, qI 260, qI 0, .ref 382, qI 268, qI 0, .ref 389, qI 276, qI 0, .ref 396, qI 323, qI 0, .ref 490, qI 327, qI 0, .ref 497, qI 430, qI 0, .ref 607, qI 443, qI 0, .ref 649, qI 454, qI 0, .ref 682, qI 466, qI 0, .ref 716, qI 494, qI 0, .ref 769, qI 529, qI 0, .ref 824, qI 531, qI 0, .ref 831, qI 541, qI 0, .ref 838, qI 543, qI 0, .ref 845, qI 552, qI 0, .ref 852, qI 562, qI 0, .ref 859, qI 572, qI 0, .ref 866, qI 580, qI 0, .ref 873, qI 594, qI 0, .ref 880, qI 604, qI 0, .ref 887, qI 611, qI 0, .ref 894, qI 614, qI 0, .ref 901, qI 617, qI 0, .ref 908, qI 637, qI 0, .ref 915, qI 654, qI 0, .ref 922, qI 658, qI 0, .ref 929, qI 664, qI 0, .ref 936, qI 668, qI 0, .ref 943, qI 682, qI 0, .ref 950, qI 688, qI 0, .ref 957]) |>.ins 882 u0 |>.ins 883 q0 |>.ins 884 (tu [.str "name" 1386, .str "worth" 1387, .str "spot" 1388, .str "one" 1389]) |>.ins 885 u0 |>.ins 886 (qg (st 79) "with_bit") |>.ins 887 (o887 P) |>.ins 888 (o888 P) |>.ins 889 u0 |>.ins 890 q0 |>.ins 891 (tu [.str "flags" 1396]) |>.ins 892 u0 |>.ins 893 (qg (st 80) "clear_flags") |>.ins 894 (o894 P) |>.ins 895 (o895 P) |>.ins 896 u0 |>.ins 897 q0 |>.ins 898 (tu [.str "state" 1403, .str "operand" 1404, .str "size" 1405, .str "worth" 1406]) |>.ins 899 u0 |>.ins 900 (qg (st 81) "count_told") |>.ins 901 (o901 P) |>.ins 902 (o902 P) |>.ins 903 u0 |>.ins 904 q0 |>.ins 905 (tu [.str "state" 1413, .str "instruction" 1414, .str "name" 1415, .str "target" 1416, .str "size" 1417, .str "count" 1418, .str "worth" 1419, .str "result" 1420, .str "carry" 1421, .str "over" 1422]) |>.ins 906 u0 |>.ins 907 (qg (st 82) "shift_deed") |>.ins 908 (o908 P) |>.ins 909 (o909 P) |>.ins 910 u0 |>.ins 911 q0 |>.ins 912 (tu [.str "state" 1429, .str "instruction" 1430, .str "target" 1431, .str "source" 1432, .str "by" 1433, .str "size" 1434, .str "count" 1435, .str "worth" 1436, .str "found" 1437, .str "result" 1438, .str "carry" 1439, .str "over" 1440]) |>.ins 913 u0 |>.ins 914 (qg (st 83) "double_deed") |>.ins 915 (o915 P) |>.ins 916 (o916 P) |>.ins 917 u0 |>.ins 918 q0 |>.ins 919 (tu [.str "flags" 1447, .str "is_wide" 1448]) |>.ins 920 u0 |>.ins 921 (qg (st 84) "lay_wide") |>.ins 922 (o922 P) |>.ins 923 (o923 P) |>.ins 924 u0 |>.ins 925 q0 |>.ins 926 (tu [.str "state" 1455, .str "low" 1456, .str "high" 1457, .str "size" 1458]) |>.ins 927 u0 |>.ins 928 (qg (st 85) "put_halves") |>.ins 929 (o929 P) |>.ins 930 (o930 P) |>.ins 931 u0 |>.ins 932 q0 |>.ins 933 (tu [.str "state" 1465, .str "size" 1466]) |>.ins 934 u0 |>.ins 935 (qg (st 86) "halves") |>.ins 936 (o936 P) |>.ins 937 (o937 P) |>.ins 938 u0 |>.ins 939 q0 |>.ins 940 (tu [.str "state" 1473, .str "instruction" 1474, .str "operands" 1475, .str "size" 1476, .str "one" 1477, .str "low" 1478, .str "high" 1479, .str "is_wide" 1480, .str "other" 1481]) |>.ins 941 u0 |>.ins 942 (qg (st 87) "product_deed") |>.ins 943 (o943 P) |>.ins 944 (o944 P) |>.ins 945 u0 |>.ins 946 q0 |>.ins 947 (tu [.str "state" 1488, .str "instruction" 1489, .str "operand" 1490, .str "size" 1491, .str "low" 1492, .str "high" 1493]) |>.ins 948 u0 |>.ins 949 (qg (st 88) "quotient_deed") |>.ins 950 (o950 P) |>.ins 951 (o951 P) |>.ins 952 u0 |>.ins 953 q0 |>.ins 954 (tu [.str "state" 1500, .str "instruction" 1501, .str "base" 1502, .str "by" 1503, .str "size" 1504, .str "offset" 1505, .str "spot" 1506, .str "place" 1507, .str "worth" 1508, .str "zero" 1509]) |>.ins 955 u0 |>.ins 956 (qg (st 89) "bit_deed") |>.ins 957 (o957 P) |>.ins 958 (o958 P))
noncomputable def s18 (w : World) (os : OsState) : SharedT := ⟨t18 w.params, 959, {}, ⟨[]⟩, boot_drawn, 1513, os⟩
noncomputable def o964 (P : Params) : Obj := qc "scan_deed" "scan_deed" 1513 1514 1515 710 2 0 0 3 959 true 960 961 962 963 1523 1524
noncomputable def o965 (P : Params) : Obj := qh (st 90) "scan_deed" .none .none .none z2 (.ref 964)
noncomputable def o971 (P : Params) : Obj := qc "swap_deed" "swap_deed" 1526 1527 1528 723 2 0 0 3 966 true 967 968 969 970 1533 1534
noncomputable def o972 (P : Params) : Obj := qh (st 91) "swap_deed" .none .none .none z2 (.ref 971)
noncomputable def o978 (P : Params) : Obj := qc "widening_deed" "widening_deed" 1536 1537 1538 729 2 0 0 3 973 true 974 975 976 977 1546 1547
noncomputable def o979 (P : Params) : Obj := qh (st 92) "widening_deed" .none .none .none z2 (.ref 978)
noncomputable def o985 (P : Params) : Obj := qc "conversion_deed" "conversion_deed" 1549 1550 1551 736 2 0 0 3 980 true 981 982 983 984 1557 1558
noncomputable def o986 (P : Params) : Obj := qh (st 93) "conversion_deed" .none .none .none z2 (.ref 985)
noncomputable def o992 (P : Params) : Obj := qc "rotate_deed" "rotate_deed" 1560 1561 1562 745 2 0 0 3 987 true 988 989 990 991 1566 1567
noncomputable def o993 (P : Params) : Obj := qh (st 94) "rotate_deed" .none .none .none z2 (.ref 992)
noncomputable def o997 (P : Params) : Obj := qk "code" [.str "_law_cells" 1571, .str "_law_cells" 1572, .str "/claim/cut.py" 1573, qI 769, qI 1, qI 0, qI 0, qI 3, .ref 994, .bool true, qI 181, .ref 995, .none, .none, .none, .ref 996, qI 1574, qI 769, .str "/claim/cut.py" 1575]
noncomputable def o998 (P : Params) : Obj := qh (st 96) "_law_cells" .none .none .none z4 (.ref 997)
noncomputable def o1004 (P : Params) : Obj := qc "_law_below" "_law_below" 1577 1578 1579 771 2 0 0 3 999 true 1000 1001 1002 1003 1584 1585
noncomputable def o1005 (P : Params) : Obj := qh (st 97) "_law_below" .none .none .none z4 (.ref 1004)
noncomputable def o1011 (P : Params) : Obj := qc "_law_one_of" "_law_one_of" 1587 1588 1589 779 2 0 0 3 1006 true 1007 1008 1009 1010 1592 1593
noncomputable def o1012 (P : Params) : Obj := qh (st 98) "_law_one_of" .none .none .none z4 (.ref 1011)
noncomputable def o1018 (P : Params) : Obj := qc "_law_rounds" "_law_rounds" 1595 1596 1597 781 1 0 0 3 1013 true 1014 1015 1016 1017 1599 1600
noncomputable def o1019 (P : Params) : Obj := qh (st 99) "_law_rounds" .none .none .none z4 (.ref 1018)
noncomputable def o1025 (P : Params) : Obj := qc "_law_set_by" "_law_set_by" 1602 1603 1604 783 1 0 0 3 1020 true 1021 1022 1023 1024 1606 1607
noncomputable def o1026 (P : Params) : Obj := qh (st 100) "_law_set_by" .none .none .none z4 (.ref 1025)
noncomputable def o1032 (P : Params) : Obj := qc "_law_open" "_law_open" 1609 1610 1611 791 3 0 0 3 1027 true 1028 1029 1030 1031 1616 1617
noncomputable def o1033 (P : Params) : Obj := qh (st 101) "_law_open" .none .none .none z4 (.ref 1032)
noncomputable def o1039 (P : Params) : Obj := qc "_law_goal" "_law_goal" 1619 1620 1621 808 2 0 0 3 1034 true 1035 1036 1037 1038 1624 1625
noncomputable def o1040 (P : Params) : Obj := qh (st 102) "_law_goal" .none .none .none z4 (.ref 1039)
noncomputable def t19 (P : Params) : BT := ((t18 P) |>.set 3 (fun _ => qd [e178 P, e1 P, e2 P, e3 P, e4 P, e5 P, e6 P, e7 P, e8 P, e9 P, e10 P, e15 P, e18 P, e19 P, e20 P, e21 P, e22 P, e23 P, e24 P, e28 P, e29 P, e30 P, e31 P, e32 P, e33 P, e34 P, e35 P, e36 P, de P "CF" 394 (.int (.ofNat 0) 393), de P "PF" 396 (.int (.ofNat 2) 395), de P "AF" 398 (.int (.ofNat 4) 397), de P "ZF" 400 (.int (.ofNat 6) 399), de P "SF" 402 (.int (.ofNat 7) 401), de P "DF" 404 (.int (.ofNat 10) 403), de P "OF" 406 (.int (.ofNat 11) 405), e37 P, e38 P, e51 P, e52 P, e53 P, e54 P, e55 P, e56 P, e57 P, e58 P, e59 P, e60 P, e61 P, e62 P, e63 P, e64 P, e74 P, e75 P, e76 P, e77 P, e92 P, e93 P, e111 P, e118 P, e124 P, e130 P, e140 P, e149 P, e150 P, e151 P, e152 P, e153 P, e154 P, e155 P, e156 P, e157 P, e158 P, e159 P, e160 P, e161 P, e162 P, e163 P, e164 P, e165 P, e166 P, e167 P, e168 P, e169 P, e170 P, e171 P, e172 P, e173 P, e174 P, e175 P, e176 P, e177 P, e179 P, e180 P, e181 P, e182 P, e183 P, e184 P, e185 P, e186 P, e187 P, e188 P, e189 P, e190 P] 103) |>.set 12 (fun _ => qf [qI 1, qI 0, .ref 20, qI 5, qI 0, .ref 27, qI 16, qI 0, .ref 55, qI 18, qI 0, .ref 67, qI 20, qI 0, .ref 79, qI 22, qI 0, .ref 86, qI 24, qI 0, .ref 93, qI 29, qI 0, .ref 100, qI 32, qI 0, .ref 107, qI 34, qI 0, .ref 114, qI 36, qI 0, .ref 121, qI 43, qI 0, .ref 128, qI 45, qI 0, .ref 135, qI 50, qI 0, .ref 142, qI 57, qI 0, .ref 149, qI 66, qI 0, .ref 156, qI 69, qI 0, .ref 163, qI 74, qI 0, .ref 170, qI 89, qI 0, .ref 177, qI 140, qI 0, .ref 254, qI 144, qI 0, .ref 261, qI 150, qI 0, .ref 268, qI 152, qI 0, .ref 275, qI 155, qI 0, .ref 282, qI 168, qI 0, .ref 289, qI 190, qI 0, .ref 297, qI 196, qI 0, .ref 304, qI 209, qI 0, .ref 312, qI 228, qI 0, .ref 319, qI 250, qI 0, .ref 375, qI 260, qI 0, .ref 382, qI 268, qI 0, .ref 389, qI 276, qI 0, .ref 396, qI 323, qI 0, .ref 490, qI 327, qI 0, .ref 497, qI 430, qI 0, .ref 607, qI 443, qI 0, .ref 649, qI 454, qI 0, .ref 682, qI 466, qI 0, .ref 716, qI 494, qI 0, .ref 769, qI 529, qI 0, .ref 824, qI 531, qI 0, .ref 831, qI 541, qI 0, .ref 838, qI 543, qI 0, .ref 845, qI 552, qI 0, .ref 852, qI 562, qI 0, .ref 859, qI 572, qI 0, .ref 866, qI 580, qI 0, .ref 873, qI 594, qI 0, .ref 880, qI 604, qI 0, .ref 887, qI 611, qI 0, .ref 894, qI 614, qI 0, .ref 901, qI 617, qI 0, .ref 908, qI 637, qI 0, .ref 915, qI 654, qI 0, .ref 922, qI 658, qI 0, .ref 929, qI 664, qI 0, .ref 936, qI 668, qI 0, .ref 943, qI 682, qI 0, .ref 950, qI 688, qI 0, .ref 957, qI 710, qI 0, .ref 964, qI 723, qI 0, .ref 971, qI 729, qI 0, .ref 978, qI 736, qI 0, .ref 985, qI 745, qI 0, .ref 992, qI 769, qI 0, .ref 997, qI 771, qI 0, .ref 1004, qI 779, qI 0, .ref 1011, qI 781, qI 0, .ref 1018, qI 783, qI 0, .ref 1025, qI 791, qI 0, .ref 1032, qI 808, qI 0, .ref 1039]) |>.ins 959 u0 |>.ins 960 q0 |>.ins 961 (tu [.str "state" 1516, .str "instruction" 1517, .str "name" 1518, .str "target" 1519, .str "size" 1520, .str "worth" 1521, .str "found" 1522]) |>.ins 962 u0 |>.ins 963 (qg (st 90) "scan_deed") |>.ins 964 (o964 P) |>.ins 965 (o965 P) |>.ins 966 u0 |>.ins 967 q0 |>.ins 968 (tu [.str "state" 1529, .str "instruction" 1530, .str "operand" 1531, .str "size" 1532]) |>.ins 969 u0 |>.ins 970 (qg (st 91) "swap_deed") |>.ins 971 (o971 P) |>.ins 972 (o972 P) |>.ins 973 u0 |>.ins 974 q0 |>.ins 975 (tu [.str "state" 1539, .str "instruction" 1540, .str "target" 1541, .str "source" 1542, .str "size" 1543, .str "small" 1544, .str "worth" 1545]) |>.ins 976 u0 |>.ins 977 (qg (st 92) "widening_deed") |>.ins 978 (o978 P) |>.ins 979 (o979 P) |>.ins 980 u0 |>.ins 981 q0 |>.ins 982 (tu [.str "state" 1552, .str "name" 1553, .str "size" 1554, .str "small" 1555, .str "worth" 1556]) |>.ins 983 u0 |>.ins 984 (qg (st 93) "conversion_deed") |>.ins 985 (o985 P) |>.ins 986 (o986 P) |>.ins 987 u0 |>.ins 988 q0 |>.ins 989 (tu [.str "state" 1563, .str "instruction" 1564, .str "name" 1565]) |>.ins 990 u0 |>.ins 991 (qg (st 94) "rotate_deed") |>.ins 992 (o992 P) |>.ins 993 (o993 P) |>.ins 994 u0 |>.ins 995 q0 |>.ins 996 (qg (st 96) "_law_cells") |>.ins 997 (o997 P) |>.ins 998 (o998 P) |>.ins 999 u0 |>.ins 1000 q0 |>.ins 1001 (tu [.str "pen" 1580, .str "many" 1581, .str "cell" 1582, .str "found" 1583]) |>.ins 1002 u0 |>.ins 1003 (qg (st 97) "_law_below") |>.ins 1004 (o1004 P) |>.ins 1005 (o1005 P) |>.ins 1006 u0 |>.ins 1007 q0 |>.ins 1008 (tu [.str "pen" 1590, .str "things" 1591]) |>.ins 1009 u0 |>.ins 1010 (qg (st 98) "_law_one_of") |>.ins 1011 (o1011 P) |>.ins 1012 (o1012 P) |>.ins 1013 u0 |>.ins 1014 q0 |>.ins 1015 (tu [.str "name" 1598]) |>.ins 1016 u0 |>.ins 1017 (qg (st 99) "_law_rounds") |>.ins 1018 (o1018 P) |>.ins 1019 (o1019 P) |>.ins 1020 u0 |>.ins 1021 q0 |>.ins 1022 (tu [.str "name" 1605]) |>.ins 1023 u0 |>.ins 1024 (qg (st 100) "_law_set_by") |>.ins 1025 (o1025 P) |>.ins 1026 (o1026 P) |>.ins 1027 u0 |>.ins 1028 q0 |>.ins 1029 (tu [.str "name" 1612, .str "count" 1613, .str "size" 1614, .str "flags" 1615]) |>.ins 1030 u0 |>.ins 1031 (qg (st 101) "_law_open") |>.ins 1032 (o1032 P) |>.ins 1033 (o1033 P) |>.ins 1034 u0 |>.ins 1035 q0 |>.ins 1036 (tu [.str "pen" 1622, .str "size" 1623]) |>.ins 1037 u0 |>.ins 1038 (qg (st 102) "_law_goal") |>.ins 1039 (o1039 P) |>.ins 1040 (o1040 P))
noncomputable def s19 (w : World) (os : OsState) : SharedT := ⟨t19 w.params, 1041, {}, ⟨[]⟩, boot_drawn, 1627, os⟩
noncomputable def o1046 (P : Params) : Obj := qc "_law_by" "_law_by" 1627 1628 1629 812 1 0 0 3 1041 true 1042 1043 1044 1045 1633 1634
noncomputable def o1047 (P : Params) : Obj := qh (st 103) "_law_by" .none .none .none z4 (.ref 1046)
noncomputable def o1053 (P : Params) : Obj := qc "_law_counted" "_law_counted" 1636 1637 1638 820 1 0 0 3 1048 true 1049 1050 1051 1052 1645 1646
noncomputable def o1054 (P : Params) : Obj := qh (st 104) "_law_counted" .none .none .none z4 (.ref 1053)
noncomputable def o1060 (P : Params) : Obj := qc "_law_double" "_law_double" 1648 1649 1650 825 1 0 0 3 1055 true 1056 1057 1058 1059 1658 1659
noncomputable def o1061 (P : Params) : Obj := qh (st 105) "_law_double" .none .none .none z4 (.ref 1060)
noncomputable def o1067 (P : Params) : Obj := qc "_law_uncounted" "_law_uncounted" 1661 1662 1663 830 2 0 0 3 1062 true 1063 1064 1065 1066 1671 1672
noncomputable def o1068 (P : Params) : Obj := qh (st 106) "_law_uncounted" .none .none .none z4 (.ref 1067)
noncomputable def o1074 (P : Params) : Obj := qc "_law_line" "_law_line" 1674 1675 1676 850 1 0 0 3 1069 true 1070 1071 1072 1073 1679 1680
noncomputable def o1075 (P : Params) : Obj := qh (st 107) "_law_line" .none .none .none z4 (.ref 1074)
noncomputable def o1081 (P : Params) : Obj := qc "_law_register" "_law_register" 1682 1683 1684 855 2 0 0 3 1076 true 1077 1078 1079 1080 1688 1689
noncomputable def o1082 (P : Params) : Obj := qh (st 108) "_law_register" .none .none .none z4 (.ref 1081)
noncomputable def o1088 (P : Params) : Obj := qc "_law_begin" "_law_begin" 1691 1692 1693 862 3 0 0 3 1083 true 1084 1085 1086 1087 1702 1703
noncomputable def o1089 (P : Params) : Obj := qh (st 109) "_law_begin" .none .none .none z4 (.ref 1088)
noncomputable def o1095 (P : Params) : Obj := qc "_law_answer" "_law_answer" 1705 1706 1707 874 2 0 0 3 1090 true 1091 1092 1093 1094 1711 1712
noncomputable def o1096 (P : Params) : Obj := qh (st 110) "_law_answer" .none .none .none z4 (.ref 1095)
noncomputable def o1102 (P : Params) : Obj := qc "_law_told_right" "_law_told_right" 1714 1715 1716 880 4 0 0 3 1097 true 1098 1099 1100 1101 1722 1723
noncomputable def o1103 (P : Params) : Obj := qh (st 111) "_law_told_right" .none .none .none z4 (.ref 1102)
noncomputable def o1109 (P : Params) : Obj := qc "_law_flags_right" "_law_flags_right" 1725 1726 1727 887 5 0 0 3 1104 true 1105 1106 1107 1108 1738 1739
noncomputable def o1110 (P : Params) : Obj := qh (st 112) "_law_flags_right" .none .none .none z4 (.ref 1109)
noncomputable def o1116 (P : Params) : Obj := qc "_law_line_right" "_law_line_right" 1741 1742 1743 899 1 0 0 3 1111 true 1112 1113 1114 1115 1759 1760
noncomputable def o1117 (P : Params) : Obj := qh (st 113) "_law_line_right" .none .none .none z4 (.ref 1116)
noncomputable def t20 (P : Params) : BT := ((t19 P) |>.set 3 (fun _ => qd [e178 P, e1 P, e2 P, e3 P, e4 P, e5 P, e6 P, e7 P, e8 P, e9 P, e10 P, e15 P, e18 P, e19 P, e20 P, e21 P, e22 P, e23 P, e24 P, e28 P, e29 P, e30 P, e31 P, e32 P, e33 P, e34 P, e35 P, e36 P, de P "CF" 394 (.int (.ofNat 0) 393), de P "PF" 396 (.int (.ofNat 2) 395), de P "AF" 398 (.int (.ofNat 4) 397), de P "ZF" 400 (.int (.ofNat 6) 399), de P "SF" 402 (.int (.ofNat 7) 401), de P "DF" 404 (.int (.ofNat 10) 403), de P "OF" 406 (.int (.ofNat 11) 405), e37 P, e38 P, e51 P, e52 P, e53 P, e54 P, e55 P, e56 P, e57 P, e58 P, e59 P, e60 P, e61 P, e62 P, e63 P, e64 P, e74 P, e75 P, e76 P, e77 P, e92 P, e93 P, e111 P, e118 P, e124 P, e130 P, e140 P, e149 P, e150 P, e151 P, e152 P, e153 P, e154 P, e155 P, e156 P, e157 P, e158 P, e159 P, e160 P, e161 P, e162 P, e163 P, e164 P, e165 P, e166 P, e167 P, e168 P, e169 P, e170 P, e171 P, e172 P, e173 P, e174 P, e175 P, e176 P, e177 P, e179 P, e180 P, e181 P, e182 P, e183 P, e184 P, e185 P, e186 P, e187 P, e188 P, e189 P, e190 P, e191 P, e192 P, e193 P, e194 P, e195 P, e196 P, e197 P, e198 P, e199 P, e200 P, e201 P] 114) |>.set 12 (fun _ => qf [qI 1, qI 0, .ref 20, qI 5, qI 0, .ref 27, qI 16, qI 0, .ref 55, qI 18, qI 0, .ref 67, qI 20, qI 0, .ref 79, qI 22, qI 0, .ref 86, qI 24, qI 0, .ref 93, qI 29, qI 0, .ref 100, qI 32, qI 0, .ref 107, qI 34, qI 0, .ref 114, qI 36, qI 0, .ref 121, qI 43, qI 0, .ref 128, qI 45, qI 0, .ref 135, qI 50, qI 0, .ref 142, qI 57, qI 0, .ref 149, qI 66, qI 0, .ref 156, qI 69, qI 0, .ref 163, qI 74, qI 0, .ref 170, qI 89, qI 0, .ref 177, qI 140, qI 0, .ref 254, qI 144, qI 0, .ref 261, qI 150, qI 0, .ref 268, qI 152, qI 0, .ref 275, qI 155, qI 0, .ref 282, qI 168, qI 0, .ref 289, qI 190, qI 0, .ref 297, qI 196, qI 0, .ref 304, qI 209, qI 0, .ref 312, qI 228, qI 0, .ref 319, qI 250, qI 0, .ref 375, qI 260, qI 0, .ref 382, qI 268, qI 0, .ref 389, qI 276, qI 0, .ref 396, qI 323, qI 0, .ref 490, qI 327, qI 0, .ref 497, qI 430, qI 0, .ref 607, qI 443, qI 0, .ref 649, qI 454, qI 0, .ref 682, qI 466, qI 0, .ref 716, qI 494, qI 0, .ref 769, qI 529, qI 0, .ref 824, qI 531, qI 0, .ref 831, qI 541, qI 0, .ref 838, qI 543, qI 0, .ref 845, qI 552, qI 0, .ref 852, qI 562, qI 0, .ref 859, qI 572, qI 0, .ref 866, qI 580, qI 0, .ref 873, qI 594, qI 0, .ref 880, qI 604, qI 0, .ref 887, qI 611, qI 0, .ref 894, qI 614, qI 0, .ref 901, qI 617, qI 0, .ref 908, qI 637, qI 0, .ref 915, qI 654, qI 0, .ref 922, qI 658, qI 0, .ref 929, qI 664, qI 0, .ref 936, qI 668, qI 0, .ref 943, qI 682, qI 0, .ref 950, qI 688, qI 0, .ref 957, qI 710, qI 0, .ref 964, qI 723, qI 0, .ref 971, qI 729, qI 0, .ref 978, qI 736, qI 0, .ref 985, qI 745, qI 0, .ref 992, qI 769, qI 0, .ref 997, qI 771, qI 0, .ref 1004, qI 779, qI 0, .ref 1011, qI 781, qI 0, .ref 1018, qI 783, qI 0, .ref 1025, qI 791, qI 0, .ref 1032, qI 808, qI 0, .ref 1039, qI 812, qI 0, .ref 1046, qI 820, qI 0, .ref 1053, qI 825, qI 0, .ref 1060, qI 830, qI 0, .ref 1067, qI 850, qI 0, .ref 1074, qI 855, qI 0, .ref 1081, qI 862, qI 0, .ref 1088, qI 874, qI 0, .ref 1095, qI 880, qI 0, .ref 1102, qI 887, qI 0, .ref 1109, qI 899, qI 0, .ref 1116]) |>.ins 1041 u0 |>.ins 1042 q0 |>.ins 1043 (tu [.str "pen" 1630, .str "way" 1631, .str "number" 1632]) |>.ins 1044 u0 |>.ins 1045 (qg (st 103) "_law_by") |>.ins 1046 (o1046 P) |>.ins 1047 (o1047 P) |>.ins 1048 u0 |>.ins 1049 q0 |>.ins 1050 (tu [.str "pen" 1639, .str "name" 1640, .str "size" 1641, .str "goal" 1642, .str "by" 1643, .str "number" 1644]) |>.ins 1051 u0 |>.ins 1052 (qg (st 104) "_law_counted") |>.ins 1053 (o1053 P) |>.ins 1054 (o1054 P) |>.ins 1055 u0 |>.ins 1056 q0 |>.ins 1057 (tu [.str "pen" 1651, .str "name" 1652, .str "size" 1653, .str "goal" 1654, .str "giver" 1655, .str "by" 1656, .str "number" 1657]) |>.ins 1058 u0 |>.ins 1059 (qg (st 105) "_law_double") |>.ins 1060 (o1060 P) |>.ins 1061 (o1061 P) |>.ins 1062 u0 |>.ins 1063 q0 |>.ins 1064 (tu [.str "pen" 1664, .str "sort" 1665, .str "size" 1666, .str "taker" 1667, .str "more" 1668, .str "spot" 1669, .str "name" 1670]) |>.ins 1065 u0 |>.ins 1066 (qg (st 106) "_law_uncounted") |>.ins 1067 (o1067 P) |>.ins 1068 (o1068 P) |>.ins 1069 u0 |>.ins 1070 q0 |>.ins 1071 (tu [.str "pen" 1677, .str "sort" 1678]) |>.ins 1072 u0 |>.ins 1073 (qg (st 107) "_law_line") |>.ins 1074 (o1074 P) |>.ins 1075 (o1075 P) |>.ins 1076 u0 |>.ins 1077 q0 |>.ins 1078 (tu [.str "pen" 1685, .str "number" 1686, .str "way" 1687]) |>.ins 1079 u0 |>.ins 1080 (qg (st 108) "_law_register") |>.ins 1081 (o1081 P) |>.ins 1082 (o1082 P) |>.ins 1083 u0 |>.ins 1084 q0 |>.ins 1085 (tu [.str "pen" 1694, .str "flags" 1695, .str "name" 1696, .str "state" 1697, .str "at" 1698, .str "flag" 1699, .str "number" 1700, .str "turn" 1701]) |>.ins 1086 u0 |>.ins 1087 (qg (st 109) "_law_begin") |>.ins 1088 (o1088 P) |>.ins 1089 (o1089 P) |>.ins 1090 u0 |>.ins 1091 q0 |>.ins 1092 (tu [.str "state" 1708, .str "line" 1709, .str "told" 1710]) |>.ins 1093 u0 |>.ins 1094 (qg (st 110) "_law_answer") |>.ins 1095 (o1095 P) |>.ins 1096 (o1096 P) |>.ins 1097 u0 |>.ins 1098 q0 |>.ins 1099 (tu [.str "name" 1717, .str "size" 1718, .str "number" 1719, .str "count" 1720, .str "told" 1721]) |>.ins 1100 u0 |>.ins 1101 (qg (st 111) "_law_told_right") |>.ins 1102 (o1102 P) |>.ins 1103 (o1103 P) |>.ins 1104 u0 |>.ins 1105 q0 |>.ins 1106 (tu [.str "name" 1728, .str "size" 1729, .str "count" 1730, .str "befores" 1731, .str "behinds" 1732, .str "changed" 1733, .str "still_open" 1734, .str "at" 1735, .str "flag" 1736, .str "pair" 1737]) |>.ins 1107 u0 |>.ins 1108 (qg (st 112) "_law_flags_right") |>.ins 1109 (o1109 P) |>.ins 1110 (o1110 P) |>.ins 1111 u0 |>.ins 1112 q0 |>.ins 1113 (tu [.str "pen" 1744, .str "name" 1745, .str "size" 1746, .str "number" 1747, .str "operands" 1748, .str "line" 1749, .str "one" 1750, .str "other" 1751, .str "third" 1752, .str "flag" 1753, .str "count" 1754, .str "befores" 1755, .str "untouched" 1756, .str "heard" 1757, .str "is_alike" 1758]) |>.ins 1114 u0 |>.ins 1115 (qg (st 113) "_law_line_right") |>.ins 1116 (o1116 P) |>.ins 1117 (o1117 P))
noncomputable def s20 (w : World) (os : OsState) : SharedT := ⟨t20 w.params, 1118, {}, ⟨[]⟩, boot_drawn, 1762, os⟩
noncomputable def o3v21 (P : Params) : Obj := qd [e178 P, e1 P, e2 P, e3 P, e4 P, e5 P, e6 P, e7 P, e8 P, e9 P, e10 P, e15 P, e18 P, e19 P, e20 P, e21 P, e22 P, e23 P, e24 P, e28 P, e29 P, e30 P, e31 P, e32 P, e33 P, e34 P, e35 P, e36 P, de P "CF" 394 (.int (.ofNat 0) 393), de P "PF" 396 (.int (.ofNat 2) 395), de P "AF" 398 (.int (.ofNat 4) 397), de P "ZF" 400 (.int (.ofNat 6) 399), de P "SF" 402 (.int (.ofNat 7) 401), de P "DF" 404 (.int (.ofNat 10) 403), de P "OF" 406 (.int (.ofNat 11) 405), e37 P, e38 P, e51 P, e52 P, e53 P, e54 P, e55 P, e56 P, e57 P, e58 P, e59 P, e60 P, e61 P, e62 P, e63 P, e64 P, e74 P, e75 P, e76 P, e77 P, e92 P, e93 P, e111 P, e118 P, e124 P, e130 P, e140 P, e149 P, e150 P, e151 P, e152 P, e153 P, e154 P, e155 P, e156 P, e157 P, e158 P, e159 P, e160 P, e161 P, e162 P, e163 P, e164 P, e165 P, e166 P, e167 P, e168 P, e169 P, e170 P, e171 P, e172 P, e173 P, e174 P, e175 P, e176 P, e177 P, e179 P, e180 P, e181 P, e182 P, e183 P, e184 P, e185 P, e186 P, e187 P, e188 P, e189 P, e190 P, e191 P, e192 P, e193 P, e194 P, e195 P, e196 P, e197 P, e198 P, e199 P, e200 P, e201 P, de P "law" 1770 (.ref 1124)] 115
noncomputable def o1123 (P : Params) : Obj := qc "law" "law" 1762 1763 1764 926 1 0 0 3 1118 true 1119 1120 1121 1122 1768 1769
noncomputable def o1124 (P : Params) : Obj := qh (st 114) "law" .none .none .none z4 (.ref 1123)
noncomputable def t21 (P : Params) : BT := ((t20 P) |>.set 3 (fun _ => o3v21 P) |>.set 12 (fun _ => qf [qI 1, qI 0, .ref 20, qI 5, qI 0, .ref 27, qI 16, qI 0, .ref 55, qI 18, qI 0, .ref 67, qI 20, qI 0, .ref 79, qI 22, qI 0, .ref 86, qI 24, qI 0, .ref 93, qI 29, qI 0, .ref 100, qI 32, qI 0, .ref 107, qI 34, qI 0, .ref 114, qI 36, qI 0, .ref 121, qI 43, qI 0, .ref 128, qI 45, qI 0, .ref 135, qI 50, qI 0, .ref 142, qI 57, qI 0, .ref 149, qI 66, qI 0, .ref 156, qI 69, qI 0, .ref 163, qI 74, qI 0, .ref 170, qI 89, qI 0, .ref 177, qI 140, qI 0, .ref 254, qI 144, qI 0, .ref 261, qI 150, qI 0, .ref 268, qI 152, qI 0, .ref 275, qI 155, qI 0, .ref 282, qI 168, qI 0, .ref 289, qI 190, qI 0, .ref 297, qI 196, qI 0, .ref 304, qI 209, qI 0, .ref 312, qI 228, qI 0, .ref 319, qI 250, qI 0, .ref 375, qI 260, qI 0, .ref 382, qI 268, qI 0, .ref 389, qI 276, qI 0, .ref 396, qI 323, qI 0, .ref 490, qI 327, qI 0, .ref 497, qI 430, qI 0, .ref 607, qI 443, qI 0, .ref 649, qI 454, qI 0, .ref 682, qI 466, qI 0, .ref 716, qI 494, qI 0, .ref 769, qI 529, qI 0, .ref 824, qI 531, qI 0, .ref 831, qI 541, qI 0, .ref 838, qI 543, qI 0, .ref 845, qI 552, qI 0, .ref 852, qI 562, qI 0, .ref 859, qI 572, qI 0, .ref 866, qI 580, qI 0, .ref 873, qI 594, qI 0, .ref 880, qI 604, qI 0, .ref 887, qI 611, qI 0, .ref 894, qI 614, qI 0, .ref 901, qI 617, qI 0, .ref 908, qI 637, qI 0, .ref 915, qI 654, qI 0, .ref 922, qI 658, qI 0, .ref 929, qI 664, qI 0, .ref 936, qI 668, qI 0, .ref 943, qI 682, qI 0, .ref 950, qI 688, qI 0, .ref 957, qI 710, qI 0, .ref 964, qI 723, qI 0, .ref 971, qI 729, qI 0, .ref 978, qI 736, qI 0, .ref 985, qI 745, qI 0, .ref 992, qI 769, qI 0, .ref 997, qI 771, qI 0, .ref 1004, qI 779, qI 0, .ref 1011, qI 781, qI 0, .ref 1018, qI 783, qI 0, .ref 1025, qI 791, qI 0, .ref 1032, qI 808, qI 0, .ref 1039, qI 812, qI 0, .ref 1046, qI 820, qI 0, .ref 1053, qI 825, qI 0, .ref 1060, qI 830, qI 0, .ref 1067, qI 850, qI 0, .ref 1074, qI 855, qI 0, .ref 1081, qI 862, qI 0, .ref 1088, qI 874, qI 0, .ref 1095, qI 880, qI 0, .ref 1102, qI 887, qI 0, .ref 1109, qI 899, qI 0, .ref 1116, qI 926, qI 0, .ref 1123]) |>.ins 1118 u0 |>.ins 1119 q0 |>.ins 1120 (tu [.str "script" 1765, .str "pen" 1766, .str "turn" 1767]) |>.ins 1121 u0 |>.ins 1122 (qg (st 114) "law") |>.ins 1123 (o1123 P) |>.ins 1124 (o1124 P))
noncomputable def s21 (w : World) (os : OsState) : SharedT := ⟨t21 w.params, 1125, {}, ⟨[]⟩, boot_drawn, 1771, os⟩
noncomputable abbrev qP : Pos := ⟨0, 0, 0, 0⟩
theorem pieces_tw (l : List Stmt) (env : Env) (c : Code) (p : Pos) (B : List Frame) : piecesOf l env c p B = ⟨(PySem.W.Fast.tw12563942051412417395 l env).wrap doneF deadEnd id id, c, p, B⟩ := by
  unfold piecesOf; rw [PySem.W.Fast.te12563942051412417395]
noncomputable def SegAt (k a n st : Nat) (S S' : World → OsState → SharedT) (p p' : Pos) : Prop :=
  ∀ (w : World) (os : OsState), segRunT treeTable pw w 11 (some (.ref 6)) 1 st (S w os) (piecesOf ((bs.drop a).take n) env cE p [topFrame qP]) = some (.next, S' w os, cE, p')
noncomputable def RunAt (a N : Nat) (S S' : World → OsState → SharedT) (p : Pos) : Prop :=
  ∀ (w : World) (os : OsState), topRun treeTable pw w 11 (some (.ref 6)) N (S w os).abs (restOf (bs.drop a) env cE p [topFrame qP]) = some (S' w os).abs
theorem link {k a n st N b : Nat} {S S' F : World → OsState → SharedT} {p p' : Pos} (h : SegAt k a n st S S' p p') (e : a + n = b) (r : RunAt b N S' F p') : RunAt a (st + N) S F p := by
  intro w os
  subst e
  have := piece_app (segRun_of (h w os)) (r w os)
  rwa [← List.drop_drop, List.take_append_drop] at this
theorem p0 : SegAt 0 0 3 301 s0 s1 ⟨0, 0, 0, 0⟩ ⟨5, 0, 15, 29⟩ := by
  intro w os
  rw [pieces_tw, PySem.W.Fast.te10110043849684766642, PySem.W.Fast.te14364793385576792824]
  kernel_rfl
theorem p1 : SegAt 1 3 1 214 s1 s2 ⟨5, 0, 15, 29⟩ ⟨16, 0, 17, 8⟩ := by
  intro w os
  rw [pieces_tw, PySem.W.Fast.te10110043849684766642, PySem.W.Fast.te14364793385576792824]
  kernel_rfl
theorem p2 : SegAt 2 4 7 396 s2 s3 ⟨16, 0, 17, 8⟩ ⟨34, 0, 35, 25⟩ := by
  intro w os
  rw [pieces_tw, PySem.W.Fast.te10110043849684766642, PySem.W.Fast.te14364793385576792824]
  kernel_rfl
theorem p3 : SegAt 3 11 20 354 s3 s4 ⟨34, 0, 35, 25⟩ ⟨88, 0, 88, 10⟩ := by
  intro w os
  rw [pieces_tw, PySem.W.Fast.te10110043849684766642, PySem.W.Fast.te14364793385576792824]
  kernel_rfl
theorem p4 : SegAt 4 31 1 487 s4 s5 ⟨88, 0, 88, 10⟩ ⟨89, 0, 139, 16⟩ := by
  intro w os
  rw [pieces_tw, PySem.W.Fast.te10110043849684766642, PySem.W.Fast.te14364793385576792824]
  kernel_rfl
theorem p5 : SegAt 5 32 14 323 s5 s6 ⟨89, 0, 139, 16⟩ ⟨227, 0, 227, 8⟩ := by
  intro w os
  rw [pieces_tw, PySem.W.Fast.te10110043849684766642, PySem.W.Fast.te14364793385576792824]
  kernel_rfl
theorem p6 : SegAt 6 46 1 384 s6 s7 ⟨227, 0, 227, 8⟩ ⟨228, 0, 249, 24⟩ := by
  intro w os
  rw [pieces_tw, PySem.W.Fast.te10110043849684766642, PySem.W.Fast.te14364793385576792824]
  kernel_rfl
theorem p7 : SegAt 7 47 4 99 s7 s8 ⟨228, 0, 249, 24⟩ ⟨275, 0, 275, 8⟩ := by
  intro w os
  rw [pieces_tw, PySem.W.Fast.te10110043849684766642, PySem.W.Fast.te14364793385576792824]
  kernel_rfl
theorem p8 : SegAt 8 51 1 576 s8 s9 ⟨275, 0, 275, 8⟩ ⟨276, 0, 322, 36⟩ := by
  intro w os
  rw [pieces_tw, PySem.W.Fast.te10110043849684766642, PySem.W.Fast.te14364793385576792824]
  kernel_rfl
theorem p9 : SegAt 9 52 1 32 s9 s10 ⟨276, 0, 322, 36⟩ ⟨323, 0, 326, 40⟩ := by
  intro w os
  rw [pieces_tw, PySem.W.Fast.te10110043849684766642, PySem.W.Fast.te14364793385576792824]
  kernel_rfl
theorem p10 : SegAt 10 53 1 656 s10 s11 ⟨323, 0, 326, 40⟩ ⟨327, 0, 428, 20⟩ := by
  intro w os
  rw [pieces_tw, PySem.W.Fast.te10110043849684766642, PySem.W.Fast.te14364793385576792824]
  kernel_rfl
theorem p11 : SegAt 11 54 2 325 s11 s12 ⟨327, 0, 428, 20⟩ ⟨430, 0, 442, 17⟩ := by
  intro w os
  rw [pieces_tw, PySem.W.Fast.te10110043849684766642, PySem.W.Fast.te14364793385576792824]
  kernel_rfl
theorem p12 : SegAt 12 56 1 308 s12 s13 ⟨430, 0, 442, 17⟩ ⟨443, 0, 453, 30⟩ := by
  intro w os
  rw [pieces_tw, PySem.W.Fast.te10110043849684766642, PySem.W.Fast.te14364793385576792824]
  kernel_rfl
theorem p13 : SegAt 13 57 1 312 s13 s14 ⟨443, 0, 453, 30⟩ ⟨454, 0, 465, 24⟩ := by
  intro w os
  rw [pieces_tw, PySem.W.Fast.te10110043849684766642, PySem.W.Fast.te14364793385576792824]
  kernel_rfl
theorem p14 : SegAt 14 58 1 416 s14 s15 ⟨454, 0, 465, 24⟩ ⟨466, 0, 493, 17⟩ := by
  intro w os
  rw [pieces_tw, PySem.W.Fast.te10110043849684766642, PySem.W.Fast.te14364793385576792824]
  kernel_rfl
theorem p15 : SegAt 15 59 2 395 s15 s16 ⟨466, 0, 493, 17⟩ ⟨519, 0, 519, 8⟩ := by
  intro w os
  rw [pieces_tw, PySem.W.Fast.te10110043849684766642, PySem.W.Fast.te14364793385576792824]
  kernel_rfl
theorem p16 : SegAt 16 61 18 386 s16 s17 ⟨519, 0, 519, 8⟩ ⟨594, 0, 603, 46⟩ := by
  intro w os
  rw [pieces_tw, PySem.W.Fast.te10110043849684766642, PySem.W.Fast.te14364793385576792824]
  kernel_rfl
theorem p17 : SegAt 17 79 11 373 s17 s18 ⟨594, 0, 603, 46⟩ ⟨688, 0, 709, 72⟩ := by
  intro w os
  rw [pieces_tw, PySem.W.Fast.te10110043849684766642, PySem.W.Fast.te14364793385576792824]
  kernel_rfl
theorem p18 : SegAt 18 90 13 384 s18 s19 ⟨688, 0, 709, 72⟩ ⟨808, 0, 811, 97⟩ := by
  intro w os
  rw [pieces_tw, PySem.W.Fast.te10110043849684766642, PySem.W.Fast.te14364793385576792824]
  kernel_rfl
theorem p19 : SegAt 19 103 11 378 s19 s20 ⟨808, 0, 811, 97⟩ ⟨899, 0, 925, 48⟩ := by
  intro w os
  rw [pieces_tw, PySem.W.Fast.te10110043849684766642, PySem.W.Fast.te14364793385576792824]
  kernel_rfl
theorem p20 : SegAt 20 114 1 32 s20 s21 ⟨899, 0, 925, 48⟩ ⟨926, 0, 931, 15⟩ := by
  intro w os
  rw [pieces_tw, PySem.W.Fast.te10110043849684766642, PySem.W.Fast.te14364793385576792824]
  kernel_rfl
theorem bs_end : bs.drop 115 = [] := by kernel_rfl
theorem fin_run : RunAt 115 2 s21 s21 ⟨926, 0, 931, 15⟩ := by
  intro w os
  rw [bs_end]
  refine piece_nil ?_
  unfold topRun
  kernel_rfl
theorem all_run : RunAt 0 7133 s0 s21 qP := link p0 rfl (link p1 rfl (link p2 rfl (link p3 rfl (link p4 rfl (link p5 rfl (link p6 rfl (link p7 rfl (link p8 rfl (link p9 rfl (link p10 rfl (link p11 rfl (link p12 rfl (link p13 rfl (link p14 rfl (link p15 rfl (link p16 rfl (link p17 rfl (link p18 rfl (link p19 rfl (link p20 rfl (fin_run)))))))))))))))))))))
theorem blk (w : World) (os : OsState) : segRun treeTable pw w 11 (some (.ref 6)) 1 1 (sp w os).abs (blockOf bs env cE qP [topFrame qP]) = some (.next, (s0 w os).abs, cE, qP) := by kernel_rfl
theorem pre (w : World) (os : OsState) : topGo treeTable pw w 11 (some (.ref 6)) 12 ⟨boot_heap w.params, ⟨[]⟩, boot_drawn, boot_toks, os⟩ (topStub pw) = some ((sp w os).abs, ⟨denote treeTable cE, cE, qP, [topFrame qP]⟩) := by kernel_rfl
theorem top_run (w : World) (os : OsState) : topRun treeTable pw w 11 (some (.ref 6)) (12 + (1 + 7133)) ⟨boot_heap w.params, ⟨[]⟩, boot_drawn, boot_toks, os⟩ (topStub pw) = some (s21 w os).abs := go_top (pre w os) (piece_block (blk w os) (all_run w os))
end Mine
namespace Mine
noncomputable abbrev rw1 : OpenLaw := PySem.Challenge.rw_pb0435_01
noncomputable def qv : Program := { pw with main := { pw.main with body := [st 114] } }
noncomputable def lsn : List Str := (["_wall", "MintError", "OperandError", "MachineError", "mask", "wrap", "signed", "fits_signed", "extended", "bit", "ones", "parity", "lowest_bit", "highest_bit", "swapped", "CONDITIONS", "condition_names", "condition_of", "string_stem", "CF", "PF", "AF", "ZF", "SF", "DF", "OF", "FLAG_NAMES", "Flags", "condition_number", "szp", "six_flags", "flags_of_condition", "reads_flags", "writes_flags", "sure_flags", "undefined_by_count", "undefined_flags", "NAMES_8", "NAMES_16", "NAMES_32", "NAMES_64", "Register", "early_names", "late_ending", "gpr", "Memory", "joined", "State", "Operand", "Reg", "Imm", "Mem", "Instruction", "SHIFTS", "ROTATES", "THROUGHS", "DOUBLES", "BITS", "SCANS", "WIDENINGS", "CONVERSIONS", "SPREADS", "masked_count", "shifted", "turned_left", "rotated", "rotated_through", "double_shifted", "product", "quotient", "scanned", "with_bit", "clear_flags", "count_told", "shift_deed", "double_deed", "lay_wide", "put_halves", "halves", "product_deed", "quotient_deed", "bit_deed", "scan_deed", "swap_deed", "widening_deed", "conversion_deed", "rotate_deed", "_law_cells", "_law_below", "_law_one_of", "_law_rounds", "_law_set_by", "_law_open", "_law_goal", "_law_by", "_law_counted", "_law_double", "_law_uncounted", "_law_line", "_law_register", "_law_begin", "_law_answer", "_law_told_right", "_law_flags_right", "_law_line_right"] : List String).map Str.ofString
noncomputable abbrev H1 (P : Params) : Heap := absHeap (t21 P) 1125 {}
theorem opened (w : World) : (fencedOpening treeTable pw w 100000).map (fun s => (s.heap, s.gens, s.drawn, s.toks)) = some (boot_heap w.params, Array.mk [], boot_drawn, boot_toks) :=
  boot_open rfl rfl (fun s => rfl) w
theorem sizeB (w : World) : ((boot_heap w.params).isNs mainGlobals && (Array.mk ([] : List GenState)).size == 0, (boot_heap w.params).objs.size, (boot_heap w.params).nsMap mainGlobals "__annotations__") = (true, 11, some (.ref 6)) := by kernel_rfl
theorem lk1 (w : World) : staticsOk (importedModules pw.main.body) (boot_heap w.params) (H1 w.params) = true := by kernel_rfl
theorem lk2 (w : World) : namesBound pw (H1 w.params) = true := by kernel_rfl
theorem lk4 (w : World) : laidKept (boot_heap w.params) (H1 w.params) = true := by kernel_rfl
theorem lk5 (w : World) (os : OsState) : openSeen qv lsn (importedModules pw.main.body) (fun _ => true) true (s21 w os).abs = openGood qv lsn := by
  rw [PySem.W.Fast.te4187177175401517315]; kernel_rfl
end Mine
namespace Mine
noncomputable def YB (w : World) (h : Heap) : Prop := ∀ a o, (H1 w.params).get? a = some o → h.get? a = some o
noncomputable abbrev XT : Shared → Bool := fun _ => true
noncomputable abbrev XPT : (Str → Option Value) → Heap → Prop := fun _ _ => True
theorem s21_abs (w : World) (os : OsState) : (s21 w os).abs = ⟨H1 w.params, Array.mk [], boot_drawn, 1771, os⟩ := by kernel_rfl
theorem run2 (w : World) (os : OsState) : topRun treeTable pw w 11 (some (.ref 6)) (12 + (1 + 7133)) ⟨boot_heap w.params, Array.mk [], boot_drawn, boot_toks, os⟩ (topStub pw) = some ⟨H1 w.params, Array.mk [], boot_drawn, 1771, os⟩ := (top_run w os).trans (congrArg some (s21_abs w os))
theorem lk3 (w : World) (os : OsState) : gensDone ⟨H1 w.params, Array.mk [], boot_drawn, 1771, os⟩ = true := rfl
theorem lk6 (w : World) : (staticsOk (importedModules pw.main.body) (boot_heap w.params) (H1 w.params) && namesBound pw (H1 w.params) && true && laidKept (boot_heap w.params) (H1 w.params)) = true := by rw [lk1, lk2, lk4]; rfl
theorem looks2 (w : World) : (fun os => ((staticsOk (importedModules pw.main.body) (boot_heap w.params) (H1 w.params) && namesBound pw (H1 w.params) && gensDone ⟨H1 w.params, Array.mk [], boot_drawn, 1771, os⟩ && laidKept (boot_heap w.params) (H1 w.params)),
        openSeen qv lsn (importedModules pw.main.body) XT true ⟨H1 w.params, Array.mk [], boot_drawn, 1771, os⟩, (⟨H1 w.params, Array.mk [], boot_drawn, 1771, os⟩ : Shared).heap)) = fun _ => (true, openGood qv lsn, H1 w.params) := funext fun os => by
  rw [lk3]
  exact looks_pair (lk6 w) (looks_pair ((congrArg (openSeen qv lsn (importedModules pw.main.body) XT true) (s21_abs w os)).symm.trans (lk5 w os)) rfl)
theorem left : LeftO pw qv lsn XT (fun s => s.heap) (fun w => H1 w.params) 100000 true :=
  @LeftO.of_pieces pw qv lsn XT Heap (fun s => s.heap) (fun w => H1 w.params) 100000 true boot_heap H1 (Array.mk []) (Array.mk []) boot_drawn boot_drawn boot_toks 1771 11 (some (.ref 6)) (12 + (1 + 7133))
    opened sizeB run2 rfl looks2
noncomputable abbrev dLaw : DefRec := ⟨"law", fA (st 114), fB (st 114), fS (st 114), ⟨926, 0, 931, 15⟩⟩
theorem holds_of (said : rw1.wellSaid = true) (call : WalkO qv lsn XPT YB rw1.row.toRowW dLaw [] fun f vs => PySem.call f vs) : rw1.Holds := by
  refine holds_law said fun said => ?_
  exact PySem.W.holds_open (r := rw1.row) (Yf := fun s => s.heap) (Ya := fun w => H1 w.params) (YP := YB) (d := dLaw) (kwd := []) left (fun w s e a o h => by rw [show s.heap = H1 w.params from e]; exact h) (fun w h h' y k a o e => k _ _ (y a o e)) (fun _ _ => trivial) (fun _ _ _ _ _ => trivial)
    (by rfl) (by rfl) (by rfl) (fun s _ => recFacts_nil rfl) (by rfl) said (by decide +kernel) ⟨rfl, rfl, rfl, rfl, rfl, by decide +kernel⟩ ⟨[.list []], by decide +kernel, by decide +kernel⟩ call
end Mine
namespace Mine
noncomputable def kasR {α : Type} (cmp : Nat → Nat → Bool) : KasT α → α
  | .ret a => a
  | .ask i j k => kasR cmp (k (cmp i j))
noncomputable def Good {α : Type} (N : Nat) (P : α → Prop) : KasT α → Prop
  | .ret a => P a
  | .ask i j k => i < N ∧ j < N ∧ ∀ b, Good N P (k b)
theorem Good.out {α : Type} {N : Nat} {P : α → Prop} {cmp : Nat → Nat → Bool} : ∀ {t : KasT α}, Good N P t → P (kasR cmp t)
  | .ret _, h => h
  | .ask i j k, h => Good.out (t := k (cmp i j)) (h.2.2 _)
theorem Good.bind {α β : Type} {N : Nat} {P : α → Prop} {Q : β → Prop} {f : α → KasT β} (hf : ∀ a, P a → Good N Q (f a)) : ∀ {t : KasT α}, Good N P t → Good N Q (t.bind f)
  | .ret a, h => hf a h
  | .ask _ _ k, h => ⟨h.1, h.2.1, fun b => Good.bind hf (t := k b) (h.2.2 b)⟩
section
variable {N : Nat} {p : Array Nat}
noncomputable def Pm (N : Nat) (p : Array Nat) : Prop := 0 < N ∧ p.Perm (List.range N).toArray
theorem Pm.lt (h : Pm N p) (k : Nat) : p.getD k 0 < N := by
  unfold Array.getD
  split
  · rename_i q
    have := (Array.perm_iff_toList_perm.mp h.2).mem_iff.mp (show p[k] ∈ p.toList from Array.getElem_mem_toList q)
    exact List.mem_range.mp this
  · exact h.1
theorem Pm.rev (h : Pm N p) (i j : Nat) : Pm N (kas_rev p i j) := ⟨h.1, (mirror_perm p i j _).trans h.2⟩
theorem Pm.bub (h : Pm N p) (i j : Nat) : Pm N (bubble p i j) := ⟨h.1, (bubble_perm p i j).trans h.2⟩
theorem good_asc (h : Pm N p) : ∀ f n, Good N (fun _ => True) (kas_asc p f n)
  | 0, _ => trivial
  | f + 1, n => ⟨h.lt _, h.lt _, fun b => by cases b <;> first | exact good_asc h f _ | trivial⟩
theorem good_desc : ∀ f {p : Array Nat} n q, Pm N p → Good N (fun r => Pm N r.1) (kas_desc f p n q)
  | 0, _, _, _, h => h
  | f + 1, p, n, q, h => ⟨h.lt _, h.lt _, fun b => by
    cases b with
    | true =>
      show Good N _ (if q > 0 then _ else _)
      split
      · exact good_desc f _ _ (h.rev _ _)
      · exact good_desc f _ _ h
    | false => exact ⟨h.lt _, h.lt _, fun c => by cases c <;> first | exact good_desc f _ _ h | exact h⟩⟩
theorem good_tail (h : Pm N p) (n m : Nat) : Good N (fun r => Pm N r.2) (kas_tail3 n m p) :=
  by refine Good.bind (P := fun _ => True) (fun m _ => ?_) (good_asc (h.rev _ _) _ _); exact h.rev 0 n
theorem good_part (h : Pm N p) (n m : Nat) : Good N (fun r => Pm N r.2) (kas_descPart n m p) :=
  Good.bind (fun r hr => by
    split
    · exact good_tail (hr.rev _ _) _ _
    · exact good_tail hr _ _) (good_desc _ _ _ h)
theorem good_count (h : Pm N p) (m : Nat) : Good N (fun r => Pm N r.2) (kas_count m p) :=
  Good.bind (P := fun _ => True) (fun n _ => by
    split
    · exact h
    · split
      · exact ⟨h.lt _, h.lt _, fun c => by cases c <;> first | exact good_part (h.rev _ _) _ _ | exact h⟩
      · exact good_part h _ _) (good_asc h _ _)
theorem good_place (h : Pm N p) (k : Nat) : ∀ f l r, Good N (fun _ => True) (kas_place p k f l r)
  | 0, _, _ => trivial
  | f + 1, l, r => by
    unfold kas_place
    split
    · trivial
    · exact ⟨h.lt _, h.lt _, fun b => by cases b <;> exact good_place h k f _ _⟩
theorem good_bin : ∀ f {p : Array Nat} k, Pm N p → Good N (Pm N) (kas_bin f p k)
  | 0, _, _, h => h
  | f + 1, p, k, h => Good.bind (P := fun _ => True) (fun l _ => good_bin f _ (h.bub _ _)) (good_place h k _ _ _)
theorem good_sort (h : 0 < N) : Good N (Pm N) (kas_sort N) :=
  Good.bind (fun r hr => by
    split
    · exact good_bin _ _ hr
    · exact hr) (good_count ⟨h, Array.Perm.refl _⟩ N)
end
noncomputable def ltP (p q : Int × Int) : Bool := match decide (p.1 = q.1) with
  | true => (match decide (p.2 = q.2) with
    | true => false
    | false => decide (p.2 < q.2))
  | false => decide (p.1 < q.1)
noncomputable def gtP (ps : List (Int × Int)) (i : Nat) : Int × Int := ps.getD i (0, 0)
noncomputable def srtK (ps : List (Int × Int)) : List (Int × Int) := match Nat.blt ps.length 2 with
  | true => ps
  | false => (kasR (fun i j => ltP (gtP ps i) (gtP ps j)) (kas_sort ps.length)).toList.map (gtP ps)
theorem gtP_range (ps : List (Int × Int)) : (List.range ps.length).map (gtP ps) = ps := by
  apply List.ext_getElem?
  intro i
  rw [List.getElem?_map]
  by_cases h : i < ps.length
  · rw [List.getElem?_range h, List.getElem?_eq_getElem h]
    show some (gtP ps i) = _
    unfold gtP
    rw [List.getD_eq_getElem?_getD, List.getElem?_eq_getElem h]; rfl
  · rw [List.getElem?_eq_none (by simpa using h), List.getElem?_eq_none (by simpa using h)]; rfl
theorem srtK_perm (ps : List (Int × Int)) : (srtK ps).Perm ps := by
  unfold srtK
  split
  · exact List.Perm.refl _
  · rename_i h
    have hn : 0 < ps.length := by
      cases ps with
      | nil => cases h
      | cons _ _ => exact Nat.zero_lt_succ _
    have := (Array.perm_iff_toList_perm.mp (Good.out (cmp := fun i j => ltP (gtP ps i) (gtP ps j)) (good_sort hn)).2).map (gtP ps)
    rw [gtP_range] at this
    exact this
end Mine
namespace Mine
noncomputable def heldP (l : List (Int × V)) : Option (List (Int × Int)) := List.rec (some []) (fun p _ ih => V.casesOn (motive_1 := fun _ => Option (List (Int × Int))) p.2 none (fun _ => none) (fun v => ih.map fun r => cond (decide (v = 0)) r ((p.1, v) :: r)) (fun _ => none) (fun _ => none) (fun _ => none) (fun _ _ => none) fun _ => none) l
noncomputable def pairV (p : Int × Int) : V := .tup [.int p.1, .int p.2]
noncomputable def heldW (g : Nat) (fin : List V → V) : Orc := fun f args σ K => cond (Nat.beq f g) (List.casesOn args False fun a r => r = [] ∧ a.R fun n => hI σ[n]? fun c l => c = 193 ∧ List.casesOn l False fun v _ => v.R fun m => hD σ[m]? fun l =>
  opt (heldP l) fun ps => K (some (fin ((srtK ps).map pairV))) σ) False
@[irreducible] noncomputable def R (n : Nat) : Orc := runN tab fnsT (heldW 714 .tup) n
end Mine
namespace Mine
structure Wd where
  fz : Addr → Option Obj
  mu : List (Addr × Addr)
  fr : List Addr
noncomputable def foot (W : Wd) (a : Addr) : Prop := ∃ p, p ∈ W.mu ∧ (a = p.1 ∨ a = p.2)
structure Ly where
  T : Tab
  prog : Program
  w : World
  cad : Nat → Addr
  fad : Nat → Addr
  base : Heap
  K : Frag
  gm : Str → Option Value
  bm : Str → Option Value
structure Z where
  W : Wd
  s : Shared
  σ : H
noncomputable def SqAt (W : Wd) (T : String) (a : Addr) (vs : List Value) : Prop := ∃ n sl, W.fz a = some ⟨.type T, none, .seq vs.toArray n, sl⟩
noncomputable def Keys (Λ : Ly) (fs : List Nat) (es : List DictEntry) : Prop := List.rec (motive := fun _ => List Nat → Prop) (fun _ => True)
  (fun e _ ih fs => ∃ f r t, fs = f :: r ∧ e.hash = PyData.keyHash Λ.w.params (Λ.T.nm f) ∧ e.key = .str (Λ.T.nm f) t ∧ ih r) es fs
noncomputable def InAt (Λ : Ly) (g : Addr → Option Obj) (c : Nat) (x dx : Addr) (P : List Value → Prop) : Prop :=
  ∃ es n, g x = some (instObj (Λ.cad c) dx) ∧ g dx = some (dictOf es n) ∧ Keys Λ (Λ.T.flds c) es ∧ P (es.map (·.val))
noncomputable def Rep (Λ : Ly) (W : Wd) (u : Value) (v : V) : Prop := V.rec (motive_1 := fun _ => Value → Prop) (motive_2 := fun _ => List Value → Prop)
  (fun u => u = .none) (fun b u => u = .bool b) (fun i u => ∃ t, u = .int i t) (fun x u => ∃ t, u = .str x t)
  (fun _ ih u => ∃ a vs, u = .ref a ∧ SqAt W "tuple" a vs ∧ ih vs) (fun _ ih u => ∃ a vs, u = .ref a ∧ SqAt W "list" a vs ∧ ih vs)
  (fun c _ ih u => ∃ x dx, u = .ref x ∧ InAt Λ W.fz c x dx ih) (fun n u => ∃ p : Addr × Addr, u = .ref p.1 ∧ W.mu[n]? = some p)
  (fun us => us = []) (fun _ _ h t us => ∃ u vs, us = u :: vs ∧ h u ∧ t vs) v u
noncomputable def Reps (Λ : Ly) (W : Wd) (us : List Value) (l : List V) : Prop := V.rec_1 (motive_1 := fun _ => Value → Prop) (motive_2 := fun _ => List Value → Prop)
  (fun u => u = .none) (fun b u => u = .bool b) (fun i u => ∃ t, u = .int i t) (fun x u => ∃ t, u = .str x t)
  (fun _ ih u => ∃ a vs, u = .ref a ∧ SqAt W "tuple" a vs ∧ ih vs) (fun _ ih u => ∃ a vs, u = .ref a ∧ SqAt W "list" a vs ∧ ih vs)
  (fun c _ ih u => ∃ x dx, u = .ref x ∧ InAt Λ W.fz c x dx ih) (fun n u => ∃ p : Addr × Addr, u = .ref p.1 ∧ W.mu[n]? = some p)
  (fun us => us = []) (fun _ _ h t us => ∃ u vs, us = u :: vs ∧ h u ∧ t vs) l us
noncomputable def okR (P : Nat → Prop) (v : V) : Prop := V.rec (motive_1 := fun _ => Prop) (motive_2 := fun _ => Prop) True (fun _ => True) (fun _ => True) (fun _ => True) (fun _ h => h) (fun _ h => h) (fun _ _ h => h) P True (fun _ _ a b => a ∧ b) v
noncomputable def okRs (P : Nat → Prop) (l : List V) : Prop := V.rec_1 (motive_1 := fun _ => Prop) (motive_2 := fun _ => Prop) True (fun _ => True) (fun _ => True) (fun _ => True) (fun _ h => h) (fun _ h => h) (fun _ _ h => h) P True (fun _ _ a b => a ∧ b) l
theorem andL' {a b : Bool} (h : (a && b) = true) : a = true ∧ b = true := Bool.and_eq_true_iff.mp h
theorem okRs_fro {l : List V} : fros l = true → okRs (fun _ => False) l :=
  V.rec_1 (motive_1 := fun v => fro v = true → okR (fun _ => False) v) (motive_2 := fun l => fros l = true → okRs (fun _ => False) l)
    (fun _ => trivial) (fun _ _ => trivial) (fun _ _ => trivial) (fun _ _ => trivial) (fun _ h => h) (fun _ h => h) (fun _ _ h => h) (fun _ h => Bool.noConfusion h) (fun _ => trivial)
    (fun _ _ a b h => ⟨a (andL' h).1, b (andL' h).2⟩) l
theorem okR_true : ∀ v, okR (fun _ => True) v := V.rec (motive_1 := okR _) (motive_2 := okRs fun _ => True) trivial (fun _ => trivial) (fun _ => trivial) (fun _ => trivial) (fun _ h => h) (fun _ h => h) (fun _ _ h => h) (fun _ => trivial) trivial fun _ _ a b => ⟨a, b⟩
theorem okRs_true : ∀ l, okRs (fun _ => True) l := V.rec_1 (motive_1 := okR _) (motive_2 := okRs fun _ => True) trivial (fun _ => trivial) (fun _ => trivial) (fun _ => trivial) (fun _ h => h) (fun _ h => h) (fun _ _ h => h) (fun _ => trivial) trivial fun _ _ a b => ⟨a, b⟩
section
variable {Λ : Ly} {W W' : Wd}
theorem InAt.up {g g' : Addr → Option Obj} (k : ∀ a o, g a = some o → g' a = some o) {c : Nat} {x dx : Addr} {P P' : List Value → Prop} (p : ∀ us, P us → P' us) (h : InAt Λ g c x dx P) : InAt Λ g' c x dx P' :=
  h.imp fun _ => .imp fun _ => .imp (k _ _) (.imp (k _ _) (.imp id (p _)))
section
variable {P : Nat → Prop} (k1 : ∀ a o, W.fz a = some o → W'.fz a = some o) (k2 : ∀ (i : Nat) p, P i → W.mu[i]? = some p → W'.mu[i]? = some p)
include k1 k2
omit k2 in
theorem up_sq {T : String} {l : List V} (ih : okRs P l → ∀ us, Reps Λ W us l → Reps Λ W' us l) (h : okRs P l) (u : Value) (r : ∃ a vs, u = .ref a ∧ SqAt W T a vs ∧ Reps Λ W vs l) : ∃ a vs, u = .ref a ∧ SqAt W' T a vs ∧ Reps Λ W' vs l :=
  r.imp fun _ => .imp fun _ => .imp id (.imp (.imp fun _ => .imp fun _ => k1 _ _) (ih h _))
theorem Reps.up : ∀ l, okRs P l → ∀ us, Reps Λ W us l → Reps Λ W' us l :=
  V.rec_1 (motive_1 := fun v => okR P v → ∀ u, Rep Λ W u v → Rep Λ W' u v) (motive_2 := fun l => okRs P l → ∀ us, Reps Λ W us l → Reps Λ W' us l)
    (fun _ _ h => h) (fun _ _ _ h => h) (fun _ _ _ h => h) (fun _ _ _ h => h) (fun _ => up_sq k1) (fun _ => up_sq k1)
    (fun _ _ ih h _ => .imp fun _ => .imp fun _ => .imp id (InAt.up k1 (ih h))) (fun _ h _ => .imp fun _ => .imp id (k2 _ _ h)) (fun _ _ h => h)
    fun _ _ a b h _ => .imp fun _ => .imp fun _ => .imp id (.imp (a h.1 _) (b h.2 _))
end
theorem Reps.one {u : Value} {v : V} (h : Rep Λ W u v) : Reps Λ W [u] [v] := ⟨u, [], rfl, h, rfl⟩
theorem Reps.cons {u : Value} {v : V} {us : List Value} {l : List V} (h : Rep Λ W u v) (hs : Reps Λ W us l) : Reps Λ W (u :: us) (v :: l) := ⟨u, us, rfl, h, hs⟩
theorem Reps.uncons {P : List Value → Prop} {us : List Value} {v : V} {l : List V} (h : Reps Λ W us (v :: l)) (k : ∀ u us, Rep Λ W u v → Reps Λ W us l → P (u :: us)) : P us :=
  let ⟨u, us, e, a, b⟩ := h
  e ▸ k u us a b
theorem Reps.up1 {P : Nat → Prop} (k1 : ∀ a o, W.fz a = some o → W'.fz a = some o) (k2 : ∀ (i : Nat) p, P i → W.mu[i]? = some p → W'.mu[i]? = some p) {v : V} {u : Value} (h : okR P v) (r : Rep Λ W u v) : Rep Λ W' u v :=
  (Reps.up k1 k2 [v] ⟨h, trivial⟩ [u] (.one r)).uncons (P := fun us => us = [u] → Rep Λ W' u v) (fun _ _ h _ e => (List.cons.inj e).1 ▸ h) rfl
end
structure Le (W W' : Wd) : Prop where
  fz : ∀ a o, W.fz a = some o → W'.fz a = some o
  mu : ∀ (n : Nat) p, W.mu[n]? = some p → W'.mu[n]? = some p
theorem Le.refl (W : Wd) : Le W W := ⟨fun _ _ h => h, fun _ _ h => h⟩
theorem Le.trans {a b c : Wd} (x : Le a b) (y : Le b c) : Le a c := ⟨fun _ _ h => y.fz _ _ (x.fz _ _ h), fun _ _ h => y.mu _ _ (x.mu _ _ h)⟩
section
variable {Λ : Ly} {W W' : Wd}
theorem Rep.le {u : Value} {v : V} (h : Rep Λ W u v) (L : Le W W') : Rep Λ W' u v := Reps.up1 L.fz (fun i p _ => L.mu i p) (okR_true v) h
theorem Reps.le {us : List Value} {l : List V} (h : Reps Λ W us l) (L : Le W W') : Reps Λ W' us l := Reps.up L.fz (fun i p _ => L.mu i p) l (okRs_true l) us h
theorem Reps.fro {us : List Value} {l : List V} (h : Reps Λ W us l) (f : fros l = true) (k : ∀ a o, W.fz a = some o → W'.fz a = some o) : Reps Λ W' us l := Reps.up k (fun _ _ z => z.elim) l (okRs_fro f) us h
theorem foot_le (L : Le W W') {b : Addr} : foot W b → foot W' b := fun ⟨p, hp, e⟩ => let ⟨i, hi⟩ := List.mem_iff_getElem?.mp hp; ⟨p, List.mem_of_getElem? (L.mu i p hi), e⟩
end
noncomputable def ORep (Λ : Ly) (W : Wd) (h : Heap) (p : Addr × Addr) (o : HO) : Prop := HO.casesOn o
  (fun l => p.2 = p.1 ∧ ∃ vs, h.IsList p.1 vs.toArray ∧ Reps Λ W vs l) (fun l => p.2 = p.1 ∧ ∃ vs, h.PlainList p.1 vs.toArray ∧ Reps Λ W vs l)
  (fun c l => p.1 ≠ p.2 ∧ InAt Λ h.get? c p.1 p.2 fun us => Reps Λ W us l)
  (fun l => p.2 = p.1 ∧ l.length ≤ 61 ∧ ∃ kvs, h.DictOf (intKind Λ.prog Λ.w) p.1 kvs ∧ kvs.map (·.1) = l.map (·.1) ∧ Reps Λ W (kvs.map (·.2)) (l.map (·.2)))
  (fun l => p.2 = p.1 ∧ ∃ kvs, h.DictOf (strKind Λ.prog Λ.w) p.1 kvs ∧ kvs.map (·.1) = l.map (·.1) ∧ Reps Λ W (kvs.map (·.2)) (l.map (·.2)))
theorem ORep.up {Λ : Ly} {W W' : Wd} {h h' : Heap} {p : Addr × Addr} {o : HO} (x : ORep Λ W h p o) (L : Le W W') (k : ∀ a o, a = p.1 ∨ a = p.2 → h.get? a = some o → h'.get? a = some o) : ORep Λ W' h' p o := by
  cases o with
  | lst l => exact x.imp id (.imp fun _ => .imp (.imp fun _ => .imp (k _ _ (.inl rfl)) id) (·.le L))
  | app l => exact x.imp id (.imp fun _ => .imp (.imp fun _ => k _ _ (.inl rfl)) (·.le L))
  | inst c l => exact x.imp id (.imp fun _ => .imp fun _ => .imp (k _ _ (.inl rfl)) (.imp (k _ _ (.inr rfl)) (.imp id (·.le L))))
  | dicI l => exact x.imp id (.imp id (.imp fun _ => .imp (.imp fun _ => .imp fun _ => .imp fun _ => .imp (k _ _ (.inl rfl)) id) (.imp id (·.le L))))
  | dicS l => exact x.imp id (.imp fun _ => .imp (.imp fun _ => .imp fun _ => .imp fun _ => .imp (k _ _ (.inl rfl)) id) (.imp id (·.le L)))
theorem ORep.foot {Λ : Ly} {W : Wd} {h : Heap} {p : Addr × Addr} {o : HO} (x : ORep Λ W h p o) {a : Addr} (q : a = p.1 ∨ a = p.2) : ∃ o, h.get? a = some o := by
  have one (e : p.2 = p.1) : a = p.1 := q.elim id (·.trans e)
  cases o with
  | lst l => obtain ⟨e, vs, ⟨o, ho, _⟩, _⟩ := x; exact one e ▸ ⟨o, ho⟩
  | app l => obtain ⟨e, vs, ⟨n, ho⟩, _⟩ := x; exact one e ▸ ⟨_, ho⟩
  | inst c l => obtain ⟨_, es, n, h1, h2, _⟩ := x; exact q.elim (· ▸ ⟨_, h1⟩) (· ▸ ⟨_, h2⟩)
  | dicI l => obtain ⟨e, _, vs, ⟨o, _, _, ho, _⟩, _⟩ := x; exact one e ▸ ⟨o, ho⟩
  | dicS l => obtain ⟨e, vs, ⟨o, _, _, ho, _⟩, _⟩ := x; exact one e ▸ ⟨o, ho⟩
structure SR (Λ : Ly) (z : Z) : Prop where
  base : ∀ a o, Λ.base.get? a = some o → z.W.fz a = some o
  fz : ∀ a o, z.W.fz a = some o → z.s.heap.get? a = some o
  len : z.σ.length = z.W.mu.length
  obj : ∀ (n : Nat) o p, z.σ[n]? = some o → z.W.mu[n]? = some p → ORep Λ z.W z.s.heap p o
  apart : ∀ (n m : Nat) p q, n ≠ m → z.W.mu[n]? = some p → z.W.mu[m]? = some q → p.1 ≠ q.1 ∧ p.1 ≠ q.2 ∧ p.2 ≠ q.1 ∧ p.2 ≠ q.2
  nofz : ∀ a, foot z.W a → z.W.fz a = none
structure Go (Λ : Ly) (X : Addr → Prop) (z z' : Z) : Prop where
  le : Le z.W z'.W
  frs : z'.W.fr = z.W.fr
  keep : ∀ a o, z.s.heap.get? a = some o → ¬ foot z.W a → ¬ X a → (a ∉ z.W.fr → z'.s.heap.get? a = some o) ∧ ∃ sl, z'.s.heap.get? a = some { o with slots := sl }
  fresh : ∀ a o, z.s.heap.get? a = some o → ¬ foot z.W a → ¬ X a → ¬ foot z'.W a ∧ (z.W.fz a = none → z'.W.fz a = none)
  gens : z'.s.gens = z.s.gens
  os : z'.s.os = z.s.os
  sr : SR Λ z'
noncomputable abbrev NoX : Addr → Prop := fun _ => False
noncomputable def Kp (h h' : Heap) : Prop := ∀ a o, h.get? a = some o → h'.get? a = some o
theorem ns {α : Type} {o : Option α} {a : α} {P : Prop} (h : o = none) (e : o = some a) : P := nomatch (h.symm.trans e : none = some a)
theorem exactly {h : Heap} {a : Addr} {o : Obj} {P : Prop} (e : h.get? a = some o) : (P → h.get? a = some o) ∧ ∃ sl, h.get? a = some { o with slots := sl } := ⟨fun _ => e, o.slots, e⟩
theorem none_of_size {h : Heap} {a : Addr} (q : h.objs.size ≤ a) : h.get? a = none := Option.eq_none_iff_forall_ne_some.mpr fun _ e => absurd (Heap.lt_size e) (Nat.not_lt.mpr q)
theorem ne_none {h : Heap} {a b : Addr} {o : Obj} (q : h.get? a = none) (e : h.get? b = some o) : b ≠ a := fun (z : b = a) => ns q (z ▸ e)
theorem Kp.none {h h' : Heap} {a : Addr} (k : Kp h h') (q : h'.get? a = none) : h.get? a = none := Option.eq_none_iff_forall_ne_some.mpr fun _ e => ns q (k _ _ e)
section
variable {Λ : Ly} {X : Addr → Prop} {z z' z'' : Z}
theorem Go.refl (x : SR Λ z) : Go Λ X z z := ⟨.refl _, rfl, fun _ _ h _ _ => exactly h, fun _ _ _ f _ => ⟨f, id⟩, rfl, rfl, x⟩
theorem Go.trans (x : Go Λ X z z') (y : Go Λ X z' z'') : Go Λ X z z'' :=
  ⟨x.le.trans y.le, y.frs.trans x.frs, fun a o h f n =>
      have ⟨k1, sl, k2⟩ := x.keep a o h f n
      have f2 := (x.fresh a o h f n).1
      ⟨fun q => (y.keep a o (k1 q) f2 n).1 (x.frs ▸ q), (y.keep a _ k2 f2 n).2⟩,
   fun a o h f n =>
      have ⟨_, sl, k2⟩ := x.keep a o h f n
      have ⟨f2, f3⟩ := x.fresh a o h f n
      (y.fresh a _ k2 f2 n).imp id fun g e => g (f3 e), y.gens.trans x.gens, y.os.trans x.os, y.sr⟩
theorem Go.mono {Y : Addr → Prop} (x : Go Λ X z z') (h : ∀ a, X a → Y a) : Go Λ Y z z' :=
  ⟨x.le, x.frs, fun a o q f n => x.keep a o q f fun z => n (h a z), fun a o q f n => x.fresh a o q f fun z => n (h a z), x.gens, x.os, x.sr⟩
theorem SR.there (x : SR Λ z) {a : Addr} (f : foot z.W a) : ∃ o, z.s.heap.get? a = some o :=
  have ⟨p, hp, e⟩ := f
  have ⟨n, hn⟩ := List.mem_iff_getElem?.mp hp
  (x.obj n _ p (List.getElem?_eq_getElem (x.len ▸ (List.getElem?_eq_some_iff.mp hn).1)) hn).foot e
theorem SR.fz_new (x : SR Λ z) {a : Addr} (q : z.s.heap.get? a = none) : z.W.fz a = none := Option.eq_none_iff_forall_ne_some.mpr fun _ e => ns q (x.fz _ _ e)
theorem SR.foot_new (x : SR Λ z) {a : Addr} (q : z.s.heap.get? a = none) (f : foot z.W a) : False := (x.there f).elim fun _ e => ns q e
theorem SR.old {W' : Wd} {s' : Shared} (x : SR Λ z) (L : Le z.W W') (hm : W'.mu = z.W.mu) (f : ∀ a o, W'.fz a = some o → s'.heap.get? a = some o) (nf : ∀ a, foot z.W a → W'.fz a = none)
    (k : ∀ a o, foot z.W a → z.s.heap.get? a = some o → s'.heap.get? a = some o) : SR Λ ⟨W', s', z.σ⟩ :=
  ⟨fun a o e => L.fz _ _ (x.base a o e), f, by rw [hm]; exact x.len,
    fun n o p h1 h2 => (x.obj n o p h1 (hm ▸ h2)).up L fun a o e => k a o ⟨p, List.mem_of_getElem? (hm ▸ h2), e⟩,
    by rw [hm]; exact x.apart, fun a => by unfold foot; rw [hm]; exact nf a⟩
theorem SR.keeps {s' : Shared} (x : SR Λ z) (k : Kp z.s.heap s'.heap) : SR Λ ⟨z.W, s', z.σ⟩ := x.old (.refl _) rfl (fun _ _ e => k _ _ (x.fz _ _ e)) x.nofz fun a o _ => k a o
theorem Go.new {h' : Heap} {tk : Nat} (x : SR Λ z) (k : Kp z.s.heap h') : Go Λ X z ⟨z.W, { z.s with heap := h', toks := tk }, z.σ⟩ :=
  ⟨.refl _, rfl, fun a o e _ _ => exactly (k a o e), fun _ _ _ f _ => ⟨f, id⟩, rfl, rfl, x.keeps k⟩
noncomputable def Wd.frz (W : Wd) (a : Addr) (o : Obj) : Wd := ⟨fun b => cond (Nat.beq b a) (some o) (W.fz b), W.mu, W.fr⟩
theorem frz_self {W : Wd} {a : Addr} {o : Obj} : (W.frz a o).fz a = some o := by show cond (Nat.beq a a) _ _ = _; rw [Nat.beq_refl]; rfl
theorem frz_ne {W : Wd} {a b : Addr} {o : Obj} (h : b ≠ a) : (W.frz a o).fz b = W.fz b := by
  show cond (Nat.beq b a) _ _ = _
  rw [Bool.eq_false_iff.mpr fun z => h (Nat.eq_of_beq_eq_true z)]; rfl
theorem Go.frz {h' : Heap} {tk : Nat} {a : Addr} {o : Obj} (x : SR Λ z) (k : Kp z.s.heap h') (ha : z.s.heap.get? a = none) (ho : h'.get? a = some o) : Go Λ X z ⟨z.W.frz a o, { z.s with heap := h', toks := tk }, z.σ⟩ := by
  have l : ∀ b o', z.W.fz b = some o' → (z.W.frz a o).fz b = some o' := fun b o' e => (frz_ne (ne_none ha (x.fz _ _ e))).trans e
  refine ⟨⟨l, fun _ _ h => h⟩, rfl, fun b o' e _ _ => exactly (k b o' e), fun b o' hb f _ => ⟨f, fun e => (frz_ne (ne_none ha hb)).trans e⟩, rfl, rfl, x.old ⟨l, fun _ _ h => h⟩ rfl (fun b o' e => ?_) (fun b f => (frz_ne fun (q : b = a) => x.foot_new ha (q ▸ f)).trans (x.nofz b f)) fun b o' _ => k b o'⟩
  by_cases q : b = a
  · subst q; rw [frz_self] at e; exact Option.some.inj e ▸ ho
  · rw [frz_ne q] at e; exact k _ _ (x.fz _ _ e)
noncomputable def Wd.own (W : Wd) (p : Addr × Addr) : Wd := ⟨W.fz, W.mu ++ [p], W.fr⟩
theorem own_at {W : Wd} {p q : Addr × Addr} {n : Nat} (e : (W.own p).mu[n]? = some q) : W.mu[n]? = some q ∨ (n = W.mu.length ∧ q = p) := by
  by_cases hn : n < W.mu.length
  · exact .inl ((List.getElem?_append_left hn).symm.trans e)
  · have h : n = W.mu.length := Nat.le_antisymm (Nat.le_of_lt_succ (by have := (List.getElem?_eq_some_iff.mp e).1; rwa [show (W.own p).mu = W.mu ++ [p] from rfl, List.length_append] at this)) (Nat.not_lt.mp hn)
    exact .inr ⟨h, by rw [h, show (W.own p).mu = W.mu ++ [p] from rfl, List.getElem?_append_right (Nat.le_refl _), Nat.sub_self] at e; exact (Option.some.inj e).symm⟩
theorem Wd.own_le (W : Wd) (p : Addr × Addr) : Le W (W.own p) := ⟨fun _ _ h => h, fun n q h => (List.getElem?_append_left (List.getElem?_eq_some_iff.mp h).1).trans h⟩
theorem own_foot {W : Wd} {p : Addr × Addr} {a : Addr} : foot (W.own p) a → foot W a ∨ a = p.1 ∨ a = p.2 := fun ⟨q, hq, e⟩ =>
  (List.mem_append.mp hq).imp (fun h => ⟨q, h, e⟩) fun h => by rw [List.mem_singleton.mp h] at e; exact e
theorem own_rep {p : Addr × Addr} (x : SR Λ z) : Rep Λ (z.W.own p) (.ref p.1) (.ref z.σ.length) := ⟨p, rfl, by
  rw [x.len, show (z.W.own p).mu = z.W.mu ++ [p] from rfl, List.getElem?_append_right (Nat.le_refl _), Nat.sub_self]; rfl⟩
theorem Go.own {h' : Heap} {tk : Nat} {p : Addr × Addr} {o : HO} (x : SR Λ z) (k : Kp z.s.heap h') (ha : z.s.heap.get? p.1 = none) (hb : z.s.heap.get? p.2 = none) (ho : ORep Λ (z.W.own p) h' p o) :
    Go Λ X z ⟨z.W.own p, { z.s with heap := h', toks := tk }, z.σ ++ [o]⟩ := by
  have L := z.W.own_le p
  have old : ∀ (n : Nat) q, z.W.mu[n]? = some q → p.1 ≠ q.1 ∧ p.1 ≠ q.2 ∧ p.2 ≠ q.1 ∧ p.2 ≠ q.2 := fun n q e =>
    have ⟨o1, e1⟩ := x.there ⟨q, List.mem_of_getElem? e, .inl rfl⟩
    have ⟨o2, e2⟩ := x.there ⟨q, List.mem_of_getElem? e, .inr rfl⟩
    ⟨(ne_none ha e1).symm, (ne_none ha e2).symm, (ne_none hb e1).symm, (ne_none hb e2).symm⟩
  refine ⟨L, rfl, fun b o' e _ _ => exactly (k b o' e), fun b o' hb' nf _ => ⟨fun f => ?_, id⟩, rfl, rfl, ⟨x.base, fun a o e => k _ _ (x.fz a o e), ?_, fun n o' q h1 h2 => ?_, fun n m q r hn h1 h2 => ?_, fun a f => ?_⟩⟩
  · exact (own_foot f).elim nf (·.elim (ne_none ha hb') (ne_none hb hb'))
  · show (z.σ ++ [o]).length = (z.W.mu ++ [p]).length
    rw [List.length_append, List.length_append, x.len]; rfl
  · rcases own_at h2 with h2 | ⟨rfl, rfl⟩
    · exact (x.obj n o' q ((List.getElem?_append_left (x.len ▸ (List.getElem?_eq_some_iff.mp h2).1)).symm.trans h1) h2).up L fun a o _ => k a o
    · rw [← x.len, List.getElem?_append_right (Nat.le_refl _), Nat.sub_self] at h1
      exact Option.some.inj h1 ▸ ho
  · rcases own_at h1 with g1 | ⟨e1, rfl⟩ <;> rcases own_at h2 with g2 | ⟨e3, rfl⟩
    · exact x.apart n m q r hn g1 g2
    · have z := old _ _ g1; exact ⟨z.1.symm, z.2.2.1.symm, z.2.1.symm, z.2.2.2.symm⟩
    · exact old _ _ g2
    · exact absurd (e1.trans e3.symm) hn
  · exact (own_foot f).elim (x.nofz a) (·.elim (· ▸ x.fz_new ha) (· ▸ x.fz_new hb))
theorem Go.turn {h' : Heap} {tk : Nat} {n : Nat} {p : Addr × Addr} {o : HO} (x : SR Λ z) (hp : z.W.mu[n]? = some p)
    (k : ∀ b o, b ≠ p.1 ∧ b ≠ p.2 → z.s.heap.get? b = some o → h'.get? b = some o) (ho : ORep Λ z.W h' p o) : Go Λ X z ⟨z.W, { z.s with heap := h', toks := tk }, z.σ.set n o⟩ := by
  have fp1 : foot z.W p.1 := ⟨p, List.mem_of_getElem? hp, .inl rfl⟩
  have fp2 : foot z.W p.2 := ⟨p, List.mem_of_getElem? hp, .inr rfl⟩
  refine ⟨.refl _, rfl, fun b o' e f _ => exactly (k b o' ⟨fun (q : b = p.1) => f (q ▸ fp1), fun (q : b = p.2) => f (q ▸ fp2)⟩ e), fun _ _ _ f _ => ⟨f, id⟩, rfl, rfl,
    ⟨x.base, fun a o e => k a o ⟨fun (q : a = p.1) => ns (x.nofz a (q ▸ fp1)) e, fun (q : a = p.2) => ns (x.nofz a (q ▸ fp2)) e⟩ (x.fz a o e), List.length_set.trans x.len, fun m o' q h1 h2 => ?_, x.apart, x.nofz⟩⟩
  by_cases hm : n = m
  · subst hm
    rw [List.getElem?_set_self (x.len ▸ (List.getElem?_eq_some_iff.mp hp).1)] at h1
    exact Option.some.inj h1 ▸ Option.some.inj (hp.symm.trans h2) ▸ ho
  · have a := x.apart n m p q hm hp h2
    exact (x.obj m o' q ((List.getElem?_set_ne hm).symm.trans h1) h2).up (.refl _) fun b o' e => k b o' (e.elim (· ▸ ⟨a.1.symm, a.2.2.1.symm⟩) (· ▸ ⟨a.2.1.symm, a.2.2.2.symm⟩))
end
end Mine
namespace Mine
theorem opt.e {α : Type} {o : Option α} {K : α → Prop} {G : Prop} (h : opt o K) (k : ∀ a, o = some a → K a → G) : G := by
  cases o with
  | none => exact h.elim
  | some a => exact k a rfl h
theorem optX.e {α : Type} {o : Option α} {K : α → Prop} {G : Prop} (h : optX o K) (k : ∀ a, o = some a → K a → G) : G := by
  unfold optX at h; exact opt.e h k
theorem ifW.e {c : Bool} {a b G : Prop} (h : ifW c a b) (k1 : c = true → a → G) (k2 : c = false → b → G) : G := by
  cases c with
  | true => exact k1 rfl h
  | false => exact k2 rfl h
theorem map_e {α β : Type} {o : Option α} {f : α → β} {b : β} {P : β → Prop} (e : o.map f = some b) (k : ∀ a, o = some a → P (f a)) : P b := by
  obtain ⟨a, e1, rfl⟩ := Option.map_eq_some_iff.mp e
  exact k a e1
theorem bind_e {α β : Type} {o : Option α} {f : α → Option β} {b : β} {G : Prop} (e : o.bind f = some b) (k : ∀ a, o = some a → f a = some b → G) : G := by
  obtain ⟨a, e1, e2⟩ := Option.bind_eq_some_iff.mp e
  exact k a e1 e2
noncomputable def Rd (h : Heap) (u : Value) (d : PyData) (n : Nat) : Prop := ∃ as, Reads h u d as ∧ d.canLay0 = true ∧ d.depth ≤ n
noncomputable def Rds (h : Heap) (us : List Value) (ds : List PyData) (n : Nat) : Prop := ∃ as, ReadsAll h us ds as ∧ PyData.canLayAll0 ds = true ∧ PyData.depthAll ds ≤ n
theorem suc_e {α : Type} {n : Nat} {k : Nat → Option α} {d : α} {P : Nat → Prop} (e : sucD n k = some d) (h : ∀ m, k m = some d → P (m + 1)) : P n := by
  cases n with
  | zero => exact ns rfl e
  | succ n => exact h n e
theorem rd_leaf {h : Heap} {u : Value} {d0 d : PyData} {n : Nat} (e : sucD n (fun _ => some d0) = some d) (r : Reads h u d0 []) (c : d0.canLay0 = true) (z : d0.depth = 0) : Rd h u d n :=
  suc_e (P := Rd h u d) e fun m q => Option.some.inj q ▸ ⟨[], r, c, z ▸ Nat.zero_le _⟩
section
variable {Λ : Ly} {W : Wd} {h : Heap} (k : ∀ a o, W.fz a = some o → h.get? a = some o)
include k
theorem rd_str (x : Str) (n : Nat) (u : Value) (d : PyData) (r : ∃ t, u = .str x t) (e : toD (.str x) n = some d) : Rd h u d n := by
  obtain ⟨t, rfl⟩ := r
  refine suc_e (P := Rd h _ d) e fun m q => ?_
  cases c : PyData.strOk x with
  | false => rw [c] at q; exact ns rfl q
  | true => rw [c] at q; exact Option.some.inj q ▸ ⟨[], .str x t, c, Nat.zero_le _⟩
theorem rd_sq {T : String} {c : List PyData → PyData} {l : List V} (hc : ∀ a o vs n ds as, h.get? a = some o → o.cls = .type T → o.data = .seq (List.toArray vs) n → ReadsAll h vs ds as → ∃ as, Reads h (.ref a) (c ds) as)
    (c1 : ∀ ds, (c ds).canLay0 = PyData.canLayAll0 ds) (c2 : ∀ ds, (c ds).depth = PyData.depthAll ds + 1)
    (ih : ∀ (n : Nat) us ds, Reps Λ W us l → toDs l n = some ds → Rds h us ds n) (n : Nat) (u : Value) (d : PyData) (r : ∃ a vs, u = .ref a ∧ SqAt W T a vs ∧ Reps Λ W vs l) (e : sucD n (fun n => (toDs l n).map c) = some d) : Rd h u d n := by
  obtain ⟨a, vs, rfl, ⟨m, sl, h1⟩, rs⟩ := r
  refine suc_e (P := Rd h _ d) e fun n q => map_e (P := fun d => Rd h _ d (n + 1)) q fun ds e1 => ?_
  obtain ⟨as, r1, r2, r3⟩ := ih n vs ds rs e1
  obtain ⟨bs, r0⟩ := hc a _ vs m ds as (k _ _ h1) rfl rfl r1
  exact ⟨bs, r0, (c1 ds).trans r2, c2 ds ▸ Nat.succ_le_succ r3⟩
theorem reads_all : ∀ l : List V, ∀ (n : Nat) us ds, Reps Λ W us l → toDs l n = some ds → Rds h us ds n :=
  V.rec_1 (motive_1 := fun v => ∀ (n : Nat) u d, Rep Λ W u v → toD v n = some d → Rd h u d n) (motive_2 := fun l => ∀ (n : Nat) us ds, Reps Λ W us l → toDs l n = some ds → Rds h us ds n)
    (fun n u d (r : u = .none) e => rd_leaf e (r ▸ .none) rfl rfl) (fun b n u d (r : u = .bool b) e => rd_leaf e (r ▸ .bool b) rfl rfl) (fun i n u d r e => r.elim fun t (r : u = .int i t) => rd_leaf e (r ▸ .int i t) rfl rfl) (rd_str k)
    (fun _ => rd_sq k (fun _ _ _ _ _ _ h1 h2 h3 h4 => ⟨_, .tuple h1 h2 h3 h4⟩) (fun _ => rfl) fun _ => rfl) (fun _ => rd_sq k (fun _ _ _ _ _ _ h1 h2 h3 h4 => ⟨_, .list h1 h2 h3 h4⟩) (fun _ => rfl) fun _ => rfl)
    (fun _ _ _ _ _ _ _ e => ns rfl e) (fun _ _ _ _ _ e => ns rfl e) (fun n us ds (r : us = []) e => r ▸ Option.some.inj e ▸ ⟨[], .nil, rfl, Nat.zero_le _⟩)
    fun v l a b n us ds r e => r.uncons (P := fun us => Rds h us ds n) fun u us r1 r2 => bind_e e fun d e1 e2 => map_e (P := fun ds => Rds h (u :: us) ds n) e2 fun ds e2 =>
      have ⟨as, x1, x2, x3⟩ := a n u d r1 e1
      have ⟨bs, y1, y2, y3⟩ := b n us ds r2 e2
      ⟨_, .cons x1 y1, Bool.and_eq_true_iff.mpr ⟨x2, y2⟩, Nat.max_le.mpr ⟨x3, y3⟩⟩
theorem reads_of {v : V} {n : Nat} {u : Value} {d : PyData} (r : Rep Λ W u v) (e : toD v n = some d) : Rd h u d n := by
  have ⟨as, x1, x2, x3⟩ := reads_all k [v] n [u] [d] (.one r) (by show (toD v n).bind _ = _; rw [e]; rfl)
  cases x1 with
  | cons x1 _ => exact ⟨_, x1, andL x2, (Nat.max_le.mp x3).1⟩
end
section
variable {Λ : Ly} {W : Wd}
theorem Reps.ind {P : List V → List Value → Prop} (h0 : P [] []) (h1 : ∀ v l u us, Rep Λ W u v → Reps Λ W us l → P l us → P (v :: l) (u :: us)) : ∀ l us, Reps Λ W us l → P l us := by
  intro l
  induction l with
  | nil => intro us (h : us = []); exact h ▸ h0
  | cons v l ih => intro us h; exact h.uncons fun u us a b => h1 v l u us a b (ih us b)
theorem Reps.nil : Reps Λ W [] [] := rfl
theorem Reps.length {us : List Value} {l : List V} : Reps Λ W us l → us.length = l.length := Reps.ind (P := fun l us => us.length = l.length) rfl (fun _ _ _ _ _ _ => congrArg (· + 1)) l us
theorem Reps.append {us ws : List Value} {l m : List V} (h : Reps Λ W us l) (h' : Reps Λ W ws m) : Reps Λ W (us ++ ws) (l ++ m) := Reps.ind (P := fun l us => Reps Λ W (us ++ ws) (l ++ m)) h' (fun _ _ _ _ r _ ih => .cons r ih) l us h
theorem Reps.get {us : List Value} {l : List V} (h : Reps Λ W us l) : ∀ {i : Nat} {x : V}, l[i]? = some x → ∃ u, us[i]? = some u ∧ Rep Λ W u x :=
  Reps.ind (P := fun l us => ∀ {i : Nat} {x : V}, l[i]? = some x → ∃ u, us[i]? = some u ∧ Rep Λ W u x) (fun e => ns rfl e) (fun _ _ u _ r _ ih i x e => by
    cases i with
    | zero => exact ⟨u, rfl, Option.some.inj e ▸ r⟩
    | succ i => exact ih e) l us h
theorem Reps.take {us : List Value} {l : List V} (h : Reps Λ W us l) : ∀ k : Nat, Reps Λ W (us.take k) (l.take k) :=
  Reps.ind (P := fun l us => ∀ k : Nat, Reps Λ W (us.take k) (l.take k)) (fun k => by rw [List.take_nil, List.take_nil]; exact .nil) (fun _ _ _ _ r _ ih k => by
    cases k with
    | zero => exact .nil
    | succ k => exact .cons r (ih k)) l us h
theorem Reps.set {us : List Value} {l : List V} {u : Value} {x : V} (h : Reps Λ W us l) (hx : Rep Λ W u x) : ∀ k : Nat, Reps Λ W (us.set k u) (l.set k x) :=
  Reps.ind (P := fun l us => ∀ k : Nat, Reps Λ W (us.set k u) (l.set k x)) (fun _ => .nil) (fun _ _ _ _ r rs ih k => by
    cases k with
    | zero => exact .cons hx rs
    | succ k => exact .cons r (ih k)) l us h
theorem Reps.reverse {us : List Value} {l : List V} (h : Reps Λ W us l) : Reps Λ W us.reverse l.reverse :=
  Reps.ind (P := fun l us => Reps Λ W us.reverse l.reverse) .nil (fun _ _ _ _ r _ ih => by rw [List.reverse_cons, List.reverse_cons]; exact ih.append (.one r)) l us h
theorem Reps.replicate {u : Value} {x : V} (r : Rep Λ W u x) : ∀ n : Nat, Reps Λ W (List.replicate n u) (List.replicate n x)
  | 0 => .nil
  | n + 1 => .cons r (Reps.replicate r n)
end
end Mine
namespace Mine
noncomputable def PK (Λ : Ly) (z : Z) (K : KV) (Q : Value → Shared → Prop) : Prop := ∀ v u z', K v z'.σ → Go Λ NoX z z' → Rep Λ z'.W u v → Q u z'.s
section
variable {Λ : Ly} {A : Around} {z z' : Z} {K : KV} {Q : Value → Shared → Prop} {E : Value → Shared → Prop} {v : V} {u : Value} {h' : Heap} {tk : Nat}
theorem PK.go (q : PK Λ z K Q) (g : Go Λ NoX z z') : PK Λ z' K Q := fun v u z'' k g' r => q v u z'' k (g.trans g') r
theorem PK.keeps (q : PK Λ z K Q) (x : SR Λ z) (kp : Kp z.s.heap h') (k : K v z.σ) (r : Rep Λ z.W u v) : Q u { z.s with heap := h', toks := tk } := q v u ⟨z.W, { z.s with heap := h', toks := tk }, z.σ⟩ k (.new x kp) r
theorem PK.tok (q : PK Λ z K Q) (x : SR Λ z) (k : K v z.σ) (r : Rep Λ z.W u v) : Q u { z.s with toks := tk } := q.keeps x (fun _ _ e => e) k r
theorem PK.same (q : PK Λ z K Q) (x : SR Λ z) (k : K v z.σ) (r : Rep Λ z.W u v) : Q u z.s := q v u z k (.refl x) r
theorem PK.boo {b : Bool} (q : PK Λ z K Q) (x : SR Λ z) (k : K (.boo b) z.σ) : Q (.bool b) z.s := q.same x k rfl
theorem PK.int {i : Int} {t : Tok} (q : PK Λ z K Q) (x : SR Λ z) (k : K (.int i) z.σ) : Q (.int i t) { z.s with toks := tk } := q.tok x k ⟨_, rfl⟩
theorem PK.str {i : Str} {t : Tok} (q : PK Λ z K Q) (x : SR Λ z) (k : K (.str i) z.σ) : Q (.str i t) { z.s with toks := tk } := q.tok x k ⟨_, rfl⟩
section
variable {a : Addr} {us : List Value} {l : List V} {n : Nat} {sl : Array (Option Value)}
theorem PK.lst (q : PK Λ z K Q) (x : SR Λ z) (kp : Kp z.s.heap h') (ha : z.s.heap.get? a = none) (ho : h'.get? a = some ⟨.type "list", none, .seq us.toArray n, sl⟩) (rs : Reps Λ z.W us l) (k : K (.lst l) z.σ) : Q (.ref a) { z.s with heap := h', toks := tk } :=
  have g := Go.frz (X := NoX) (tk := tk) x kp ha ho
  q (.lst l) (.ref a) ⟨z.W.frz a ⟨.type "list", none, .seq us.toArray n, sl⟩, { z.s with heap := h', toks := tk }, z.σ⟩ k g ⟨a, us, rfl, ⟨n, sl, frz_self⟩, Reps.le rs g.le⟩
theorem PK.tup (q : PK Λ z K Q) (x : SR Λ z) (kp : Kp z.s.heap h') (ha : z.s.heap.get? a = none) (ho : h'.get? a = some ⟨.type "tuple", none, .seq us.toArray n, sl⟩) (rs : Reps Λ z.W us l) (k : K (.tup l) z.σ) : Q (.ref a) { z.s with heap := h', toks := tk } :=
  have g := Go.frz (X := NoX) (tk := tk) x kp ha ho
  q (.tup l) (.ref a) ⟨z.W.frz a ⟨.type "tuple", none, .seq us.toArray n, sl⟩, { z.s with heap := h', toks := tk }, z.σ⟩ k g ⟨a, us, rfl, ⟨n, sl, frz_self⟩, Reps.le rs g.le⟩
end
theorem push_old {h : Heap} {o : Obj} : Kp h (h.push o) := fun _ _ e => Heap.get?_push_of_some _ e
theorem push2_old {h : Heap} {o o' : Obj} : Kp h ((h.push o).push o') := fun _ _ e => Heap.get?_push_of_some _ (Heap.get?_push_of_some _ e)
theorem new_none {h : Heap} : h.get? h.objs.size = none := none_of_size (Nat.le_refl _)
theorem PK.pushL {us : List Value} {l : List V} (q : PK Λ z K Q) (x : SR Λ z) (rs : Reps Λ z.W us l) (k : K (.lst l) z.σ) : Q (.ref z.s.heap.objs.size) { z.s with heap := z.s.heap.push { cls := .type "list", data := .seq us.toArray }, toks := tk } :=
  q.lst x push_old new_none (Heap.get?_push_size _ rfl) rs k
theorem bits_of {a : Int} {k : Nat} (h : a.natAbs < 2 ^ k) : Builtin.Int.intBits a ≤ k := by
  unfold Builtin.Int.intBits
  split
  · exact Nat.zero_le _
  · rename_i q
    exact (Nat.log2_lt fun z => q (by simp [Int.natAbs_eq_zero.mp z])).mpr h
theorem small_div {a b : Int} (h : b.natAbs < 2 ^ 256) : Builtin.divisionGoesByPylong a b = false := by
  unfold Builtin.divisionGoesByPylong
  have : (if (b == 0) = true then 0 else Nat.log2 b.natAbs / 30 + 1) ≤ 300 := by
    split
    · decide
    · rename_i q
      have := (Nat.log2_lt fun z => q (by simp [Int.natAbs_eq_zero.mp z])).mpr h
      omega
  show (decide ((if (b == 0) = true then 0 else Nat.log2 b.natAbs / 30 + 1) > 300) && _) = false
  rw [decide_eq_false (Nat.not_lt.mpr this)]; rfl
theorem sh_ok {b : Int} {x : Nat} (h : x ≤ 256) (h1 : b ≤ 1000) : (x : Int) + b ≤ 2000 := by omega
theorem g_int {op : Operator} {a b : Int} {t u : Tok} (x : SR Λ z) (h : intW op a b (kv K z.σ)) (q : PK Λ z K Q) : wpAny (model Λ.prog Λ.w) A (binaryOp op (.int a t) (.int b u)) Q E z.s := by
  cases op with
  | Add => exact add_int (q.int x h)
  | Sub => exact sub_int (q.int x h)
  | Mult => exact mul_int (q.int x h.2) (h.1.elim (fun z => .of_left (bits_of z)) fun z => .of_right (bits_of z))
  | MatMult => exact h.elim
  | Div => exact h.elim
  | Mod => exact mod_int' h.1 (q.int x h.2)
  | Pow =>
    refine pow_int h.1.1 ?_ (q.int x h.2)
    have h2 : (Builtin.Int.intBits _ : Int) * _ ≤ 64 * 1000 := Int.mul_le_mul (by exact_mod_cast bits_of h.1.2.2) h.1.2.1 h.1.1 (by decide)
    exact Int.le_trans h2 (by decide)
  | LShift =>
    refine lshift_int h.1.1 ?_ (q.int x h.2)
    have := bits_of h.1.2.2
    have := h.1.2.1
    omega
  | RShift => exact rshift_int h.1 (q.int x h.2)
  | BitOr => exact or_int (q.int x h)
  | BitXor => exact xor_int (q.int x h)
  | BitAnd => exact and_int (q.int x h)
  | FloorDiv => exact floordiv_int h.1.1 (q.int x h.2) (.inl (small_div h.1.2))
theorem SqAt.list {W : Wd} {a : Addr} {us : List Value} {h : Heap} (x : SqAt W "list" a us) (k : ∀ a o, W.fz a = some o → h.get? a = some o) : h.IsList a us.toArray := x.elim fun n x => x.elim fun _ e => ⟨_, k _ _ e, rfl, n, rfl⟩
theorem SqAt.tuple {W : Wd} {a : Addr} {us : List Value} {h : Heap} (x : SqAt W "tuple" a us) (k : ∀ a o, W.fz a = some o → h.get? a = some o) : h.IsTuple a us.toArray := x.elim fun n x => x.elim fun _ e => ⟨_, k _ _ e, rfl, n, rfl⟩
theorem lists_add {s : Shared} {l b : Addr} {vs ws : List Value} (hl : s.heap.IsList l vs.toArray) (hb : s.heap.IsList b ws.toArray) (hz : vs.length + ws.length ≤ sizeLine)
    (h : Q (.ref s.heap.objs.size) { s with heap := s.heap.push { cls := .type "list", data := .seq (vs ++ ws).toArray } }) :
    wpAny (model Λ.prog Λ.w) A (binaryOp .Add (.ref l) (.ref b)) Q E s := by
  obtain ⟨⟨c1, d1, b1, t1⟩, ho, hc, n, hd⟩ := id hl
  obtain ⟨⟨c2, d2, b2, t2⟩, ho2, hc2, n2, hd2⟩ := id hb
  cases hc; cases hd; cases hc2; cases hd2
  refine concat_meets ⟨_, ho, rfl⟩ ⟨_, ho2, rfl⟩ noFill_list_add seq_list_add F.slot_list_add F.entry_list_add (F.args_list_add_2 _ _) (list_addW l b vs.toArray ws.toArray n n2 d1 d2 t1 t2 hz) ⟨ho, ho2, ?_⟩
  rw [List.append_toArray]; exact h
theorem addW.e {op : Operator} {n : Nat} {P : Prop} {G : Operator → Prop} (h : addW op n P) (k : n ≤ 1000 → P → G .Add) : G op := by
  cases op with
  | Add => exact k h.1 h.2
  | _ => exact h.elim
theorem line_le {n : Nat} (h : n ≤ 1000) : n ≤ sizeLine := Nat.le_trans h (by decide)
theorem line_le' {n : Nat} (h : n ≤ 100000) : n ≤ sizeLine := Nat.le_trans h (by decide)
section
variable {b : V} {w : Value} {P : Value → Prop}
theorem Rep.lst {W : Wd} {l : List V} (r : Rep Λ W w (.lst l)) (k : ∀ a us, SqAt W "list" a us → Reps Λ W us l → P (.ref a)) : P w := r.elim fun a r => r.elim fun us e => Eq.symm e.1 ▸ k a us e.2.1 e.2.2
theorem Rep.tup {W : Wd} {l : List V} (r : Rep Λ W w (.tup l)) (k : ∀ a us, SqAt W "tuple" a us → Reps Λ W us l → P (.ref a)) : P w := r.elim fun a r => r.elim fun us e => Eq.symm e.1 ▸ k a us e.2.1 e.2.2
theorem V.I.e {K : Int → Prop} {W : Wd} (h : b.I K) (r : Rep Λ W w b) (k : ∀ i t, K i → P (.int i t)) : P w := by
  cases b with
  | int i => exact r.elim fun t e => Eq.symm e ▸ k i t h
  | _ => exact h.elim
theorem V.S.e {K : Str → Prop} {W : Wd} (h : b.S K) (r : Rep Λ W w b) (k : ∀ i t, K i → P (.str i t)) : P w := by
  cases b with
  | str i => exact r.elim fun t e => Eq.symm e ▸ k i t h
  | _ => exact h.elim
theorem V.B.e {K : Bool → Prop} {W : Wd} (h : b.B K) (r : Rep Λ W w b) (k : ∀ i, K i → P (.bool i)) : P w := by
  cases b with
  | boo i => exact Eq.symm (r : w = .bool i) ▸ k i h
  | _ => exact h.elim
theorem V.N.e {K : Prop} {W : Wd} (h : b.N K) (r : Rep Λ W w b) (k : K → P .none) : P w := by
  cases b with
  | non => exact Eq.symm (r : w = .none) ▸ k h
  | _ => exact h.elim
theorem V.L.e {K : List V → Prop} {W : Wd} (h : b.L K) (r : Rep Λ W w b) (k : ∀ l a us, K l → b = .lst l → SqAt W "list" a us → Reps Λ W us l → P (.ref a)) : P w := by
  cases b with
  | lst l => exact r.lst fun a us => k l a us h rfl
  | _ => exact h.elim
theorem V.T.e {K : List V → Prop} {W : Wd} (h : b.T K) (r : Rep Λ W w b) (k : ∀ l a us, K l → SqAt W "tuple" a us → Reps Λ W us l → P (.ref a)) : P w := by
  cases b with
  | tup l => exact r.tup fun a us => k l a us h
  | _ => exact h.elim
theorem V.R.e {K : Nat → Prop} {W : Wd} (h : b.R K) (r : Rep Λ W w b) (k : ∀ (n : Nat) (p : Addr × Addr), K n → b = .ref n → W.mu[n]? = some p → P (.ref p.1)) : P w := by
  cases b with
  | ref n => exact r.elim fun p e => Eq.symm e.1 ▸ k n p h rfl e.2
  | _ => exact h.elim
end
theorem g_bin {op : Operator} {a b : V} {u w : Value} (x : SR Λ z) (h : binW op a b (kv K z.σ)) (ra : Rep Λ z.W u a) (rb : Rep Λ z.W w b) (q : PK Λ z K Q) : wpAny (model Λ.prog Λ.w) A (binaryOp op u w) Q E z.s := by
  cases a with
  | int i => obtain ⟨t, rfl⟩ := ra; exact V.I.e (P := fun w => wpAny _ A (binaryOp op _ w) Q E z.s) h rb fun j t' h => g_int x h q
  | str i => obtain ⟨t, rfl⟩ := ra; exact V.S.e (P := fun w => wpAny _ A (binaryOp op _ w) Q E z.s) h rb fun j t' h => addW.e (G := fun op => wpAny _ A (binaryOp op _ _) Q E z.s) h fun hz h => add_str (fun t' tk => q.str x h) (Nat.le_trans hz (by decide))
  | lst l =>
    exact ra.lst (P := fun u => wpAny _ A (binaryOp op u w) Q E z.s) fun a1 us s1 r1 => V.L.e (P := fun w => wpAny _ A (binaryOp op _ w) Q E z.s) h rb fun m a2 ws h _ s2 r2 => addW.e (G := fun op => wpAny _ A (binaryOp op _ _) Q E z.s) h fun hz h =>
      lists_add (s1.list x.fz) (s2.list x.fz) (line_le (by rw [r1.length, r2.length]; exact hz)) (q.pushL (tk := z.s.toks) x (r1.append r2) h)
  | _ => exact h.elim
theorem Kp.drf (x : SR Λ z) {n : Nat} {d : PyData} (r : Rep Λ z.W u v) (e : toD (drf z.σ v) n = some d) : Rd z.s.heap u d n := by
  cases v with
  | ref m =>
    obtain ⟨p, rfl, hp⟩ := r
    have e : toD (drfO (.ref m) z.σ[m]?) n = some d := e
    cases hσ : z.σ[m]? with
    | none => rw [hσ] at e; exact ns rfl e
    | some o =>
      rw [hσ] at e
      cases o with
      | lst l =>
        obtain ⟨_, us, ⟨o, h1, h2, k, h3⟩, hs⟩ := x.obj _ _ _ hσ hp
        refine suc_e (P := Rd z.s.heap _ d) e fun n q => map_e (P := fun d => Rd _ _ d (n + 1)) q fun ds e1 => ?_
        exact (reads_all x.fz l n us ds hs e1).elim fun as r => ⟨_, .list h1 h2 h3 r.1, r.2.1, Nat.succ_le_succ r.2.2⟩
      | _ => exact ns rfl e
  | _ => exact reads_of x.fz r e
noncomputable def CmpG (Λ : Ly) (A : Around) (z : Z) (op : CmpOp) (u w : Value) (Q E : Value → Shared → Prop) : Prop := wpAny (model Λ.prog Λ.w) A (compareOp op u w) Q E z.s
theorem eqO.e {a b : V} {c : Bool} {G : Prop} (e : eqO a b = some c) (k : ∀ x y, toD a 6 = some x → toD b 6 = some y → c = PyData.eqv x y → G) : G :=
  bind_e e fun x e1 e => map_e (P := fun c' => c' = c → G) e (fun y e2 e3 => k x y e1 e2 e3.symm) rfl
theorem eq_ok {a b : V} {w : Value} {P : Bool → Prop} {R : Prop} (x : SR Λ z) (h : eqW (drf z.σ a) (drf z.σ b) P) (ra : Rep Λ z.W u a) (rb : Rep Λ z.W w b)
    (k : ∀ d1 d2 as bs, Reads z.s.heap u d1 as → Reads z.s.heap w d2 bs → d1.canLay0 = true → d2.canLay0 = true → min d1.depth d2.depth ≤ 6 → P (PyData.eqv d1 d2) → R) : R := by
  have main (h : optX (eqO (drf z.σ a) (drf z.σ b)) P) : R := h.e fun c e h => eqO.e e fun d1 d2 e1 e2 ec =>
    (Kp.drf x ra e1).elim fun as x => (Kp.drf ‹SR Λ z› rb e2).elim fun bs y => k d1 d2 as bs x.1 y.1 x.2.1 y.2.1 (Nat.le_trans (Nat.min_le_left _ _) x.2.2) (ec ▸ h)
  revert h main
  cases ha : drf z.σ a with
  | int i =>
    cases hb : drf z.σ b with
    | int j =>
      intro h _
      exact (Kp.drf (n := 6) (d := .int i) x ra (by rw [ha]; rfl)).elim fun as x1 => (Kp.drf (n := 6) (d := .int j) x rb (by rw [hb]; rfl)).elim fun bs y1 => k _ _ as bs x1.1 y1.1 rfl rfl (Nat.zero_le _) (show P (PyData.eqv (.int i) (.int j)) from (show PyData.eqv (.int i) (.int j) = decide (i = j) by simp only [PyData.eqv]; rfl) ▸ h)
    | _ => exact fun h main => main h
  | _ => exact fun h main => main h
theorem inO.e {a : V} {l : List V} {c : Bool} {G : Prop} (e : inO a l = some c) (k : ∀ x y, toD a 6 = some x → toDs l 6 = some y → c = y.any (fun y => PyData.eqv y x) → G) : G :=
  bind_e e fun x e1 e => map_e (P := fun c' => c' = c → G) e (fun y e2 e3 => k x y e1 e2 e3.symm) rfl
theorem in_ok {a b : V} {w : Value} {P : Bool → Prop} {R : Value → Prop} (x : SR Λ z) (h : inW a b P) (ra : Rep Λ z.W u a) (rb : Rep Λ z.W w b)
    (kt : ∀ c d ds as bs, Reads z.s.heap (.ref c) (.tuple ds) as → Reads z.s.heap u d bs → PyData.canLayAll0 ds = true → d.canLay0 = true → min (PyData.depthAll ds) d.depth ≤ 6 → P (ds.any fun y => PyData.eqv y d) → R (.ref c))
    (kl : ∀ c d ds as bs, Reads z.s.heap (.ref c) (.list ds) as → Reads z.s.heap u d bs → PyData.canLayAll0 ds = true → d.canLay0 = true → min (PyData.depthAll ds) d.depth ≤ 6 → P (ds.any fun y => PyData.eqv y d) → R (.ref c)) : R w := by
  cases b with
  | tup l =>
    exact rb.tup fun c us s1 rs => s1.elim fun n s1 => s1.elim fun sl s1 => optX.e h fun c' e h => inO.e e fun d ds e1 e2 ec => (reads_of x.fz ra e1).elim fun bs y => (reads_all x.fz l 6 us ds rs e2).elim fun as w =>
      kt c d ds _ bs (.tuple (x.fz _ _ s1) rfl rfl w.1) y.1 w.2.1 y.2.1 (Nat.le_trans (Nat.min_le_left _ _) w.2.2) (ec ▸ h)
  | lst l =>
    exact rb.lst fun c us s1 rs => s1.elim fun n s1 => s1.elim fun sl s1 => optX.e h fun c' e h => inO.e e fun d ds e1 e2 ec => (reads_of x.fz ra e1).elim fun bs y => (reads_all x.fz l 6 us ds rs e2).elim fun as w =>
      kl c d ds _ bs (.list (x.fz _ _ s1) rfl rfl w.1) y.1 w.2.1 y.2.1 (Nat.le_trans (Nat.min_le_left _ _) w.2.2) (ec ▸ h)
  | _ => exact h.elim
noncomputable def Shp (b : Bool) (u : Value) : Prop := handedIn u = true ∧ PySem.plainIs u .none = true ∧ (u == .none) = b
theorem rep_shp {W : Wd} (r : Rep Λ W u v) : Shp (isNon v) u := by
  cases v with
  | non => exact Eq.symm (r : u = _) ▸ ⟨rfl, rfl, rfl⟩
  | boo b => exact Eq.symm (r : u = _) ▸ ⟨rfl, rfl, rfl⟩
  | int b => exact r.elim fun _ e => Eq.symm e ▸ ⟨rfl, rfl, rfl⟩
  | str b => exact r.elim fun _ e => Eq.symm e ▸ ⟨rfl, rfl, rfl⟩
  | tup b => exact r.elim fun _ r => r.elim fun _ e => Eq.symm e.1 ▸ ⟨rfl, rfl, rfl⟩
  | lst b => exact r.elim fun _ r => r.elim fun _ e => Eq.symm e.1 ▸ ⟨rfl, rfl, rfl⟩
  | obj b => exact r.elim fun _ r => r.elim fun _ e => Eq.symm e.1 ▸ ⟨rfl, rfl, rfl⟩
  | ref b => exact r.elim fun _ e => Eq.symm e.1 ▸ ⟨rfl, rfl, rfl⟩
theorem g_ints {op : CmpOp} {a b : V} {w : Value} {P : Bool → Prop} {p : Int → Int → Bool} (ra : Rep Λ z.W u a) (rb : Rep Λ z.W w b) (h : a.I fun i => b.I fun j => P (p i j)) (q : ∀ b, P b → Q (.bool b) z.s)
    (k : ∀ i j t t', Q (.bool (p i j)) z.s → wpAny (model Λ.prog Λ.w) A (compareOp op (.int i t) (.int j t')) Q E z.s) : wpAny (model Λ.prog Λ.w) A (compareOp op u w) Q E z.s :=
  V.I.e (P := fun u => wpAny _ A (compareOp op u w) Q E z.s) h ra fun i t h => V.I.e (P := fun w => wpAny _ A (compareOp op _ w) Q E z.s) h rb fun j t' h => k i j t t' (q _ h)
theorem g_cmp {op : CmpOp} {a b : V} {w : Value} {P : Bool → Prop} (hu : A.units + 20 < cLine) (x : SR Λ z) (h : cmpW z.σ op a b P) (ra : Rep Λ z.W u a) (rb : Rep Λ z.W w b) (q : ∀ b, P b → Q (.bool b) z.s) : wpAny (model Λ.prog Λ.w) A (compareOp op u w) Q E z.s := by
  have le6 {m : Nat} (h : m ≤ 6) : A.units + m < cLine := by omega
  have le7 {m : Nat} (h : m ≤ 6) : A.units + 1 + m < cLine := by omega
  cases op with
  | Eq => exact eq_ok x h ra rb fun d1 d2 as bs r1 r2 c1 c2 dp h => SeqAt.compareEq_reads r1 r2 c1 c2 (le6 dp) (q _ h)
  | NotEq => exact eq_ok x h ra rb fun d1 d2 as bs r1 r2 c1 c2 dp h => SeqAt.compareNe_reads r1 r2 c1 c2 (le6 dp) (q _ h)
  | Lt => exact g_ints ra rb h q fun _ _ _ _ => lt_int
  | LtE => exact g_ints ra rb h q fun _ _ _ _ => le_int
  | Gt => exact g_ints ra rb h q fun _ _ _ _ => gt_int
  | GtE => exact g_ints ra rb h q fun _ _ _ _ => ge_int
  | Is => exact V.N.e (P := fun w => wpAny _ A (compareOp .Is u w) Q E z.s) h rb fun h => wpAny_is_plain (rep_shp ra).2.1 ((rep_shp ra).2.2 ▸ q _ h)
  | IsNot => exact V.N.e (P := fun w => wpAny _ A (compareOp .IsNot u w) Q E z.s) h rb fun h => wpAny_isNot_plain (rep_shp ra).2.1 ((rep_shp ra).2.2 ▸ q _ h)
  | In => exact in_ok (R := fun w => wpAny _ A (compareOp .In u w) Q E z.s) x h ra rb (fun c d ds as bs r1 r2 c1 c2 dp h => SeqAt.in_tuple_reads r1 r2 c1 c2 (le7 dp) (q _ h)) fun c d ds as bs r1 r2 c1 c2 dp h => SeqAt.in_list_reads r1 r2 c1 c2 (le7 dp) (q _ h)
  | NotIn => exact in_ok (R := fun w => wpAny _ A (compareOp .NotIn u w) Q E z.s) x h ra rb (fun c d ds as bs r1 r2 c1 c2 dp h => SeqAt.notIn_tuple_reads r1 r2 c1 c2 (le7 dp) (q _ h)) fun c d ds as bs r1 r2 c1 c2 dp h => SeqAt.notIn_list_reads r1 r2 c1 c2 (le7 dp) (q _ h)
end
end Mine
namespace Mine
noncomputable def attrOk (K : Frag) (C : Addr) (n : Str) : Bool := plainGet K C n && hasDictIn K C && (findIn K (.ref C) n).any (fun a => noGet K a) &&
  (findIn K (.ref C) "__setattr__" == some (some (.builtin "object.__setattr__"))) && plainOver K C && (takerIn K C n == some none)
structure Gr (Λ : Ly) : Prop where
  kin : Λ.K.In Λ.base
  inj : ∀ x y, x < Λ.T.n → y < Λ.T.n → Λ.T.nm x = Λ.T.nm y → x = y
  fn : ∀ c x, x ∈ Λ.T.flds c → x < Λ.T.n
  fl : ∀ c, (Λ.T.flds c).length ≤ 100
  attr : ∀ c x, x ∈ Λ.T.flds c → attrOk Λ.K (Λ.cad c) (Λ.T.nm x) = true
section
variable {Λ : Ly} {A : Around} {z : Z} {K : KV} {Q : Value → Shared → Prop} {E : Value → Shared → Prop} {W : Wd}
theorem fidx_ind {x : Nat} {P : List Nat → Nat → Prop} (h0 : ∀ r, P (x :: r) 0) (h1 : ∀ y r i, y ≠ x → fidx x r = some i → P r i → P (y :: r) (i + 1)) : ∀ fs i, fidx x fs = some i → P fs i := by
  intro fs
  induction fs with
  | nil => intro i e; exact ns rfl e
  | cons y r ih =>
    intro i (e : cond (Nat.beq x y) (some 0) ((fidx x r).map Nat.succ) = some i)
    cases q : Nat.beq x y with
    | true => rw [q] at e; exact Nat.eq_of_beq_eq_true q ▸ Option.some.inj e ▸ h0 r
    | false => rw [q] at e; exact map_e (P := P (y :: r)) e fun i e => h1 y r i (fun z => by rw [z, Nat.beq_refl] at q; cases q) e (ih i e)
theorem fidx_at {x : Nat} : ∀ fs i, fidx x fs = some i → fs[i]? = some x := fidx_ind (fun _ => rfl) fun _ _ _ _ _ h => h
theorem key_is (a b : Str) (t : Tok) : (Value.str a t).isStr b = decide (a = b) := by
  show (a == b) = _
  by_cases h : a = b <;> simp [h]
theorem key_no {G : Gr Λ} {f x : Nat} {e : DictEntry} {t : Tok} (h1 : f < Λ.T.n) (h2 : x < Λ.T.n) (n : f ≠ x) (k : e.key = .str (Λ.T.nm f) t) : e.key.isStr (Λ.T.nm x) = false := by
  rw [k, key_is]; exact decide_eq_false fun z => n (G.inj _ _ h1 h2 z)
theorem key_yes {x : Nat} {e : DictEntry} {t : Tok} (k : e.key = .str (Λ.T.nm x) t) : e.key.isStr (Λ.T.nm x) = true := by rw [k, key_is]; exact decide_eq_true rfl
theorem Keys.uncons {fs : List Nat} {e : DictEntry} {es : List DictEntry} {P : List Nat → Prop} (h : Keys Λ fs (e :: es)) (k : ∀ f r t, e.hash = PyData.keyHash Λ.w.params (Λ.T.nm f) → e.key = .str (Λ.T.nm f) t → Keys Λ r es → P (f :: r)) : P fs :=
  h.elim fun f h => h.elim fun r h => h.elim fun t h => Eq.symm h.1 ▸ k f r t h.2.1 h.2.2.1 h.2.2.2
theorem Keys.noRef : ∀ (es : List DictEntry) (fs : List Nat), Keys Λ fs es → es.any (·.refKey) = false ∧ es.length ≤ fs.length
  | [], _, _ => ⟨rfl, Nat.zero_le _⟩
  | e :: es, fs, h => h.uncons (P := fun fs => (e :: es).any (·.refKey) = false ∧ (e :: es).length ≤ fs.length) fun f r t _ k h =>
    have ⟨a, b⟩ := Keys.noRef es r h
    ⟨by rw [List.any_cons, a, Bool.or_false]; unfold DictEntry.refKey; rw [k], Nat.succ_le_succ b⟩
theorem getL_of {x : Str} {fs : List Nat} {es : List DictEntry} (h : Keys Λ fs es) (o : Option DictEntry) (e : es.find? (·.key.isStr x) = o) : getL x es = some (o.map (·.val)) := by
  unfold getL
  rw [e, (Keys.noRef es fs h).1]
  cases o <;> rfl
theorem Keys.find (G : Gr Λ) {x : Nat} {v : V} (hx : x < Λ.T.n) : ∀ (es : List DictEntry) (fs : List Nat) (l : List V) (i : Nat), (∀ f ∈ fs, f < Λ.T.n) → Keys Λ fs es → Reps Λ W (es.map (·.val)) l → fidx x fs = some i → l[i]? = some v →
    ∃ e, es.find? (·.key.isStr (Λ.T.nm x)) = some e ∧ Rep Λ W e.val v := by
  intro es
  induction es with
  | nil =>
    intro fs l i _ _ r _ e
    cases l with
    | nil => exact ns rfl e
    | cons v l => exact r.uncons (P := fun us => us = [] → _) (fun _ _ _ _ z => nomatch z) rfl
  | cons d es ih =>
    intro fs l i hb h r hf e
    cases l with
    | nil => exact nomatch (r : _ :: _ = [])
    | cons u l =>
      have ⟨_, _, e0, r1, r2⟩ := r
      obtain ⟨rfl, rfl⟩ := List.cons.inj e0
      refine h.uncons (P := fun fs => (∀ f ∈ fs, f < Λ.T.n) → fidx x fs = some i → _) (fun f r t _ k h hb hf => ?_) hb hf
      refine fidx_ind (P := fun fs i => fs = f :: r → (u :: l)[i]? = some v → ∃ e, (d :: es).find? (·.key.isStr (Λ.T.nm x)) = some e ∧ Rep Λ W e.val v) (fun _ q e => ?_) (fun y r' i ne hf' _ q e => ?_) (f :: r) i hf rfl e
      · exact ⟨d, List.find?_cons_of_pos (key_yes ((List.cons.inj q).1 ▸ k)), Option.some.inj e ▸ r1⟩
      · obtain ⟨rfl, rfl⟩ := List.cons.inj q
        rw [List.find?_cons_of_neg (p := fun d : DictEntry => d.key.isStr (Λ.T.nm x)) (Bool.eq_false_iff.mp (key_no (G := G) (hb _ (.head _)) hx ne k))]
        exact ih _ l i (fun g hg => hb g (.tail _ hg)) h r2 hf' e
theorem Keys.none (G : Gr Λ) {x : Nat} (hx : x < Λ.T.n) : ∀ (es : List DictEntry) (fs : List Nat), (∀ f ∈ fs, f < Λ.T.n ∧ f ≠ x) → Keys Λ fs es → es.find? (·.key.isStr (Λ.T.nm x)) = none
  | [], _, _, _ => rfl
  | e :: es, fs, hb, h => h.uncons (P := fun fs => (∀ f ∈ fs, f < Λ.T.n ∧ f ≠ x) → (e :: es).find? (·.key.isStr (Λ.T.nm x)) = .none) (fun f r t _ k h hb => by
      rw [List.find?_cons_of_neg (p := fun d : DictEntry => d.key.isStr (Λ.T.nm x)) (Bool.eq_false_iff.mp (key_no (G := G) (hb _ (.head _)).1 hx (hb _ (.head _)).2 k))]
      exact Keys.none G hx es r (fun g hg => hb g (.tail _ hg)) h) hb
theorem Keys.put (G : Gr Λ) {x : Nat} {u : Value} {v : V} {tk : Tok} (hx : x < Λ.T.n) (ru : Rep Λ W u v) : ∀ (es : List DictEntry) (fs : List Nat) (l : List V) (i : Nat), (∀ f ∈ fs, f < Λ.T.n) → Keys Λ fs es → Reps Λ W (es.map (·.val)) l → fidx x fs = some i → i ≤ l.length →
    Keys Λ fs (putL (Λ.T.nm x) (PyData.keyHash Λ.w.params (Λ.T.nm x)) (.str (Λ.T.nm x) tk) u es) ∧ Reps Λ W ((putL (Λ.T.nm x) (PyData.keyHash Λ.w.params (Λ.T.nm x)) (.str (Λ.T.nm x) tk) u es).map (·.val)) (cond (Nat.blt i l.length) (l.set i v) (l ++ [v])) := by
  intro es
  induction es with
  | nil =>
    intro fs l i _ _ r hf le
    cases l with
    | cons v l => exact r.uncons (P := fun us => us = [] → _) (fun _ _ _ _ z => nomatch z) rfl
    | nil => exact fidx_ind (P := fun fs i => i ≤ 0 → Keys Λ fs [⟨_, _, u⟩] ∧ Reps Λ W [u] (cond (Nat.blt i 0) ([].set i v) [v])) (fun r _ => ⟨⟨x, r, tk, rfl, rfl, rfl, trivial⟩, .one ru⟩) (fun _ _ _ _ _ _ h => absurd h (Nat.not_succ_le_zero _)) fs i hf le
  | cons d es ih =>
    intro fs l i hb h r hf le
    cases l with
    | nil => exact nomatch (r : _ :: _ = [])
    | cons w l =>
      have ⟨_, _, e0, r1, r2⟩ := r
      obtain ⟨rfl, rfl⟩ := List.cons.inj e0
      refine h.uncons (P := fun fs => (∀ f ∈ fs, f < Λ.T.n) → fidx x fs = some i → Keys Λ fs _ ∧ _) (fun f r t e1 k h hb hf => ?_) hb hf
      refine fidx_ind (P := fun fs i => fs = f :: r → i ≤ l.length + 1 → Keys Λ fs (putL _ _ _ u (d :: es)) ∧ Reps Λ W ((putL _ _ _ u (d :: es)).map (·.val)) (cond (Nat.blt i (l.length + 1)) ((w :: l).set i v) (w :: (l ++ [v])))) (fun r' q _ => ?_) (fun y r' i ne hf' _ q le => ?_) (f :: r) i hf rfl le
      · obtain ⟨rfl, rfl⟩ := List.cons.inj q
        unfold putL
        rw [if_pos (key_yes k)]
        exact ⟨⟨x, r', t, rfl, e1, k, h⟩, .cons ru r2⟩
      · obtain ⟨rfl, rfl⟩ := List.cons.inj q
        have ⟨a, b⟩ := ih _ l i (fun g hg => hb g (.tail _ hg)) h r2 hf' (Nat.le_of_succ_le_succ le)
        unfold putL
        rw [if_neg (Bool.eq_false_iff.mp (key_no (G := G) (hb _ (.head _)) hx ne k))]
        refine ⟨⟨y, r', t, rfl, e1, k, a⟩, ?_⟩
        rw [show Nat.blt (i + 1) (l.length + 1) = Nat.blt i l.length from rfl]
        cases q : Nat.blt i l.length with
        | true => rw [q] at b; exact .cons r1 b
        | false => rw [q] at b; exact .cons r1 b
theorem attrOk_parts {K : Frag} {C : Addr} {n : Str} (h : attrOk K C n = true) : plainGet K C n = true ∧ hasDictIn K C = true ∧ (∃ a, findIn K (.ref C) n = some a ∧ noGet K a = true) ∧
    findIn K (.ref C) "__setattr__" = some (some (.builtin "object.__setattr__")) ∧ plainOver K C = true ∧ takerIn K C n = some none :=
  have h1 := andL h
  have h2 := andL h1
  have h3 := andL h2
  ⟨andL (andL h3), andR (andL h3), any_some (andR h3), beq_iff_eq.mp (andR h2), andR h1, beq_iff_eq.mp (andR h)⟩
theorem Gr.at (G : Gr Λ) (x : SR Λ z) : Λ.K.In z.s.heap := G.kin.keeps fun b o e => x.fz _ _ (x.base b o e)
theorem g_fld (G : Gr Λ) {x₀ dx : Addr} {c x : Nat} {l : List V} {P : V → Prop} {fl : Bool} (x' : SR Λ z) (I : InAt Λ z.s.heap.get? c x₀ dx fun us => Reps Λ z.W us l) (h : fldW Λ.T x c l P)
    (q : ∀ v u, P v → Rep Λ z.W u v → Q u { z.s with toks := z.s.toks + 1 }) : wpAny (model Λ.prog Λ.w) A (getAttr (.ref x₀) (Λ.T.nm x) fl) Q E z.s :=
  I.elim fun es I => I.elim fun n I => h.e fun i e1 h => h.e fun v e2 h =>
    have hm := List.mem_of_getElem? (fidx_at _ i e1)
    have p := attrOk_parts (G.attr c x hm)
    (Keys.find G (G.fn c x hm) es _ l i (G.fn c) I.2.2.1 I.2.2.2 e1 e2).elim fun d r => p.2.2.1.elim fun at' p3 =>
    get_value (G.at x') ⟨I.1, rfl, rfl, I.2.1⟩ (plainGet_of p.1).1 (findObj_own (od := dictOf es n) p.2.1 p3.1 p3.2 (by rw [lookIn_dict]; exact getL_of I.2.2.1 _ r.1)) (rep_shp r.2).1 (q v _ h r.2)
theorem hI.e {o : Option HO} {K : Nat → List V → Prop} {G : Prop} (h : hI o K) (k : ∀ c l, o = some (.inst c l) → K c l → G) : G :=
  opt.e h fun o e h => by
    cases o with
    | inst c l => exact k c l e h
    | _ => exact h.elim
theorem g_attr (G : Gr Λ) {a : V} {u : Value} {x : Nat} {P : V → Prop} {fl : Bool} (x' : SR Λ z) (h : attrW Λ.T z.σ a x P) (ra : Rep Λ z.W u a)
    (q : ∀ v u, P v → Rep Λ z.W u v → Q u { z.s with toks := z.s.toks + 1 }) : wpAny (model Λ.prog Λ.w) A (getAttr u (Λ.T.nm x) fl) Q E z.s := by
  cases a with
  | obj c l => exact ra.elim fun x₀ ra => ra.elim fun dx I => Eq.symm I.1 ▸ g_fld G x' (InAt.up x'.fz (fun _ h => h) I.2) h q
  | ref n => exact ra.elim fun p e => Eq.symm e.1 ▸ hI.e h fun c l hn h => g_fld G x' (x'.obj _ _ _ hn e.2).2 h q
  | _ => exact h.elim
theorem putL_len {name : Str} {hsh : Int} {key v : Value} : ∀ es : List DictEntry, (putL name hsh key v es).length ≤ es.length + 1
  | [] => Nat.le_refl _
  | e :: r => by
    unfold putL
    split
    · exact Nat.le_succ _
    · exact Nat.succ_le_succ (putL_len r)
theorem store_inst {x dx C : Addr} {es : List DictEntry} {n : Nat} {name : Str} {v : Value} {Q : Unit → Shared → Prop} {s : Shared} (X : Λ.K.In s.heap) (h1 : s.heap.get? x = some (instObj C dx)) (h2 : s.heap.get? dx = some (dictOf es n))
    (ok : attrOk Λ.K C name = true) (nk : es.any (·.refKey) = false) (hz : es.length ≤ 999)
    (h : Q () { s with heap := s.heap.update dx (Obj.putName name (PyData.keyHash Λ.w.params name) (.str name (s.toks + 1)) v), toks := s.toks + 2 }) :
    wpAny (model Λ.prog Λ.w) A (setAttr (.ref x) name v) Q E s := by
  obtain ⟨p1, p2, _, p4, p5, p6⟩ := attrOk_parts ok
  obtain ⟨hh, gg, dd, tt, oo⟩ := s
  have I : W.InstAt hh x (instObj C dx) C (some (dictOf es n)) := ⟨h1, rfl, rfl, h2⟩
  refine set_plain X I p4 (osa_open X I p5 p6 fun b => ?_)
  obtain ⟨cd, hc, hd'⟩ := any_some p2
  refine wpAny_bind (wpAny_pure (wpAny_bind (wpAny_bind (wpAny_loadPart h1 (wpAny_bind ((looks_clsIn X hc).at ?_))))))
  rw [hd']
  refine wpAny_pure (a := some dx) (wpAny_bind (wpAny_pure (wpAny_bind ?_)))
  unfold nsSet
  refine wpAny_bind (wpAny_bind (wpAny_askSetting (wpAny_pure (wpAny_bind (wpAny_mkText (wpAny_bind (wpAny_loadPart h2 ?_)))))))
  dsimp only [dictOf]
  have c : (!es.toArray.any (·.key.isStr name) && es.toArray.any (·.refKey)) = false := by
    rw [← Array.any_toList, ← Array.any_toList]
    show (!_ && es.any _) = false
    rw [nk, Bool.and_false]
  rw [aRefKeyMayBeTheName_at, c]
  have D' : (hh.update dx (Obj.putName name (PyData.keyHash Λ.w.params name) (.str name (tt + 1)) v)).get? dx = some (dictOf (putL name (PyData.keyHash Λ.w.params name) (.str name (tt + 1)) v es) (putN name es n)) := by
    rw [← putName_dict]
    exact Heap.get?_update_self _ h2 (by rw [putName_dict]; rfl)
  refine wpAny_updatePart h2 (wpAny_bind (wpAny_lookBehind D' (pastItsLine_dict ?_) ?_))
  · exact Nat.le_succ_of_le <| line_le (Nat.le_trans (putL_len es) (Nat.succ_le_succ hz))
  · exact wpAny_pure h
theorem g_setA (G : Gr Λ) {a v : V} {b u : Value} {x : Nat} {P : H → Prop} {Q : Unit → Shared → Prop} (x' : SR Λ z) (h : setAW Λ.T z.σ a x v P) (ra : Rep Λ z.W b a) (ru : Rep Λ z.W u v)
    (q : ∀ s σ, P σ → Go Λ NoX z ⟨z.W, s, σ⟩ → Q () s) : wpAny (model Λ.prog Λ.w) A (setAttr b (Λ.T.nm x) u) Q E z.s :=
  V.R.e (P := fun b => wpAny _ A (setAttr b _ u) Q E z.s) h ra fun n p h _ hp => hI.e h fun c l hn h => opt.e h fun i hf h => by
    obtain ⟨hne, es, m, h1, h2, hk, hr⟩ := x'.obj _ _ _ hn hp
    have hm := List.mem_of_getElem? (fidx_at _ i hf)
    have ⟨nk, hz⟩ := Keys.noRef es _ hk
    have fr := Keys.put (tk := z.s.toks + 1) G (G.fn c x hm) ru es _ l i (G.fn c) hk hr hf h.1
    refine store_inst (G.at x') h1 h2 (G.attr c x hm) nk (Nat.le_trans hz (Nat.le_trans (G.fl c) (by decide))) (q _ _ h.2 (.turn x' hp (fun b o hb e => (Heap.get?_update_ne _ _ _ _ hb.2).trans e) ⟨hne, _, putN (Λ.T.nm x) es m, (Heap.get?_update_ne _ _ _ _ hne).trans h1, ?_, fr⟩))
    rw [← putName_dict]
    exact Heap.get?_update_self _ h2 (by rw [putName_dict]; rfl)
end
end Mine
namespace Mine
section
variable {Λ : Ly} {A : Around} {z : Z} {K : KV} {Q : Value → Shared → Prop} {E : Value → Shared → Prop} {W : Wd} {u : Value} {v : V} {P : Value → Prop}
theorem hD.e {o : Option HO} {K : List (Int × V) → Prop} {G : Prop} (h : hD o K) (k : ∀ l, o = some (.dicI l) → K l → G) : G :=
  opt.e h fun o e h => by
    cases o with
    | dicI l => exact k l e h
    | _ => exact h.elim
theorem hA.e {o : Option HO} {K : List V → Prop} {G : Prop} (h : hA o K) (k : ∀ l, o = some (.app l) → K l → G) : G :=
  opt.e h fun o e h => by
    cases o with
    | app l => exact k l e h
    | _ => exact h.elim
theorem listW.e {K : List V → Prop} (x : SR Λ z) (h : listW z.σ v K) (r : Rep Λ z.W u v) (k : ∀ l c us, K l → z.s.heap.IsList c us.toArray → Reps Λ z.W us l → P (.ref c)) : P u := by
  cases v with
  | lst l => exact r.lst fun a us s rs => k l a us h (s.list x.fz) rs
  | ref n =>
    exact r.elim fun p e => Eq.symm e.1 ▸ opt.e h fun o hn h => by
      cases o with
      | lst l => exact (x.obj _ _ _ hn e.2).2.elim fun us w => k l _ us h w.1 w.2
      | app l => exact (x.obj _ _ _ hn e.2).2.elim fun us w => k l _ us h w.1.isList w.2
      | _ => exact h.elim
  | _ => exact h.elim
noncomputable def SeqIn (h : Heap) (c : Addr) (us : List Value) : Prop := ∃ T o n, h.get? c = some o ∧ (T = "list" ∨ T = "tuple") ∧ o.cls = .type T ∧ o.data = .seq us.toArray n
theorem itemsW.e {K : List V → Prop} (x : SR Λ z) (h : itemsW z.σ v K) (r : Rep Λ z.W u v) (k : ∀ l c us, K l → SeqIn z.s.heap c us → Reps Λ z.W us l → P (.ref c)) : P u := by
  cases v with
  | tup l => exact r.tup fun a us s rs => k l a us h (s.elim fun n s => s.elim fun _ s => ⟨_, _, n, x.fz _ _ s, .inr rfl, rfl, rfl⟩) rs
  | lst l => exact r.lst fun a us s rs => k l a us h (s.elim fun n s => s.elim fun _ s => ⟨_, _, n, x.fz _ _ s, .inl rfl, rfl, rfl⟩) rs
  | ref n =>
    exact r.elim fun p e => Eq.symm e.1 ▸ opt.e h fun o hn h => by
      cases o with
      | lst l => exact (x.obj _ _ _ hn e.2).2.elim fun us w => k l _ us h (w.1.elim fun o y => y.2.2.elim fun n d => ⟨_, o, n, y.1, .inl rfl, y.2.1, d⟩) w.2
      | _ => exact h.elim
  | _ => exact h.elim
noncomputable def ItemG (Λ : Ly) (A : Around) (s : Shared) (Q E : Value → Shared → Prop) (u w : Value) : Prop := ∃ T id, typeLookup (.type T) "__getitem__" = pure (some (.builtin id)) ∧ s.TypeIs u T ∧ wpAny (model Λ.prog Λ.w) A (getItem u w) Q E s
theorem seqIndex_pos {i : Int} {n : Nat} (h0 : 0 ≤ i) (h : i.toNat < n) : seqIndex? i n = some i.toNat := by
  unfold seqIndex?
  simp only [if_neg (Int.not_lt.mpr h0)]
  rw [if_pos (by simp only [Bool.and_eq_true, decide_eq_true_eq]; (first | lia | omega))]
theorem lt_of_get {α : Type} {l : List α} {i : Nat} {a : α} (h : l[i]? = some a) : i < l.length := (List.getElem?_eq_some_iff.mp h).1
theorem fit_of {i : Int} (h : 0 ≤ i ∧ i < 100000) : -(2 ^ 63) ≤ i ∧ i < 2 ^ 63 := by (first | lia | omega)
theorem fit_str {i : Int} (h : 0 ≤ i ∧ i < 100000) : (decide (i < -(2 ^ 63 : Int)) || decide (i ≥ 2 ^ 63)) = false := by simp; (first | lia | omega)
theorem atW.e {l : List V} {us : List Value} {i : Int} {P : V → Prop} {G : Prop} (h : atW l i P) (r : Reps Λ W us l) (k : ∀ v u, P v → us[i.toNat]? = some u → Rep Λ W u v → G) : G := h.2.e fun v e h => (r.get e).elim fun u w => k v u h w.1 w.2
theorem item_list {c : Addr} {us : List Value} {l : List V} {i : Int} {t : Tok} (x : SR Λ z) (hl : z.s.heap.IsList c us.toArray) (hs : Reps Λ z.W us l) (h : atW l i (kv K z.σ)) (q : PK Λ z K Q) : ItemG Λ A z.s Q E (.ref c) (.int i t) :=
  atW.e h hs fun v u k e r => ⟨"list", _, F.slot_list_getitem.lookup, hl.typeIs, wpAny_getItem_list hl h.1.1 (fit_of h.1).2 (by simpa using e) (q.same x k r)⟩
theorem item_tup {c : Addr} {us : List Value} {l : List V} {i : Int} {t : Tok} (x : SR Λ z) (hl : SqAt z.W "tuple" c us) (hs : Reps Λ z.W us l) (h : atW l i (kv K z.σ)) (q : PK Λ z K Q) : ItemG Λ A z.s Q E (.ref c) (.int i t) :=
  atW.e h hs fun v u k e r => ⟨"tuple", _, F.slot_tuple_getitem.lookup, (hl.tuple x.fz).elim fun o y => ⟨o, y.1, y.2.1⟩, getItem_tuple (hl.tuple x.fz) (fit_of h.1).1 (fit_of h.1).2 (seqIndex_pos h.1.1 (by simpa using lt_of_get e)) (by simpa using e) (q.same x k r)⟩
theorem seq_iff {a b : Str} : Mine.seq a b = true ↔ a = b := by
  have h : ∀ x y : List Nat, beqL x y = true → x = y := by
    intro x
    induction x with
    | nil => intro y; cases y <;> first | exact fun _ => rfl | exact fun h => nomatch (h : false = true)
    | cons a x ih =>
      intro y
      cases y with
      | nil => exact fun h => nomatch (h : false = true)
      | cons b y => exact fun h => Nat.eq_of_beq_eq_true (andL h) ▸ ih y (andR h) ▸ rfl
  have r : ∀ x : List Nat, beqL x x = true := List.rec rfl fun a x ih => Bool.and_eq_true_iff.mpr ⟨Nat.beq_refl a, ih⟩
  exact ⟨fun e => congrArg Str.mk (Array.toList_inj.mp (h _ _ e)), fun e => e ▸ r _⟩
theorem dict_at {κ : Type} [DecidableEq κ] {same : κ → κ → Bool} (hs : ∀ a b, same a b = true ↔ a = b) {k : κ} : ∀ {l : List (κ × V)} {kvs : List (κ × Value)}, kvs.map (·.1) = l.map (·.1) → Reps Λ W (kvs.map (·.2)) (l.map (·.2)) →
    (∀ x, (List.rec none (fun p _ ih => cond (same p.1 k) (some p.2) ih) l : Option V) = some x → ∃ v, valueAt kvs k = some v ∧ Rep Λ W v x) ∧ ((List.rec none (fun p _ ih => cond (same p.1 k) (some p.2) ih) l : Option V) = none → valueAt kvs k = none) := by
  intro l
  induction l with
  | nil =>
    intro kvs h _
    cases kvs with
    | nil => exact ⟨fun x h => ns rfl h, fun _ => rfl⟩
    | cons _ _ => cases h
  | cons p l ih =>
    intro kvs h r
    cases kvs with
    | nil => cases h
    | cons q kvs =>
      have e := List.cons.inj h
      refine r.uncons (P := fun us => us = q.2 :: kvs.map (·.2) → _) (fun u us r1 r2 e2 => ?_) rfl
      have ih := ih e.2 ((List.cons.inj e2).2 ▸ r2)
      unfold valueAt at ih ⊢
      cases c : same p.1 k with
      | true =>
        rw [List.find?_cons_of_pos (by simpa using e.1.trans ((hs _ _).mp c))]
        exact ⟨fun x e' => ⟨q.2, rfl, (List.cons.inj e2).1 ▸ Option.some.inj (show some p.2 = some x by simpa [c] using e') ▸ r1⟩, fun e' => nomatch (show some p.2 = none by simpa [c] using e')⟩
      | false =>
        rw [List.find?_cons_of_neg (by simpa using fun z => Bool.eq_false_iff.mp c ((hs _ _).mpr (e.1.symm.trans z)))]
        show (∀ x, cond (same p.1 k) (some p.2) _ = some x → _) ∧ (cond (same p.1 k) (some p.2) _ = none → _)
        rw [c]
        exact ih
theorem lookI_at {k : Int} {l : List (Int × V)} {kvs : List (Int × Value)} (h : kvs.map (·.1) = l.map (·.1)) (r : Reps Λ W (kvs.map (·.2)) (l.map (·.2))) : (∀ x, lookI k l = some x → ∃ v, valueAt kvs k = some v ∧ Rep Λ W v x) ∧ (lookI k l = none → valueAt kvs k = none) :=
  dict_at (same := fun a b => decide (a = b)) (fun _ _ => decide_eq_true_iff) h r
theorem lookS_at {k : Str} {l : List (Str × V)} {kvs : List (Str × Value)} (h : kvs.map (·.1) = l.map (·.1)) (r : Reps Λ W (kvs.map (·.2)) (l.map (·.2))) {x : V} : lookS k l = some x → ∃ v, valueAt kvs k = some v ∧ Rep Λ W v x :=
  (dict_at (same := Mine.seq) (fun _ _ => seq_iff) h r).1 x
theorem itemD {κ : Type} [DecidableEq κ] {knd : PySem.KeyKind Λ.prog Λ.w κ} {d : Addr} {kvs : List (κ × Value)} {k : κ} {w : Value} {v : V} (x : SR Λ z) (hi : knd.is k w = true) (hD : z.s.heap.DictOf knd d kvs) (h : ∃ u, valueAt kvs k = some u ∧ Rep Λ z.W u v) (hk : K v z.σ) (q : PK Λ z K Q) : ItemG Λ A z.s Q E (.ref d) w :=
  h.elim fun u r => ⟨"dict", _, slot_dict_getitem.lookup, hD.typeIs, wpAny_getItem_of hi hD.mapOf r.1 (q.tok x hk r.2)⟩
theorem g_sub {a b : V} {w : Value} (x : SR Λ z) (h : subW z.σ a b (kv K z.σ)) (ra : Rep Λ z.W u a) (rb : Rep Λ z.W w b) (q : PK Λ z K Q) : ItemG Λ A z.s Q E u w := by
  cases a with
  | str y =>
    exact ra.elim fun t e => Eq.symm e ▸ V.I.e (P := ItemG Λ A z.s Q E _) h rb fun i t h => h.2.e fun c e k => ⟨"str", _, F.slot_str_getitem.lookup, typeIs_str _ _ _, getItem_str (c := c) (fit_str h.1)
      (by rw [seqIndex_pos h.1.1 (by unfold Str.length; simpa using lt_of_get e)]; simpa using e) (q.str x k)⟩
  | tup l => exact ra.tup (P := fun u => ItemG Λ A z.s Q E u w) fun a us s rs => V.I.e h rb fun i t h => item_tup x s rs h q
  | lst l => exact ra.lst (P := fun u => ItemG Λ A z.s Q E u w) fun a us s rs => V.I.e h rb fun i t h => item_list x (s.list x.fz) rs h q
  | ref n =>
    exact ra.elim fun p e => Eq.symm e.1 ▸ opt.e h fun o hn h => by
      have hD := x.obj _ _ _ hn e.2
      cases o with
      | lst l => exact hD.2.elim fun us y => V.I.e (P := ItemG Λ A z.s Q E _) h rb fun i t h => item_list x y.1 y.2 h q
      | dicI l => exact hD.2.2.elim fun kvs y => V.I.e (P := ItemG Λ A z.s Q E _) h rb fun i t h => opt.e h fun v e h => itemD x (intKind_is Λ.prog Λ.w _ _) y.1 ((lookI_at y.2.1 y.2.2).1 v e) h q
      | dicS l => exact hD.2.elim fun kvs y => V.S.e (P := ItemG Λ A z.s Q E _) h rb fun i t h => opt.e h fun v e h => itemD x (strKind_is Λ.prog Λ.w _ _) y.1 (lookS_at y.2.1 y.2.2 e) h q
      | _ => exact h.elim
  | _ => exact h.elim
theorem putI_len {k : Int} {v : V} : ∀ l : List (Int × V), (putI k v l).length ≤ l.length + 1 := List.rec (Nat.le_refl _) fun p r ih => by
  show (cond (decide (p.1 = k)) ((k, v) :: r) (p :: putI k v r)).length ≤ _
  cases decide (p.1 = k) with
  | true => exact Nat.le_succ _
  | false => exact Nat.succ_le_succ ih
theorem stored_hit {k k' : Int} {w w' : Value} {kvs : List (Int × Value)} (q : k' = k) (nd : k' ∉ kvs.map (·.1)) : stored ((k', w') :: kvs) k w = (k, w) :: kvs := by
  unfold stored
  rw [if_pos (by simp [q]), List.map_cons, if_pos q, q]
  exact congrArg _ ((List.map_congr_left fun kv hm => if_neg fun z => nd (by rw [q, ← z]; exact List.mem_map_of_mem hm)).trans (List.map_id _))
theorem stored_miss {k k' : Int} {w w' : Value} {kvs : List (Int × Value)} (q : ¬ k' = k) : stored ((k', w') :: kvs) k w = (k', w') :: stored kvs k w := by
  unfold stored
  rw [List.any_cons, show decide ((k', w').1 = k) = false from decide_eq_false q, Bool.false_or]
  by_cases z : kvs.any (fun kv => kv.1 = k)
  · rw [if_pos z, if_pos z, List.map_cons, if_neg q]
  · rw [if_neg z, if_neg z, List.cons_append]
theorem stored_rep {k : Int} {w : Value} {v : V} (r : Rep Λ W w v) : ∀ {l : List (Int × V)} {kvs : List (Int × Value)}, kvs.map (·.1) = l.map (·.1) → Reps Λ W (kvs.map (·.2)) (l.map (·.2)) → (kvs.map (·.1)).Nodup →
    (stored kvs k w).map (·.1) = (putI k v l).map (·.1) ∧ Reps Λ W ((stored kvs k w).map (·.2)) ((putI k v l).map (·.2)) := by
  intro l
  induction l with
  | nil =>
    intro kvs h _ _
    cases kvs with
    | nil => exact ⟨rfl, .one r⟩
    | cons _ _ => cases h
  | cons p l ih =>
    intro kvs h rs nd
    cases kvs with
    | nil => cases h
    | cons c kvs =>
      have e := List.cons.inj h
      have ⟨u, us, e0, r1, r2⟩ := rs
      obtain ⟨rfl, rfl⟩ := List.cons.inj e0
      have nd := List.nodup_cons.mp nd
      show _ = (cond (decide (p.1 = k)) ((k, v) :: l) (p :: putI k v l)).map (·.1) ∧ Reps Λ W _ ((cond (decide (p.1 = k)) ((k, v) :: l) (p :: putI k v l)).map (·.2))
      by_cases q : p.1 = k
      · rw [decide_eq_true q, stored_hit (e.1.trans q) nd.1]
        exact ⟨congrArg _ e.2, .cons r r2⟩
      · have ⟨a, b⟩ := ih e.2 r2 nd.2
        rw [decide_eq_false q, stored_miss fun z => q (e.1.symm.trans z)]
        exact ⟨List.cons_eq_cons.mpr ⟨e.1, a⟩, .cons r1 b⟩
theorem g_setS {a i v : V} {b w u : Value} {P : H → Prop} {Q : Unit → Shared → Prop} (x : SR Λ z) (h : setSW z.σ a i v P) (ra : Rep Λ z.W b a) (ri : Rep Λ z.W w i) (rx : Rep Λ z.W u v)
    (q : ∀ s σ, P σ → Go Λ NoX z ⟨z.W, s, σ⟩ → Q () s) : wpAny (model Λ.prog Λ.w) A (setItem b w u) Q E z.s :=
  V.R.e (P := fun b => wpAny _ A (setItem b w u) Q E z.s) h ra fun n p h _ hp => V.I.e (P := fun w => wpAny _ A (setItem _ w u) Q E z.s) h ri fun i t h => opt.e h fun o hn h => by
    have hD := x.obj _ _ _ hn hp
    cases o with
    | lst l =>
      exact hD.2.elim fun us y => wpAny_setItem_list y.1 h.1.1 (fit_of ⟨h.1.1, h.1.2.2⟩).2 (by rw [List.size_toArray, y.2.length]; exact h.1.2.1) fun h' hl' hsb =>
        q _ _ h.2 (.turn x hp (fun b o hb' e' => (hsb.2 b hb'.1).trans e') ⟨hD.1, _, List.setIfInBounds_toArray .. ▸ hl', y.2.set rx _⟩)
    | dicI l =>
      exact hD.2.2.elim fun kvs y => wpAny_setItem_pairs (intKind_is Λ.prog Λ.w _ _) y.1 (fun h' hl' hsb =>
        q _ _ h.2 (.turn x hp (fun b o hb' e' => (hsb.2 b hb'.1).trans e') ⟨hD.1, Nat.le_trans (putI_len l) (Nat.succ_le_succ h.1), _, hl', stored_rep rx y.2.1 y.2.2 (by obtain ⟨_, _, _, _, _, _, _, _, nd⟩ := y.1; exact nd)⟩))
        (line_le (Nat.le_trans (Nat.le_of_eq (by simpa using congrArg List.length y.2.1)) (Nat.le_trans h.1 (by decide))))
    | _ => exact h.elim
theorem take_range {α : Type} (l : List α) : ∀ m : Nat, (List.range m).filterMap (fun i => l[i]?) = l.take m
  | 0 => by simp
  | m + 1 => by
    rw [List.range_succ, List.filterMap_append, take_range l m, List.take_add_one]
    cases h : l[m]? <;> simp [h]
theorem pick_take {us : List Value} {h : Int} (h0 : 0 ≤ h) : slicePick us.toArray none (some h) none = (us.take h.toNat).toArray := by
  unfold slicePick sliceBounds sliceRange
  simp only [Option.getD_none, show (1 : Int) > 0 from by decide, if_true, if_neg (Int.not_lt.mpr h0), List.size_toArray]
  have l : ((if (0 : Int) < max 0 (min h us.length) then (max 0 (min h (us.length : Int)) - 0 + 1 - 1) / 1 else 0)).toNat = min h.toNat us.length := by split <;> (first | lia | omega)
  rw [l, show (fun k : Nat => ((0 : Int) + 1 * k).toNat) = id from funext fun k => by show _ = k; (first | lia | omega), List.map_id, show (fun i : Nat => us.toArray[i]?) = fun i => us[i]? from funext fun i => by simp, take_range, ← List.take_eq_take_min]
noncomputable def SliceG (Λ : Ly) (A : Around) (z : Z) (Q E : Value → Shared → Prop) (lo hi u : Value) : Prop :=
  ∃ T id, typeLookup (.type T) "__getitem__" = pure (some (.builtin id)) ∧ (∀ s' : Shared, Kp z.s.heap s'.heap → s'.TypeIs u T) ∧
    wpAny (model Λ.prog Λ.w) A (getItem u (.ref z.s.heap.objs.size)) Q E { z.s with heap := z.s.heap.push { cls := .type "slice", data := .fields #[lo, hi, .none] } }
theorem slice_str {y : Str} {t : Tok} (l h : Option (Int × Tok)) (x : SR Λ z) (hz : y.length ≤ 1000) (k : K (.str (Txt.slice y (l.map (·.1)) (h.map (·.1)))) z.σ) (q : PK Λ z K Q) : SliceG Λ A z Q E (partValue l) (partValue h) (.str y t) := by
  refine ⟨"str", _, F.slot_str_getitem.lookup, fun _ _ => typeIs_str _ _ _, wpAny_getItem_str_slice (l := l) (u := h) (st := none) ⟨_, Heap.get?_push_size _ rfl, rfl, rfl⟩ rfl ?_⟩
  rw [show sliceMade y t l h none = (if ((1 : Int) == 1 && (PySem.Builtin.Str.strSliceIndices (l.map (·.1)) (h.map (·.1)) 1 y.length).length == y.length) = true then .val (.str y t) else .str ⟨((PySem.Builtin.Str.strSliceIndices (l.map (·.1)) (h.map (·.1)) 1 y.length).filterMap (y.cps[·]?)).toArray⟩) from rfl]
  have hl := Txt.slice_le y (l.map (·.1)) (h.map (·.1))
  unfold Txt.slice at hl k
  exact post_val_or_str ⟨Nat.le_trans hl (line_le hz), fun t' tk => q.keeps x push_old k ⟨t', rfl⟩⟩
theorem g_slTo {a b : V} {w : Value} (x : SR Λ z) (h : slToW a b (kv K z.σ)) (ra : Rep Λ z.W u a) (rb : Rep Λ z.W w b) (q : PK Λ z K Q) : SliceG Λ A z Q E .none w u := by
  cases a with
  | str y => exact ra.elim fun t e => Eq.symm e ▸ V.I.e (P := fun w => SliceG Λ A z Q E .none w _) h rb fun i t' h => slice_str none (some (i, t')) x h.1.2.2 h.2 q
  | lst l =>
    exact ra.lst (P := fun u => SliceG Λ A z Q E .none w u) fun a us s rs => V.I.e (P := fun w => SliceG Λ A z Q E .none w _) h rb fun i t' h => ⟨"list", _, F.slot_list_getitem.lookup, fun s' k => s.elim fun _ s => s.elim fun _ s => ⟨_, k _ _ (x.fz _ _ s), rfl⟩, by
      refine wpAny_getItem_list_slice ((s.list x.fz).push _) ⟨_, Heap.get?_push_size _ rfl, rfl, rfl⟩ .none (.int _ _) .none (by decide) ?_ (line_le' (by rw [List.size_toArray, rs.length]; exact h.1.2.2))
      rw [pick_take h.1.1]
      exact q.lst (tk := z.s.toks) x push2_old (none_of_size (by rw [size_push']; exact Nat.le_succ _)) (Heap.get?_push_size _ rfl) (rs.take _) h.2⟩
  | _ => exact h.elim
theorem g_slFrom {a b : V} {w : Value} (x : SR Λ z) (h : slFromW a b (kv K z.σ)) (ra : Rep Λ z.W u a) (rb : Rep Λ z.W w b) (q : PK Λ z K Q) : SliceG Λ A z Q E w .none u :=
  V.S.e (P := SliceG Λ A z Q E w .none) h ra fun y t h => V.I.e (P := fun w => SliceG Λ A z Q E w .none _) h rb fun i t' h => slice_str (some (i, t')) none x h.1.2.2 h.2 q
end
end Mine
namespace Mine
theorem insB_perm {α : Type} (le : α → α → Bool) (x : α) : ∀ l : List α, (insB le x l).Perm (x :: l)
  | [] => .refl _
  | y :: r => by
    show (cond (le x y) (x :: y :: r) (y :: insB le x r)).Perm _
    cases le x y with
    | true => exact .refl _
    | false => exact ((insB_perm le x r).cons y).trans (.swap x y r)
theorem isort_perm {α : Type} (le : α → α → Bool) : ∀ l : List α, (isort le l).Perm l
  | [] => .refl _
  | x :: r => (insB_perm le x _).trans ((isort_perm le r).cons x)
theorem insB_sorted {α : Type} {le : α → α → Bool} (tot : ∀ a b, le a b = false → le b a = true) (tr : ∀ a b c, le a b = true → le b c = true → le a c = true) (x : α) :
    ∀ l : List α, l.Pairwise (fun a b => le a b = true) → (insB le x l).Pairwise (fun a b => le a b = true)
  | [], _ => List.pairwise_singleton _ _
  | y :: r, h => by
    obtain ⟨h1, h2⟩ := List.pairwise_cons.mp h
    show (cond (le x y) (x :: y :: r) (y :: insB le x r)).Pairwise _
    cases q : le x y with
    | true =>
      exact List.pairwise_cons.mpr ⟨fun z hz => by
        rcases List.mem_cons.mp hz with rfl | hz
        · exact q
        · exact tr _ _ _ q (h1 z hz), h⟩
    | false =>
      refine List.pairwise_cons.mpr ⟨fun z hz => ?_, insB_sorted tot tr x r h2⟩
      rcases List.mem_cons.mp ((insB_perm le x r).mem_iff.mp hz) with rfl | hz
      · exact tot _ _ q
      · exact h1 z hz
theorem isort_sorted {α : Type} {le : α → α → Bool} (tot : ∀ a b, le a b = false → le b a = true) (tr : ∀ a b c, le a b = true → le b c = true → le a c = true) : ∀ l : List α, (isort le l).Pairwise (fun a b => le a b = true)
  | [] => .nil
  | x :: r => insB_sorted tot tr x _ (isort_sorted tot tr r)
theorem leS_tot (a b : Str) (h : leS a b = false) : leS b a = true := by
  unfold leS at h ⊢
  simp only [Bool.not_eq_false', decide_eq_true_eq] at h
  simp only [Bool.not_eq_true', decide_eq_false_iff_not]
  exact List.lt_asymm h
theorem leS_tr (a b c : Str) (h1 : leS a b = true) (h2 : leS b c = true) : leS a c = true := by
  unfold leS at h1 h2 ⊢
  simp only [Bool.not_eq_true', decide_eq_false_iff_not] at h1 h2 ⊢
  exact List.le_trans h1 h2
theorem leS_anti (a b : Str) (h1 : leS a b = true) (h2 : leS b a = true) : a = b := by
  unfold leS at h1 h2
  simp only [Bool.not_eq_true', decide_eq_false_iff_not] at h1 h2
  have : a.cps.toList = b.cps.toList := List.le_antisymm h1 h2
  exact congrArg Str.mk (Array.toList_inj.mp this)
theorem rising_pw : ∀ (p : Str) (l : List Str), risingS p l = true → (p :: l).Pairwise (fun a b => leS a b = true)
  | p, [], _ => List.pairwise_singleton _ _
  | p, x :: r, h => by
    have h : (!PySem.Spec.ltCps x.cps.toList p.cps.toList && risingS x r) = true := h
    obtain ⟨h1, h2⟩ := Bool.and_eq_true_iff.mp h
    have ih := rising_pw x r h2
    have px : leS p x = true := by
      unfold leS
      rw [ltCps_eq] at h1; exact h1
    refine List.pairwise_cons.mpr ⟨fun z hz => ?_, ih⟩
    rcases List.mem_cons.mp hz with rfl | hz
    · exact px
    · exact leS_tr _ _ _ px ((List.pairwise_cons.mp ih).1 z hz)
theorem sorted_one {ss ss' : List Str} (p : ss'.Perm ss) (h : sortedS ss' = true) : ss' = isort leS ss := by
  have pw : ss'.Pairwise (fun a b => leS a b = true) := by
    cases ss' with
    | nil => exact .nil
    | cons x r => exact rising_pw x r h
  exact List.Perm.eq_of_pairwise (fun a b _ _ h1 h2 => leS_anti a b h1 h2) pw (isort_sorted leS_tot leS_tr ss) (p.trans (isort_perm leS ss).symm)
noncomputable def biVal (b : BI) : Value := BI.casesOn b (.builtin "len") (.builtin "abs") (.type "int") (.type "list") (.type "tuple") (.builtin "sorted") (.type "str")
section
variable {Λ : Ly} {A : Around} {z : Z} {K : KV} {Q : Value → Shared → Prop} {E : Value → Shared → Prop} {W : Wd} {u : Value} {v : V} {P : Value → Prop}
theorem strs_are : ∀ {l : List V} {us : List Value} {ss : List Str}, strsOf l = some ss → Reps Λ W us l → StrsAre us ss := by
  intro l
  induction l with
  | nil => intro us ss e (r : us = []); exact r ▸ Option.some.inj e ▸ .nil
  | cons v l ih =>
    intro us ss e r
    refine r.uncons (P := fun us => StrsAre us ss) fun u us r1 r2 => ?_
    cases v with
    | str s => exact r1.elim fun t e1 => Eq.symm e1 ▸ map_e (P := StrsAre (.str s t :: us)) e fun ss e => .cons _ _ (ih e r2)
    | _ => exact ns rfl e
theorem reps_strs : ∀ {us : List Value} {ss : List Str}, StrsAre us ss → Reps Λ W us (ss.map .str)
  | _, _, .nil => .nil
  | _, _, .cons y t h => .cons (u := .str y t) (v := .str y) ⟨t, rfl⟩ (reps_strs h)
theorem strs_list {l : List (Str × Tok)} {xs : List Str} (e : l.map (·.1) = xs) : Reps Λ W (strValues l) (xs.map .str) := e ▸ reps_strs (strsAre_of_values l)
theorem abs_is (i : Int) : (if i < 0 then -i else i) = (i.natAbs : Int) := by split <;> (first | lia | omega)
theorem str_fits {i : Int} (h : 0 ≤ i ∧ i < 1000) : i.natAbs.log2 < 1920 := by
  by_cases h0 : i.natAbs = 0
  · rw [h0]; decide
  · exact Nat.lt_trans ((Nat.log2_lt (k := 10) h0).mpr (by omega)) (by decide)
theorem fits63 {n : Nat} (h : n ≤ 100000) : ((n : Nat) : Int) < 2 ^ 63 := by omega
theorem some_of {α : Type} {o : Option α} {d : α} (h : o.isSome = true) : o = some (o.getD d) := by
  cases o with
  | none => cases h
  | some a => rfl
theorem g_bi {b : BI} (x : SR Λ z) (h : biW z.σ b v (kv K z.σ)) (r : Rep Λ z.W u v) (q : PK Λ z K Q) : wpAny (model Λ.prog Λ.w) A (call (biVal b) [u]) Q E z.s := by
  cases b with
  | len =>
    have main : itemsW z.σ v (fun l => l.length ≤ 100000 ∧ kv K z.σ (.int l.length)) → wpAny (model Λ.prog Λ.w) A (call (.builtin "len") [u]) Q E z.s := fun h =>
      itemsW.e (P := fun u => wpAny _ A (call (.builtin "len") [u]) Q E z.s) x h r fun l c us h s rs => by
        obtain ⟨T, o, n, ho, hT, hc, hd⟩ := s
        have e : us.toArray.size = l.length := by rw [List.size_toArray, rs.length]
        rcases hT with rfl | rfl
        · exact len_list ⟨o, ho, hc, n, hd⟩ (e ▸ fits63 h.1) (q.int x (e ▸ h.2))
        · exact len_tuple ⟨o, ho, hc, n, hd⟩ (e ▸ fits63 h.1) (q.int x (e ▸ h.2))
    cases v with
    | str s => exact r.elim fun t e => Eq.symm e ▸ len_str (Int.not_le.mpr (fits63 (Nat.le_trans h.1 (by decide)))) (q.int x h.2)
    | _ => exact main h
  | abs => exact V.I.e (P := fun u => wpAny _ A (call (.builtin "abs") [u]) Q E z.s) h r fun i t h => call_abs_int fun u tk => by rw [abs_is]; exact q.int x h
  | int =>
    cases v with
    | int i => exact r.elim fun t e => Eq.symm e ▸ call_int_int (q.same x h ⟨_, rfl⟩)
    | boo i => exact Eq.symm (r : u = _) ▸ call_int_bool (q.int x h)
    | _ => exact h.elim
  | lst =>
    exact itemsW.e (P := fun u => wpAny _ A (call (.type "list") [u]) Q E z.s) x h r fun l c us h s rs => by
      obtain ⟨T, o, n, ho, hT, hc, hd⟩ := s
      exact call_list_seq c hT ho hc hd (fun h' c' k hD => q.lst (tk := z.s.toks) x k new_none hD rs h.2) (line_le (by rw [List.size_toArray, rs.length]; exact h.1))
  | tup =>
    exact listW.e (P := fun u => wpAny _ A (call (.type "tuple") [u]) Q E z.s) x h r fun l c us h s rs =>
      call_tuple_list s (fun h' k => q.tup (tk := z.s.toks) x (fun b o e => Heap.get?_push_of_some _ (k b o e)) (Kp.none k new_none) (Heap.get?_push_size _ rfl) rs h.2) (line_le (by rw [List.size_toArray, rs.length]; exact h.1))
  | sorted =>
    refine listW.e (P := fun u => wpAny _ A (call (.builtin "sorted") [u]) Q E z.s) x h r fun l c us h s rs => sorted_strs s (strs_are (some_of (d := []) h.1.2) rs) (Nat.lt_of_le_of_lt (Nat.le_of_eq rs.length) h.1.1) fun out ss' h1 h2 h3 => ?_
    obtain ⟨n, hn⟩ := sortedAll_at z.s.heap us out
    exact q.lst (l := ss'.map .str) (us := out.toList) x (fun b o e => sortedAll_old e) (none_of_size (Nat.le_succ _)) hn (reps_strs h1) (sorted_one h2 h3 ▸ h.2)
  | str => exact V.I.e (P := fun u => wpAny _ A (call (.type "str") [u]) Q E z.s) h r fun i t h => P.str_of_int (str_fits h.1) (q.str x h.2)
theorem split_len {y : Str} (h : y.length ≤ 1000) : (Builtin.Str.spaceWords y (y.length + 1)).length ≤ sizeLine :=
  Nat.le_trans (Nat.le_trans (StrLaws.len_le_wsum _) (Nat.le_trans (StrLaws.sw_weight y).1 (Nat.succ_le_succ h))) (by decide)
theorem g_spl0 {y : Str} {t : Tok} (x : SR Λ z) (hz : y.length ≤ 1000) (k : K (.lst ((Txt.words y).map .str)) z.σ) (q : PK Λ z K Q) : wpAny (model Λ.prog Λ.w) A (call (.builtin "str.split") [.str y t]) Q E z.s := by
  refine call_meets F.slot_str_split (typeIs_str _ _ _) F.entry_str_split (F.args_str_split_1 _) (meets_str_split_space y t (line_le hz) (split_len hz)) ?_
  cases hw : Builtin.Str.spaceWords y (y.length + 1) == [(0, y.length)]
  · rw [show Txt.words y = PySem.wordsOf y from if_neg (ne_true_of_eq_false hw)] at k
    simp only [Bool.false_eq_true, if_false]
    rw [strsFrom_eq]
    exact q.pushL x (strs_list (numbered_texts _ _)) k
  · rw [show Txt.words y = [y] from if_pos hw] at k
    simp only [if_true]
    exact q.pushL (tk := z.s.toks) (us := strValues [(y, t)]) x (strs_list (l := [(y, t)]) rfl) k
theorem g_spl1 {y d : Str} {t t' : Tok} (x : SR Λ z) (hz : y.length ≤ 1000 ∧ 0 < d.length) (k : K (.lst ((Txt.split y d).map .str)) z.σ) (q : PK Λ z K Q) : wpAny (model Λ.prog Λ.w) A (call (.builtin "str.split") [.str y t, .str d t']) Q E z.s := by
  have hy : (d.length == 0) = false := beq_eq_false_iff_ne.mpr (Nat.ne_of_gt hz.2)
  have hn : (Builtin.Str.partsBetween y (Builtin.Str.occurrences y d 0 y.length (y.length + 1)) d.length).length ≤ sizeLine := by
    rw [length_partsBetween]
    exact Nat.le_trans (Nat.succ_le_succ (Nat.le_trans (StrLaws.occ_length_le y d 0 y.length (y.length + 1)) (Nat.succ_le_succ hz.1))) (by decide)
  have one : Txt.split y d = [y] → Q (.ref z.s.heap.objs.size) { z.s with heap := z.s.heap.push { cls := .type "list", data := .seq (strValues [(y, t)]).toArray } } := fun ew =>
    q.pushL (tk := z.s.toks) (us := strValues [(y, t)]) x (strs_list (l := [(y, t)]) rfl) (by rw [ew] at k; exact k)
  cases h1 : (decide (y.length < d.length) || decide (Builtin.Str.strKind y < Builtin.Str.strKind d))
  · cases hf : (Builtin.Str.occurrences y d 0 y.length (y.length + 1)).isEmpty
    · refine call_meets F.slot_str_split (typeIs_str _ _ _) F.entry_str_split (F.args_str_split_2 _ _) (meets_str_split_sep y d t t' h1 hy hf (line_le hz.1) hn) ?_
      rw [show Txt.split y d = Builtin.Str.partsBetween y (Builtin.Str.occurrences y d 0 y.length (y.length + 1)) d.length from (if_neg (ne_true_of_eq_false h1)).trans (if_neg (ne_true_of_eq_false hf))] at k
      rw [strsFrom_eq]
      exact q.pushL x (strs_list (numbered_texts _ _)) k
    · exact call_meets F.slot_str_split (typeIs_str _ _ _) F.entry_str_split (F.args_str_split_2 _ _) (meets_str_split_not_found y d t t' h1 hy hf) (one ((if_neg (ne_true_of_eq_false h1)).trans (if_pos hf)))
  · exact call_meets F.slot_str_split (typeIs_str _ _ _) F.entry_str_split (F.args_str_split_2 _ _) (meets_str_split_cannot_occur y d t t' h1) (one (if_pos h1))
theorem idx_at {k : Str} : ∀ {ss : List Str} {us : List Value} {j : Nat}, idxS k ss = some j → StrsAre us ss →
    (∃ h : j < us.length, us[j].isStr k = true) ∧ ∀ (m : Nat) (h : m < us.length), m < j → us[m].isStr k = false := by
  intro ss
  induction ss with
  | nil => intro us j e _; exact ns rfl e
  | cons y ss ih =>
    intro us j e S
    cases S with
    | cons _ t S =>
      have e : cond (Mine.seq y k) (some 0) ((idxS k ss).map Nat.succ) = some j := e
      cases c : Mine.seq y k with
      | true =>
        rw [c] at e
        exact Option.some.inj e ▸ ⟨⟨Nat.zero_lt_succ _, by rw [List.getElem_cons_zero]; exact beq_iff_eq.mpr (seq_iff.mp c)⟩, fun m _ h => absurd h (Nat.not_lt_zero _)⟩
      | false =>
        rw [c] at e
        obtain ⟨i, e1, rfl⟩ := Option.map_eq_some_iff.mp e
        obtain ⟨⟨h2, h3⟩, h4⟩ := ih e1 S
        refine ⟨⟨Nat.succ_lt_succ h2, h3⟩, fun m hm h => ?_⟩
        cases m with
        | zero => exact beq_eq_false_iff_ne.mpr fun h => Bool.eq_false_iff.mp c (seq_iff.mpr h)
        | succ m => exact h4 m (Nat.lt_of_succ_lt_succ hm) (Nat.lt_of_succ_lt_succ h)
theorem isS_at {s : Shared} {k : Str} {t : Tok} : ∀ {ss : List Str} {us : List Value}, StrsAre us ss → ∀ y ∈ us, SeqAt.EqAt A s y (.str k t) (y.isStr k)
  | _, _, .nil, y, h => nomatch h
  | _, _, .cons a u hs, y, h => (List.mem_cons.mp h).elim (fun e => e ▸ SeqAt.EqAt.str_str a u k t) (isS_at hs y)
theorem g_idx {c : Addr} {us : List Value} {l : List V} {b : V} {w : Value} (x : SR Λ z) (h : idxW (.lst l) b (kv K z.σ)) (s : SqAt z.W "list" c us) (rs : Reps Λ z.W us l) (rb : Rep Λ z.W w b) (q : PK Λ z K Q) :
    wpAny (model Λ.prog Λ.w) A (call (.builtin "list.index") [.ref c, w]) Q E z.s :=
  V.S.e (P := fun w => wpAny _ A (call (.builtin "list.index") [_, w]) Q E z.s) h rb fun k t hz => hz.2.e fun i e h => bind_e e fun ss e1 e2 => by
    have S := strs_are e1 rs
    obtain ⟨⟨hlt, hit⟩, hno⟩ := idx_at e2 S
    obtain ⟨n, sl, s⟩ := s
    have ho := x.fz _ _ s
    exact call_meets F.slot_list_index ⟨_, ho, rfl⟩ F.entry_list_index (F.args_list_index_2 _ _)
      (SeqAt.list_indexAt _ us.toArray _ _ _ _ (fun v => v.isStr k) i hlt (by have := hz.1; have := rs.length; first | lia | omega) hit (fun m hm h => hno m hm h))
      ⟨ho, fun y hy => isS_at S y (by simpa using hy), q.int x h⟩
theorem g_app {n : Nat} {l : List V} {b : V} {p : Addr × Addr} {w : Value} (x : SR Λ z) (hn : z.σ[n]? = some (.app l)) (hp : z.W.mu[n]? = some p) (hz : l.length ≤ 1000) (rb : Rep Λ z.W w b) (k : K .non (z.σ.set n (.app (l ++ [b])))) (q : PK Λ z K Q) :
    wpAny (model Λ.prog Λ.w) A (call (.builtin "list.append") [.ref p.1, w]) Q E z.s :=
  have o := x.obj _ _ _ hn hp
  o.2.elim fun us y => wpAny_list_append_plain y.1 (fun h' hl' hsb => q .non .none ⟨z.W, { z.s with heap := h' }, z.σ.set n (.app (l ++ [b]))⟩ k (.turn x hp (fun b o hb' e' => (hsb.2 b hb'.1).trans e') ⟨o.1, _, List.push_toArray .. ▸ hl', y.2.append (.one rb)⟩) rfl)
    (line_le (by rw [List.size_toArray, y.2.length]; exact hz))
section
variable {Q : Value × List Value → Shared → Prop} {M : Model} {pl : Sem Bool}
theorem m_app {n : Nat} {l : List V} {p : Addr × Addr} (x : SR Λ z) (hn : z.σ[n]? = some (.app l)) (hp : z.W.mu[n]? = some p) (h : Q (.builtin "list.append", [.ref p.1]) z.s) : wpAny M A (getMethod (.ref p.1) "append" pl) Q E z.s :=
  (x.obj _ _ _ hn hp).2.elim fun us y => y.1.elim fun n y => Calls.getMethod_list_append y rfl rfl h
theorem m_idx {c : Addr} {us : List Value} (x : SR Λ z) (s : SqAt z.W "list" c us) (h : Q (.builtin "list.index", [.ref c]) z.s) : wpAny M A (getMethod (.ref c) "index" pl) Q E z.s :=
  s.elim fun n s => s.elim fun sl s => getMethod_builtin ⟨_, x.fz _ _ s, rfl⟩ F.plainAttrs_list F.slot_list_index F.type_list_index (fun a e => by cases e; exact ⟨_, x.fz _ _ s, rfl⟩) h
theorem m_get {n : Nat} {l : List (Int × V)} {p : Addr × Addr} (x : SR Λ z) (hn : z.σ[n]? = some (.dicI l)) (hp : z.W.mu[n]? = some p) (h : Q (.builtin "dict.get", [.ref p.1]) z.s) : wpAny M A (getMethod (.ref p.1) "get" pl) Q E z.s :=
  (x.obj _ _ _ hn hp).2.2.elim fun kvs y => getMethod_builtin y.1.typeIs F.plainAttrs_dict F.slot_dict_get F.type_dict_get y.1.mapOf.noDict h
end
theorem not_sys {n : Nat} {p : Addr × Addr} (x : SR Λ z) (hp : z.W.mu[n]? = some p) (hs : ∃ o, Λ.base.get? sysModules = some o) : (p.1 == sysModules) = false :=
  beq_eq_false_iff_ne.mpr fun e => hs.elim fun o ho => ns (x.nofz p.1 ⟨p, List.mem_of_getElem? hp, .inl rfl⟩) (e ▸ x.base _ _ ho)
theorem get_rep {i : Int} {l : List (Int × V)} {kvs : List (Int × Value)} {d : V} {w : Value} (hk : kvs.map (·.1) = l.map (·.1)) (hs : Reps Λ W (kvs.map (·.2)) (l.map (·.2))) (rd : Rep Λ W w d) : Rep Λ W ((valueAt kvs i).getD w) ((lookI i l).getD d) := by
  obtain ⟨l1, l2⟩ := lookI_at (k := i) hk hs
  cases e : lookI i l with
  | none => rw [l2 e]; exact rd
  | some y => exact (l1 y e).elim fun v h => by rw [h.1]; exact h.2
theorem g_newL {us : List Value} {l : List V} {D : Addr} {tk n : Nat} {sl : Array (Option Value)} {h' : Heap} (x : SR Λ z) (kp : Kp z.s.heap h') (hd : z.s.heap.get? D = none) (ho : h'.get? D = some ⟨.type "list", none, .seq us.toArray n, sl⟩) (rs : Reps Λ z.W us l) (k : K (.ref z.σ.length) (z.σ ++ [.lst l])) (q : PK Λ z K Q) : Q (.ref D) { z.s with heap := h', toks := tk } :=
  q _ _ ⟨z.W.own (D, D), { z.s with heap := h', toks := tk }, z.σ ++ [.lst l]⟩ k (.own (o := .lst l) (p := (D, D)) x kp hd hd ⟨rfl, us, ⟨_, ho, rfl, _, rfl⟩, rs.le (z.W.own_le _)⟩) (own_rep x)
theorem g_newA {us : List Value} {l : List V} (hz : us.length ≤ 1000) (x : SR Λ z) (rs : Reps Λ z.W us l) (k : K (.ref z.σ.length) (z.σ ++ [.app l])) (q : PK Λ z K Q) : wpAny (model Λ.prog Λ.w) A (newList us) Q E z.s :=
  wpAny_newList (q _ _ ⟨z.W.own (z.s.heap.objs.size, z.s.heap.objs.size), _, z.σ ++ [.app l]⟩ k (.own (o := .app l) (p := (_, _)) (tk := z.s.toks) x push_old new_none new_none ⟨rfl, us, ⟨_, Heap.get?_push_size _ rfl⟩, rs.le (z.W.own_le _)⟩) (own_rep x)) (line_le hz)
end
end Mine
namespace Mine
structure Cx (A : Around) (l : List Env) (n : Nat) : Prop where
  hand : A.handled = none
  room : A.depth + n < recursionLimit
  units : A.units + 20 * n + 40 < cLine
  frs : A.frames = some l
theorem Cx.in1 {A : Around} {l : List Env} {n : Nat} (x : Cx A l (n + 1)) : Cx A.in1 l n := ⟨x.hand, Nat.lt_trans (Nat.add_lt_add_left (Nat.lt_succ_self _) _) x.room, by have := x.units; show A.units + 1 + 20 * n + 40 < _; (first | lia | omega), x.frs⟩
theorem Cx.deeper {A : Around} {l : List Env} {n : Nat} {env : Env} (x : Cx A l (n + 1)) : Cx (A.deeper env) (env :: l) n :=
  ⟨x.hand, by have := x.room; show A.depth + 1 + n < _; (first | lia | omega), by have := x.units; show A.units + 3 + 20 * n + 40 < _; (first | lia | omega), Around.frames_deeper x.frs⟩
theorem Cx.less {A : Around} {l : List Env} {n m : Nat} (x : Cx A l n) (h : m ≤ n) : Cx A l m := ⟨x.hand, by have := x.room; (first | lia | omega), by have := x.units; (first | lia | omega), x.frs⟩
structure Out (W : Wd) (fr : List Addr) (l : List Env) (h : Heap) : Prop where
  at_ : ∀ a, a ∈ fr → (∃ o, h.get? a = some o ∧ ∀ vs, o.data ≠ .fields vs) ∧ ¬ foot W a ∧ W.fz a = none
  mem : ∀ env, env ∈ l → env.scope.kind ≠ .module ∧ ∃ L, env.frame = some L ∧ L ∈ fr
theorem Out.ff {W : Wd} {fr : List Addr} {l : List Env} {h B : Heap} (x : Out W fr l h) (hB : ∀ a, a ∈ fr → B.get? a = none) : h.FunFrames B l := by
  obtain ⟨at_, m⟩ := x
  induction l with
  | nil => trivial
  | cons env l ih =>
    obtain ⟨hk, L, hL, hm⟩ := m env (.head _)
    obtain ⟨⟨o, ho, hd⟩, _⟩ := at_ L hm
    exact ⟨hk, ⟨L, o, hL, hB L hm, ho, hd⟩, ih fun e he => m e (.tail _ he)⟩
theorem Out.go {Λ : Ly} {X : Addr → Prop} {z z' : Z} {l : List Env} (x : Out z.W z.W.fr l z.s.heap) (g : Go Λ X z z') (hX : ∀ a, a ∈ z.W.fr → ¬ X a) : Out z'.W z.W.fr l z'.s.heap :=
  ⟨fun a ha => (x.at_ a ha).1.elim fun o ho =>
    have k := g.keep a o ho.1 (x.at_ a ha).2.1 (hX a ha)
    have f := g.fresh a o ho.1 (x.at_ a ha).2.1 (hX a ha)
    ⟨k.2.elim fun sl e => ⟨_, e, ho.2⟩, f.1, f.2 (x.at_ a ha).2.2⟩, x.mem⟩
structure Fx (Λ : Ly) (ρ : Env') (L : Addr) (z : Z) : Prop where
  ns : ∃ m, z.s.heap.Ns L m ∧ ∀ (x : Nat) v, look x ρ = some v → x < Λ.T.n ∧ ∃ u, m (Λ.T.nm x) = some u ∧ Rep Λ z.W u v
  nf : ¬ foot z.W L
  nz : z.W.fz L = none
theorem Fx.go {Λ : Ly} {z z' : Z} {ρ : Env'} {L : Addr} (x : Fx Λ ρ L z) (g : Go Λ NoX z z') : Fx Λ ρ L z' :=
  x.ns.elim fun m h => h.1.elim fun o h1 => h1.elim fun es h1 => h1.elim fun ep h1 =>
    have f := g.fresh L o h1.1 x.nf id
    ⟨(g.keep L o h1.1 x.nf id).2.elim fun sl hk => ⟨m, ⟨_, es, ep, hk, h1.2⟩, fun y v hl => (h.2 y v hl).imp id (.imp fun u => .imp id (·.le g.le))⟩, f.1, f.2 x.nz⟩
theorem Fx.eqv {Λ : Ly} {ρ ρ' : Env'} {L : Addr} {z : Z} (x : Fx Λ ρ L z) (e : ∀ y, look y ρ' = look y ρ) : Fx Λ ρ' L z := ⟨x.ns.imp fun m => .imp id fun h y v hl => h y v (e y ▸ hl), x.nf, x.nz⟩
theorem look_put {x y : Nat} {v : V} (ρ : Env') : look y (put x v ρ) = cond (Nat.beq y x) (some v) (look y ρ) := by
  induction ρ with
  | nil => rfl
  | cons p r ih =>
    show look y (cond (Nat.beq x p.1) ((x, v) :: r) (p :: put x v r)) = cond (Nat.beq y x) (some v) (cond (Nat.beq y p.1) (some p.2) (look y r))
    cases h : Nat.beq x p.1 with
    | true => rw [← Nat.eq_of_beq_eq_true h]; show cond _ _ _ = _; cases Nat.beq y x <;> rfl
    | false =>
      show cond (Nat.beq y p.1) _ (look y (put x v r)) = _
      rw [ih]
      cases h' : Nat.beq y p.1 with
      | true =>
        cases h'' : Nat.beq y x with
        | true => rw [← Nat.eq_of_beq_eq_true h', Nat.eq_of_beq_eq_true h'', Nat.beq_refl] at h; cases h
        | false => rfl
      | false => rfl
theorem lkp_eq (x : Str) : ∀ l : List (Str × NameKind), lkp x l = l.lookup x
  | [] => rfl
  | (y, k) :: r => by
    rw [List.lookup_cons]
    show cond (Mine.seq x y) (some k) (lkp x r) = _
    cases h : Mine.seq x y with
    | true => rw [beq_iff_eq.mpr (seq_iff.mp h)]; rfl
    | false => rw [beq_eq_false_iff_ne.mpr fun z => Bool.eq_false_iff.mp h (seq_iff.mpr z)]; exact lkp_eq x r
theorem is_iff {sc : Scope} {x : Str} {k : NameKind} (h : (decide (lkp x sc.names = some k) && !Mine.seq x "__debug__") = true) : sc.names.lookup x = some k ∧ (x == ("__debug__" : Str)) = false :=
  ⟨lkp_eq x _ ▸ of_decide_eq_true (andL h), beq_eq_false_iff_ne.mpr fun z => by have h := andR h; rw [z, seq_iff.mpr rfl] at h; cases h⟩
theorem isLoc_iff {sc : Scope} {x : Str} (h : isLoc sc x = true) : sc.names.lookup x = some .local ∧ (x == ("__debug__" : Str)) = false := is_iff h
theorem isGlo_iff {sc : Scope} {x : Str} (h : isGlo sc x = true) : sc.names.lookup x = some .globalImplicit ∧ (x == ("__debug__" : Str)) = false := is_iff h
structure Gl (Λ : Ly) : Prop extends Gr Λ where
  gns : Λ.base.Ns mainGlobals Λ.gm
  bns : Λ.base.Ns builtinsNs Λ.bm
  glob : ∀ (x : Nat) v, Λ.T.glob x = some v → ∃ u, Λ.gm (Λ.T.nm x) = some u ∧ ∀ W, Rep Λ W u v
  cls : ∀ (c : Nat), 0 < Λ.T.init c → Λ.gm (Λ.T.nm c) = some (.ref (Λ.cad c))
  bi : ∀ b, Λ.gm (Str.ofString (biName b)) = none ∧ Λ.bm (Str.ofString (biName b)) = some (biVal b)
  rng : Λ.gm "range" = none ∧ Λ.bm "range" = some (.type "range")
  enum : Λ.gm "enumerate" = none ∧ Λ.bm "enumerate" = some (.type "enumerate")
  fnm : ∀ f, Λ.T.fnq f = true → Λ.gm (Λ.T.nm f) = some (.ref (Λ.fad f)) ∧ keepIn Λ.K (.ref (Λ.fad f)) = true
  sysm : ∃ o, Λ.base.get? sysModules = some o
  mexc : ∃ nm q N bs bm hdct sn sub ab col dd k0 k1 k2 k3 k5 newId, Λ.base.get? (Λ.cad 79) = some (excClassObj nm q (Λ.cad 79) N bs bm hdct sn sub ab col dd k0 k1 k2 k3 k5 newId) ∧ bm.contains (.type "BaseException") = true
  mexn : Λ.gm (Λ.T.nm 79) = some (.ref (Λ.cad 79))
  meth : ∀ (c m f : Nat), Λ.T.meth c m = some f → m < Λ.T.n ∧ (∀ x, x ∈ Λ.T.flds c → x ≠ m) ∧ findIn Λ.K (.ref (Λ.cad c)) (Λ.T.nm m) = some (some (.ref (Λ.fad f))) ∧ isFn Λ.K (.ref (Λ.fad f)) = true ∧ plainGet Λ.K (Λ.cad c) (Λ.T.nm m) = true ∧ keepIn Λ.K (.ref (Λ.fad f)) = true
  make : ∀ (c : Nat), 0 < Λ.T.init c → makesIn Λ.K (Λ.cad c) = true ∧ keepIn Λ.K (.ref (Λ.cad c)) = true ∧ findIn Λ.K (.ref (Λ.cad c)) "__init__" = some (some (.ref (Λ.fad (Λ.T.init c)))) ∧
    typeIn Λ.K (.ref (Λ.fad (Λ.T.init c))) = some (.type "function") ∧ specialIn Λ.K (.ref (Λ.cad c)) "__getattribute__" = some (some (.builtin "type.__getattribute__")) ∧
    readsIn Λ.K (Λ.cad c) (.type "type") = true ∧ findCls Λ.K (.ref (Λ.cad c)) (.type "type") "__init__" = some (.val (.ref (Λ.fad (Λ.T.init c)))) ∧ keepIn Λ.K (.ref (Λ.fad (Λ.T.init c))) = true
noncomputable def Cov (z z' : Z) (B : Heap) : Prop := ∀ b o, z'.s.heap.get? b = some o → b ∉ z'.W.fr → (foot z'.W b ∨ (∃ o', z'.W.fz b = some o') ∨ ∃ o', z.s.heap.get? b = some o') → B.get? b = some o
noncomputable def mclass (Λ : Ly) : Value := .ref (Λ.cad 79)
noncomputable def PX (Λ : Ly) (l : List Env) (z : Z) (K : H → Prop) (E : Value → Shared → Prop) : Prop :=
  ∀ e z' B, K z'.σ → Go Λ NoX z z' → (∀ a, a ∈ z.W.fr → B.get? a = none) → Cov z z' B → (∃ a0, Heap.FlyingW B l e (mclass Λ) a0 z'.s.heap) → E (.ref e) z'.s
structure CK (Λ : Ly) (l : List Env) (z : Z) (K : Option V → H → Prop) (R : Result → Shared → Prop) : Prop where
  ret : PK Λ z (fun v => K (some v)) fun u s => R (.ok (.ret u)) s
  exc : PX Λ l z (K none) fun e s => R (.error e) s
noncomputable def CallOk (Λ : Ly) (n : Nat) (C : Orc) : Prop := ∀ (f : Nat) (args : List V) (z : Z) (K : Option V → H → Prop), C f args z.σ K →
  ∀ (A : Around) (l : List Env) (vals : List Value) (R : Result → Shared → Prop), Cx A l (2 * n) → SR Λ z → Out z.W z.W.fr l z.s.heap → Reps Λ z.W vals args → CK Λ l z K R → codeAny (model Λ.prog Λ.w) A (.call (.ref (Λ.fad f)) ⟨vals, []⟩) R z.s
structure Cc where
  Λ : Ly
  A : Around
  sc : Scope
  name : Str
  L : Addr
  a : Addr
  cd : Value
  l : List Env
  n : Nat
  C : Orc
noncomputable abbrev Cc.M (Γ : Cc) : Model := model Γ.Λ.prog Γ.Λ.w
noncomputable abbrev Cc.v (Γ : Cc) : Env := envOf Γ.name Γ.sc Γ.L Γ.a Γ.cd
structure Cc.ok (Γ : Cc) : Prop where
  G : Gl Γ.Λ
  hk : Γ.sc.kind = .function
  cx : Cx Γ.A Γ.l (2 * Γ.n + 1)
  hc : CallOk Γ.Λ Γ.n Γ.C
structure In (Γ : Cc) (ρ : Env') (z : Z) : Prop where
  H : Γ.ok
  sr : SR Γ.Λ z
  fx : Fx Γ.Λ ρ Γ.L z
  out : Out z.W z.W.fr Γ.l z.s.heap
  own : Γ.L ∈ z.W.fr
section
variable {Γ : Cc} {ρ ρ' : Env'} {z z' : Z} {Q : Value → Shared → Prop} {E : Value → Shared → Prop}
theorem In.go (i : In Γ ρ z) (g : Go Γ.Λ NoX z z') : In Γ ρ z' := ⟨i.H, g.sr, i.fx.go g, by rw [g.frs]; exact i.out.go g fun _ _ => id, by rw [g.frs]; exact i.own⟩
theorem In.goL (i : In Γ ρ z) (g : Go Γ.Λ (· = Γ.L) z z') (fx : Fx Γ.Λ ρ' Γ.L z') : In Γ ρ' z' := by
  refine ⟨i.H, g.sr, fx, ⟨fun b hb => ?_, fun e he => ?_⟩, by rw [g.frs]; exact i.own⟩
  · rw [g.frs] at hb
    by_cases q : b = Γ.L
    · exact q ▸ ⟨fx.ns.elim fun m h => h.1.elim fun o h => h.elim fun es h => h.elim fun ep h => ⟨o, h.1, fun vs z => nomatch (h.2.1.symm.trans z : Data.dict _ _ = .fields _)⟩, fx.nf, fx.nz⟩
    · have h := i.out.at_ b hb
      exact h.1.elim fun o ho => have f := g.fresh b o ho.1 h.2.1 q; ⟨(g.keep b o ho.1 h.2.1 q).2.elim fun sl e => ⟨_, e, ho.2⟩, f.1, f.2 h.2.2⟩
  · rw [g.frs]; exact i.out.mem e he
theorem In.glo {A : Around} {x : Str} {p : Pos} {u : Value} (i : In Γ ρ z) (hc : isGlo Γ.sc x = true) (hv : Γ.Λ.gm x = some u) (q : Q u z.s) : wpAny Γ.M A (eval (.Name x p) Γ.v) Q E z.s :=
  Calls.Name_function_global i.H.hk (isGlo_iff hc).1 (Calls.loadGlobal_global (i.H.G.gns.at fun o e => i.sr.fz _ _ (i.sr.base _ _ e)) hv q) (isGlo_iff hc).2
theorem In.built {x : Str} {p : Pos} {u : Value} (i : In Γ ρ z) (hc : isGlo Γ.sc x = true) (hv : Γ.Λ.gm x = none ∧ Γ.Λ.bm x = some u) (q : Q u z.s) : wpAny Γ.M Γ.A (eval (.Name x p) Γ.v) Q E z.s :=
  Calls.Name_function_global i.H.hk (isGlo_iff hc).1 (Calls.loadGlobal_builtin (i.H.G.gns.at fun o e => i.sr.fz _ _ (i.sr.base _ _ e)) hv.1 (i.H.G.bns.at fun o e => i.sr.fz _ _ (i.sr.base _ _ e)) hv.2 q) (isGlo_iff hc).2
theorem In.loc {x : Nat} {v : V} {p : Pos} (i : In Γ ρ z) (hc : isLoc Γ.sc (Γ.Λ.T.nm x) = true) (hl : look x ρ = some v) (q : ∀ u, Rep Γ.Λ z.W u v → Q u z.s) : wpAny Γ.M Γ.A (eval (.Name (Γ.Λ.T.nm x) p) Γ.v) Q E z.s :=
  i.fx.ns.elim fun m h => (h.2 x v hl).2.elim fun u r => wpAny_Name (wpAny_loadName_local i.H.hk (isLoc_iff hc).1 h.1 r.1 (q u r.2)) (isLoc_iff hc).2
theorem ble_lt {x y : Nat} (h : Nat.blt x y = true) : x < y := Nat.le_of_ble_eq_true h
theorem In.store {A : Around} {x : Nat} {v : V} {u : Value} {Q : Unit → Shared → Prop} (i : In Γ ρ z) (hc : (Nat.blt x Γ.Λ.T.n && isLoc Γ.sc (Γ.Λ.T.nm x)) = true) (r : Rep Γ.Λ z.W u v)
    (q : ∀ s, Go Γ.Λ (· = Γ.L) z ⟨z.W, s, z.σ⟩ → Fx Γ.Λ (put x v ρ) Γ.L ⟨z.W, s, z.σ⟩ → Heap.SameBut Γ.L z.s.heap s.heap → Q () s) : wpAny Γ.M A (storeName Γ.v (Γ.Λ.T.nm x) u) Q E z.s :=
  i.fx.ns.elim fun m h => wpAny_storeName_local (isLoc_iff (andR hc)).1 h.1 (fun h' hn' hs => q { z.s with heap := h', toks := z.s.toks + 1 }
      ⟨.refl _, rfl, fun b o e _ hb => exactly ((hs.2 b hb).trans e), fun b o e f _ => ⟨f, id⟩, rfl, rfl, i.sr.old (.refl _) rfl (fun a o e => (hs.2 a fun (q : a = Γ.L) => ns i.fx.nz (q ▸ e)).trans (i.sr.fz a o e)) i.sr.nofz
        fun a o f e => (hs.2 a fun (q : a = Γ.L) => i.fx.nf (q ▸ f)).trans e⟩
      ⟨⟨_, hn', fun y w hl => by
        rw [look_put] at hl
        cases c : Nat.beq y x with
        | true => rw [c] at hl; have e := Nat.eq_of_beq_eq_true c; subst e; exact ⟨ble_lt (andL hc), u, if_pos rfl, Option.some.inj hl ▸ r⟩
        | false =>
          rw [c] at hl
          exact (h.2 y w hl).imp id (.imp fun u' => .imp (fun e => (if_neg fun q => by rw [i.H.G.inj _ _ (h.2 y w hl).1 (ble_lt (andL hc)) q, Nat.beq_refl] at c; cases c).trans e) id)⟩, i.fx.nf, i.fx.nz⟩ hs)
    (by show (Γ.sc.kind == .class || (Γ.sc.kind == .module && Γ.L != mainGlobals)) = false; rw [i.H.hk]; rfl)
end
end Mine
namespace Mine
structure G2 (Γ : Cc) (z : Z) (K : KV) (e : Expr) : Prop where
  val : ∀ Q E, PK Γ.Λ z K Q → wpAny Γ.M Γ.A (eval e Γ.v) Q E z.s
  tru : ∀ Q E, (∀ v z', K v z'.σ → Go Γ.Λ NoX z z' → v.B fun b => Q b z'.s) → wpAny Γ.M Γ.A (isTrue e Γ.v (eval e Γ.v)) Q E z.s
noncomputable def PB (Λ : Ly) (z : Z) (K : Bool → H → Prop) (Q : Bool → Shared → Prop) : Prop := ∀ b z', K b z'.σ → Go Λ NoX z z' → Q b z'.s
noncomputable def PS (Λ : Ly) (z : Z) (l : List Expr) (K : List V → H → Prop) (Q : List Value → Shared → Prop) : Prop := ∀ vs us z', K vs z'.σ → Go Λ NoX z z' → Reps Λ z'.W us vs → us.length = l.length → Q us z'.s
noncomputable def PE (Γ : Cc) (x : Ex) : Prop := ∀ (p : PT) (ρ : Env') (z : Z) (K : KV), okE Γ.Λ.T Γ.sc x p = true → wE Γ.Λ.T Γ.C ρ x z.σ K → In Γ ρ z → G2 Γ z K (toE Γ.Λ.T x p)
noncomputable def PEs (Γ : Cc) (x : Exs) : Prop := ∀ (p : PT) (ρ : Env') (z : Z) (K : List V → H → Prop), okEs Γ.Λ.T Γ.sc x p = true → wEs Γ.Λ.T Γ.C ρ x z.σ K → In Γ ρ z →
  ∀ (pos : Pos) (Q : List Value → Shared → Prop) (E : Value → Shared → Prop), PS Γ.Λ z (toEs Γ.Λ.T x p) K Q → wpAny Γ.M Γ.A (spliced (backTo pos (starEach (toEs Γ.Λ.T x p) Γ.v))) Q E z.s
structure GB (Γ : Cc) (z : Z) (K : Bool → H → Prop) (op : BoolOp) (es : List Expr) : Prop where
  val : ∀ pos Q E, PB Γ.Λ z K (fun b => Q (.bool b)) → wpAny Γ.M Γ.A (eval (.BoolOp op es pos) Γ.v) Q E z.s
  tru : ∀ Q E, PB Γ.Λ z K Q → wpAny Γ.M Γ.A (allTrue op es Γ.v) Q E z.s
noncomputable def PBo (Γ : Cc) (op : BoolOp) (x : Exs) : Prop := ∀ (p : PT) (ρ : Env') (z : Z) (K : Bool → H → Prop), okEs Γ.Λ.T Γ.sc x p = true → wBo Γ.Λ.T Γ.C ρ op x z.σ K → In Γ ρ z → GB Γ z K op (toEs Γ.Λ.T x p)
structure Pl (x : Ex) (e : Expr) : Prop where
  m1 : ∀ op, lastMarks [op] [e] = false
  m2 : ∀ op op' d, lastMarks [op, op'] [d, e] = false
  sub : ∀ o i, subscripted e false o i = operate [o, i] (getItem o i)
  star : ∀ es env, starEach (e :: es) env = (false, eval e env) :: starEach es env
  swap : ∀ t k env, swapsWith e t k env = pure false
  fold : ∀ env x, foldedSetIterable e env x = pure x
  base : noSup x = true → ∀ at_ env whole, attributeBase e at_ env whole = whole
  sto : noTup x = true → ∀ ts k p env, swappedStores [.Tuple ts k p] e env = pure none
section
variable {Γ : Cc} {ρ : Env'} {z z' : Z} {K : KV}
theorem pl (T : Tab) (x : Ex) (p : PT) : Pl x (toE T x p) := by
  cases x with
  | cf f es =>
    cases es with
    | nil => exact ⟨fun _ => rfl, fun _ _ _ => rfl, fun _ _ => rfl, fun _ _ => rfl, fun _ _ _ => rfl, fun _ _ => rfl, (fun h => nomatch (h : false = true)), fun _ _ _ _ _ => rfl⟩
    | cons e es => exact ⟨fun _ => rfl, fun _ _ _ => rfl, fun _ _ => rfl, fun _ _ => rfl, fun _ _ _ => rfl, fun _ _ => rfl, fun _ _ _ _ => rfl, fun _ _ _ _ _ => rfl⟩
  | tup es => exact ⟨fun _ => rfl, fun _ _ _ => rfl, fun _ _ => rfl, fun _ _ => rfl, fun _ _ _ => rfl, fun _ _ => rfl, fun _ _ _ _ => rfl, fun h => nomatch (h : false = true)⟩
  | cn c es => exact ⟨fun _ => rfl, fun _ _ _ => rfl, fun _ _ => rfl, fun _ _ => rfl, fun _ _ _ => rfl, fun _ _ => rfl, (fun h => nomatch (h : false = true)), fun _ _ _ _ _ => rfl⟩
  | cnm c es => exact ⟨fun _ => rfl, fun _ _ _ => rfl, fun _ _ => rfl, fun _ _ => rfl, fun _ _ _ => rfl, fun _ _ => rfl, (fun h => nomatch (h : false = true)), fun _ _ _ _ _ => rfl⟩
  | _ => exact ⟨fun _ => rfl, fun _ _ _ => rfl, fun _ _ => rfl, fun _ _ => rfl, fun _ _ _ => rfl, fun _ _ => rfl, fun _ _ _ _ => rfl, fun _ _ _ _ _ => rfl⟩
theorem truthy_bool {M : Model} {A : Around} {s : Shared} {b : Bool} {Q : Bool → Shared → Prop} {E : Value → Shared → Prop} (h : Q b s) : wpAny M A (truthy (.bool b)) Q E s := fun _ _ _ => h
theorem ifW.d {c : Bool} {a b : Prop} {G : Bool → Prop} (h : ifW c a b) (k1 : a → G true) (k2 : b → G false) : G c := by
  cases c with
  | true => exact k1 h
  | false => exact k2 h
theorem ifW.ite {c : Bool} {a b X Y : Prop} (h : ifW c a b) (k1 : a → X) (k2 : b → Y) : if c = true then X else Y := by
  cases c with
  | true => exact k1 h
  | false => exact k2 h
theorem truthy_of {Λ : Ly} {W : Wd} {M : Model} {A : Around} {s : Shared} {v : V} {u : Value} {P : Bool → Prop} {Q : Bool → Shared → Prop} {E : Value → Shared → Prop} (h : v.B P) (r : Rep Λ W u v) (k : ∀ b, u = .bool b → P b → Q b s) : wpAny M A (truthy u) Q E s := by
  cases v with
  | boo b => exact Eq.symm (r : u = _) ▸ truthy_bool (k b r h)
  | _ => exact h.elim
theorem V.B.imp {v : V} {P P' : Bool → Prop} (h : v.B P) (k : ∀ b, P b → P' b) : v.B P' := by
  cases v with
  | boo b => exact k b h
  | _ => exact h.elim
theorem G2.plain {e : Expr} (h : ∀ Q E, PK Γ.Λ z K Q → wpAny Γ.M Γ.A (eval e Γ.v) Q E z.s) (he : isTrue e Γ.v (eval e Γ.v) = (do let v ← eval e Γ.v; standAt e.pos; holding [v] (truthy v))) : G2 Γ z K e :=
  ⟨h, fun Q E q => isTrue_plain (h _ _ fun v u z' k g r => V.B.e (P := fun u => wpAny _ _ (truthy u) Q E z'.s) (q v z' k g) r fun b h => truthy_bool h) he⟩
theorem Cc.ok.hu (H : Γ.ok) : Γ.A.units + 20 < cLine := by have := H.cx.units; first | lia | omega
theorem PK.tick {Λ : Ly} {Q : Value → Shared → Prop} {v : V} {u : Value} {tk : Nat} (q : PK Λ z K Q) (g : Go Λ NoX z z') (k : K v z'.σ) (r : Rep Λ z'.W u v) : Q u { z'.s with toks := tk } := (q.go g).tok g.sr k r
theorem pe_non : PE Γ .non := fun p ρ z K hc he i => .plain (fun Q E q => Constant_none (q.same i.sr he rfl)) rfl
theorem pe_tru : PE Γ .tru := fun p ρ z K hc he i => .plain (fun Q E q => Constant_bool (q.boo i.sr he)) rfl
theorem pe_fal : PE Γ .fal := fun p ρ z K hc he i => .plain (fun Q E q => Constant_bool (q.boo i.sr he)) rfl
theorem pe_int {n : Int} : PE Γ (.int n) := fun p ρ z K hc he i => .plain (fun Q E q => wpAny_Constant_int (q.int i.sr he)) rfl
theorem pe_str {n : Str} : PE Γ (.str n) := fun p ρ z K hc he i => .plain (fun Q E q => Calls.Constant_str (q.str i.sr he)) rfl
theorem pe_loc {x : Nat} : PE Γ (.loc x) := fun p ρ z K hc he i => .plain (fun Q E q => opt.e he fun v e k => i.loc (andR hc) e fun u r => q.same i.sr k r) rfl
theorem pe_glo {x : Nat} : PE Γ (.glo x) := fun p ρ z K hc he i => .plain (fun Q E q => opt.e he fun v e k => (i.H.G.glob x v e).elim fun u h => i.glo hc h.1 (q.same i.sr k (h.2 _))) rfl
theorem pe_bin {op : Operator} {x y : Ex} (hx : PE Γ x) (hy : PE Γ y) : PE Γ (.bin op x y) := fun p ρ z K hc he i =>
  .plain (fun Q E q => wpAny_BinOp ((hx _ ρ z _ (andL hc) he i).val _ _ fun a u z1 he g1 r1 => (hy _ ρ z1 _ (andR hc) he (i.go g1)).val _ _ fun b w z2 he g2 r2 => g_bin g2.sr he (r1.le g2.le) r2 (q.go (g1.trans g2)))) rfl
theorem pe_neg {x : Ex} (hx : PE Γ x) : PE Γ (.neg x) := fun p ρ z K hc he i =>
  .plain (fun Q E q => UnaryOp_ ((hx _ ρ z _ hc he i).val _ _ fun a u z1 he g1 r1 => V.I.e (P := fun u => wpAny _ _ (unaryOp .USub u) Q E z1.s) he r1 fun n t k => neg_int (q.tick g1 k ⟨_, rfl⟩))) rfl
theorem pe_inv {x : Ex} (hx : PE Γ x) : PE Γ (.inv x) := fun p ρ z K hc he i =>
  .plain (fun Q E q => UnaryOp_ ((hx _ ρ z _ hc he i).val _ _ fun a u z1 he g1 r1 => V.I.e (P := fun u => wpAny _ _ (unaryOp .Invert u) Q E z1.s) he r1 fun n t k => invert_int (q.tick g1 k ⟨_, rfl⟩))) rfl
theorem pe_nt {x : Ex} (hx : PE Γ x) : PE Γ (.nt x) := fun p ρ z K hc he i =>
  ⟨fun Q E q => UnaryOp_ ((hx _ ρ z _ hc he i).val _ _ fun a u z1 he g1 r1 => V.B.e (P := fun u => wpAny _ _ (unaryOp .Not u) Q E z1.s) he r1 fun b k => not_of (truthy_bool (q _ _ z1 k g1 rfl))),
   fun Q E q => isTrue_not ((hx _ ρ z _ hc he i).tru _ _ fun v z1 h g1 => h.imp fun b k => q _ z1 k g1)⟩
theorem pe_bol {op : BoolOp} {xs : Exs} (hx : PBo Γ op xs) : PE Γ (.bol op xs) := fun p ρ z K hc he i =>
  ⟨fun Q E q => (hx _ ρ z _ hc he i).val _ _ _ fun b z1 k g1 => q (.boo b) _ z1 k g1 rfl, fun Q E q => (hx _ ρ z _ hc he i).tru _ _ fun b z1 k g1 => q (.boo b) z1 k g1⟩
section
variable {M : Model} {A : Around} {env : Env} {l r : Expr} {op : CmpOp} {pos : Pos} {E : Value → Shared → Prop} {s : Shared}
theorem Compare_1 {Q : Value → Shared → Prop} (o : ∀ op, lastMarks [op] [r] = false) (h : wpAny M A (eval l env) (fun a s => wpAny M A (compareChain pos a [op] [eval r env]) Q E s) E s) : wpAny M A (eval (.Compare l [op] [r] pos) env) Q E s := by
  show wpAny M A (do compareChain pos (← eval l env) [op] (markedEach [op] [r] (evalEach [r] env))) Q E s
  rw [markedEach_of_false _ _ _ (o op)]
  exact wpAny_bind h
theorem isTrue_1 {whole : Sem Value} {Q : Bool → Shared → Prop} (o : ∀ op, lastMarks [op] [r] = false) (h : wpAny M A (eval l env) (fun a s => wpAny M A (testChain pos a [op] [eval r env]) Q E s) E s) : wpAny M A (isTrue (.Compare l [op] [r] pos) env whole) Q E s := by
  show wpAny M A (do testChain pos (← eval l env) [op] (markedEach [op] [r] (evalEach [r] env))) Q E s
  rw [markedEach_of_false _ _ _ (o op)]
  exact wpAny_bind h
end
theorem pe_cmp {op : CmpOp} {x y : Ex} (hx : PE Γ x) (hy : PE Γ y) : PE Γ (.cmp op x y) := fun p ρ z K hc he i =>
  ⟨fun Q E q => Compare_1 (pl _ y _).m1 ((hx _ ρ z _ (andL hc) he i).val _ _ fun a u z1 he g1 r1 => chain_last ((hy _ ρ z1 _ (andR hc) he (i.go g1)).val _ _ fun b w z2 he g2 r2 =>
      g_cmp i.H.hu g2.sr he (r1.le g2.le) r2 fun c k => q _ _ z2 k (g1.trans g2) rfl)),
   fun Q E q => isTrue_1 (pl _ y _).m1 ((hx _ ρ z _ (andL hc) he i).val _ _ fun a u z1 he g1 r1 => test_last ((hy _ ρ z1 _ (andR hc) he (i.go g1)).val _ _ fun b w z2 he g2 r2 =>
      g_cmp i.H.hu g2.sr he (r1.le g2.le) r2 fun c k => truthy_bool (q _ z2 k (g1.trans g2))))⟩
theorem pe_cmp2 {o1 o2 : CmpOp} {x y w : Ex} (hx : PE Γ x) (hy : PE Γ y) (hw : PE Γ w) : PE Γ (.cmp2 o1 o2 x y w) := fun p ρ z K hc he i =>
  ⟨fun Q E q => Compare_chain ((hx _ ρ z _ (andL hc) he i).val _ _ fun a u z1 he g1 r1 => chain_link ((hy _ ρ z1 _ (andL (andR hc)) he (i.go g1)).val _ _ fun b w z2 he g2 r2 =>
      g_cmp i.H.hu g2.sr he (r1.le g2.le) r2 fun c k => truthy_bool (by
        cases c with
        | true => exact chain_last ((hw _ ρ z2 _ (andR (andR hc)) k (i.go (g1.trans g2))).val _ _ fun d y z3 he g3 r3 => g_cmp i.H.hu g3.sr he (r2.le g3.le) r3 fun c k => q _ _ z3 k (g1.trans (g2.trans g3)) rfl)
        | false => exact q _ _ z2 k (g1.trans g2) rfl))) ((pl _ w _).m2 _ _ _),
   fun Q E q => isTrue_chain ((hx _ ρ z _ (andL hc) he i).val _ _ fun a u z1 he g1 r1 => test_link ((hy _ ρ z1 _ (andL (andR hc)) he (i.go g1)).val _ _ fun b w z2 he g2 r2 =>
      g_cmp i.H.hu g2.sr he (r1.le g2.le) r2 fun c k => truthy_bool (ifW.ite k (fun he => test_last ((hw _ ρ z2 _ (andR (andR hc)) he (i.go (g1.trans g2))).val _ _ fun d y z3 he g3 r3 =>
        g_cmp i.H.hu g3.sr he (r2.le g3.le) r3 fun c k => truthy_bool (q _ z3 k (g1.trans (g2.trans g3))))) fun k => q _ z2 k (g1.trans g2)))) ((pl _ w _).m2 _ _ _)⟩
theorem pe_ite {x y w : Ex} (hx : PE Γ x) (hy : PE Γ y) (hw : PE Γ w) : PE Γ (.ite x y w) := fun p ρ z K hc he i =>
  ⟨fun Q E q => IfExp_ ((hx _ ρ z _ (andL hc) he i).tru _ _ fun v z1 h g1 => h.imp fun c h => ifW.ite h (fun he => (hy _ ρ z1 _ (andL (andR hc)) he (i.go g1)).val _ _ (q.go g1)) fun he => (hw _ ρ z1 _ (andR (andR hc)) he (i.go g1)).val _ _ (q.go g1)),
   fun Q E q => isTrue_IfExp ((hx _ ρ z _ (andL hc) he i).tru _ _ fun v z1 h g1 => h.imp fun c h => ifW.ite h (fun he => (hy _ ρ z1 _ (andL (andR hc)) he (i.go g1)).tru _ _ fun v z2 k g2 => q v z2 k (g1.trans g2))
      fun he => (hw _ ρ z1 _ (andR (andR hc)) he (i.go g1)).tru _ _ fun v z2 k g2 => q v z2 k (g1.trans g2))⟩
theorem pe_attr {x : Ex} {at_ : Nat} (hx : PE Γ x) : PE Γ (.attr x at_) := fun p ρ z K hc he i =>
  .plain (fun Q E q => Attribute_any_ ((hx _ ρ z _ (andR hc) he i).val _ _ fun a u z1 he g1 r1 => g_attr i.H.G.toGr g1.sr he r1 fun v u k r => q.tick g1 k r) (by rw [arm_eval_Attribute, (pl _ x _).base (andL hc)])) rfl
theorem pe_sub {x y : Ex} (hx : PE Γ x) (hy : PE Γ y) : PE Γ (.sub x y) := fun p ρ z K hc he i =>
  .plain (fun Q E q => Subscript_ ((hx _ ρ z _ (andL hc) he i).val _ _ fun a u z1 he g1 r1 => (hy _ ρ z1 _ (andR hc) he (i.go g1)).val _ _ fun b w z2 he g2 r2 =>
    (g_sub g2.sr he (r1.le g2.le) r2 (q.go (g1.trans g2))).elim fun T h => h.elim fun id h => tail_any h.2.1 h.1 h.2.2 ((pl _ y _).sub _ _))) rfl
theorem pe_slTo {x y : Ex} (hx : PE Γ x) (hy : PE Γ y) : PE Γ (.slTo x y) := fun p ρ z K hc he i =>
  .plain (fun Q E q => Subscript_ ((hx _ ρ z _ (andL hc) he i).val _ _ fun a u z1 he g1 r1 => wpAny_Slice (wpAny_pure ((hy _ ρ z1 _ (andR hc) he (i.go g1)).val _ _ fun b w z2 he g2 r2 => wpAny_pure
    ((g_slTo g2.sr he (r1.le g2.le) r2 (q.go (g1.trans g2))).elim fun T h => h.elim fun id h => tail_any (h.2.1 _ push_old) h.1 h.2.2 rfl))))) rfl
theorem pe_slFrom {x y : Ex} (hx : PE Γ x) (hy : PE Γ y) : PE Γ (.slFrom x y) := fun p ρ z K hc he i =>
  .plain (fun Q E q => Subscript_ ((hx _ ρ z _ (andL hc) he i).val _ _ fun a u z1 he g1 r1 => wpAny_Slice ((hy _ ρ z1 _ (andR hc) he (i.go g1)).val _ _ fun b w z2 he g2 r2 => wpAny_pure (wpAny_pure
    ((g_slFrom g2.sr he (r1.le g2.le) r2 (q.go (g1.trans g2))).elim fun T h => h.elim fun id h => tail_any (h.2.1 _ push_old) h.1 h.2.2 rfl))))) rfl
theorem chs_plain {env : Env} {pos : Pos} : ∀ {xs : Exs} {p : PT}, (backTo pos (starEach (toEs Γ.Λ.T xs p) env)).any (·.1) = false
  | .nil, _ => rfl
  | .cons x xs, p => by
    show (backTo pos (starEach (toE Γ.Λ.T x p.a :: toEs Γ.Λ.T xs p.b) env)).any (·.1) = false
    rw [(pl _ x _).star]
    exact chs_plain (xs := xs)
theorem few_le {Λ : Ly} {l : List Expr} {us : List Value} {vs : List V} {W : Wd} (h : few l = true) (e : us.length = l.length) : us.length ≤ 1000 := Nat.le_trans (Nat.le_of_eq e) (Nat.le_trans (Nat.le_of_ble_eq_true h) (by decide))
theorem pes_nil : PEs Γ .nil := fun p ρ z K hc he i pos Q E q => spliced_nil (q [] [] z he (.refl i.sr) .nil rfl)
theorem pes_cons {x : Ex} {xs : Exs} (hx : PE Γ x) (hxs : PEs Γ xs) : PEs Γ (.cons x xs) := fun p ρ z K hc he i pos Q E q => by
  show wpAny _ _ (spliced (backTo pos (starEach (toE Γ.Λ.T x p.a :: toEs Γ.Λ.T xs p.b) _))) Q E z.s
  rw [(pl _ x _).star]
  exact spliced_cons ((hx _ ρ z _ (andL hc) he i).val _ _ fun a u z1 he g1 r1 => hxs _ ρ z1 _ (andR hc) he (i.go g1) pos _ _ fun vs us z2 k g2 r2 e => q _ _ z2 k (g1.trans g2) (.cons (r1.le g2.le) r2) (congrArg (· + 1) e))
theorem pe_tup {xs : Exs} (hx : PEs Γ xs) : PE Γ (.tup xs) := fun p ρ z K hc he i =>
  .plain (fun Q E q => Tuple_ (hx _ ρ z _ (andR hc) he i _ _ _ fun vs us z1 k g1 r1 e => wpAny_newTuple ((q.go g1).tup (tk := z1.s.toks) g1.sr push_old new_none (Heap.get?_push_size _ rfl) r1 k) (line_le (few_le (Λ := Γ.Λ) (vs := vs) (W := z.W) (andL hc) e)))) rfl
theorem pe_lst {xs : Exs} (hx : PEs Γ xs) : PE Γ (.lst xs) := fun p ρ z K hc he i =>
  .plain (fun Q E q => List_ (hx _ ρ z _ (andR hc) he i _ _ _ fun vs us z1 k g1 r1 e => wpAny_newList ((q.go g1).pushL (tk := z1.s.toks) g1.sr r1 k) (line_le (few_le (Λ := Γ.Λ) (vs := vs) (W := z.W) (andL hc) e)))) rfl
theorem pe_newLst {xs : Exs} (hx : PEs Γ xs) : PE Γ (.newLst xs) := fun p ρ z K hc he i =>
  .plain (fun Q E q => List_ (hx _ ρ z _ (andR hc) he i _ _ _ fun vs us z1 k g1 r1 e => wpAny_newList (g_newL (tk := z1.s.toks) g1.sr push_old new_none (Heap.get?_push_size _ rfl) r1 k (q.go g1)) (line_le (few_le (Λ := Γ.Λ) (vs := vs) (W := z.W) (andL hc) e)))) rfl
theorem pe_newApp {xs : Exs} (hx : PEs Γ xs) : PE Γ (.newApp xs) := fun p ρ z K hc he i =>
  .plain (fun Q E q => List_ (hx _ ρ z _ (andR hc) he i _ _ _ fun vs us z1 k g1 r1 e => g_newA (few_le (Λ := Γ.Λ) (vs := vs) (W := z.W) (andL hc) e) g1.sr r1 k (q.go g1))) rfl
theorem pbo_nil {op : BoolOp} : PBo Γ op .nil := fun _ _ _ _ _ he _ => he.elim
theorem all_one {op : BoolOp} {x : Expr} {env : Env} {M : Model} {A : Around} {s : Shared} {Q : Bool → Shared → Prop} {E : Value → Shared → Prop} (h : wpAny M A (isTrue x env (eval x env)) Q E s) : wpAny M A (allTrue op [x] env) Q E s :=
  wpAny_bind (wpAny_mono h (fun b s k => by cases op <;> cases b <;> exact wpAny_pure k) fun _ _ x => x)
theorem all_more {op : BoolOp} {x : Expr} {xs : List Expr} {env : Env} {M : Model} {A : Around} {s : Shared} {Q : Bool → Shared → Prop} {E : Value → Shared → Prop}
    (h : wpAny M A (isTrue x env (eval x env)) (fun b s => BoolOp.casesOn op (ifW b (wpAny M A (allTrue .And xs env) Q E s) (Q false s)) (ifW b (Q true s) (wpAny M A (allTrue .Or xs env) Q E s))) E s) : wpAny M A (allTrue op (x :: xs) env) Q E s :=
  wpAny_bind (wpAny_mono h (fun b s k => by cases op <;> cases b <;> first | exact wpAny_pure k | exact k) fun _ _ x => x)
theorem pbo_one {op : BoolOp} {x : Ex} (hx : PE Γ x) : PBo Γ op (.cons x .nil) := fun p ρ z K hc he i =>
  ⟨fun pos Q E q => BoolOp_one ((hx _ ρ z _ (andL hc) he i).val _ _ fun v u z1 h g1 r1 => V.B.e (P := fun u => Q u z1.s) h r1 fun b k => q b z1 k g1),
   fun Q E q => all_one ((hx _ ρ z _ (andL hc) he i).tru _ _ fun v z1 h g1 => h.imp fun b k => q b z1 k g1)⟩
theorem pbo_more {op : BoolOp} {x y : Ex} {xs : Exs} (hx : PE Γ x) (hxs : PBo Γ op (.cons y xs)) : PBo Γ op (.cons x (.cons y xs)) := fun p ρ z K hc he i => by
  have ih (z1 : Z) (g1 : Go Γ.Λ NoX z z1) (he : wBo Γ.Λ.T Γ.C ρ op (.cons y xs) z1.σ K) := hxs p.b ρ z1 K (andR hc) he (i.go g1)
  have lift {z1 : Z} (g1 : Go Γ.Λ NoX z z1) {Q : Bool → Shared → Prop} (q : PB Γ.Λ z K Q) : PB Γ.Λ z1 K Q := fun b z2 k g2 => q b z2 k (g1.trans g2)
  refine ⟨fun pos Q E q => ?_, fun Q E q => all_more ((hx _ ρ z _ (andL hc) he i).tru _ _ fun v z1 h g1 => h.imp fun b h => ?_)⟩
  · cases op with
    | And => exact BoolOp_and ((hx _ ρ z _ (andL hc) he i).val _ _ fun v u z1 h g1 r1 => truthy_of h r1 fun b e h => by
        cases b with
        | true => exact (ih z1 g1 h).val _ _ _ (lift g1 q)
        | false => exact e ▸ q false z1 h g1)
    | Or => exact BoolOp_or ((hx _ ρ z _ (andL hc) he i).val _ _ fun v u z1 h g1 r1 => truthy_of h r1 fun b e h => by
        cases b with
        | false => exact (ih z1 g1 h).val _ _ _ (lift g1 q)
        | true => exact e ▸ q true z1 h g1)
  · cases op with
    | And => exact ifW.d h (fun he => (ih z1 g1 he).tru _ _ (lift g1 q)) fun k => q false z1 k g1
    | Or => exact ifW.d h (fun k => q true z1 k g1) fun he => (ih z1 g1 he).tru _ _ (lift g1 q)
end
end Mine
namespace Mine
section
variable {Γ : Cc} {ρ : Env'} {z : Z} {K : KV} {Q : Value → Shared → Prop} {E : Value → Shared → Prop}
theorem x_args {xs : Exs} {p : PT} {pos : Pos} {f : Value} {K : List V → H → Prop} {Q : Args → Shared → Prop} (hx : PEs Γ xs) (hc : okEs Γ.Λ.T Γ.sc xs p = true) (he : wEs Γ.Λ.T Γ.C ρ xs z.σ K) (i : In Γ ρ z)
    (q : ∀ vs us z', K vs z'.σ → Go Γ.Λ NoX z z' → Reps Γ.Λ z'.W us vs → Q ⟨us, []⟩ z'.s) : wpAny Γ.M Γ.A (evalArgs f true (backTo pos (starEach (toEs Γ.Λ.T xs p) Γ.v)) []) Q E z.s := by
  cases xs with
  | nil => exact evalArgs_nil3 (q [] [] z he (.refl i.sr) .nil)
  | cons x xs =>
    have h := hx p ρ z _ hc he i pos (fun us => Q ⟨us, []⟩) E fun vs us z' k g r _ => q vs us z' k g r
    have e : starEach (toEs Γ.Λ.T (.cons x xs) p) Γ.v = (false, eval (toE Γ.Λ.T x p.a) Γ.v) :: starEach (toEs Γ.Λ.T xs p.b) Γ.v := (pl _ x _).star _ _
    rw [e] at h ⊢
    exact Calls.evalArgs_plain h
theorem one_arg {x : Ex} {p : PT} {pos : Pos} {env : Env} : backTo pos (starEach [toE Γ.Λ.T x p] env) = [(false, eval (toE Γ.Λ.T x p) env)] := by
  rw [(pl _ x _).star]; rfl
theorem x_arg {x : Ex} {p : PT} {pos : Pos} {f : Value} {Q : Args → Shared → Prop} (hx : PE Γ x) (hc : okE Γ.Λ.T Γ.sc x p = true) (he : wE Γ.Λ.T Γ.C ρ x z.σ K) (i : In Γ ρ z)
    (q : ∀ v u z', K v z'.σ → Go Γ.Λ NoX z z' → Rep Γ.Λ z'.W u v → Q ⟨[u], []⟩ z'.s) : wpAny Γ.M Γ.A (evalArgs f true (backTo pos (starEach [toE Γ.Λ.T x p] Γ.v)) []) Q E z.s := by
  rw [one_arg]
  exact Calls.evalArgs_plain (Calls.spliced_cons ((hx _ ρ z _ hc he i).val _ _ fun v u z' k g r => Calls.spliced_nil (q v u z' k g r)))
theorem x_call1 {b : BI} {x : Ex} {p : PT} {fp pos : Pos} (hx : PE Γ x) (hc : okE Γ.Λ.T Γ.sc x p = true) (hf : isGlo Γ.sc (Str.ofString (biName b)) = true) (he : wE Γ.Λ.T Γ.C ρ x z.σ K) (i : In Γ ρ z)
    (q : ∀ v u z', K v z'.σ → Go Γ.Λ NoX z z' → Rep Γ.Λ z'.W u v → wpAny Γ.M Γ.A (call (biVal b) [u]) Q E z'.s) :
    wpAny Γ.M Γ.A (eval (.Call (.Name (Str.ofString (biName b)) fp) [toE Γ.Λ.T x p] [] pos) Γ.v) Q E z.s := by
  refine wpAny_Call_ofName (i.built hf (i.H.G.bi b) ?_)
  have hp : (backTo pos (starEach [toE Γ.Λ.T x p] Γ.v)).any (·.1) = false := by rw [one_arg]; rfl
  have main : ∀ g : Value, wpAny Γ.M Γ.A (evalArgs g true (backTo pos (starEach [toE Γ.Λ.T x p] Γ.v)) []) (fun a s₁ => wpAny Γ.M Γ.A (call (biVal b) ([] ++ a.pos) a.kw) Q E s₁) E z.s := fun g => x_arg hx hc he i q
  cases b <;> first
    | exact Calls.callWith_builtin hp (main _)
    | exact PySem.callWith_type hp (main _)
theorem pe_cb {b : BI} {x : Ex} (hx : PE Γ x) : PE Γ (.cb b x) := fun p ρ z K hc he i =>
  .plain (fun Q E q => x_call1 hx (andR hc) (andL hc) he i fun v u z1 k g1 r1 => g_bi g1.sr k r1 (q.go g1)) rfl
theorem pe_newList {x : Ex} (hx : PE Γ x) : PE Γ (.newList x) := fun p ρ z K hc he i =>
  .plain (fun Q E q => x_call1 (b := .lst) hx (andR hc) (andL hc) he i fun v u z1 k g1 r1 => itemsW.e (P := fun u => wpAny _ _ (call (biVal .lst) [u]) Q E z1.s) g1.sr k r1 fun l c us h s rs => by
    obtain ⟨T, o, n, ho, hT, hc, hd⟩ := s
    exact call_list_seq c hT ho hc hd (fun h' c' k hD => g_newL (tk := z1.s.toks) g1.sr k new_none hD rs h.2 (q.go g1)) (line_le (by rw [List.size_toArray, rs.length]; exact h.1))) rfl
theorem pos_few {o : Expr} {env : Env} {apos pos : Pos} {k : Nat} {args : List (Bool × Sem Value)} (h : oneLine apos pos = true) : methodCallPos (methodCallForm k args []) o env apos pos = pure pos := by
  unfold methodCallPos
  rw [if_pos]
  unfold oneLine at h
  rw [h]; simp
theorem form_few {env : Env} {pos : Pos} {xs : Exs} {p : PT} (hf : few (toEs Γ.Λ.T xs p) = true) : methodCallForm ((toEs Γ.Λ.T xs p).length + 0) (backTo pos (starEach (toEs Γ.Λ.T xs p) env)) [] = true := by
  unfold methodCallForm
  rw [show (backTo pos (starEach (toEs Γ.Λ.T xs p) env)).all (!·.1) = true from by rw [List.all_eq_not_any_not]; simpa using chs_plain (Γ := Γ) (xs := xs) (p := p) (env := env) (pos := pos)]
  have := Nat.le_of_ble_eq_true hf
  simp; omega
theorem x_method {o : Expr} {m : Str} {apos pos : Pos} {xs : Exs} {pp : PT} {u : Value} {s : Shared} (ho : oneLine apos pos = true) (hf : few (toEs Γ.Λ.T xs pp) = true)
    (q : ∀ pl, wpAny Γ.M Γ.A (getMethod u m pl) (fun mp s'' => wpAny Γ.M Γ.A (callWith pos mp.1 mp.2 (backTo pos (starEach (toEs Γ.Λ.T xs pp) Γ.v)) []) Q E s'') E s) :
    wpAny Γ.M Γ.A (methodCall o m apos pos Γ.v u ((toEs Γ.Λ.T xs pp).length + 0) (backTo pos (starEach (toEs Γ.Λ.T xs pp) Γ.v)) []) Q E s := by
  unfold methodCall
  rw [form_few hf]
  refine wpAny_bind (wpAny_holding (wpAny_mono (q _) (fun mp s2 h2 => ?_) fun _ _ x => x))
  obtain ⟨f, first⟩ := mp
  refine wpAny_bind ?_
  have e := pos_few (o := o) (env := Γ.v) (k := (toEs Γ.Λ.T xs pp).length + 0) (args := backTo pos (starEach (toEs Γ.Λ.T xs pp) Γ.v)) ho
  rw [form_few hf] at e
  rw [e]
  exact wpAny_pure h2
theorem x_meth {p pp : PT} {m : Str} {apos pos : Pos} {x : Ex} {xs : Exs} (hx : PE Γ x) (hs : (noSup x && oneLine apos pos) = true) (hc : okE Γ.Λ.T Γ.sc x p = true) (hf : few (toEs Γ.Λ.T xs pp) = true) (he : wE Γ.Λ.T Γ.C ρ x z.σ K) (i : In Γ ρ z)
    (q : ∀ v u z', K v z'.σ → Go Γ.Λ NoX z z' → Rep Γ.Λ z'.W u v → ∀ pl, wpAny Γ.M Γ.A (getMethod u m pl) (fun mp s'' => wpAny Γ.M Γ.A (callWith pos mp.1 mp.2 (backTo pos (starEach (toEs Γ.Λ.T xs pp) Γ.v)) []) Q E s'') E z'.s) :
    wpAny Γ.M Γ.A (eval (.Call (.Attribute (toE Γ.Λ.T x p) m apos) (toEs Γ.Λ.T xs pp) [] pos) Γ.v) Q E z.s := by
  rw [arm_eval_Call, (pl _ x _).base (andL hs)]
  exact wpAny_bind ((hx _ ρ z _ hc he i).val _ _ fun v u z1 k g1 r1 => wpAny_bind (wpAny_standAt (x_method (andR hs) hf (q v u z1 k g1 r1))))
theorem pe_spl0 {x : Ex} (hx : PE Γ x) : PE Γ (.spl0 x) := fun p ρ z K hc he i =>
  .plain (fun Q E q => x_meth (xs := .nil) (pp := p.b) hx (andL hc) (andR hc) rfl he i fun v u z1 k g1 r1 pl => V.S.e (P := fun u => wpAny _ _ (getMethod u "split" pl) _ E z1.s) k r1 fun y t k =>
    GM.split (Calls.callWith_builtin rfl (evalArgs_nil3 (g_spl0 g1.sr k.1 k.2 (q.go g1))))) rfl
theorem x_arg1 {d : Ex} {p : PT} {id : String} {first : List Value} {pos : Pos} (hd : PE Γ d) (hc : okE Γ.Λ.T Γ.sc d p = true) (he : wE Γ.Λ.T Γ.C ρ d z.σ K) (i : In Γ ρ z)
    (q : ∀ v u z', K v z'.σ → Go Γ.Λ NoX z z' → Rep Γ.Λ z'.W u v → wpAny Γ.M Γ.A (call (.builtin id) (first ++ [u])) Q E z'.s) :
    wpAny Γ.M Γ.A (callWith pos (.builtin id) first (backTo pos (starEach [toE Γ.Λ.T d p] Γ.v)) []) Q E z.s :=
  Calls.callWith_builtin (by rw [one_arg]; rfl) (x_arg hd hc he i q)
theorem x_str1 {x d : Ex} {m : Str} {id : String} {p pa : PT} {apos pos : Pos} {k : Str → KV} (hx : PE Γ x) (hd : PE Γ d) (hs : (noSup x && oneLine apos pos) = true) (hc : okE Γ.Λ.T Γ.sc x p = true) (hc' : okE Γ.Λ.T Γ.sc d pa = true)
    (he : wE Γ.Λ.T Γ.C ρ x z.σ (kStr (wE Γ.Λ.T Γ.C ρ d) k)) (i : In Γ ρ z)
    (hm : ∀ y t pl (Q : Value × List Value → Shared → Prop) s, Q (.builtin id, [.str y t]) s → wpAny Γ.M Γ.A (getMethod (.str y t) m pl) Q E s)
    (q : ∀ y t b w z', k y b z'.σ → Go Γ.Λ NoX z z' → Rep Γ.Λ z'.W w b → wpAny Γ.M Γ.A (call (.builtin id) [.str y t, w]) Q E z'.s) :
    wpAny Γ.M Γ.A (eval (.Call (.Attribute (toE Γ.Λ.T x p) m apos) [toE Γ.Λ.T d pa] [] pos) Γ.v) Q E z.s :=
  x_meth (xs := .cons d .nil) (pp := .nd pos 0 pa .lf) hx hs hc rfl he i fun v u z1 h g1 r1 pl => V.S.e (P := fun u => wpAny _ _ (getMethod u m pl) _ E z1.s) h r1 fun y t h =>
    hm y t pl _ _ (x_arg1 hd hc' h (i.go g1) fun b w z2 h g2 r2 => q y t b w z2 h (g1.trans g2) r2)
theorem pe_spl1 {x d : Ex} (hx : PE Γ x) (hd : PE Γ d) : PE Γ (.spl1 x d) := fun p ρ z K hc he i =>
  .plain (fun Q E q => x_str1 hx hd (andL hc) (andL (andR hc)) (andR (andR hc)) he i (fun _ _ _ _ _ => GM.split) fun y t b w z' h g r => V.S.e (P := fun w => wpAny _ _ (call (.builtin "str.split") [_, w]) Q E z'.s) h r fun d t' h => g_spl1 g.sr h.1 h.2 (q.go g)) rfl
theorem pe_stw {x d : Ex} (hx : PE Γ x) (hd : PE Γ d) : PE Γ (.stw x d) := fun p ρ z K hc he i =>
  .plain (fun Q E q => x_str1 hx hd (andL hc) (andL (andR hc)) (andR (andR hc)) he i (fun _ _ _ _ _ => GM.startswith) fun y t b w z' h g r => V.S.e (P := fun w => wpAny _ _ (call (.builtin "str.startswith") [_, w]) Q E z'.s) h r fun d t' h => SC.startswith ((q.go g).boo g.sr h)) rfl
theorem pe_fnd {x d : Ex} (hx : PE Γ x) (hd : PE Γ d) : PE Γ (.fnd x d) := fun p ρ z K hc he i =>
  .plain (fun Q E q => x_str1 hx hd (andL hc) (andL (andR hc)) (andR (andR hc)) he i (fun _ _ _ _ _ => GM.find) fun y t b w z' h g r => V.S.e (P := fun w => wpAny _ _ (call (.builtin "str.find") [_, w]) Q E z'.s) h r fun d t' h => SC.find ((q.go g).int g.sr h)) rfl
theorem pe_idx {x d : Ex} (hx : PE Γ x) (hd : PE Γ d) : PE Γ (.idx x d) := fun p ρ z K hc he i =>
  .plain (fun Q E q => x_meth (xs := .cons d .nil) (pp := p.b) hx (andL hc) (andL (andR hc)) rfl he i fun v u z1 h g1 r1 pl => V.L.e (P := fun u => wpAny _ _ (getMethod u "index" pl) _ E z1.s) h r1 fun l c us h _ s rs =>
    m_idx g1.sr s (x_arg1 hd (andR (andR hc)) h (i.go g1) fun b w z2 h g2 r2 => g_idx g2.sr h (s.imp fun _ => .imp fun _ => g2.le.fz _ _) (rs.le g2.le) r2 (q.go (g1.trans g2)))) rfl
theorem pe_app {x d : Ex} (hx : PE Γ x) (hd : PE Γ d) : PE Γ (.app x d) := fun p ρ z K hc he i =>
  .plain (fun Q E q => x_meth (xs := .cons d .nil) (pp := p.b) hx (andL hc) (andL (andR hc)) rfl he i fun v u z1 h g1 r1 pl => V.R.e (P := fun u => wpAny _ _ (getMethod u "append" pl) _ E z1.s) h r1 fun n pr h _ hp => hA.e h fun l hn h =>
    m_app g1.sr hn hp (x_arg1 hd (andR (andR hc)) h (i.go g1) fun b w z2 h g2 r2 => hA.e h fun l hn h => g_app g2.sr hn (g2.le.mu _ _ hp) h.1 r2 h.2 (q.go (g1.trans g2)))) rfl
theorem pe_get2 {x y w : Ex} (hx : PE Γ x) (hy : PE Γ y) (hw : PE Γ w) : PE Γ (.get2 x y w) := fun p ρ z K hc he i =>
  .plain (fun Q E q => x_meth (xs := .cons y (.cons w .nil)) (pp := p.b) hx (andL hc) (andL (andR hc)) rfl he i fun v u z1 h g1 r1 pl' => V.R.e (P := fun u => wpAny _ _ (getMethod u "get" pl') _ E z1.s) h r1 fun n pr h _ hp => hD.e h fun l hn h =>
    m_get g1.sr hn hp (by
      show wpAny _ _ (callWith p.p _ _ (backTo p.p (starEach [toE Γ.Λ.T y p.b.a, toE Γ.Λ.T w p.b.b.a] _)) []) Q E _
      rw [(pl _ y _).star, (pl _ w _).star]
      refine wpAny_dict_get2 (knd := intKind Γ.Λ.prog Γ.Λ.w) (not_sys g1.sr hp i.H.G.sysm) ((hy _ ρ z1 _ (andL (andR (andR hc))) h (i.go g1)).val _ _ fun b u2 z2 h g2 r2 => (hw _ ρ z2 _ (andR (andR (andR hc))) h (i.go (g1.trans g2))).val _ _ fun c u3 z3 h g3 r3 =>
        V.I.e (P := fun u2 => ∃ k f, (intKind Γ.Λ.prog Γ.Λ.w).is k u2 = true ∧ z3.s.heap.MapOf (intKind Γ.Λ.prog Γ.Λ.w) pr.1 f ∧ Q ((f k).getD u3) { z3.s with toks := z3.s.toks + 1 }) h (r2.le g3.le) fun k t h => hD.e h fun l hn h => ?_)
      exact (g3.sr.obj _ _ _ hn (g3.le.mu _ _ (g2.le.mu _ _ hp))).2.2.elim fun kvs y => ⟨k, _, intKind_is _ _ _ _, y.1.mapOf, q.tick (g1.trans (g2.trans g3)) h (get_rep y.2.1 y.2.2 r3)⟩)) rfl
theorem x_callf {f : Nat} {args : List V} {us : List Value} (i : In Γ ρ z) (h : Γ.C f args z.σ (okK K)) (rs : Reps Γ.Λ z.W us args) (q : PK Γ.Λ z K Q) : wpAny Γ.M Γ.A (call (.ref (Γ.Λ.fad f)) us) Q E z.s :=
  wpAny_call (i.H.hc f args z _ h Γ.A Γ.l us _ (i.H.cx.less (Nat.le_succ _)) i.sr i.out rs ⟨q, fun _ _ _ k => k.elim⟩)
theorem x_args_of {f : Value} {xs : Exs} {p : PT} {pos : Pos} {first : List Value} {K : List V → H → Prop} (hx : PEs Γ xs) (hk : keepIn Γ.Λ.K f = true) (hc : okEs Γ.Λ.T Γ.sc xs p = true) (he : wEs Γ.Λ.T Γ.C ρ xs z.σ K) (i : In Γ ρ z)
    (q : ∀ vs us z', K vs z'.σ → Go Γ.Λ NoX z z' → Reps Γ.Λ z'.W us vs → wpAny Γ.M Γ.A (call f (first ++ us)) Q E z'.s) : wpAny Γ.M Γ.A (callWith pos f first (backTo pos (starEach (toEs Γ.Λ.T xs p) Γ.v)) []) Q E z.s :=
  callWith_of (P := Γ.Λ.K.In) (by rw [chs_plain]; rfl) (keeps_K hk) (x_args hx hc he i fun vs us z' k g r => ⟨i.H.G.at g.sr, q vs us z' k g r⟩)
theorem x_cfX {f : Nat} {xs : Exs} {p : PT} {K : List V → H → Prop} (hx : PEs Γ xs) (hc : okE Γ.Λ.T Γ.sc (.cf f xs) p = true) (he : wEs Γ.Λ.T Γ.C ρ xs z.σ K) (i : In Γ ρ z)
    (q : ∀ vs us z', K vs z'.σ → Go Γ.Λ NoX z z' → Reps Γ.Λ z'.W us vs → wpAny Γ.M Γ.A (call (.ref (Γ.Λ.fad f)) us) Q E z'.s) : wpAny Γ.M Γ.A (eval (toE Γ.Λ.T (.cf f xs) p) Γ.v) Q E z.s :=
  have n := i.H.G.fnm f (andL (andL hc))
  wpAny_Call_ofName (i.glo (andR (andL hc)) n.1 (x_args_of hx n.2 (andR (andR hc)) he i q))
theorem pe_cf {f : Nat} {xs : Exs} (hx : PEs Γ xs) : PE Γ (.cf f xs) := fun p ρ z K hc he i =>
  .plain (fun Q E q => x_cfX hx hc he i fun vs us z1 h g1 r1 => x_callf (i.go g1) h r1 (q.go g1)) rfl
theorem pe_cm {x : Ex} {m : Nat} {xs : Exs} (hx : PE Γ x) (hxs : PEs Γ xs) : PE Γ (.cm x m xs) := fun p ρ z K hc he i =>
  .plain (fun Q E q => x_meth (xs := xs) (pp := p.b) hx (andL hc) (andL (andR (andR hc))) (andL (andR hc)) he i fun v u z1 h g1 r1 pl => V.R.e (P := fun u => wpAny _ _ (getMethod u _ pl) _ E z1.s) h r1 fun n pr h _ hp => hI.e h fun c l hn h => opt.e h fun f hm h => by
    obtain ⟨m1, m2, m3, m4, m5, m6⟩ := i.H.G.meth c m f hm
    obtain ⟨hne, es, k, q1, q2, q3, q4⟩ := g1.sr.obj _ _ _ hn hp
    refine method_fn (i.H.G.at g1.sr) (od := some (dictOf es k)) ⟨q1, rfl, rfl, q2⟩ (plainGet_of m5).1 (plainGet_of m5).2 m3 (beq_iff_eq.mp m4) ?_ (x_args_of hxs m6 (andR (andR (andR hc))) h (i.go g1) fun vs us z2 h g2 r2 =>
      x_callf (i.go (g1.trans g2)) h (.cons ⟨pr, rfl, g2.le.mu _ _ hp⟩ r2) (q.go (g1.trans g2)))
    show (lookIn _ (dictOf es k)).map _ = _
    rw [lookIn_dict, getL_of q3 none (Keys.none i.H.G.toGr m1 es _ (fun f hf => ⟨i.H.G.fn c f hf, m2 f hf⟩) q3)]
    rfl) rfl
theorem pe_ci {c : Nat} {xs : Exs} (hxs : PEs Γ xs) : PE Γ (.ci c xs) := fun p ρ z K hc he i => .plain (fun Q E q => by
    obtain ⟨m1, m2, m3, m4, m5, m6, m7, m8⟩ := i.H.G.make c (ble_lt (andL (andL (andL hc))))
    show wpAny _ _ (eval (.Call (.Attribute (.Name (Γ.Λ.T.nm c) p.a.a.p) "__init__" p.a.p) (toEs Γ.Λ.T xs p.b) [] p.p) _) Q E z.s
    rw [arm_eval_Call]
    refine wpAny_bind (i.glo (andR (andL (andL hc))) (i.H.G.cls c (ble_lt (andL (andL (andL hc))))) (wpAny_bind (wpAny_standAt (x_method (andR (andL hc)) (andL (andR hc)) fun pl => method_cls (i.H.G.at i.sr) m5 (cls_value (i.H.G.at i.sr) m6 m7 rfl ?_)))))
    have g0 : Go Γ.Λ NoX z ⟨z.W, { z.s with toks := z.s.toks + 1 }, z.σ⟩ := .new (h' := z.s.heap) i.sr fun _ _ e => e
    exact x_args_of (z := ⟨z.W, { z.s with toks := z.s.toks + 1 }, z.σ⟩) hxs m8 (andR (andR hc)) he (i.go g0) fun vs us z2 h g2 r2 => x_callf (i.go (g0.trans g2)) h r2 (q.go (g0.trans g2))) rfl
noncomputable abbrev tcA (A : Around) (c : Addr) (rest : List Value) : Around := A.under (.builtin "type.__call__" ⟨.ref c :: rest, []⟩)
theorem Cx.tc {A : Around} {l : List Env} {n : Nat} {c : Addr} {rest : List Value} (x : Cx A l (n + 1)) : Cx (tcA A c rest) l n :=
  ⟨x.hand, Nat.lt_of_le_of_lt (Nat.le_of_eq (Nat.succ_add_eq_add_succ A.depth n)) x.room, Nat.lt_of_le_of_lt (by show A.units + 1 + 20 * n + 40 ≤ A.units + 20 * (n + 1) + 40; omega) x.units, x.frs⟩
noncomputable abbrev bare (h : Heap) (c : Addr) : Heap := (h.push emptyDict).push (instObj c h.objs.size)
theorem bare_x {h : Heap} {c : Addr} : (bare h c).get? (h.objs.size + 1) = some (instObj c h.objs.size) := by
  rw [← size_push' h emptyDict]
  exact Heap.get?_push_size _ rfl
theorem bare_d {h : Heap} {c : Addr} : (bare h c).get? h.objs.size = some (dictOf [] 0) := Heap.get?_push_of_some _ (Heap.get?_push_size _ rfl)
theorem x_class {c : Nat} {xs : Exs} {gp pos : Pos} {p : PT} {K : List V → H → Prop} (hx : PEs Γ xs) (h0 : (Nat.blt 0 (Γ.Λ.T.init c) && isGlo Γ.sc (Γ.Λ.T.nm c)) = true) (h3 : okEs Γ.Λ.T Γ.sc xs p = true) (he : wEs Γ.Λ.T Γ.C ρ xs z.σ K) (i : In Γ ρ z)
    (q : ∀ vs us z', K vs z'.σ → Go Γ.Λ NoX z z' → Reps Γ.Λ z'.W us vs → codeAny Γ.M (tcA Γ.A (Γ.Λ.cad c) us) (.call (.ref (Γ.Λ.fad (Γ.Λ.T.init c))) ⟨.ref (z'.s.heap.objs.size + 1) :: us, []⟩)
      (fun r s' => match r with | .ok (.ret v) => v = .none ∧ Q (.ref (z'.s.heap.objs.size + 1)) s' | .ok _ => False | .error e => E e s') { z'.s with heap := bare z'.s.heap (Γ.Λ.cad c) }) :
    wpAny Γ.M Γ.A (eval (.Call (.Name (Γ.Λ.T.nm c) gp) (toEs Γ.Λ.T xs p) [] pos) Γ.v) Q E z.s := by
  obtain ⟨m1, m2, m3, m4, _⟩ := i.H.G.make c (ble_lt (andL h0))
  refine wpAny_Call_ofName (i.glo (andR h0) (i.H.G.cls c (ble_lt (andL h0))) (x_args_of hx m2 h3 he i fun vs us z1 h g1 r1 => wpAny_call ?_))
  have X := i.H.G.at g1.sr
  have h := q vs us z1 h g1 r1
  obtain ⟨W, ⟨h', g, d, t, os⟩, σ⟩ := z1
  exact make_core (makes_of X m1) (looks_findIn X m3) (fun self => bind_fn X self m4) (.inl rfl) (codeAny_mono h fun r s' z => by rcases r with e | (v | _ | _ | _) <;> exact z)
theorem pe_cnm {c : Nat} {xs : Exs} (hx : PEs Γ xs) : PE Γ (.cnm c xs) := fun p ρ z K hc he i =>
  .plain (fun Q E q => x_class hx (andL hc) (andR (andR hc)) he i fun vs us z1 h g1 r1 => by
    have g3 := Go.own (X := NoX) (tk := z1.s.toks) (p := (z1.s.heap.objs.size + 1, z1.s.heap.objs.size)) (o := .inst c []) (h' := bare z1.s.heap (Γ.Λ.cad c)) g1.sr push2_old (none_of_size (Nat.le_succ _)) new_none ⟨Nat.succ_ne_self _, [], 0, bare_x, bare_d, trivial, .nil⟩
    have r := own_rep (p := (z1.s.heap.objs.size + 1, z1.s.heap.objs.size)) g1.sr
    exact i.H.hc _ _ ⟨_, _, _⟩ _ h _ Γ.l _ _ i.H.cx.tc g3.sr (i.go (g1.trans g3)).out (.cons r (r1.le g3.le)) ⟨fun v u z4 k g4 r4 => V.N.e (P := fun u => u = .none ∧ Q _ z4.s) k r4 fun k => ⟨rfl, q _ _ z4 k (g1.trans (g3.trans g4)) (r.le g4.le)⟩, fun _ _ _ k => k.elim⟩) rfl
end
end Mine
namespace Mine
section
variable {Γ : Cc} {Λ : Ly} {ρ : Env'} {z z' : Z} {K : KV} {Q : Value → Shared → Prop} {E : Value → Shared → Prop}
theorem freeze {z4 : Z} {x dx : Addr} {c : Nat} {l : List V} {h3 : Heap} (sr : SR Λ z) (hx : z.s.heap.get? x = none) (hd : z.s.heap.get? dx = none) (kp : Kp z.s.heap h3)
    (g : Go Λ NoX ⟨⟨z.W.fz, [(x, dx)], z.W.fr⟩, { z.s with heap := h3 }, [.inst c []]⟩ z4) (e : z4.σ = [.inst c l]) (fl : fros l = true) (out : ∀ b, b ∈ z.W.fr → ¬ foot z.W b) :
    ∃ W5, Go Λ NoX z ⟨W5, z4.s, z.σ⟩ ∧ Rep Λ W5 (.ref x) (.obj c l) := by
  have hm : z4.W.mu[0]? = some (x, dx) := g.le.mu 0 _ rfl
  obtain ⟨hne, es, n, o1, o2, o3⟩ := g.sr.obj 0 _ _ (by rw [e]; rfl) hm
  have nx : z4.W.fz x = none := g.sr.nofz x ⟨_, List.mem_of_getElem? hm, .inl rfl⟩
  have nd : z4.W.fz dx = none := g.sr.nofz dx ⟨_, List.mem_of_getElem? hm, .inr rfl⟩
  let W4 : Wd := ⟨z4.W.fz, z.W.mu, z.W.fr⟩
  let W5 : Wd := (W4.frz dx (dictOf es n)).frz x (instObj (Λ.cad c) dx)
  have off {b : Addr} (h1 : b ≠ x) (h2 : b ≠ dx) : W5.fz b = z4.W.fz b := (frz_ne h1).trans (frz_ne h2)
  have up : ∀ b o, z4.W.fz b = some o → W5.fz b = some o := fun b o e => (off (fun (q : b = x) => ns nx (q ▸ e)) fun (q : b = dx) => ns nd (q ▸ e)).trans e
  have nf : ∀ b o, z.s.heap.get? b = some o → ¬ foot ⟨z.W.fz, [(x, dx)], z.W.fr⟩ b := fun b o e f => f.elim fun p h => by
    obtain ⟨hp, q⟩ := h
    rw [List.mem_singleton.mp hp] at q
    exact q.elim (ne_none hx e) (ne_none hd e)
  have fzn : ∀ b o, z.s.heap.get? b = some o → z.W.fz b = none → W5.fz b = none := fun b o e q => (off (ne_none hx e) (ne_none hd e)).trans ((g.fresh b o (kp b o e) (nf b o e) id).2 q)
  have le : Le z.W W5 := ⟨fun b o e => up b o (g.le.fz b o e), fun _ _ h => h⟩
  have kk : ∀ b o, z.s.heap.get? b = some o → (b ∉ z.W.fr → z4.s.heap.get? b = some o) ∧ ∃ sl, z4.s.heap.get? b = some { o with slots := sl } := fun b o e => g.keep b o (kp b o e) (nf b o e) id
  refine ⟨W5, ⟨le, rfl, fun b o e _ _ => kk b o e, fun b o e f _ => ⟨f, fzn b o e⟩, g.gens, g.os, ⟨fun b o e => up b o (g.sr.base b o e), fun b o e => ?_, sr.len, fun i o p h1 h2 => (sr.obj i o p h1 h2).up le fun b o' hb e => (kk b o' e).1 fun hf => out b hf ⟨p, List.mem_of_getElem? h2, hb⟩, sr.apart, fun b f => ?_⟩⟩,
    x, dx, rfl, es, n, frz_self, (frz_ne (Ne.symm hne)).trans frz_self, o3.1, o3.2.fro fl up⟩
  · by_cases q : b = x
    · subst q; exact Option.some.inj (frz_self.symm.trans e) ▸ o1
    · by_cases q2 : b = dx
      · subst q2; exact Option.some.inj ((frz_self.symm.trans (frz_ne q).symm).trans e) ▸ o2
      · exact g.sr.fz b o ((off q q2).symm.trans e)
  · exact (sr.there f).elim fun o e => fzn b o e (sr.nofz b f)
theorem mk_e {c : Nat} {σ τ : H} {u : Value} {v : V} {W : Wd} {G : Prop} (h : mkK c σ K (some v) τ) (r : Rep Λ W u v) (k : ∀ l, u = .none → τ = [.inst c l] → fros l = true → K (.obj c l) σ → G) : G :=
  V.N.e (P := fun u' => u' = u → G) h r (fun h e => by
    cases τ with
    | nil => exact h.elim
    | cons o r =>
      cases r with
      | cons _ _ => exact h.elim
      | nil => exact hI.e h fun c' l ho h => k l e.symm (by rw [Option.some.inj ho, h.1.1]) h.1.2 h.2) rfl
theorem pe_cn {c : Nat} {xs : Exs} (hx : PEs Γ xs) : PE Γ (.cn c xs) := fun p ρ z K hc he i =>
  .plain (fun Q E q => x_class hx (andL hc) (andR (andR hc)) he i fun vs us z1 h g1 r1 => by
    have i1 := i.go g1
    have hx1 : z1.s.heap.get? (z1.s.heap.objs.size + 1) = none := none_of_size (Nat.le_succ _)
    have m0 : ∀ {i : Nat} {p : Addr × Addr}, [(z1.s.heap.objs.size + 1, z1.s.heap.objs.size)][i]? = some p → i = 0 ∧ p = (z1.s.heap.objs.size + 1, z1.s.heap.objs.size) := fun {i p} h => by
      cases i with
      | zero => exact ⟨rfl, (Option.some.inj h).symm⟩
      | succ i => exact ns rfl h
    have ft {b : Addr} (f : foot ⟨z1.W.fz, [(z1.s.heap.objs.size + 1, z1.s.heap.objs.size)], z1.W.fr⟩ b) : z1.s.heap.get? b = none := f.elim fun p h => by
      obtain ⟨hp, q⟩ := h
      rw [List.mem_singleton.mp hp] at q
      exact q.elim (fun (q : b = _) => q ▸ hx1) fun (q : b = _) => q ▸ new_none
    have sr3 : SR Γ.Λ ⟨⟨z1.W.fz, [(z1.s.heap.objs.size + 1, z1.s.heap.objs.size)], z1.W.fr⟩, { z1.s with heap := bare z1.s.heap (Γ.Λ.cad c) }, [.inst c []]⟩ := by
      refine ⟨g1.sr.base, fun b o e => push2_old b o (g1.sr.fz b o e), rfl, fun i o p z1 z2 => ?_, fun i j p p' hij z1 z2 => ?_, fun b f => g1.sr.fz_new (ft f)⟩
      · obtain ⟨rfl, rfl⟩ := m0 z2
        cases z1
        exact ⟨Nat.succ_ne_self _, [], 0, bare_x, bare_d, trivial, .nil⟩
      · exact absurd ((m0 z1).1.trans (m0 z2).1.symm) hij
    refine i.H.hc _ _ ⟨_, _, _⟩ _ h.2 _ Γ.l _ _ i.H.cx.tc sr3 ⟨fun b hb => have o := i1.out.at_ b hb; ⟨o.1.imp fun _ => .imp (push2_old _ _) id, fun f => o.1.elim fun _ e => ns (ft f) e.1, o.2.2⟩, i1.out.mem⟩ (.cons ⟨_, rfl, rfl⟩ (r1.fro h.1 fun _ _ h => h))
      ⟨fun v u z4 k g4 r4 => mk_e k r4 fun l e1 e2 fl k => ?_, fun _ _ _ k => k.elim⟩
    exact (freeze g1.sr hx1 new_none push2_old g4 e2 fl fun b hb => (i1.out.at_ b hb).2.1).elim fun W5 h5 => ⟨e1, q _ _ ⟨W5, z4.s, z1.σ⟩ k (g1.trans h5.1) h5.2⟩) rfl
theorem rep_foldl (x : Value) : ∀ (k : Nat) (acc : List Value), List.foldl (fun x1 x2 => x1 ++ x2) acc.toArray (List.replicate k #[x]) = (acc ++ List.replicate k x).toArray
  | 0, acc => by rw [List.replicate_zero, List.replicate_zero, List.append_nil]; rfl
  | k + 1, acc => by
    rw [List.replicate_succ, List.foldl_cons, show acc.toArray ++ #[x] = (acc ++ [x]).toArray from List.append_toArray acc [x], rep_foldl x k, List.append_assoc]
    rfl
theorem x_mul {n : Int} {k : Int} {k1 k2 : Nat} {q1 q2 p1 pos : Pos} {s : Shared} {A : Around} {env : Env} (h0 : 0 ≤ k) (hk : k ≤ 1000)
    (q : ∀ h' tk t D, Kp s.heap h' → s.heap.get? D = none → h'.get? D = some ⟨.type "list", none, .seq (List.replicate k.toNat (Value.int n t)).toArray 0, #[]⟩ → Q (.ref D) { s with heap := h', toks := tk }) :
    wpAny (model Λ.prog Λ.w) A (eval (.BinOp (.List [.Constant (.int n) k1 q1] p1) .Mult (.Constant (.int k) k2 q2) pos) env) Q E s := by
  refine wpAny_BinOp (List_ ?_)
  show wpAny _ A (spliced [(false, eval (.Constant (.int n) k1 q1) env)]) _ E s
  refine Calls.spliced_cons (wpAny_Constant_int (Calls.spliced_nil (wpAny_newList (wpAny_Constant_int ?_) (by show 1 ≤ sizeLine; decide))))
  have hl : (s.heap.push { cls := .type "list", data := .seq [Value.int n s.toks].toArray }).get? s.heap.objs.size = some { cls := .type "list", dict := none, data := .seq #[Value.int n s.toks] 0, slots := #[] } := Heap.get?_push_size _ rfl
  have e3 : List.foldl (fun x1 x2 => x1 ++ x2) #[] (List.replicate (if (#[Value.int n s.toks] : Array Value).isEmpty = true then 0 else k.toNat) #[Value.int n s.toks]) = (List.replicate k.toNat (Value.int n s.toks)).toArray := rep_foldl (Value.int n s.toks) k.toNat []
  have hsz : ¬ (1 : Nat) * k.toNat > 2 ^ 24 := by omega
  refine wpAny_binaryOp_repeat_ref (T := "list") (U := "int") (by decide) ⟨_, hl, rfl⟩ (fun s' => typeIs_int s' k _) noFill_list_mul F.fills_int_mul F.slot_int_rmul repeat_list F.slot_int_index.lookup
    (call_meets F.slot_int_rmul (typeIs_int _ k _) F.entry_int_rmul (F.args_int_rmul_2 _ _) (int___rmul___int_list k _ _ _ _)
      ⟨hl, rfl, ⟨_, hl, rfl⟩, call_meets F.slot_list_mul ⟨_, hl, rfl⟩ F.entry_list_mul (F.args_list_mul_2 _ _)
        (AutoListH.list___mul___list_int_3 _ _ _ k _ (by simp [Builtin.List.listFitsIndex]; omega) (by simp; omega) (by simp [Builtin.List.listTooLong, sizeLine]; omega))
        ⟨hl, ?_⟩⟩)
  rw [e3]
  exact q _ _ s.toks _ push2_old (none_of_size (by rw [size_push']; exact Nat.le_succ _)) (Heap.get?_push_size _ rfl)
theorem pe_newMul {n : Int} {k : Nat} : PE Γ (.newMul n k) := fun p ρ z K hc he i => .plain (fun Q E q => x_mul (Int.natCast_nonneg k) (Int.ofNat_le.mpr (Nat.le_of_ble_eq_true hc)) fun h' tk t D k1 k2 k3 => g_newL i.sr k1 k2 k3 (Reps.replicate (u := .int n t) (x := .int n) ⟨t, rfl⟩ k) he q) rfl
theorem pe_mulL {n : Int} {k : Nat} : PE Γ (.mulL n k) := fun p ρ z K hc he i => .plain (fun Q E q => x_mul (Int.natCast_nonneg k) (Int.ofNat_le.mpr (Nat.le_of_ble_eq_true hc)) fun h' tk t D k1 k2 k3 => q.lst i.sr k1 k2 k3 (Reps.replicate (u := .int n t) (x := .int n) ⟨t, rfl⟩ k) he) rfl
theorem pe_dic0 : PE Γ .dic0 := fun p ρ z K hc he i => .plain (fun Q E q => wpAny_Dict_empty (q (.ref z.σ.length) _ ⟨z.W.own (z.s.heap.objs.size, z.s.heap.objs.size), { z.s with heap := z.s.heap.push { cls := .type "dict", data := .dict #[] } }, z.σ ++ [HO.dicI []]⟩ (show K (.ref z.σ.length) (z.σ ++ [HO.dicI []]) from he)
  (.own (o := .dicI []) (p := (_, _)) (tk := z.s.toks) i.sr push_old new_none new_none ⟨rfl, Nat.zero_le _, [], Heap.DictOf.new _, rfl, .nil⟩) (own_rep i.sr))) rfl
theorem pe_dic2 {k1 k2 : Str} {x y : Ex} (hx : PE Γ x) (hy : PE Γ y) : PE Γ (.dic2 k1 x k2 y) := fun p ρ z K hc he i => .plain (fun Q E q => by
  have hne : k1 ≠ k2 := fun h => by have h' := andL hc; rw [seq_iff.mpr h] at h'; cases h'
  refine wpAny_Dict_pairs (knd := PySem.strKind Γ.Λ.prog Γ.Λ.w) (pairs := [(eval (.Constant (.str k1) p.a.a.k p.a.a.p) Γ.v, (do let x ← eval (toE Γ.Λ.T x p.b.a) Γ.v; standAt p.p; pure x)), (eval (.Constant (.str k2) p.a.b.a.k p.a.b.a.p) Γ.v, (do let x ← eval (toE Γ.Λ.T y p.b.b.a) Γ.v; standAt p.p; pure x))]) rfl (by simp) (by show 2 ≤ 15; decide) ?_
  have g0 := Go.own (X := NoX) (tk := z.s.toks + 1) (p := (z.s.heap.objs.size, z.s.heap.objs.size)) (o := .dicS []) i.sr (push_old (o := { cls := .type "dict", data := .dict #[] })) new_none new_none ⟨rfl, [], Heap.DictOf.new _, rfl, .nil⟩
  refine evalPairs_cons (Calls.Constant_str (wpAny_bind ((hx _ ρ ⟨_, _, _⟩ _ (andL (andR hc)) he (i.go g0)).val _ _ fun a u1 z1 h g1 r1 => wpAny_bind (wpAny_standAt (wpAny_pure ?_)))))
  have gt : Go Γ.Λ NoX z1 ⟨z1.W, { z1.s with toks := z1.s.toks + 1 }, z1.σ⟩ := .new (h' := z1.s.heap) g1.sr fun _ _ e => e
  refine evalPairs_cons (Calls.Constant_str (wpAny_bind ((hy _ ρ ⟨z1.W, { z1.s with toks := z1.s.toks + 1 }, z1.σ⟩ _ (andR (andR hc)) h (i.go (g0.trans (g1.trans gt)))).val _ _ fun b u2 z2 h g2 r2 => wpAny_bind (wpAny_standAt (wpAny_pure (evalPairs_nil ?_))))))
  have r := (own_rep (p := (z.s.heap.objs.size, z.s.heap.objs.size)) i.sr).le (g1.trans (gt.trans g2)).le
  obtain ⟨p', ep, hp⟩ := id r
  obtain ⟨e0, kvs0, hD, hk0, _⟩ := g2.sr.obj _ _ _ h.1 hp
  obtain rfl : kvs0 = [] := List.map_eq_nil_iff.mp hk0
  have ep : z.s.heap.objs.size = p'.1 := Value.ref.inj ep
  rw [← ep] at hD
  refine ⟨[(k1, u1), (k2, u2)], ⟨by simp [PySem.strKind, Value.isStrOf], rfl, by simp [PySem.strKind, Value.isStrOf], rfl, trivial⟩, hD, fun h' hD' hsb => ?_⟩
  rw [show merged ([] : List (Str × Value)) [(k1, u1), (k2, u2)] = [(k1, u1), (k2, u2)] from by simp [merged, stored, hne]] at hD'
  exact q _ _ ⟨z2.W, { z2.s with heap := h', toks := _ }, _⟩ h.2 (g0.trans (g1.trans (gt.trans (g2.trans (.turn g2.sr hp (fun b o hb' e' => (hsb.2 b (ep ▸ hb'.1)).trans e') (o := .dicS [(k1, a), (k2, b)]) ⟨e0, [(k1, u1), (k2, u2)], ep ▸ hD', rfl, .cons (r1.le (gt.trans g2).le) (.one r2)⟩))))) r) rfl
end
end Mine
namespace Mine
section
variable {Γ : Cc} {Λ : Ly} {ρ : Env'} {z z' : Z} {K : KV} {Q : Value → Shared → Prop} {E : Value → Shared → Prop}
noncomputable def SameI (v y : Value) : Prop := ∃ i t t', v = .int i t ∧ y = .int i t'
noncomputable def IntsR (Λ : Ly) (W : Wd) (l : List V) (is : List Int) (us : List Value) : Prop := is.length = l.length ∧ (∀ u ∈ us, ∃ i t, u = Value.int i t) ∧ ∀ ys, Paired SameI us ys → Reps Λ W ys (is.map .int)
theorem ints_ar {W : Wd} : ∀ {l : List V} {is : List Int} {us : List Value}, intsOf l = some is → Reps Λ W us l → IntsR Λ W l is us := by
  intro l
  induction l with
  | nil => intro is us e (r : us = []); subst r; cases e; exact ⟨rfl, ⟨fun u h => absurd h List.not_mem_nil, fun ys p => by cases p; exact .nil⟩⟩
  | cons v l ih =>
    intro is us e r
    refine r.uncons (P := IntsR Λ W (v :: l) is) fun u us r1 r2 => ?_
    cases v with
    | int i =>
      obtain ⟨t, rfl⟩ := r1
      refine map_e (P := fun is => IntsR Λ W (.int i :: l) is (.int i t :: us)) e fun is e => ?_
      have h := ih e r2
      refine ⟨congrArg (· + 1) h.1, fun u hu => (List.mem_cons.mp hu).elim (fun e => ⟨i, t, e⟩) (h.2.1 u), fun ys p => ?_⟩
      cases p with
      | cons s ps =>
        obtain ⟨j, t1, t2, e1, rfl⟩ := s
        cases e1
        exact .cons ⟨t2, rfl⟩ (h.2.2 _ ps)
    | _ => exact ns rfl e
theorem lc_1 : ∀ y ∈ lcS.names, y.2 ≠ .free := by decide +kernel
theorem lc_2 : ∀ y ∈ lcS.names, y.2 ≠ .cell := by decide +kernel
theorem lc_3 : ∀ y ∈ lcS.names, y.2 = .local → lcS.names.lookup y.1 = some .local := by decide +kernel
theorem lc_4 : lcS.names.lookup ("cell" : Str) = some .local := rfl
theorem lc_5 : lcS.names.lookup (Str.ofString (biName .int)) = some .globalImplicit := rfl
theorem lc_6 : (("cell" : Str) == ("__debug__" : Str)) = false := by decide +kernel
theorem lc_7 : (Str.ofString (biName .int) == ("__debug__" : Str)) = false := by decide +kernel
theorem pe_lcAdd {x : Ex} {k : Int} (hx : PE Γ x) : PE Γ (.lcAdd x k) := fun p ρ z K hc he i => .plain (fun Q E q => wpAny_BinOp
  (wpAny_ListComp_map (fun _ => true) SameI i.H.cx.hand lc_1 lc_2 rfl lc_3 lc_4 ((hx _ ρ z _ hc he i).val _ _ fun a u z1 h g1 r1 => V.L.e (P := fun u' => u = u' → _) h r1 (fun l c us h _ s rs eu => opt.e h fun is e h => by
    subst eu
    have hi := ints_ar e rs
    have kk {h' : Heap} (k : Kp z1.s.heap h') : Kp Γ.Λ.base h' := fun b o e => k _ _ (g1.sr.fz _ _ (g1.sr.base _ _ e))
    refine ⟨c, us.toArray, rfl, s.list g1.sr.fz, line_le (by rw [List.size_toArray, rs.length]; exact Nat.le_trans h.1 (by decide)), fun D v s3 m3 E' hv hn hm hk => wpAny_pure ⟨rfl, ⟨s3.heap, s3.toks, rfl, fun _ _ e => e⟩⟩, fun D v s3 m3 E' hv _ hn hm hk => ?_, fun D h' tk ys hD hl hp hk => ?_⟩
    · obtain ⟨n, t, rfl⟩ := hi.2.1 v (by simpa using hv)
      refine wpAny_Call_ofName (Calls.Name_function_global rfl lc_5 (Calls.loadGlobal_builtin (i.H.G.gns.at (kk hk _)) (i.H.G.bi .int).1 (i.H.G.bns.at (kk hk _)) (i.H.G.bi .int).2 (PySem.callWith_type rfl ?_)) lc_7)
      show wpAny _ _ (evalArgs _ true [(false, eval (.Name "cell" p.a.a.b.a.p) (compEnv lcS D Γ.v))] []) _ E' s3
      exact Calls.evalArgs_plain (Calls.spliced_cons (wpAny_Name (wpAny_loadName_local rfl lc_4 hn hm (Calls.spliced_nil (call_int_int ⟨⟨n, t, t, rfl, rfl⟩, ⟨s3.heap, s3.toks, rfl, fun _ _ e => e⟩⟩))) lc_6))
    · show wpAny _ _ (eval (.List [.Constant (.int k) p.b.a.a.k p.b.a.a.p] p.b.p) Γ.v) _ E _
      have hp : Paired SameI us ys.toList := by rw [List.filter_eq_self.mpr fun _ _ => rfl] at hp; exact hp
      refine List_ ?_
      show wpAny _ _ (spliced [(false, eval (.Constant (.int k) p.b.a.a.k p.b.a.a.p) Γ.v)]) _ E _
      refine Calls.spliced_cons (wpAny_Constant_int (Calls.spliced_nil (wpAny_newList ?_ (by show 1 ≤ sizeLine; decide))))
      have rr := hi.2.2 _ hp
      have hln : ys.toList.length ≤ 500 := by rw [rr.length, List.length_map, hi.1]; exact h.1
      refine lists_add (Λ := Γ.Λ) (vs := ys.toList) (ws := [Value.int k tk]) ((show h'.IsList D ys.toList.toArray by simpa using hl).push _) ⟨_, Heap.get?_push_size _ rfl, rfl, _, rfl⟩ (Nat.le_trans (Nat.succ_le_succ hln) (by decide)) ?_
      exact (q.go g1).lst (tk := tk + 1) (us := ys.toList ++ [.int k tk]) g1.sr (fun b o e => push2_old b o (hk b o e)) (Kp.none hk (none_of_size (by rw [size_push']; exact Nat.le_succ _))) (Heap.get?_push_size _ rfl) (rr.append (.one (u := .int k tk) (v := .int k) ⟨tk, rfl⟩)) h.2) rfl)
    fun _ => (pl _ x _).fold _ _)) rfl
mutual
theorem s_pe : ∀ x : Ex, PE Γ x
  | .non => pe_non
  | .tru => pe_tru
  | .fal => pe_fal
  | .int _ => pe_int
  | .str _ => pe_str
  | .loc _ => pe_loc
  | .glo _ => pe_glo
  | .bin _ x y => pe_bin (s_pe x) (s_pe y)
  | .neg x => pe_neg (s_pe x)
  | .inv x => pe_inv (s_pe x)
  | .nt x => pe_nt (s_pe x)
  | .bol op xs => pe_bol (s_pbo op xs)
  | .cmp _ x y => pe_cmp (s_pe x) (s_pe y)
  | .cmp2 _ _ x y z => pe_cmp2 (s_pe x) (s_pe y) (s_pe z)
  | .ite x y z => pe_ite (s_pe x) (s_pe y) (s_pe z)
  | .attr x _ => pe_attr (s_pe x)
  | .sub x y => pe_sub (s_pe x) (s_pe y)
  | .slTo x y => pe_slTo (s_pe x) (s_pe y)
  | .slFrom x y => pe_slFrom (s_pe x) (s_pe y)
  | .tup xs => pe_tup (s_pes xs)
  | .lst xs => pe_lst (s_pes xs)
  | .newLst xs => pe_newLst (s_pes xs)
  | .newApp xs => pe_newApp (s_pes xs)
  | .newMul _ _ => pe_newMul
  | .mulL _ _ => pe_mulL
  | .newList x => pe_newList (s_pe x)
  | .dic0 => pe_dic0
  | .dic2 _ x _ y => pe_dic2 (s_pe x) (s_pe y)
  | .cf _ xs => pe_cf (s_pes xs)
  | .cm x _ xs => pe_cm (s_pe x) (s_pes xs)
  | .cn _ xs => pe_cn (s_pes xs)
  | .cnm _ xs => pe_cnm (s_pes xs)
  | .ci _ xs => pe_ci (s_pes xs)
  | .cb _ x => pe_cb (s_pe x)
  | .spl0 x => pe_spl0 (s_pe x)
  | .spl1 x y => pe_spl1 (s_pe x) (s_pe y)
  | .stw x y => pe_stw (s_pe x) (s_pe y)
  | .fnd x y => pe_fnd (s_pe x) (s_pe y)
  | .idx x y => pe_idx (s_pe x) (s_pe y)
  | .get2 x y z => pe_get2 (s_pe x) (s_pe y) (s_pe z)
  | .app x y => pe_app (s_pe x) (s_pe y)
  | .lcAdd x _ => pe_lcAdd (s_pe x)
theorem s_pes : ∀ x : Exs, PEs Γ x
  | .nil => pes_nil
  | .cons x xs => pes_cons (s_pe x) (s_pes xs)
theorem s_pbo (op : BoolOp) : ∀ x : Exs, PBo Γ op x
  | .nil => pbo_nil
  | .cons x .nil => pbo_one (s_pe x)
  | .cons x (.cons y ys) => pbo_more (s_pe x) (s_pbo op (.cons y ys))
end
end
end Mine
namespace Mine
noncomputable def Flt (Γ : Cc) (B : Heap) (e : Addr) (h : Heap) : Prop :=
  (B.StaysIn h ∧ B.get? e = none ∧ ∃ oe vs a0, h.get? e = some oe ∧ oe.cls = mclass Γ.Λ ∧ oe.data = .fields vs ∧ vs[1]? = some .none ∧ vs[0]? = some a0) ∨ ∃ a0, Heap.FlyingW B Γ.l e (mclass Γ.Λ) a0 h
structure SK (Γ : Cc) (z : Z) (K : KF) (Q : Flow → Shared → Prop) (E : Value → Shared → Prop) : Prop where
  nxt : ∀ ρ z', K .nxt ρ z'.σ → Go Γ.Λ (· = Γ.L) z z' → Fx Γ.Λ ρ Γ.L z' → Q .next z'.s
  ret : ∀ v u ρ z', K (.ret v) ρ z'.σ → Go Γ.Λ (· = Γ.L) z z' → Fx Γ.Λ ρ Γ.L z' → Rep Γ.Λ z'.W u v → Q (.ret u) z'.s
  exc : ∀ e ρ z' B, K .exc ρ z'.σ → Go Γ.Λ (· = Γ.L) z z' → Fx Γ.Λ ρ Γ.L z' → (∀ b, b ∈ z.W.fr → B.get? b = none) → Cov z z' B → Flt Γ B e z'.s.heap → E (.ref e) z'.s
noncomputable def PT' (Γ : Cc) (x : St) : Prop := ∀ (p : PT) (ρ : Env') (z : Z) (K : KF), okS Γ.Λ.T Γ.sc x p = true → wS Γ.Λ.T Γ.C x ρ z.σ K → In Γ ρ z → ∀ Q E, SK Γ z K Q E → wpAny Γ.M Γ.A (exec (toS Γ.Λ.T x p) Γ.v) Q E z.s
noncomputable def PTs (Γ : Cc) (x : Sts) : Prop := ∀ (p : PT) (ρ : Env') (z : Z) (K : KF), okB Γ.Λ.T Γ.sc x p = true → wB Γ.Λ.T Γ.C x ρ z.σ K → In Γ ρ z → ∀ Q E, SK Γ z K Q E → wpAny Γ.M Γ.A (execs (toB Γ.Λ.T x p) Γ.v) Q E z.s
section
variable {Γ : Cc} {ρ ρ' : Env'} {z z' : Z} {K : KF} {Q : Flow → Shared → Prop} {E : Value → Shared → Prop}
theorem Go.toL {L : Addr} {Λ : Ly} (g : Go Λ NoX z z') : Go Λ (· = L) z z' := g.mono fun _ x => x.elim
theorem Go.was {Λ : Ly} {X : Addr → Prop} (g : Go Λ X z z') {b : Addr} (n : ¬ X b) : (∃ o, z.s.heap.get? b = some o) → ∃ o, z'.s.heap.get? b = some o := fun ⟨o, e⟩ => by
  by_cases f : foot z.W b
  · exact g.sr.there (foot_le g.le f)
  · exact (g.keep b o e f n).2.elim fun sl e => ⟨_, e⟩
theorem Cov.pre {Λ : Ly} {X : Addr → Prop} {z1 : Z} {B : Heap} (g : Go Λ X z z1) (hX : ∀ b, X b → b ∈ z'.W.fr) (c : Cov z1 z' B) : Cov z z' B := fun b o e hn h =>
  c b o e hn (h.imp id (.imp id (g.was fun x => hn (hX b x))))
theorem SK.go (q : SK Γ z K Q E) (g : Go Γ.Λ (· = Γ.L) z z') (own : Γ.L ∈ z.W.fr) : SK Γ z' K Q E :=
  ⟨fun ρ z2 k g2 fx => q.nxt ρ z2 k (g.trans g2) fx, fun v u ρ z2 k g2 fx r => q.ret v u ρ z2 k (g.trans g2) fx r, fun e ρ z2 B k g2 fx hB cov flt => q.exc e ρ z2 B k (g.trans g2) fx (fun b hb => hB b (by rw [g.frs]; exact hb))
    (cov.pre g fun b (hb : b = Γ.L) => by rw [hb, g2.frs, g.frs]; exact own) flt⟩
theorem SK.px {K' : H → Prop} (q : SK Γ z K Q E) (i : In Γ ρ z) (h : ∀ σ, K' σ → K .exc ρ σ) (g : Go Γ.Λ NoX z z') : PX Γ.Λ Γ.l z' K' E := fun e z2 B k g2 hB cov flt =>
  q.exc e ρ z2 B (h _ k) (g.trans g2).toL (i.go (g.trans g2)).fx (fun b hb => hB b (by rw [g.frs]; exact hb)) (cov.pre g fun _ x => x.elim) (.inr flt)
theorem ps_ret {x : Ex} : PT' Γ (.ret x) := fun p ρ z K hc he i Q E q => wpAny_Return_some ((s_pe x _ ρ z _ hc he i).val _ _ fun v u z1 k g1 r => q.ret v u ρ z1 k g1.toL (i.go g1).fx r)
theorem ps_ret0 : PT' Γ .ret0 := fun p ρ z K hc he i Q E q => wpAny_Return_none (q.ret .non .none ρ z he (.refl i.sr) i.fx rfl)
theorem ps_asg {y : Nat} {x : Ex} : PT' Γ (.asg y x) := fun p ρ z K hc he i Q E q => wpAny_Assign_Name ((s_pe x _ ρ z _ (andR hc) he i).val _ _ fun v u z1 k g1 r => (i.go g1).store (andL hc) r fun s g2 fx _ => q.nxt _ ⟨z1.W, s, z1.σ⟩ k (g1.toL.trans g2) fx) ((pl _ x _).swap _ _ _)
theorem ps_asgA {y x : Ex} {at_ : Nat} : PT' Γ (.asgA y at_ x) := fun p ρ z K hc he i Q E q => plainObj_wpAny_Assign_Attribute ((s_pe x _ ρ z _ (andR hc) he i).val _ _ fun v u z1 k g1 r => (s_pe y _ ρ z1 _ (andL hc) k (i.go g1)).val _ _ fun b w z2 k g2 r2 =>
  g_setA i.H.G.toGr g2.sr k r2 (r.le g2.le) fun s σ k g3 => have g := g1.trans (g2.trans g3); q.nxt ρ ⟨z2.W, s, σ⟩ k g.toL (i.go g).fx) ((pl _ x _).swap _ _ _)
theorem ps_asgS {y x w : Ex} : PT' Γ (.asgS y w x) := fun p ρ z K hc he i Q E q => wpAny_Assign_Subscript ((s_pe x _ ρ z _ (andR (andR hc)) he i).val _ _ fun v u z1 k g1 r => (s_pe y _ ρ z1 _ (andL hc) k (i.go g1)).val _ _ fun b u2 z2 k g2 r2 =>
  (s_pe w _ ρ z2 _ (andL (andR hc)) k (i.go (g1.trans g2))).val _ _ fun c u3 z3 k g3 r3 => g_setS g3.sr k (r2.le g3.le) r3 (r.le (g2.trans g3).le) fun s σ k g4 => have g := g1.trans (g2.trans (g3.trans g4)); q.nxt ρ ⟨z3.W, s, σ⟩ k g.toL (i.go g).fx) ((pl _ x _).swap _ _ _)
theorem no_inter (H : Γ.ok) : interactive Γ.v = false := by
  unfold interactive
  show (Γ.sc.kind == .module && _) = false
  rw [H.hk]; rfl
theorem ps_exp {x : Ex} : PT' Γ (.exp x) := fun p ρ z K hc he i Q E q => wpAny_Expr_any ((s_pe x _ ρ z _ hc he i).val _ _ fun v u z1 k g1 r => q.nxt ρ z1 k g1.toL (i.go g1).fx) (no_inter i.H) ((pl _ x _).swap _ _ _)
theorem ps_expX {f : Nat} {xs : Exs} : PT' Γ (.expX f xs) := fun p ρ z K hc he i Q E q => wpAny_Expr_any (x_cfX (s_pes xs) hc he i fun vs us z1 h g1 r1 => wpAny_call (i.H.hc f vs z1 _ h Γ.A Γ.l us _ (i.H.cx.less (Nat.le_succ _)) g1.sr (i.go g1).out r1
  ⟨fun v u z2 k g2 r => q.nxt ρ z2 k (g1.trans g2).toL (i.go (g1.trans g2)).fx, q.px i (fun _ k => k) g1⟩)) (no_inter i.H) ((pl _ (.cf f xs) _).swap _ _ _)
theorem ps_ite {x : Ex} {a b : Sts} (ha : PTs Γ a) (hb : PTs Γ b) : PT' Γ (.ite x a b) := fun p ρ z K hc he i Q E q => wpAny_If ((s_pe x _ ρ z _ (andL hc) he i).tru _ _ fun v z1 h g1 => h.imp fun c h =>
  ifW.ite h (fun h => ha _ ρ z1 K (andL (andR hc)) h (i.go g1) Q E (q.go g1.toL i.own)) fun h => hb _ ρ z1 K (andR (andR hc)) h (i.go g1) Q E (q.go g1.toL i.own))
theorem pss_nil : PTs Γ .nil := fun p ρ z K hc he i Q E q => wpAny_execs_nil (q.nxt ρ z he (.refl i.sr) i.fx)
theorem pss_cons {x : St} {xs : Sts} (hx : PT' Γ x) (hxs : PTs Γ xs) : PTs Γ (.cons x xs) := fun p ρ z K hc he i Q E q => wpAny_execs_cons (hx _ ρ z _ (andL hc) he i _ _
  ⟨fun ρ1 z1 k g fx => hxs _ ρ1 z1 K (andR hc) k (i.goL g fx) Q E (q.go g i.own), fun v u ρ1 z1 k g fx r => q.ret v u ρ1 z1 k g fx r, fun e ρ1 z1 B k g fx hB cov flt => q.exc e ρ1 z1 B k g fx hB cov flt⟩)
theorem ps_raw : PT' Γ .raw := fun p ρ z K hc he i Q E q => he.elim
theorem x_puts {G : Env' → Prop} {E : Value → Shared → Prop} {Q : Unit → Shared → Prop} {f : List Nat → PT → List (Value → Sem Unit)} (f0 : ∀ p, f [] p = [])
    (f1 : ∀ x xs p, okTs Γ.Λ.T Γ.sc (x :: xs) = true → ∃ t p', f (x :: xs) p = t :: f xs p' ∧ ∀ u (Q : Unit → Shared → Prop) s, wpAny Γ.M Γ.A (storeName Γ.v (Γ.Λ.T.nm x) u) Q E s → wpAny Γ.M Γ.A (t u) Q E s) :
    ∀ (xs : List Nat) (p : PT) (us : List Value) (vs : List V) (ρ : Env') (z : Z), okTs Γ.Λ.T Γ.sc xs = true → putsW xs vs ρ G → In Γ ρ z → Reps Γ.Λ z.W us vs →
      (∀ ρ s, G ρ → Go Γ.Λ (· = Γ.L) z ⟨z.W, s, z.σ⟩ → Fx Γ.Λ ρ Γ.L ⟨z.W, s, z.σ⟩ → Q () s) → wpAny Γ.M Γ.A (assignInOrder (f xs p) us) Q E z.s := by
  intro xs
  induction xs with
  | nil =>
    intro p us vs ρ z _ h i r q
    cases vs with
    | cons _ _ => exact h.elim
    | nil => rw [f0, show us = [] from r]; exact assignInOrder_nil (q ρ z.s h (.refl i.sr) i.fx)
  | cons x xs ih =>
    intro p us vs ρ z hc h i r q
    cases vs with
    | nil => exact h.elim
    | cons v vs =>
      refine r.uncons (P := fun us => wpAny _ _ (assignInOrder _ us) Q E z.s) fun u us r1 r2 => (f1 x xs p hc).elim fun t e => e.elim fun p' e => ?_
      rw [e.1]
      exact assignInOrder_cons (e.2 _ _ _ (i.store (andL hc) r1 fun s g fx _ => ih p' us vs _ ⟨z.W, s, z.σ⟩ (andR hc) h (i.goL g fx) r2 fun ρ s k g' fx => q ρ s k (g.trans g') fx))
theorem puts_len {G : Env' → Prop} : ∀ (xs : List Nat) (vs : List V) (ρ : Env'), putsW xs vs ρ G → xs.length = vs.length := by
  intro xs
  induction xs with
  | nil => intro vs ρ h; cases vs with
    | nil => rfl
    | cons _ _ => exact h.elim
  | cons x xs ih => intro vs ρ h; cases vs with
    | nil => exact h.elim
    | cons v vs => exact congrArg (· + 1) (ih vs _ h)
theorem each_len {env : Env} : ∀ (xs : List Nat) (p : PT), (assignEach (toTs Γ.Λ.T xs p) env).length = xs.length ∧ (assignEach (toTs Γ.Λ.T xs p) env).findIdx? (·.1) = none
  | [], _ => ⟨rfl, rfl⟩
  | x :: xs, p => by
    have h := each_len (env := env) xs p.b
    refine ⟨congrArg (· + 1) h.1, ?_⟩
    show ((false, assign (.Name (Γ.Λ.T.nm x) p.a.p) env) :: assignEach (toTs Γ.Λ.T xs p.b) env).findIdx? (·.1) = none
    rw [List.findIdx?_cons, h.2]; rfl
theorem ext_new {h h' : Heap} (e : Heap.ExtBut h.objs.size h h') : Kp h h' := fun b o x => e b o (Nat.ne_of_lt (Heap.lt_size x)) x
theorem Pl.sole {x : Ex} {e : Expr} (h : Pl x e) {t : Expr} {k : Nat} {env : Env} : swapsWithSole [t] e k env = pure false := h.swap _ _ _
theorem x_unpack {xs : List Nat} {p : PT} {k : Nat} {pos : Pos} {c : Addr} {us : List Value} {vs : List V} {G : Env' → Prop} {Q : Unit → Shared → Prop} (i : In Γ ρ z) (hc : okTs Γ.Λ.T Γ.sc xs = true) (h : putsW xs vs ρ G) (t : z.s.heap.IsTuple c us.toArray) (r : Reps Γ.Λ z.W us vs)
    (q : ∀ ρ s, G ρ → Go Γ.Λ (· = Γ.L) z ⟨z.W, s, z.σ⟩ → Fx Γ.Λ ρ Γ.L ⟨z.W, s, z.σ⟩ → Q () s) : wpAny Γ.M Γ.A (assign (.Tuple (toTs Γ.Λ.T xs p) k pos) Γ.v (.ref c)) Q E z.s :=
  have a := each_len (Γ := Γ) (env := Γ.v) xs p
  wpAny_assign_Tuple (items := us.toArray) i.H.cx.hand t (by rw [a.1, puts_len xs vs ρ h, List.size_toArray, r.length]) a.2 fun h' he =>
    have g : Go Γ.Λ NoX z ⟨z.W, { z.s with heap := h' }, z.σ⟩ := .new (tk := z.s.toks) i.sr (ext_new he)
    x_puts (f := fun xs p => (assignEach (toTs Γ.Λ.T xs p) Γ.v).map (·.2)) (fun _ => rfl) (fun x xs p _ => ⟨_, p.b, rfl, fun _ _ _ h => wpAny_assign_Name h⟩) xs p us vs ρ ⟨z.W, { z.s with heap := h' }, z.σ⟩ hc h (i.go g) r fun ρ s k g' fx => q ρ s k (g.toL.trans g') fx
theorem ps_asgT {xs : List Nat} {x : Ex} : PT' Γ (.asgT xs x) := fun p ρ z K hc he i Q E q => Assign_Tuple ((s_pe x _ ρ z _ (andR (andR hc)) he i).val _ _ fun v u z1 k g1 r => V.T.e (P := fun u => wpAny _ _ (assign _ _ u) _ E z1.s) k r fun l c us k s rs =>
  x_unpack (i.go g1) (andL (andR hc)) k (s.tuple g1.sr.fz) rs fun ρ s k g fx => q.nxt ρ ⟨z1.W, s, z1.σ⟩ k (g1.toL.trans g) fx) (pl Γ.Λ.T x p.a).sole ((pl Γ.Λ.T x p.a).sto (andL hc) _ _ _ _)
theorem ps_asgX {xs : List Nat} {f : Nat} {es : Exs} : PT' Γ (.asgX xs f es) := fun p ρ z K hc he i Q E q => Assign_Tuple (x_cfX (s_pes es) (andR hc) he i fun vs us z1 h g1 r1 => wpAny_call (i.H.hc f vs z1 _ h Γ.A Γ.l us _ (i.H.cx.less (Nat.le_succ _)) g1.sr (i.go g1).out r1
  ⟨fun v u z2 k g2 r => V.T.e (P := fun u => wpAny _ _ (assign _ _ u) _ E z2.s) k r fun l c us k s rs => x_unpack (i.go (g1.trans g2)) (andL hc) k (s.tuple g2.sr.fz) rs fun ρ s k g fx => q.nxt ρ ⟨z2.W, s, z2.σ⟩ k ((g1.trans g2).toL.trans g) fx,
   q.px i (fun _ k => k) g1⟩)) (pl Γ.Λ.T (.cf f es) p.a).sole ((pl Γ.Λ.T (.cf f es) p.a).sto rfl _ _ _ _)
end
end Mine
namespace Mine
structure Ld where
  z0 : Z
  W0 : Wd
  wr : List Addr
  fp : List Addr
  St : Nat → Heap → Prop
structure Ld.ok (D : Ld) : Prop where
  sub : ∀ b, b ∈ D.wr → b ∈ D.fp
  frame : ∀ i h h', D.St i h → (∀ b, b ∈ D.fp → ∀ o, h.get? b = some o → h'.get? b = some o) → D.St i h'
  pres : ∀ i h, D.St i h → ∀ b, b ∈ D.fp → ∃ o, h.get? b = some o
  new : ∀ b, b ∈ D.wr → D.z0.s.heap.get? b = none
structure Free (W : Wd) (L : Addr) (D : Ld) : Prop where
  fz : ∀ b, b ∈ D.wr → W.fz b = none
  fp : ∀ b, b ∈ D.fp → ¬ foot W b ∧ b ≠ L ∧ b ∉ W.fr
structure Lo (Γ : Cc) (D : Ld) (i : Nat) (ρ : Env') (z : Z) : Prop where
  ok : D.ok
  go : Go Γ.Λ (· = Γ.L) D.z0 z
  le : Le D.W0 z.W
  inn : In Γ ρ z
  st : D.St i z.s.heap
  free : Free z.W Γ.L D
section
variable {Γ : Cc} {D : Ld} {ρ ρ' : Env'} {z z' : Z} {i j : Nat} {K : KF} {Q : Flow → Shared → Prop} {E : Value → Shared → Prop}
theorem Lo.keep (x : Lo Γ D i ρ z) (g : Go Γ.Λ (· = Γ.L) z z') (fx : Fx Γ.Λ ρ' Γ.L z') : Lo Γ D i ρ' z' :=
  have n {b : Addr} (hb : b ∈ D.fp) := x.ok.pres i _ x.st b hb
  have f {b : Addr} (hb : b ∈ D.fp) := (n hb).elim fun o ho => g.fresh b o ho (x.free.fp b hb).1 (x.free.fp b hb).2.1
  ⟨x.ok, x.go.trans g, x.le.trans g.le, x.inn.goL g fx, x.ok.frame i _ _ x.st fun b hb o e => (g.keep b o e (x.free.fp b hb).1 (x.free.fp b hb).2.1).1 (x.free.fp b hb).2.2,
   fun b hb => (f (x.ok.sub b hb)).2 (x.free.fz b hb), fun b hb => ⟨(f hb).1, (x.free.fp b hb).2.1, by rw [g.frs]; exact (x.free.fp b hb).2.2⟩⟩
theorem Lo.mv (x : Lo Γ D i ρ z) {h' : Heap} {tk : Nat} (k : ∀ b o, b ∉ D.wr → z.s.heap.get? b = some o → h'.get? b = some o) : Go Γ.Λ (· = Γ.L) D.z0 ⟨z.W, { z.s with heap := h', toks := tk }, z.σ⟩ ∧ In Γ ρ ⟨z.W, { z.s with heap := h', toks := tk }, z.σ⟩ := by
  have nw {b : Addr} (h : ¬ foot z.W b → b ≠ Γ.L → b ∉ z.W.fr → False) : b ∉ D.wr := fun hb => h (x.free.fp b (x.ok.sub b hb)).1 (x.free.fp b (x.ok.sub b hb)).2.1 (x.free.fp b (x.ok.sub b hb)).2.2
  have i := x.inn
  have sr : SR Γ.Λ ⟨z.W, { z.s with heap := h', toks := tk }, z.σ⟩ := i.sr.old (.refl _) rfl (fun a o e => k a o (fun hb => ns (x.free.fz a hb) e) (i.sr.fz a o e)) i.sr.nofz fun a o f => k a o (nw fun h _ _ => h f)
  refine ⟨⟨x.go.le, x.go.frs, fun b o e f nx => ?_, x.go.fresh, x.go.gens, x.go.os, sr⟩, i.H, sr, ⟨i.fx.ns.imp fun m => .imp (.imp fun o => .imp fun es => .imp fun ep => .imp (k _ _ (nw fun _ h _ => h rfl)) id) id, i.fx.nf, i.fx.nz⟩,
    ⟨fun b hb => (i.out.at_ b hb).imp (.imp fun o => .imp (k _ _ (nw fun _ _ h => h hb)) id) id, i.out.mem⟩, i.own⟩
  have nb : b ∉ D.wr := fun hb => ns (x.ok.new b hb) e
  exact (x.go.keep b o e f nx).imp (fun h q => k b o nb (h q)) (.imp fun sl h => k b _ nb h)
theorem Lo.move (x : Lo Γ D i ρ z) {h' : Heap} {tk : Nat} (k : ∀ b o, b ∉ D.wr → z.s.heap.get? b = some o → h'.get? b = some o) (st : D.St j h') : Lo Γ D j ρ ⟨z.W, { z.s with heap := h', toks := tk }, z.σ⟩ :=
  ⟨x.ok, (x.mv k).1, x.le, (x.mv k).2, st, x.free⟩
theorem Lo.body {b : Sts} {p : PT} {ih : Env' → H → Prop} (hb : PTs Γ b) (hc : okB Γ.Λ.T Γ.sc b p = true) (x : Lo Γ D i ρ z) (he : wB Γ.Λ.T Γ.C b ρ z.σ (loopK K ih)) (q : SK Γ D.z0 K Q E) {R : Flow → Shared → Prop} {E' : Value → Shared → Prop}
    (hn : ∀ ρ z', ih ρ z'.σ → Lo Γ D i ρ z' → R .next z'.s) (hr : ∀ u s, Q (.ret u) s → R (.ret u) s) : wpAny Γ.M Γ.A (execs (toB Γ.Λ.T b p) Γ.v) R E' z.s :=
  hb p ρ z _ hc he x.inn _ _ ⟨fun ρ z' k g fx => hn ρ z' k (x.keep g fx), fun v u ρ z' k g fx r => hr u _ (q.ret v u ρ z' k (x.go.trans g) fx r), fun _ _ _ _ k => k.elim⟩
theorem x_for {x N : Nat} {p : Pos} {b : Sts} {bp : PT} {I : Addr} {P : Nat → Value → Prop} {vs : List V} {R : Result → Shared → Prop} (hb : PTs Γ b) (hc : okB Γ.Λ.T Γ.sc b bp = true) (hx : (Nat.blt x Γ.Λ.T.n && isLoc Γ.sc (Γ.Λ.T.nm x)) = true)
    (Wk : Walks Γ.Λ.prog Γ.Λ.w Γ.A I D.fp D.wr N P D.St) (hN : vs.length = N) (x0 : Lo Γ D 0 ρ z) (hP : ∀ i v x W', P i v → vs[i]? = some x → Le D.W0 W' → Rep Γ.Λ W' v x)
    (he : forW K (wB Γ.Λ.T Γ.C b) x vs ρ z.σ) (q : SK Γ D.z0 K Q E) (hR : ∀ f s, Q f s → R (.ok f) s) : codeAny Γ.M Γ.A (.forLoop (.Name (Γ.Λ.T.nm x) p) (.ref I) (toB Γ.Λ.T b bp) [] Γ.v) R z.s := by
  subst hN
  refine codeAny_forLoop (fun k s => ∃ i ρ z, z.s = s ∧ k = vs.length - i ∧ i ≤ vs.length ∧ Lo Γ D i ρ z ∧ forW K (wB Γ.Λ.T Γ.C b) x (vs.drop i) ρ z.σ) ?_ vs.length ⟨0, ρ, z, rfl, rfl, Nat.zero_le _, x0, he⟩
  rintro k s ⟨i, ρ, z, rfl, rfl, hi, lo, he⟩
  rcases Nat.lt_or_eq_of_le hi with hlt | rfl
  · rw [List.drop_eq_getElem_cons hlt] at he
    exact Wk.item i z.s _ _ hlt lo.st fun v h' tk hv hst hk => wpAny_assign_Name ((lo.move hk hst).inn.store hx (hP i v _ _ hv (List.getElem?_eq_getElem hlt) lo.le) fun s g fx _ =>
      Lo.body (z := ⟨z.W, s, z.σ⟩) hb hc ((lo.move hk hst).keep g fx) he q (fun ρ z' h lo => ⟨vs.length - (i + 1), Nat.sub_lt_sub_left hlt (Nat.lt_succ_self i), i + 1, ρ, z', rfl, rfl, hlt, lo, h⟩) fun u s h => hR _ _ h)
  · refine Wk.done z.s _ _ lo.st fun h' tk hk => ?_
    rw [List.drop_length] at he
    exact wpAny_execs_nil (hR _ _ (q.nxt ρ ⟨z.W, { z.s with heap := h', toks := tk }, z.σ⟩ he (lo.mv hk).1 (lo.mv hk).2.fx))
theorem Go.gone {z1 : Z} {Λ : Ly} (g : Go Λ NoX z z1) {b : Addr} (h : z1.s.heap.get? b = none) : z.s.heap.get? b = none := Option.eq_none_iff_forall_ne_some.mpr fun o e => (g.was id ⟨o, e⟩).elim fun _ e => ns h e
theorem free_new {I : Addr} (i : In Γ ρ z) (hI : z.s.heap.get? I = none) : z.W.fz I = none ∧ ¬ foot z.W I ∧ I ≠ Γ.L ∧ I ∉ z.W.fr :=
  ⟨i.sr.fz_new hI, i.sr.foot_new hI, fun e => i.fx.ns.elim fun m h => h.1.elim fun o h => h.elim fun _ h => h.elim fun _ h => ns hI (e ▸ h.1), fun h => (i.out.at_ _ h).1.elim fun o e => ns hI e.1⟩
theorem free_fz {a : Addr} {o : Obj} (i : In Γ ρ z) (h : z.W.fz a = some o) : ¬ foot z.W a ∧ a ≠ Γ.L ∧ a ∉ z.W.fr :=
  ⟨fun f => ns (i.sr.nofz _ f) h, fun e => ns i.fx.nz (e ▸ h), fun q => ns (i.out.at_ _ q).2.2 h⟩
theorem lo_new {z0 : Z} {wr fp : List Addr} {St : Nat → Heap → Prop} {h' : Heap} {tk : Nat} (i : In Γ ρ z) (g : Go Γ.Λ NoX z0 z) (sub : ∀ b, b ∈ wr → b ∈ fp) (hw : ∀ b, b ∈ wr → z.s.heap.get? b = none) (hf : ∀ b, b ∈ fp → b ∈ wr ∨ ∃ o, z.W.fz b = some o)
    (kp : Kp z.s.heap h') (st : St 0 h') (fr : ∀ i h h', St i h → (∀ b, b ∈ fp → ∀ o, h.get? b = some o → h'.get? b = some o) → St i h') (pr : ∀ i h, St i h → ∀ b, b ∈ fp → ∃ o, h.get? b = some o) :
    Lo Γ ⟨z0, z.W, wr, fp, St⟩ 0 ρ ⟨z.W, { z.s with heap := h', toks := tk }, z.σ⟩ :=
  have g1 : Go Γ.Λ NoX z ⟨z.W, { z.s with heap := h', toks := tk }, z.σ⟩ := .new i.sr kp
  have fa : ∀ b, (∃ o, z.W.fz b = some o) → ¬ foot z.W b ∧ b ≠ Γ.L ∧ b ∉ z.W.fr := fun b h => h.elim fun o e => free_fz i e
  ⟨⟨sub, fr, pr, fun b hb => g.gone (hw b hb)⟩, (g.trans g1).toL, .refl _, i.go g1, st, fun b hb => (free_new i (hw b hb)).1, fun b hb => (hf b hb).elim (fun h => (free_new i (hw b h)).2) (fa b)⟩
theorem all1 {α : Type} {a : α} {P : α → Prop} (h : P a) : ∀ b, b ∈ [a] → P b := fun b hb => by rw [List.mem_singleton.mp hb]; exact h
theorem all2 {α : Type} {a : α} {l : List α} {P : α → Prop} (h : P a) (h' : ∀ b, b ∈ l → P b) : ∀ b, b ∈ a :: l → P b := fun b hb => (List.mem_cons.mp hb).elim (fun e => by rw [e]; exact h) (h' b)
theorem ps_forV {x : Nat} {y : Ex} {b : Sts} (hb : PTs Γ b) : PT' Γ (.forV x y b) := fun p ρ z K hc he i Q E q => by
  refine wpAny_For ((s_pe y _ ρ z _ (andL (andR hc)) he i).val _ _ fun v u z1 k g1 r => ?_) fun _ => (pl _ y _).fold _ _
  have ne {a : Addr} {o : Obj} (h : z1.W.fz a = some o) : a ≠ z1.s.heap.objs.size := Nat.ne_of_lt (Heap.lt_size (g1.sr.fz _ _ h))
  cases v with
  | tup l =>
    exact r.tup (P := fun u => wpAny _ _ (pyIter u) _ E z1.s) fun c us s rs => s.elim fun n s' => s'.elim fun sl s' => by
      have t := s.tuple g1.sr.fz
      refine wpAny_pyIter_tuple t ?_
      have Wk := Walks.tuple (prog := Γ.Λ.prog) (w := Γ.Λ.w) i.H.cx.hand z1.s.heap.objs.size c (ne s') us.toArray
      refine x_for (D := ⟨z, z1.W, _, _, _⟩) (z := ⟨z1.W, { z1.s with heap := _ }, z1.σ⟩) hb (andR (andR hc)) (andL hc) Wk (by rw [List.size_toArray, rs.length]) (lo_new (tk := z1.s.toks) (i.go g1) g1 Wk.sub (all1 new_none) (all2 (.inl (.head _)) (all1 (.inr ⟨_, s'⟩))) push_old ⟨⟨_, Heap.get?_push_size _ rfl, rfl, rfl⟩, t.push _⟩ Wk.frame fun j h st => all2 (st.1.imp fun _ e => e.1) (all1 (st.2.imp fun _ e => e.1)))
        (fun j v x W' hv hx le => (rs.get hx).elim fun u e => ?_) k q fun _ _ h => h
      exact Option.some.inj (e.1.symm.trans (by simpa using hv)) ▸ e.2.le le
  | lst l =>
    exact r.lst (P := fun u => wpAny _ _ (pyIter u) _ E z1.s) fun c us s rs => s.elim fun n s' => s'.elim fun sl s' => by
      have t := s.list g1.sr.fz
      refine wpAny_pyIter_list t ?_
      have Wk := Walks.list (prog := Γ.Λ.prog) (w := Γ.Λ.w) i.H.cx.hand z1.s.heap.objs.size c (ne s') us.toArray
      refine x_for (D := ⟨z, z1.W, _, _, _⟩) (z := ⟨z1.W, { z1.s with heap := _ }, z1.σ⟩) hb (andR (andR hc)) (andL hc) Wk (by rw [List.size_toArray, rs.length]) (lo_new (tk := z1.s.toks) (i.go g1) g1 Wk.sub (all1 new_none) (all2 (.inl (.head _)) (all1 (.inr ⟨_, s'⟩))) push_old ⟨⟨_, Heap.get?_push_size _ rfl, rfl, rfl⟩, t.push _⟩ Wk.frame fun j h st => all2 (st.1.imp fun _ e => e.1) (all1 (st.2.imp fun _ e => e.1)))
        (fun j v x W' hv hx le => (rs.get hx).elim fun u e => ?_) k q fun _ _ h => h
      exact Option.some.inj (e.1.symm.trans (by simpa using hv)) ▸ e.2.le le
  | _ => exact k.elim
theorem range_size {k : Int} (h0 : 0 ≤ k) : Builtin.Range.rangeSize 0 k 1 = k := by
  unfold Builtin.Range.rangeSize
  rw [if_pos (by decide)]
  split <;> (first | lia | omega)
theorem range_small {k : Int} (h0 : 0 ≤ k) (h : k ≤ 1000) : Builtin.Range.small 0 k 1 = true := by
  have f : ∀ x : Int, 0 ≤ x → x ≤ 1000 → Builtin.Range.rangeFitsLong x = true := fun x a b => by
    unfold Builtin.Range.rangeFitsLong
    simp
    (first | lia | omega)
  unfold Builtin.Range.small
  rw [range_size h0, f 0 (by decide) (by decide), f k h0 h, f 1 (by decide) (by decide), if_pos (by decide), f (k + (1 - 1)) ((Int.add_zero k).symm ▸ h0) ((Int.add_zero k).symm ▸ h), Bool.or_true]
  rfl
theorem ps_forR {x : Nat} {y : Ex} {b : Sts} (hb : PTs Γ b) : PT' Γ (.forR x y b) := fun p ρ z K hc he i Q E q =>
  wpAny_For (wpAny_Call_ofName (i.built (andL (andR hc)) i.H.G.rng (PySem.callWith_type (by rw [one_arg]; rfl) (x_arg (s_pe y) (andL (andR (andR hc))) he i fun v u z1 k g1 r => V.I.e (P := fun u => wpAny _ _ (call (.type "range") ([] ++ [u])) _ E z1.s) k r fun n t k => by
    refine call_range_1 (wpAny_pyIter_range (Heap.get?_push_size _ rfl) (range_small k.1.1 k.1.2) ?_)
    rw [range_size k.1.1, size_push']
    have Wk := Walks.range (prog := Γ.Λ.prog) (w := Γ.Λ.w) i.H.cx.hand (z1.s.heap.objs.size + 1) 0 1 n.toNat
    refine x_for (D := ⟨z, z1.W, _, _, _⟩) (z := ⟨z1.W, { z1.s with heap := _, toks := _ }, z1.σ⟩) hb (andR (andR (andR hc))) (andL hc) Wk (by rw [List.length_map, List.length_range])
      (lo_new (i.go g1) g1 Wk.sub (all1 (none_of_size (Nat.le_succ _))) (all1 (.inl (.head _))) push2_old ?_ Wk.frame fun j h st => all1 ⟨_, st⟩) (fun j v x W' hv hx le => ?_) k.2 q fun _ _ h => h
    · show IsRangeIter _ (z1.s.heap.objs.size + 1) (0 + ((0 : Nat) : Int) * 1) ((n.toNat : Int) - ((0 : Nat) : Int)) 1
      rw [show (0 + ((0 : Nat) : Int) * 1) = 0 from rfl, show ((n.toNat : Int) - ((0 : Nat) : Int)) = n from (Int.sub_zero _).trans (Int.toNat_of_nonneg k.1.1), ← size_push' z1.s.heap]
      exact Heap.get?_push_size _ rfl
    · obtain ⟨t', rfl⟩ := hv
      rw [List.getElem?_map] at hx
      obtain ⟨m, hm, rfl⟩ := Option.map_eq_some_iff.mp hx
      obtain ⟨_, hm⟩ := List.getElem?_eq_some_iff.mp hm
      rw [List.getElem_range] at hm
      exact ⟨t', by rw [hm, Int.zero_add, Int.mul_one]⟩)))) fun _ => rfl
end
end Mine
namespace Mine
section
variable {Γ : Cc} {D : Ld} {ρ ρ' : Env'} {z z' : Z} {i j : Nat} {K : KF} {Q : Flow → Shared → Prop} {E : Value → Shared → Prop}
theorem x_for2 {x y N k : Nat} {tq : PT} {tp : Pos} {b : Sts} {bp : PT} {I : Addr} {Pt : Nat → Array Value → Prop} {Mid : Nat → Addr → Heap → Prop} {vs : List V} {R : Result → Shared → Prop} (hb : PTs Γ b) (hc : okB Γ.Λ.T Γ.sc b bp = true) (hts : okTs Γ.Λ.T Γ.sc [x, y] = true)
    (Wk : WalksT Γ.Λ.prog Γ.Λ.w Γ.A I D.fp D.wr N Pt D.St Mid) (hN : vs.length = N) (x0 : Lo Γ D 0 ρ z) (hP : ∀ i (vals : Array Value) x W', Pt i vals → vs[i]? = some x → Le D.W0 W' → Reps Γ.Λ W' vals.toList [.int i, x])
    (he : for2W K (wB Γ.Λ.T Γ.C b) x y vs 0 ρ z.σ) (q : SK Γ D.z0 K Q E) (hR : ∀ f s, Q f s → R (.ok f) s) : codeAny Γ.M Γ.A (.forLoop (.Tuple (toTs Γ.Λ.T [x, y] tq) k tp) (.ref I) (toB Γ.Λ.T b bp) [] Γ.v) R z.s := by
  subst hN
  refine codeAny_forLoop_any (fun k s => ∃ i ρ z, z.s = s ∧ k = vs.length - i ∧ i ≤ vs.length ∧ Lo Γ D i ρ z ∧ for2W K (wB Γ.Λ.T Γ.C b) x y (vs.drop i) i ρ z.σ) ?_ vs.length ⟨0, ρ, z, rfl, rfl, Nat.zero_le _, x0, he⟩
  rintro m s ⟨i, ρ, z, rfl, rfl, hi, lo, he⟩
  rcases Nat.lt_or_eq_of_le hi with hlt | rfl
  · rw [List.drop_eq_getElem_cons hlt] at he
    refine Wk.item i z.s _ _ hlt lo.st fun T vals h' tk hv _ hT hmid hk => Wk.go (toTs Γ.Λ.T [x, y] tq) k tp i T _ _ _ hmid fun h2 hst hk2 => ?_
    have lo2 := lo.move (tk := tk) (fun b o nb e => hk2 b o nb (hk b o nb e)) hst
    exact x_unpack (z := ⟨z.W, { z.s with heap := h2, toks := tk }, z.σ⟩) (vs := [.int i, vs[i]]) (us := vals.toList) (G := fun ρ' => ρ' = put y vs[i] (put x (.int i) ρ)) lo2.inn hts rfl (hT.imp fun o => .imp (hk2 T o (Wk.apart i T _ hmid)) id) (hP i vals _ _ hv (List.getElem?_eq_getElem hlt) lo.le) fun ρ' s e g fx => by
      subst e
      exact Lo.body (z := ⟨z.W, s, z.σ⟩) hb hc (lo2.keep g fx) he q (fun ρ z' h lo => ⟨vs.length - (i + 1), Nat.sub_lt_sub_left hlt (Nat.lt_succ_self i), i + 1, ρ, z', rfl, rfl, hlt, lo, h⟩) fun u s h => hR _ _ h
  · refine Wk.done z.s _ _ lo.st fun h' tk hk => ?_
    rw [List.drop_length] at he
    exact wpAny_execs_nil (hR _ _ (q.nxt ρ ⟨z.W, { z.s with heap := h', toks := tk }, z.σ⟩ he (lo.mv hk).1 (lo.mv hk).2.fx))
theorem ps_for2 {x y : Nat} {e : Ex} {b : Sts} (hb : PTs Γ b) : PT' Γ (.for2 x y e b) := fun p ρ z K hc he i Q E q =>
  wpAny_For (wpAny_Call_ofName (i.built (andL (andR hc)) i.H.G.enum (PySem.callWith_type (by rw [one_arg]; rfl) (x_arg (s_pe e) (andL (andR (andR hc))) he i fun v u z1 k g1 r => V.L.e (P := fun u => wpAny _ _ (call (.type "enumerate") ([] ++ [u])) _ E z1.s) k r fun l c us k _ s rs => s.elim fun n s' => s'.elim fun sl s' => by
    have t := s.list g1.sr.fz
    refine call_enumerate_list t fun h' q1 q2 q3 q4 => wpAny_pyIter_enum q1 ?_
    have hlt : c < z1.s.heap.objs.size := Heap.lt_size (g1.sr.fz _ _ s')
    have Wk := WalksT.enumerate (prog := Γ.Λ.prog) (w := Γ.Λ.w) i.H.cx.hand (z1.s.heap.objs.size + 1) z1.s.heap.objs.size c (Nat.succ_ne_self _) (Nat.ne_of_lt (Nat.lt_succ_of_lt hlt)) (Nat.ne_of_lt hlt) us.toArray
    exact x_for2 (D := ⟨z, z1.W, _, _, _⟩) (tq := p.b.a.a) (z := ⟨z1.W, { z1.s with heap := h' }, z1.σ⟩) hb (andR (andR (andR hc))) (andL hc) Wk (by rw [List.size_toArray, rs.length])
      (lo_new (tk := z1.s.toks) (i.go g1) g1 Wk.sub (all2 (none_of_size (Nat.le_succ _)) (all1 new_none)) (all2 (.inl (.head _)) (all2 (.inl (.tail _ (.head _))) (all1 (.inr ⟨_, s'⟩)))) q4 ⟨⟨_, q1⟩, q2, t.imp fun o => .imp (q4 _ _) id⟩ Wk.frame
        fun j h st => all2 (st.1.elim fun _ e => ⟨_, e⟩) (all2 (st.2.1.imp fun _ e => e.1) (all1 (st.2.2.imp fun _ e => e.1)))) (fun j vals x W' hv hx le => by
          obtain ⟨t', x', hx', rfl⟩ := hv
          obtain ⟨u, e, r⟩ := rs.get hx
          exact .cons (u := .int j t') (v := .int j) ⟨t', rfl⟩ (.one (Option.some.inj (e.symm.trans (by simpa using hx')) ▸ r.le le))) k q fun _ _ h => h)))) fun _ => rfl
theorem ps_whl {x : Ex} {b : Sts} (hb : PTs Γ b) : PT' Γ (.whl x b) := fun p ρ z K hc he i Q E q => by
  refine wpAny_While (codeAny_whileLoop (fun k s => ∃ ρ z1, z1.s = s ∧ Go Γ.Λ (· = Γ.L) z z1 ∧ In Γ ρ z1 ∧ whW K (fun ρ => wE Γ.Λ.T Γ.C ρ x) (wB Γ.Λ.T Γ.C b) k ρ z1.σ) ?_ 200 ⟨ρ, z, rfl, .refl i.sr, i, he⟩)
  rintro k s ⟨ρ, z1, rfl, g1, i1, he⟩
  cases k with
  | zero => exact he.elim
  | succ k =>
    exact (s_pe x _ ρ z1 _ (andL hc) he i1).tru _ _ fun v z2 h g2 => h.imp fun c h => ifW.ite h (fun h => hb _ ρ z2 _ (andR hc) h (i1.go g2) _ _ ⟨fun ρ' z3 k' g fx => ⟨k, Nat.lt_succ_self k, ρ', z3, rfl, g1.trans (g2.toL.trans g), (i1.go g2).goL g fx, k'⟩,
      fun v u ρ' z3 k g fx r => q.ret v u ρ' z3 k (g1.trans (g2.toL.trans g)) fx r, fun _ _ _ _ k => k.elim⟩) fun h => wpAny_execs_nil (q.nxt ρ z2 h (g1.trans g2.toL) (i1.go g2).fx)
theorem swp_is {sc : Scope} {ts vs : List Expr} {k k' : Nat} {p p' : Pos} {name : Str} {L a : Addr} {cd : Value} (hk : sc.kind = .function) (h : swpOk sc ts vs = true) : swappedStores [.Tuple ts k p] (.Tuple vs k' p') (envOf name sc L a cd) = pure (some (swpNames sc ts)) := by
  unfold swpOk at h
  simp only [Bool.and_eq_true, Bool.not_eq_true', beq_iff_eq] at h
  obtain ⟨⟨⟨⟨⟨⟨h1, h2⟩, h3⟩, h4⟩, h5⟩, h6⟩, h7⟩ := h
  have hb : ((envOf name sc L a cd).blockKind != .function) = false := by
    simp [Env.blockKind, envOf, hk, ScopeKind.isAnnotationScope]
  have e1 : (!(ts.length == 2 || ts.length == 3) || vs.length != ts.length || (envOf name sc L a cd).blockKind != .function) = false := by
    rw [hb, h1, h2]; simp
  unfold swappedStores
  dsimp only
  rw [if_neg (by rw [e1]; decide)]
  refine (if_neg (fun z => absurd (h3.symm.trans z) (by decide))).trans ?_
  have e2 : ((swpNames sc ts).length != ts.length || (swpNames sc ts).eraseDups.length != (swpNames sc ts).length) = false := by
    rw [h5]; simp [h4]
  refine (if_neg (by show ¬ (((swpNames sc ts).length != ts.length || (swpNames sc ts).eraseDups.length != (swpNames sc ts).length) = true); rw [e2]; decide)).trans ?_
  rw [if_neg (by rw [h6]; decide), if_neg (by rw [h7]; decide)]
  rfl
theorem seqs_is : ∀ x y : List Str, seqs x y = true → x = y := by
  intro x
  induction x with
  | nil => intro y; cases y <;> first | exact fun _ => rfl | exact fun h => nomatch (h : false = true)
  | cons a x ih =>
    intro y
    cases y with
    | nil => exact fun h => nomatch (h : false = true)
    | cons b y => exact fun h => by rw [seq_iff.mp (andL h), ih y (andR h)]
theorem ps_asgW {xs : List Nat} {es : Exs} : PT' Γ (.asgW xs es) := fun p ρ z K hc he i Q E q => by
  have hn := seqs_is _ _ (andR (andL hc))
  refine Assign_Tuple_swapped (names := xs.map Γ.Λ.T.nm) ((s_pe (.tup es) p.a ρ z (fun v σ => v.T fun vs => kAsW K ρ xs vs σ) (andR (andR hc)) he i).val _ _ fun v u z1 k g1 r => V.T.e (P := fun u => wpAny _ _ (unpackItems u _ none) _ E z1.s) k r fun l c us k s rs => ?_)
    (pl Γ.Λ.T (.tup es) p.a).sole ((swp_is i.H.hk (andL (andL hc))).trans (by rw [hn]))
  have hz : us.toArray.size = (xs.map Γ.Λ.T.nm).length := by
    have := puts_len _ _ _ k
    rw [List.length_reverse, List.length_reverse] at this
    rw [List.size_toArray, rs.length, List.length_map, this]
  rw [← hz, ← List.map_reverse]
  refine wpAny_unpackItems_tuple i.H.cx.hand (s.tuple g1.sr.fz) fun h' he => ?_
  have g : Go Γ.Λ NoX z1 ⟨z1.W, { z1.s with heap := h' }, z1.σ⟩ := .new (tk := z1.s.toks) g1.sr (ext_new he)
  exact x_puts (f := fun xs _ => (xs.map Γ.Λ.T.nm).map fun n => bindName Γ.v n) (fun _ => rfl) (fun x xs p _ => ⟨_, p, rfl, fun _ _ _ h => bindName_ h⟩) xs.reverse p us.reverse l.reverse ρ ⟨z1.W, { z1.s with heap := h' }, z1.σ⟩ (by unfold okTs; rw [List.all_reverse]; exact andL (andR hc)) k (i.go (g1.trans g)) rs.reverse
    fun ρ s k g' fx => q.nxt ρ ⟨z1.W, s, z1.σ⟩ k ((g1.trans g).toL.trans g') fx
theorem no_names {F : Expr → Option Str} (hF : ∀ o at_ q, F (.Attribute o at_ q) = none) : ∀ (ts : List (Ex × Nat)) (p : PT), List.filterMap F (toFs Γ.Λ.T ts p) = []
  | [], _ => rfl
  | t :: ts, p => (List.filterMap_cons_none (hF _ _ _)).trans (no_names hF ts p.b)
theorem attr_stores {env : Env} {ts : List (Ex × Nat)} {p0 : PT} {k k' : Nat} {p p' : Pos} {vs : List Expr} : swappedStores [.Tuple (toFs Γ.Λ.T ts p0) k p] (.Tuple vs k' p') env = pure none := by
  unfold swappedStores
  dsimp only
  split
  · rfl
  · rename_i h1
    split
    · rfl
    · refine if_pos ?_
      rw [no_names fun o at_ q => rfl]
      cases e : toFs Γ.Λ.T ts p0 with
      | nil => rw [e] at h1; exact absurd rfl h1
      | cons _ _ => rfl
theorem fls_len {env : Env} : ∀ (ts : List (Ex × Nat)) (p : PT), (assignEach (toFs Γ.Λ.T ts p) env).length = ts.length ∧ (assignEach (toFs Γ.Λ.T ts p) env).findIdx? (·.1) = none
  | [], _ => ⟨rfl, rfl⟩
  | t :: ts, p => by
    have h := fls_len (env := env) ts p.b
    refine ⟨congrArg (· + 1) h.1, ?_⟩
    show ((false, assign (.Attribute (toE Γ.Λ.T t.1 p.a.a) (Γ.Λ.T.nm t.2) p.a.p) env) :: assignEach (toFs Γ.Λ.T ts p.b) env).findIdx? (·.1) = none
    rw [List.findIdx?_cons, h.2]; rfl
theorem x_sets {G : H → Prop} {Q : Unit → Shared → Prop} : ∀ (ts : List (Ex × Nat)) (p : PT) (us : List Value) (vs : List V) (z : Z), okFs Γ.Λ.T Γ.sc ts p = true → setsW Γ.Λ.T Γ.C ρ ts vs z.σ G → In Γ ρ z → Reps Γ.Λ z.W us vs →
    (∀ z', G z'.σ → Go Γ.Λ NoX z z' → Q () z'.s) → wpAny Γ.M Γ.A (assignInOrder ((assignEach (toFs Γ.Λ.T ts p) Γ.v).map (·.2)) us) Q E z.s := by
  intro ts
  induction ts with
  | nil =>
    intro p us vs z _ h i r q
    cases vs with
    | cons _ _ => exact h.elim
    | nil => rw [show us = [] from r]; exact assignInOrder_nil (q z h (.refl i.sr))
  | cons t ts ih =>
    intro p us vs z hc h i r q
    cases vs with
    | nil => exact h.elim
    | cons v vs =>
      refine r.uncons (P := fun us => wpAny _ _ (assignInOrder _ us) Q E z.s) fun u us r1 r2 => ?_
      show wpAny _ _ (assignInOrder (assign (.Attribute (toE Γ.Λ.T t.1 p.a.a) (Γ.Λ.T.nm t.2) p.a.p) Γ.v :: (assignEach (toFs Γ.Λ.T ts p.b) Γ.v).map (·.2)) _) Q E z.s
      refine assignInOrder_cons ?_
      rw [assign_Attribute]
      exact wpAny_bind (wpAny_holding ((s_pe t.1 _ ρ z _ (andL hc) h i).val _ _ fun b w z1 h g1 r3 => wpAny_bind (wpAny_standAt (wpAny_bind (wpAny_holding (g_setA i.H.G.toGr g1.sr h r3 (r1.le g1.le) fun s σ h g2 =>
        wpAny_release' (ih p.b us vs ⟨z1.W, s, σ⟩ (andR hc) h (i.go (g1.trans g2)) (r2.le g1.le) fun z' k g3 => q z' k (g1.trans (g2.trans g3)))))))))
theorem ps_asgF {ts : List (Ex × Nat)} {es : Exs} : PT' Γ (.asgF ts es) := fun p ρ z K hc he i Q E q =>
  Assign_Tuple ((s_pe (.tup es) p.a ρ z (fun v σ => v.T fun vs => kAsF Γ.Λ.T Γ.C K ρ ts vs σ) (andR hc) he i).val _ _ fun v u z1 k g1 r => V.T.e (P := fun u => wpAny _ _ (assign _ _ u) _ E z1.s) k r fun l c us k s rs =>
    have a := fls_len (Γ := Γ) (env := Γ.v) ts p.b.a.a
    wpAny_assign_Tuple (items := us.toArray) i.H.cx.hand (s.tuple g1.sr.fz) (by rw [a.1, k.1, List.size_toArray, rs.length]) a.2 fun h' he =>
      have g : Go Γ.Λ NoX z1 ⟨z1.W, { z1.s with heap := h' }, z1.σ⟩ := .new (tk := z1.s.toks) g1.sr (ext_new he)
      x_sets ts _ us l ⟨z1.W, { z1.s with heap := h' }, z1.σ⟩ (andL hc) k.2 (i.go (g1.trans g)) rs fun z' k g' => have g := g1.trans (g.trans g'); q.nxt ρ z' k g.toL (i.go g).fx)
    (pl Γ.Λ.T (.tup es) p.a).sole (attr_stores (Γ := Γ))
end
end Mine
namespace Mine
section
variable {Γ : Cc} {Λ : Ly} {X : Addr → Prop} {ρ ρ' : Env'} {z0 z z' : Z} {K : KF} {Q : Flow → Shared → Prop} {E : Value → Shared → Prop} {B h' : Heap} {l : List Env} {W : Wd}
theorem exc_go (g : Go Λ X z0 z) (out : Out z.W z.W.fr l z.s.heap) (cov : Cov z0 z B) (stay : B.StaysIn h') (ups : z.s.heap.UpToSlots h') : Go Λ X z0 ⟨z.W, { z.s with heap := h' }, z.σ⟩ := by
  refine ⟨g.le, g.frs, fun b o e f nx => ?_, g.fresh, g.gens, g.os, g.sr.old (.refl _) rfl (fun b o e => stay b o (cov b o (g.sr.fz b o e) (fun q => ns (out.at_ b q).2.2 e) (.inr (.inl ⟨o, e⟩)))) g.sr.nofz fun b o f e => stay b o (cov b o e (fun q => (out.at_ b q).2.1 f) (.inl f))⟩
  have k := g.keep b o e f nx
  have ex : b ∉ z0.W.fr → h'.get? b = some o := fun q => stay b o (cov b o (k.1 q) (by rw [g.frs]; exact q) (.inr (.inr ⟨o, e⟩)))
  refine ⟨ex, ?_⟩
  by_cases q : b ∈ z0.W.fr
  · exact (out.at_ b (by rw [g.frs]; exact q)).1.elim fun o' h => k.2.elim fun sl k2 => by
      obtain ⟨ho, hd⟩ := h
      rw [k2] at ho
      obtain rfl := Option.some.inj ho
      exact (ups b _ k2 hd).imp fun _ h => h
  · exact ⟨o.slots, ex q⟩
theorem exc_fx {L : Addr} {s : Shared} (fx : Fx Λ ρ L z) (ups : z.s.heap.UpToSlots s.heap) : Fx Λ ρ L ⟨z.W, s, z.σ⟩ := ⟨fx.ns.imp fun _ => .imp ups.ns id, fx.nf, fx.nz⟩
theorem ps_try {y f : Nat} {es : Exs} {x : Nat} {w : Str} (hl : Γ.l = Γ.v :: l) : PT' Γ (.try1 y f es x w) := fun p ρ z K hc he i Q E q => by
  refine wpAny_Try_except (wpAny_execs_cons (wpAny_Assign_Name (x_cfX (s_pes es) (p := p.a.a.a) (andR (andR hc)) he i fun vs us z1 h g1 r1 => wpAny_call (i.H.hc f vs z1 _ h Γ.A Γ.l us _ (i.H.cx.less (Nat.le_succ _)) g1.sr (i.go g1).out r1
    ⟨fun v u z2 k g2 r => (i.go (g1.trans g2)).store (andL (andR hc)) r fun s g fx _ => wpAny_execs_nil (wpAny_execs_nil (q.nxt _ ⟨z2.W, s, z2.σ⟩ k ((g1.trans g2).toL.trans g) fx)), fun e z2 B k g2 hB cov flt => ?_⟩)) ((pl Γ.Λ.T (.cf f es) p.a.a.a).swap _ _ _)))
  obtain ⟨a0, hfl⟩ := flt
  have i2 := i.go (g1.trans g2)
  have cov := cov.pre g1 fun _ x => x.elim
  rw [hl] at hfl
  refine wpAny_looks_onW (i.H.cx.frs.trans (congrArg some hl)) rfl hfl fun h4 hheld4 hsm4 => wpAny_landsW hheld4 fun h5 hheld hsm5 => ?_
  obtain ⟨ob, hob, hobc⟩ := hheld.there
  obtain ⟨nm, qq, N, bs, bm, hdct, sn, sub, ab, col, dd, k0, k1, k2, k3, k5, newId, hC, hbase⟩ := i.H.G.mexc
  have g5 := exc_go (g1.trans g2) i2.out cov hheld.1 (hsm4.trans hsm5)
  refine wpAny_handleBy_cons (codeAny_handlers_test ((i.go g5).glo (andL (andL hc)) i.H.G.mexn ?_)) (by intro q; cases q)
  refine wpAny_excMatches_sub_self (g5.sr.fz _ _ (g5.sr.base _ _ hC)) hob hobc hbase (codeAny_handlers_suite ?_)
  refine lands_againW (s := { z2.s with heap := h5 }) hheld fun h6 hfl6 hsm6 => ?_
  have ups : z2.s.heap.UpToSlots h6 := (hsm4.trans hsm5).trans hsm6
  have g6 := exc_go (g1.trans g2) i2.out cov hfl6.1 ups
  have g7 : Go Γ.Λ NoX z ⟨z2.W, { z2.s with heap := h6, toks := z2.s.toks + 1 }, z2.σ⟩ := g6.trans (.new (h' := h6) g6.sr fun _ _ e => e)
  exact wpAny_execs_cons (wpAny_Assign_Name (Calls.Constant_str ((i.go g7).store (v := .str w) (u := .str w z2.s.toks) (andR (andL hc)) ⟨z2.s.toks, rfl⟩ fun s g fx _ => wpAny_execs_nil (q.nxt _ ⟨z2.W, s, z2.σ⟩ k (g7.toL.trans g) fx))) rfl)
end
end Mine
namespace Mine
theorem opt.is {α : Type} {o : Option α} {P : α → Prop} (h : opt o P) : ∃ u, P u ∧ opt o fun v => v = u := h.e fun u e h => ⟨u, h, Eq.symm e ▸ (rfl : u = u)⟩
theorem fldW.is {T : Tab} {x c : Nat} {l : List V} {P : V → Prop} (h : fldW T x c l P) : ∃ u, P u ∧ fldW T x c l fun v => v = u := h.e fun i e h => (opt.is h).imp fun u => .imp id fun h => by show opt _ _; rw [e]; exact h
theorem attrW.is {T : Tab} {σ : H} {a : V} {x : Nat} {P : V → Prop} (h : attrW T σ a x P) : ∃ u, P u ∧ attrW T σ a x fun v => v = u := by
  cases a with
  | obj c l => exact fldW.is h
  | ref n => exact hI.e h fun c l e h => (fldW.is h).imp fun u => .imp id fun h => by show hI _ _; rw [e]; exact h
  | _ => exact h.elim
theorem V.R.is {v : V} {K : Nat → Prop} (h : v.R K) : ∃ n, K n ∧ v = .ref n := by
  cases v with
  | ref n => exact ⟨n, h, rfl⟩
  | _ => exact h.elim
theorem attrW.set {T : Tab} {σ : H} {a : V} {x m : Nat} {l l' : List (Int × V)} {P : V → Prop} (hm : σ[m]? = some (.dicI l)) (h : attrW T σ a x P) : attrW T (σ.set m (.dicI l')) a x P := by
  cases a with
  | ref n =>
    have ne : m ≠ n := fun q => hI.e (o := σ[n]?) h fun c l e _ => nomatch (hm.symm.trans ((congrArg (σ[·]?) q).trans e) : some (HO.dicI _) = some (HO.inst _ _))
    show hI _ _
    rw [List.getElem?_set_ne ne]
    exact h
  | _ => exact h
theorem cp_look {p z : Nat} (h : Nat.beq z p = false) : ∀ (l : List (Int × V)) (ρ : Env'), look z (cpEnv ρ p l) = look z ρ := by
  intro l
  induction l with
  | nil => intro ρ; rfl
  | cons q l ih => intro ρ; exact (ih _).trans ((look_put ρ).trans (by rw [h]; rfl))
theorem putI_new {k : Int} {v : V} : ∀ l : List (Int × V), k ∉ l.map (·.1) → putI k v l = l ++ [(k, v)] := by
  intro l
  induction l with
  | nil => intro _; rfl
  | cons p r ih =>
    intro h
    show cond (decide (p.1 = k)) _ (p :: putI k v r) = _
    rw [decide_eq_false fun q => h (List.mem_cons.mpr (.inl q.symm)), ih fun q => h (.tail _ q)]; rfl
section
variable {Γ : Cc} {D : Ld} {ρ ρ' : Env'} {z z' : Z} {i j : Nat} {K : KF} {Q : Flow → Shared → Prop} {E : Value → Shared → Prop}
theorem In.tk {t : Tok} (i : In Γ ρ z) : In Γ ρ ⟨z.W, { z.s with toks := t }, z.σ⟩ := i.go (.new i.sr fun _ _ e => e)
theorem pairs_at {W : Wd} {Λ : Ly} {kvs : List (Int × Value)} {l : List (Int × V)} {i : Nat} {k : Int} {v : Value} (h : kvs.map (·.1) = l.map (·.1)) (r : Reps Λ W (kvs.map (·.2)) (l.map (·.2))) (e : kvs[i]? = some (k, v)) : ∃ x, l[i]? = some (k, x) ∧ Rep Λ W v x := by
  have e1 : (l.map (·.1))[i]? = some k := by rw [← h, List.getElem?_map, e]; rfl
  rw [List.getElem?_map] at e1
  obtain ⟨q, e2, rfl⟩ := Option.map_eq_some_iff.mp e1
  obtain ⟨u, e3, r'⟩ := r.get (i := i) (x := q.2) (by rw [List.getElem?_map, e2]; rfl)
  rw [List.getElem?_map, e] at e3
  obtain rfl := Option.some.inj (show some v = some u from e3)
  exact ⟨q.2, e2, r'⟩
theorem x_la {x at_ : Nat} {v : V} {pt : PT} {ps : Pos} {P : V → Prop} {Q : Value → Shared → Prop} {E : Value → Shared → Prop} (i : In Γ ρ z) (hx : isLoc Γ.sc (Γ.Λ.T.nm x) = true) (lx : look x ρ = some v) (h : attrW Γ.Λ.T z.σ v at_ P)
    (q : ∀ v u, P v → Rep Γ.Λ z.W u v → Q u { z.s with toks := z.s.toks + 1 }) : wpAny Γ.M Γ.A (eval (.Attribute (toE Γ.Λ.T (.loc x) pt) (Γ.Λ.T.nm at_) ps) Γ.v) Q E z.s :=
  Attribute_any_ (i.loc hx lx fun u r => g_attr i.H.G.toGr i.sr h r q) (by rw [arm_eval_Attribute, (pl _ (.loc x) _).base rfl])
theorem ps_dcopy {p x y at_ : Nat} : PT' Γ (.dcopy p x y at_) := fun pt ρ z K hc he i Q E q => by
  have hpL := andL (andL hc)
  have hxL := andR (andL (andR (andL hc)))
  have hyL := andR (andR (andR (andL hc)))
  have npx : Nat.beq x p = false := Bool.eq_false_iff.mpr fun e => by have h := andL (andR hc); rw [Nat.eq_of_beq_eq_true e, Nat.beq_refl] at h; cases h
  have npy : Nat.beq y p = false := Bool.eq_false_iff.mpr fun e => by have h := andR (andR hc); rw [Nat.eq_of_beq_eq_true e, Nat.beq_refl] at h; cases h
  refine opt.e he fun vx lx he => opt.e he fun vy ly he => ?_
  obtain ⟨v, he, ax⟩ := attrW.is he
  refine wpAny_For (x_la (pt := pt.b.b.a) i hxL lx ax fun v u e rv => V.R.e (P := fun u => wpAny _ _ (pyIter u) _ _ _) he (e ▸ rv) fun m pd he ev hpd => ?_) (fun _ => rfl)
  subst ev
  obtain ⟨v', he, ay⟩ := attrW.is he
  obtain ⟨m', he, rfl⟩ := V.R.is he
  refine hD.e he fun lm hm he => hD.e he fun l' hm' he => ?_
  obtain ⟨⟨hne, rfl⟩, he⟩ := he
  obtain ⟨hpe, hzz, kvs, hD, hk, hs⟩ := i.sr.obj _ _ _ hm hpd
  obtain ⟨ep, hDA⟩ := hD.dictAt
  have ndk : (kvs.map (·.1)).Nodup := by obtain ⟨_, _, _, _, _, _, _, _, nd⟩ := hD; exact nd
  have fd : foot z.W pd.1 := ⟨pd, List.mem_of_getElem? hpd, .inl rfl⟩
  have hN : kvs.length = lm.length := by simpa using congrArg List.length hk
  have hI : z.s.heap.get? z.s.heap.objs.size = none := new_none
  have hdI : pd.1 ≠ z.s.heap.objs.size := fun e => i.sr.foot_new (e ▸ hI) fd
  have hml : m' < z.σ.length := lt_of_get hm'
  obtain ⟨pd', hpd'⟩ : ∃ p, z.W.mu[m']? = some p := ⟨_, List.getElem?_eq_getElem (i.sr.len ▸ hml)⟩
  have ap := i.sr.apart m m' pd pd' hne hpd hpd'
  have fd' : foot z.W pd'.1 := ⟨pd', List.mem_of_getElem? hpd', .inl rfl⟩
  refine wpAny_pyIter_dict (s := { z.s with toks := z.s.toks + 1 }) (beq_eq_false_iff_ne.mpr fun e => i.H.G.sysm.elim fun o ho => ns (i.sr.nofz _ fd) (e ▸ i.sr.base _ _ ho)) hDA ?_
  have h0 : z.σ.set m' (.dicI (lm.take 0)) = z.σ := List.ext_getElem? fun j => by
    by_cases e : m' = j
    · subst e; rw [List.getElem?_set_self hml, hm']; rfl
    · rw [List.getElem?_set_ne e]
  have lo : Lo Γ ⟨z, z.W, [z.s.heap.objs.size], [z.s.heap.objs.size], fun i h => h.IsKeyIter z.s.heap.objs.size pd.1 i kvs.length ep⟩ 0 ρ ⟨z.W, { z.s with heap := z.s.heap.push { cls := .type "dict_keyiterator", data := .fields #[.ref pd.1, .int 0 0, .int kvs.length 0, .int ep 0] }, toks := z.s.toks + 1 }, z.σ⟩ :=
    lo_new i (.refl i.sr) (fun _ h => h) (all1 hI) (all1 (.inl (.head _))) push_old ⟨_, Heap.get?_push_size _ rfl, rfl, rfl⟩ (fun j h h' st k => st.at (k _ (.head _))) fun j h st => all1 (st.imp fun _ e => e.1)
  refine codeAny_forLoop (fun k s => ∃ i, k = kvs.length - i ∧ i ≤ kvs.length ∧ Lo Γ ⟨z, z.W, [z.s.heap.objs.size], [z.s.heap.objs.size], fun i h => h.IsKeyIter z.s.heap.objs.size pd.1 i kvs.length ep⟩ i (cpEnv ρ p (lm.take i)) ⟨z.W, s, z.σ.set m' (.dicI (lm.take i))⟩ ∧
    s.heap.DictAt (intKind Γ.Λ.prog Γ.Λ.w) pd.1 kvs ep) ?_ kvs.length ⟨0, rfl, Nat.zero_le _, by rw [h0]; exact lo, hDA.push _⟩
  rintro k s ⟨n, rfl, hi, lo, hDA⟩
  have Wk := Walks.dictKeys (prog := Γ.Λ.prog) (w := Γ.Λ.w) (A := Γ.A) (knd := intKind Γ.Λ.prog Γ.Λ.w) i.H.cx.hand z.s.heap.objs.size pd.1 hdI kvs ep
  rcases Nat.lt_or_eq_of_le hi with hlt | rfl
  · refine Wk.item n s _ _ hlt ⟨lo.st, hDA⟩ fun v h' tk hv hst hkp => ?_
    obtain ⟨kk, xv, hkv, hvk⟩ := hv
    obtain ⟨x0, hl0, r0⟩ := pairs_at hk hs hkv
    obtain ⟨tt, rfl⟩ : ∃ t, v = .int kk t := by
      cases v <;> simp [intKind, Value.isInt] at hvk
      subst hvk; exact ⟨_, rfl⟩
    have take1 : lm.take (n + 1) = lm.take n ++ [(kk, x0)] := by rw [List.take_add_one, hl0]; rfl
    have env1 : put p (.int kk) (cpEnv ρ p (lm.take n)) = cpEnv ρ p (lm.take (n + 1)) := by rw [take1]; unfold cpEnv; rw [List.foldl_append]; rfl
    have lo1 := lo.move (tk := tk) hkp hst.1
    refine wpAny_assign_Name (lo1.inn.store (v := .int kk) hpL ⟨tt, rfl⟩ fun s3 g fx sb => ?_)
    rw [env1] at fx
    have lo3 := lo1.keep g fx
    have i3 := lo3.inn
    have hD3 : s3.heap.DictAt (intKind Γ.Λ.prog Γ.Λ.w) pd.1 kvs ep := hst.2.at' fun o e => (sb.2 _ fun q => i.fx.nf (q ▸ fd)).trans e
    have lp3 : look p (cpEnv ρ p (lm.take (n + 1))) = some (.int kk) := by rw [← env1, look_put, Nat.beq_refl]; rfl
    refine wpAny_execs_cons (wpAny_Assign_Subscript (Subscript_ (x_la (pt := pt.a.a.a.a.a) i3 hxL ((cp_look npx _ _).trans lx) (attrW.set hm' ax) fun v w e rw_ => ?_)) rfl)
    subst e
    obtain ⟨_, rfl, hp1⟩ := rw_
    obtain rfl := Option.some.inj (hpd.symm.trans hp1)
    refine i3.tk.loc (andR hpL) lp3 fun u r => ?_
    obtain ⟨t4, rfl⟩ := r
    refine tail_any (T := "dict") (s := { s3 with toks := s3.toks + 1 }) hD3.dictOf.typeIs slot_dict_getitem.lookup (wpAny_getItem_of (intKind_is Γ.Λ.prog Γ.Λ.w _ _) hD3.dictOf.mapOf (valueAt_of_get ndk hkv) ?_) ((pl Γ.Λ.T (.loc p) pt.a.a.a.b).sub _ _)
    have i4 : In Γ (cpEnv ρ p (lm.take (n + 1))) ⟨z.W, { s3 with toks := s3.toks + 1 + 1 }, z.σ.set m' (.dicI (lm.take n))⟩ := i3.tk
    refine x_la (pt := pt.a.a.b.a.a.a) i4 hyL ((cp_look npy _ _).trans ly) (attrW.set hm' ay) fun v w e rw_ => ?_
    subst e
    obtain ⟨_, rfl, hp1⟩ := rw_
    obtain rfl := Option.some.inj (hpd'.symm.trans hp1)
    refine i4.tk.loc (andR hpL) lp3 fun u r => ?_
    obtain ⟨t6, rfl⟩ := r
    obtain ⟨he', hzz', kvs', hD', hk', hs'⟩ := i3.sr.obj m' _ _ (List.getElem?_set_self hml) hpd'
    have nd' : (kvs'.map (·.1)).Nodup := by obtain ⟨_, _, _, _, _, _, _, _, nd⟩ := hD'; exact nd
    have hnk : kk ∉ (lm.take n).map (·.1) := fun hz => by
      have e1 := List.take_append_drop n (lm.map (·.1))
      rw [← hk] at e1
      have e2 := ndk
      rw [← e1, List.nodup_append] at e2
      refine e2.2.2 kk (by rw [hk, ← List.map_take]; exact hz) kk ?_ rfl
      exact List.mem_of_getElem? (i := 0) (by rw [List.getElem?_drop, List.getElem?_map]; exact congrArg _ hkv)
    refine wpAny_setItem_pairs (intKind_is Γ.Λ.prog Γ.Λ.w _ _) hD' (fun h4 hD4 hsb4 => ?_) (line_le (Nat.le_trans (Nat.le_of_eq (by simpa using congrArg List.length hk')) (Nat.le_trans hzz' (by decide))))
    have b := stored_rep (k := kk) r0 hk' hs' nd'
    rw [putI_new _ hnk, ← take1] at b
    have g4 : Go Γ.Λ NoX _ ⟨z.W, { s3 with heap := h4, toks := s3.toks + 1 + 1 + 1 + 1 }, (z.σ.set m' (.dicI (lm.take n))).set m' (.dicI (lm.take (n + 1)))⟩ := .turn i4.tk.sr hpd' (fun b o hb e => (hsb4.2 b hb.1).trans e) (o := .dicI _) ⟨he', Nat.le_trans (List.length_take_le' _ _) hzz, _, hD4, b⟩
    rw [List.set_set] at g4
    have lo4 := lo3.keep ((Go.new (h' := s3.heap) i3.sr fun _ _ e => e).trans g4).toL (i4.tk.go g4).fx
    exact wpAny_execs_nil ⟨kvs.length - (n + 1), Nat.sub_lt_sub_left hlt (Nat.lt_succ_self n), n + 1, rfl, hlt, ⟨lo4.ok, lo4.go, lo4.le, lo4.inn, lo4.st, lo4.free⟩, hD3.at' fun o e => (hsb4.2 _ ap.1).trans e⟩
  · refine Wk.done s _ _ ⟨lo.st, hDA⟩ fun h' tk hkp => ?_
    have tl : lm.take kvs.length = lm := by rw [hN, List.take_length]
    rw [tl] at lo
    exact wpAny_execs_nil (q.nxt _ ⟨z.W, { s with heap := h', toks := tk }, z.σ.set m' (.dicI lm)⟩ he (lo.mv hkp).1 (lo.mv hkp).2.fx)
end
end Mine
namespace Mine
section
variable {prog : Program} {w : World} {M : Model} {A : Around} {E : Value → Shared → Prop} {h : Heap} {g : Array GenState} {d : Drawn} {t : Nat} {os : OsState}
variable {nm q : Str} {C N : Addr} {bs bm : List Value} {hdct : Bool} {sn : List Str} {sub : List Value} {ab : Bool} {col : Option Bool} {dd : Option Addr} {k0 k1 k2 k3 k5 : Option Value}
theorem me_checkNew {rest : List Value} {Q : Unit → Shared → Prop} (hC : h.get? C = some (excClassObj nm q C N bs bm hdct sn sub ab col dd k0 k1 k2 k3 k5 "Exception.__new__")) (hB : bm.contains (.type "Exception") = true)
    (hq : Q () ⟨h, g, d, t, os⟩) : wpAny M A (checkBuiltinCall "Exception.__new__" ⟨.ref C :: rest, []⟩) Q E ⟨h, g, d, t, os⟩ := by
  have F := PySem.F.excBase_Exception
  have hcont : (Value.ref C :: bm).contains (.type "Exception") = true := by rw [List.contains_cons, hB, Bool.or_true]
  have hstar := F.noStar
  simp only [checkBuiltinCall, F.newKind, F.newSplit, F.newRow]
  repeat (first | refine wpAny_loadPart_at hC ?_ | (refine wpAny_isSubtype_exc hC ?_; rw [hcont]) | refine wpAny_staticBase_exc hC ?_ | refine wpAny_madeBy_exc hC ?_ | simp only [bne_self_eq_false, Bool.false_eq_true, if_false] | wp_step)
  exact hq
theorem me_new {rest : List Value} {R : Result → Shared → Prop} (hC : h.get? C = some (excClassObj nm q C N bs bm hdct sn sub ab col dd k0 k1 k2 k3 k5 "Exception.__new__")) (hB : bm.contains (.type "Exception") = true)
    (hA : bm.contains (.type "AttributeError") = false) (hN : bm.contains (.type "NameError") = false)
    (hq : R (.ok (.ret (.ref (h.objs.size + 1)))) ⟨(h.push { cls := .type "tuple", data := .seq rest.toArray }).push
      { cls := .ref C, data := .fields #[.ref h.objs.size, .none, .none, .none, .bool false, .none] }, g, d, t, os⟩) (hrest : rest.length ≤ sizeLine) :
    codeAny (model prog w) A (.builtin "Exception.__new__" ⟨.ref C :: rest, []⟩) R ⟨h, g, d, t, os⟩ := by
  have F := PySem.F.excBase_Exception
  have hends := F.ends
  have hcB : (Value.ref C :: bm).contains (.type "Exception") = true := by rw [List.contains_cons, hB, Bool.or_true]
  have hcA : (Value.ref C :: bm).contains (.type "AttributeError") = false := by rw [List.contains_cons, hA]; rfl
  have hcN : (Value.ref C :: bm).contains (.type "NameError") = false := by rw [List.contains_cons, hN]; rfl
  refine PySem.codeAny_builtinAt F.entry ?_
  unfold Builtin.«BaseException.__new__»
  refine PySem.wpAt_bind ?_
  show PySem.wpAt _ _ _ (stack >>= _) _ _ _
  refine PySem.wpAt_bind (PySem.wpAt_stack fun p below => PySem.wpAt_of_wpAny ?_)
  wp_walk
  refine PySem.wpAt_of_wpAny ?_
  rw [F.owner]
  repeat (first | with_reducible refine wpAny_madeHere_exc F.canon hC ?_ | with_reducible refine wpAny_loadPart_at hC ?_ | (with_reducible refine wpAny_isSubtype_exc hC ?_; first | rw [hcB] | rw [hcA] | rw [hcN]) | wp_step)
  show R _ _
  rw [Heap.size_push]
  exact hq
noncomputable abbrev excObj (C t : Addr) : Obj := { cls := .ref C, data := .fields #[.ref t, .none, .none, .none, .bool false, .none] }
noncomputable abbrev excHeap (h : Heap) (C : Addr) (rest : List Value) : Heap := (h.push { cls := .type "tuple", data := .seq rest.toArray }).push (excObj C h.objs.size)
theorem me_call {rest : List Value} {fI : Addr} {R : Result → Shared → Prop} (hC : h.get? C = some (excClassObj nm q C N bs bm hdct sn sub ab col dd k0 k1 k2 k3 k5 "Exception.__new__")) (hB : bm.contains (.type "Exception") = true)
    (hA : bm.contains (.type "AttributeError") = false) (hN : bm.contains (.type "NameError") = false) (hrest : rest.length ≤ sizeLine)
    (hi : Looks (model prog w) h (typeLookup (.ref C) "__init__") (some (.ref fI))) (hb : ∀ self, Looks (model prog w) h (bindSpecial (.ref fI) self) (.ref fI, [self]))
    (hq : codeAny (model prog w) (tcA A C rest) (.call (.ref fI) ⟨.ref (h.objs.size + 1) :: rest, []⟩) (InitBack (h.objs.size + 1) R) ⟨excHeap h C rest, g, d, t, os⟩) :
    codeAny (model prog w) A (.call (.ref C) ⟨rest, []⟩) R ⟨h, g, d, t, os⟩ := by
  have f1 := tc_lookup
  have f2 := tc_bind (.ref C)
  have F := PySem.F.excBase_Exception
  have hT : (⟨h, g, d, t, os⟩ : Shared).TypeIs (.ref C) "type" := ⟨_, hC, rfl⟩
  refine codeAny_of_tree ?_
  show wpAny _ _ (callAny (.ref C) _) _ _ _
  repeat (any_goals (first | assumption | with_reducible refine wpAny_loadPart_at hC ?_ | wp_step))
  refine ⟨rfl, ?_⟩
  refine codeAny_call_builtin_at (Code.quiet_builtin _ (by decide +kernel)) entry_typeCall (wpAny_check_type_call_sub hC ?_)
  unfold Builtin.«type.__call__»
  repeat (first | with_reducible refine wpAny_loadPart_at hC ?_ | with_reducible refine wpAny_madeBy_exc hC ?_ | wp_step)
  refine codeAny_call_builtin_code (Code.quiet_builtin _ F.quiet) (me_checkNew hC hB ?_)
  refine me_new hC hB hA hN ?_ hrest
  have k : ∀ b o, h.get? b = some o → (excHeap h C rest).get? b = some o := fun b o e => Heap.get?_push_of_some _ (Heap.get?_push_of_some _ e)
  have hget : (excHeap h C rest).get? (h.objs.size + 1) = some (excObj C h.objs.size) := by
    have : (h.push { cls := .type "tuple", data := .seq rest.toArray }).objs.size = h.objs.size + 1 := size_push' _ _
    rw [← this]; exact Heap.get?_push_size _ rfl
  have hC₁ := k _ _ hC
  have hcC : (Value.ref C :: bm).contains (.ref C) = true := by simp
  have t1 : Looks (model prog w) (excHeap h C rest) (typeOf (.ref (h.objs.size + 1))) (.ref C) := (Looks.ld hget).andThen .now
  have s1 : Looks (model prog w) (excHeap h C rest) (isSubtype (.ref C) (.ref C)) true := by
    have m1 : Looks (model prog w) (excHeap h C rest) (mroOf (.ref C)) (.ref C :: bm) := ((Looks.ld (part := none) hC₁).andThen .now).andThen .now
    unfold isSubtype
    refine m1.andThen ?_
    show Looks (model prog w) (excHeap h C rest) (pure ((Value.ref C :: bm).contains (.ref C))) true
    rw [hcC]
    exact .now
  have i1 := hi.keeps k
  have b1 := (hb (.ref (h.objs.size + 1))).keeps k
  show wpAny _ _ _ _ _ ⟨excHeap h C rest, g, d, t, os⟩
  unfold isInstance callSpecial? specialOf
  generalize excHeap h C rest = hh at *
  repeat (first | with_reducible refine wpAny_call ?_ | lk)
  refine codeAny_mono hq fun r s' z => ?_
  rcases r with e | (v | _ | _ | _) <;> first | exact z | exact z.elim | skip
  obtain ⟨rfl, z⟩ := z
  exact wpAny_pure (wpAny_pure z)
end
end Mine
namespace Mine
section
variable {prog : Program} {w : World} {M : Model} {A : Around} {E : Value → Shared → Prop} {h : Heap} {g : Array GenState} {d : Drawn} {t : Nat} {os : OsState} {s : Shared} {K : Frag}
variable {nm q : Str} {C N : Addr} {bs bm : List Value} {hdct : Bool} {sn : List Str} {sub : List Value} {ab : Bool} {col : Option Bool} {dd : Option Addr} {k0 k1 k2 k3 k5 : Option Value}
theorem me_checkInit {newId : String} {e : Addr} {oe : Obj} {rest : List Value} {Q : Unit → Shared → Prop} (hC : h.get? C = some (excClassObj nm q C N bs bm hdct sn sub ab col dd k0 k1 k2 k3 k5 newId)) (hB : bm.contains (.type "Exception") = true)
    (he : h.get? e = some oe) (hcls : oe.cls = .ref C) (hq : Q () ⟨h, g, d, t, os⟩) : wpAny M A (checkBuiltinCall "Exception.__init__" ⟨.ref e :: rest, []⟩) Q E ⟨h, g, d, t, os⟩ := by
  have F := PySem.F.excBase_Exception
  have hcB : (Value.ref C :: bm).contains (.type "Exception") = true := by rw [List.contains_cons, hB, Bool.or_true]
  have hshort := F.noStar
  simp only [checkBuiltinCall, F.initKind, F.initSplit, F.initRow]
  repeat (first | (with_reducible refine wpAny_loadPart_at he ?_; rw [hcls]) | with_reducible refine wpAny_loadPart_at hC ?_ | (with_reducible refine wpAny_isSubtype_exc hC ?_; rw [hcB]) | wp_step)
  refine wpAny_onRaise ?_
  rw [show ∀ (a b : String) (n : Nat), Bind.check ⟨.positional, "*", "Exception", .self, [⟨"args", .varPos, false⟩]⟩ a b n (List.map (fun x => x.fst) ({ pos := Value.ref e :: rest } : Args).kw) = pure () from
    fun a b n => check_star_args _ _ _ _ _ _]
  exact wpAny_pure hq
theorem me_init {newId : String} {e tt : Addr} {x : Value} {Q : Value → Shared → Prop} (hC : s.heap.get? C = some (excClassObj nm q C N bs bm hdct sn sub ab col dd k0 k1 k2 k3 k5 newId)) (hB : bm.contains (.type "Exception") = true)
    (he : s.heap.get? e = some (excObj C tt))
    (hq : ∀ h' t', (∀ b o, b ≠ e → s.heap.get? b = some o → h'.get? b = some o) → h'.get? e = some (excObj C t') → Q .none { s with heap := h' }) :
    wpAny (model prog w) A (call (.builtin "Exception.__init__") [.ref e, x]) Q E s := by
  have F := PySem.F.excBase_Exception
  obtain ⟨h, g, d, t, os⟩ := s
  refine wpAny_call (codeAny_call_builtin F.init.plain F.initEntry (me_checkInit hC hB he rfl ?_))
  wp_walk
  refine hq _ h.objs.size (fun b o hb e' => ?_) ?_
  · rw [Heap.get?_update_other _ _ (Ne.symm hb)]
    exact Heap.get?_push_of_some _ e'
  · rw [Heap.get?_update_self _ (Heap.get?_push_of_some _ he) rfl]
    rfl
theorem me_method {pl : Sem Bool} {hook : Option Value} {Q : Value × List Value → Shared → Prop} (X : K.In s.heap) (ho : Looks (model prog w) s.heap (opaqueClassAbove (.type "Exception")) none) (ht : Looks (model prog w) s.heap (typeOf (.type "Exception")) (.type "type"))
    (hga : findIn K (.type "type") "__getattribute__" = some (some (.builtin "type.__getattribute__"))) (hb : Looks (model prog w) s.heap (hookBefore (.type "type")) hook)
    (hi : subIn K (.type "type") (.type "type") = some true) (e : findCls K (.type "Exception") (.type "type") "__init__" = some (.val (.builtin "Exception.__init__"))) (h : Q (.builtin "Exception.__init__", []) { s with toks := s.toks + 1 }) :
    wpAny (model prog w) A (getMethod (.type "Exception") "__init__" pl) Q E s := by
  unfold getMethod
  refine wpAny_bind ((ht.andThen (looks_findIn X hga)).here ?_)
  dsimp only
  rw [if_pos canon_tga]
  refine wpAny_bind (cls_open X ho ht hga hb hi e (wpAny_pure ?_))
  exact wpAny_pure (wpAny_pure h)
end
end Mine
namespace Mine
section
variable {prog : Program} {w : World} {A : Around} {E : Value → Shared → Prop} {s : Shared} {K : Frag}
theorem dict_store {dx : Addr} {es : List DictEntry} {n : Nat} {name : Str} {v : Value} {tk : Tok} {Q : Fin → Shared → Prop} (h2 : s.heap.get? dx = some (dictOf es n)) (nk : es.any (·.refKey) = false) (hz : es.length ≤ 999)
    (h : Q (.done (.ret .none)) { s with heap := s.heap.update dx (Obj.putName name (PyData.keyHash w.params name) (.str name s.toks) v), toks := s.toks + 1 }) :
    wpAny (model prog w) A (PySem.Builtin.ObjectAttr.storeInDict dx (.str name tk) name v) Q E s := by
  unfold PySem.Builtin.ObjectAttr.storeInDict
  refine wpAny_bind (wpAny_pure (wpAny_bind ?_))
  unfold nsSet
  refine wpAny_bind (wpAny_bind (wpAny_askSetting (wpAny_pure (wpAny_bind (wpAny_mkText (wpAny_bind (wpAny_loadPart h2 ?_)))))))
  dsimp only [dictOf]
  have c : (!es.toArray.any (·.key.isStr name) && es.toArray.any (·.refKey)) = false := by
    rw [← Array.any_toList, ← Array.any_toList]
    show (!_ && es.any _) = false
    rw [nk, Bool.and_false]
  rw [aRefKeyMayBeTheName_at, c]
  have D' : (s.heap.update dx (Obj.putName name (PyData.keyHash w.params name) (.str name s.toks) v)).get? dx = some (dictOf (putL name (PyData.keyHash w.params name) (.str name s.toks) v es) (putN name es n)) := by
    rw [← putName_dict]
    exact Heap.get?_update_self _ h2 (by rw [putName_dict]; rfl)
  refine wpAny_updatePart h2 ?_
  refine wpAny_bind (wpAny_lookBehind D' (pastItsLine_dict (by
    have := putL_len (name := name) (hsh := PyData.keyHash w.params name) (key := .str name s.toks) (v := v) es
    rw [List.size_toArray, sizeLine_eq]; (first | lia | omega))) ?_)
  exact wpAny_pure h
noncomputable def ExcOver (K : Frag) (C : Addr) : Prop := ∃ cd cs, clsIn K C = some cd ∧ cd.mro = List.map Value.ref cs ++ [.type "Exception", .type "BaseException", .type "object"]
theorem refuse_refs (v : Value) (l : List Value) : ∀ cs : List Addr, refuseLoop v "__setattr__" (List.map Value.ref cs ++ l) = refuseLoop v "__setattr__" l
  | [] => rfl
  | c :: cs => (refuseLoop_ref v "__setattr__" c _).trans (refuse_refs v l cs)
theorem has_obj (l : List Value) (h : l.contains (.type "object") = true) : ∀ cs : List Addr, (List.map Value.ref cs ++ l).contains (.type "object") = true ∧ (List.map Value.ref cs ++ l).isEmpty = false
  | [] => ⟨h, by cases l with | nil => cases h | cons _ _ => rfl⟩
  | c :: cs => ⟨by rw [List.map_cons, List.cons_append, List.contains_cons, (has_obj l h cs).1, Bool.or_true], rfl⟩
theorem osa_exc {x C : Addr} {R : Result → Shared → Prop} {ox : Obj} {od : Option Obj} {name : Str} {tk : Tok} {v : Value} (X : K.In s.heap) (I : InstAt s.heap x ox C od) (hp : ExcOver K C) (ht : takerIn K C name = some none)
    (h : ∀ b, wpAny (model prog w) A.in1 (PySem.Builtin.ObjectAttr.storeInOwnDict (.ref x) (.ref C) (.str name tk) name v b)
      (fun fin s' => match fin with | .done f => R (.ok f) s' | .again c' => c'.quiet = true ∧ codeAny (model prog w) A c' R s') (fun e s' => R (.error e) s') s) :
    codeAny (model prog w) A (.call (.builtin "object.__setattr__") ⟨[.ref x, .str name tk, v], []⟩) R s := by
  have T := PySem.F.store_Exception
  obtain ⟨cd, cs, hc, ho⟩ := hp
  obtain ⟨m1, m2⟩ := has_obj _ T.hasOwner cs
  have mr : mroIn K C (.type "object") = some true := by
    unfold mroIn
    rw [hc, Option.bind_some, ho, m2, m1]; rfl
  obtain ⟨at_, ha, hr⟩ := Option.bind_eq_some_iff.mp ht
  have L1 : Looks (model prog w) s.heap (mroOf (.ref C)) cd.mro := (looks_clsIn X hc).andThen .now
  have L2 : Looks (model prog w) s.heap (PySem.Builtin.ObjectAttr.storeTaker? at_) none := by
    cases at_ with
    | none => exact .now
    | some a =>
      obtain ⟨b, hb, hn⟩ := Option.map_eq_some_iff.mp hr
      refine (looks_takesIn X hb).andThen ?_
      cases b with
      | false => exact .now
      | true => cases hn
  have sub : Looks (model prog w) s.heap (isInstance (.ref x) (.type "object")) true := I.type.andThen (looks_mroIn X mr)
  refine codeAny_call_builtin T.slot.plain T.entry (@check_slot (model prog w) _ _ s "object.__setattr__" "object" "__setattr__" (.ref x) [.str name tk, v] [] _ T.kind T.split sub (T.args (.ref x) (.str name tk) v) ?_)
  rw [osa_eq, refuse_eq]
  refine wpAny_bind (wpAny_bind (I.type.here (wpAny_bind (L1.here ?_))))
  rw [ho, refuse_refs, T.passes]
  refine wpAny_pure (wpAny_bind (I.type.here (wpAny_bind ((looks_findIn X ha).here (wpAny_bind (L2.here ?_))))))
  exact h _
noncomputable abbrev excD (C t dx : Addr) : Obj := { cls := .ref C, dict := some dx, data := .fields #[.ref t, .none, .none, .none, .bool false, .none] }
theorem exc_set1 {e C tt : Addr} {name : Str} {v : Value} {Q : Unit → Shared → Prop} (X : K.In s.heap) (he : s.heap.get? e = some (excObj C tt)) (hd : hasDictIn K C = true)
    (hs : findIn K (.ref C) "__setattr__" = some (some (.builtin "object.__setattr__"))) (hp : ExcOver K C) (ht : takerIn K C name = some none)
    (h : ∀ h' tk dx es n, (∀ b o, b ≠ e → s.heap.get? b = some o → h'.get? b = some o) → h'.get? e = some (excD C tt dx) → dx ≠ e → h'.get? dx = some (dictOf es n) → es.any (·.refKey) = false → es.length ≤ 1 → s.heap.get? dx = none → Q () { s with heap := h', toks := tk }) :
    wpAny (model prog w) A (setAttr (.ref e) name v) Q E s := by
  obtain ⟨hh, gg, dd, tk, oo⟩ := s
  dsimp only at X he h
  have I : InstAt hh e (excObj C tt) C none := ⟨he, rfl, rfl, trivial⟩
  refine set_plain X I hs (osa_exc X I hp ht fun b => ?_)
  obtain ⟨cd, hc, hd'⟩ := any_some hd
  unfold PySem.Builtin.ObjectAttr.storeInOwnDict
  refine wpAny_bind (wpAny_pure (wpAny_bind (wpAny_bind (wpAny_loadPart he (wpAny_bind ((looks_clsIn X hc).at ?_))))))
  rw [hd']
  have hds : hh.get? hh.objs.size = none := none_of_size (Nat.le_refl _)
  have hne : hh.objs.size ≠ e := fun z => by rw [← z, hds] at he; cases he
  have he1 : (hh.push emptyDict).get? e = some (excObj C tt) := Heap.get?_push_of_some _ he
  refine wpAny_bind (wpAny_alloc (wpAny_bind (wpAny_update he1 (wpAny_bind (wpAny_pure (wpAny_pure ?_))))))
  have g1 : ((hh.push emptyDict).update e (fun o => { o with dict := some hh.objs.size })).get? e = some (excD C tt hh.objs.size) := Heap.get?_update_self _ he1 rfl
  have g2 : ((hh.push emptyDict).update e (fun o => { o with dict := some hh.objs.size })).get? hh.objs.size = some (dictOf [] 0) :=
    (Heap.get?_update_other _ _ (Ne.symm hne)).trans (Heap.get?_push_size _ rfl)
  refine dict_store (s := ⟨(hh.push emptyDict).update e (fun o => { o with dict := some hh.objs.size }), gg, dd, _, oo⟩) g2 rfl (by simp) ?_
  refine h _ _ hh.objs.size _ _ (fun b o hb e' => ?_) ((Heap.get?_update_other _ _ hne).trans g1) hne ((Heap.get?_update_self _ g2 (by rw [putName_dict]; rfl)).trans (by rw [putName_dict])) ?_ (putL_len []) hds
  · rw [Heap.get?_update_other _ _ (fun z => by rw [z, e'] at hds; cases hds), Heap.get?_update_other _ _ (Ne.symm hb)]
    exact Heap.get?_push_of_some _ e'
  · rfl
theorem exc_set2 {e C tt dx : Addr} {es : List DictEntry} {n : Nat} {name : Str} {v : Value} {Q : Unit → Shared → Prop} (X : K.In s.heap) (he : s.heap.get? e = some (excD C tt dx)) (hne : dx ≠ e) (h2 : s.heap.get? dx = some (dictOf es n)) (nk : es.any (·.refKey) = false) (hz : es.length ≤ 999)
    (hd : hasDictIn K C = true) (hs : findIn K (.ref C) "__setattr__" = some (some (.builtin "object.__setattr__"))) (hp : ExcOver K C) (ht : takerIn K C name = some none)
    (h : ∀ h' tk, (∀ b o, b ≠ dx → s.heap.get? b = some o → h'.get? b = some o) → Q () { s with heap := h', toks := tk }) :
    wpAny (model prog w) A (setAttr (.ref e) name v) Q E s := by
  obtain ⟨hh, gg, dd, tk, oo⟩ := s
  dsimp only at X he h h2
  have I : InstAt hh e (excD C tt dx) C (some (dictOf es n)) := ⟨he, rfl, rfl, h2⟩
  refine set_plain X I hs (osa_exc X I hp ht fun b => ?_)
  obtain ⟨cd, hc, hd'⟩ := any_some hd
  unfold PySem.Builtin.ObjectAttr.storeInOwnDict
  refine wpAny_bind (wpAny_pure (wpAny_bind (wpAny_bind (wpAny_loadPart he (wpAny_bind ((looks_clsIn X hc).at ?_))))))
  rw [hd']
  refine wpAny_pure (a := some dx) ?_
  refine dict_store (s := ⟨hh, gg, dd, _, oo⟩) h2 nk hz ?_
  exact h _ _ fun b o hb e' => (Heap.get?_update_other _ _ (Ne.symm hb)).trans e'
end
end Mine
namespace Mine
structure Rc where
  fnm : Str
  name : Str
  params : Arguments
  body : List Stmt
  scope : Scope
  pm : Value
  cd : Value
  doc : Value
  dV : Value
noncomputable abbrev Rc.fd (r : Rc) : FuncData := { docDef r.name r.params r.body r.scope r.pm r.cd r.doc with name := r.fnm, defaults := r.dV }
noncomputable def Rc.ok (r : Rc) : Prop := r.scope.isCoroutine = false ∧ r.scope.isGenerator = false ∧ r.scope.kind = .function ∧ ∀ x ∈ r.scope.names, x.2 ≠ .cell
theorem call_plainQ {prog : Program} {w : World} {A : Around} {R : Result → Shared → Prop} {s : Shared} {r : Rc} {a : Addr} {args : List Value} {binds : List (Str × Value)}
    (hroom : A.depth < recursionLimit) (ho : ∃ o, s.heap.get? a = some o ∧ o.data = .func r.fd ∧ s.heap.CodeRec r.cd r.name) (hlim : s.heap.NoLimit) (hbind : BindsTo s r.fd ⟨args, []⟩ binds) (hloc : ∀ x ∈ binds, r.scope.names.lookup x.1 = some .local) (ok : r.ok)
    (h : ∀ h₁, Fr s.heap s.heap.objs.size h₁ (fun x => binds.reverse.lookup x) →
      wpAny (model prog w) (A.deeper (envOf r.name r.scope s.heap.objs.size a r.cd)) (execs r.body (envOf r.name r.scope s.heap.objs.size a r.cd)) (fun f s' => R (.ok (.ret (match f with | .ret v => v | _ => .none))) s')
        (fun e s' => wpAny (model prog w) (A.deeper (envOf r.name r.scope s.heap.objs.size a r.cd)) (leaving (envOf r.name r.scope s.heap.objs.size a r.cd) e) (fun _ s'' => R (.error e) s'') (fun e' s'' => R (.error e') s'') s')
        { s with heap := h₁, toks := s.toks + binds.length }) : codeAny (model prog w) A (.call (.ref a) ⟨args, []⟩) R s :=
  ho.elim fun o ho => codeAny_call_def hroom ho.1 ho.2.1 hlim ho.2.2 rfl hbind ok.2.2.2 hloc (fun h₁ hns hkeep => h h₁ ⟨hns, hkeep, Nat.le_refl _⟩) ok.1 ok.2.1 ok.2.2.1
structure Gf (Λ : Ly) (fns : Nat → Option Fn) (rc : Nat → Rc) : Prop extends Gl Λ where
  obj : ∀ (f : Nat) fn, fns f = some fn → ∃ o, Λ.base.get? (Λ.fad f) = some o ∧ o.data = .func (rc f).fd ∧ Λ.base.CodeRec (rc f).cd (rc f).name
  chk : ∀ (f : Nat) fn, fns f = some fn → ∃ p, (rc f).body = toB Λ.T fn.body p ∧ okB Λ.T (rc f).scope fn.body p = true
  sc : ∀ (f : Nat) fn, fns f = some fn → (rc f).ok
  lim : Λ.base.NoLimit
  bind : ∀ (f : Nat) fn args, fns f = some fn → okN fn.ps fn.ds args = true → ∀ (z : Z) vals, SR Λ z → Reps Λ z.W vals args →
    ∃ binds : List (Str × Value), BindsTo z.s (rc f).fd ⟨vals, []⟩ binds ∧ (∀ x ∈ binds, (rc f).scope.names.lookup x.1 = some .local) ∧ ∀ (x : Nat) v, look x (bindP fn.ps fn.ds args) = some v → x < Λ.T.n ∧ ∃ u, binds.reverse.lookup (Λ.T.nm x) = some u ∧ Rep Λ z.W u v
noncomputable def RaiOk (Λ : Ly) : Prop := ∀ (Γ : Cc) l c x, Γ.Λ = Λ → Γ.l = Γ.v :: l → PT' Γ (.rai c x)
section
variable {Γ : Cc} {l : List Env}
mutual
theorem s_ps (hr : RaiOk Γ.Λ) (hl : Γ.l = Γ.v :: l) : ∀ x : St, PT' Γ x
  | .ret _ => ps_ret
  | .ret0 => ps_ret0
  | .asg _ _ => ps_asg
  | .asgA _ _ _ => ps_asgA
  | .asgS _ _ _ => ps_asgS
  | .asgT _ _ => ps_asgT
  | .asgX _ _ _ => ps_asgX
  | .asgW _ _ => ps_asgW
  | .asgF _ _ => ps_asgF
  | .ite _ a b => ps_ite (s_pss hr hl a) (s_pss hr hl b)
  | .forV _ _ b => ps_forV (s_pss hr hl b)
  | .forR _ _ b => ps_forR (s_pss hr hl b)
  | .for2 _ _ _ b => ps_for2 (s_pss hr hl b)
  | .whl _ b => ps_whl (s_pss hr hl b)
  | .exp _ => ps_exp
  | .expX _ _ => ps_expX
  | .rai c x => hr _ _ _ _ rfl hl
  | .try1 _ _ _ _ _ => ps_try hl
  | .dcopy _ _ _ _ => ps_dcopy
  | .raw => ps_raw
theorem s_pss (hr : RaiOk Γ.Λ) (hl : Γ.l = Γ.v :: l) : ∀ x : Sts, PTs Γ x
  | .nil => pss_nil
  | .cons x xs => pss_cons (s_ps hr hl x) (s_pss hr hl xs)
end
end
section
variable {Λ : Ly} {z z1 z2 : Z} {L : Addr}
noncomputable def Z.out (z : Z) (fr : List Addr) : Z := ⟨⟨z.W.fz, z.W.mu, fr⟩, z.s, z.σ⟩
theorem le_out {W : Wd} {fr : List Addr} : Le W ⟨W.fz, W.mu, fr⟩ := ⟨fun _ _ h => h, fun _ _ h => h⟩
theorem SR.out (x : SR Λ z) (fr : List Addr) : SR Λ (z.out fr) := x.old le_out rfl (fun _ _ h => x.fz _ _ h) x.nofz fun _ _ _ h => h
theorem Go.exit {h₁ : Heap} {tk : Nat} (hL : z.s.heap.get? L = none) (k : Kp z.s.heap h₁) (g : Go Λ (· = L) ⟨⟨z.W.fz, z.W.mu, L :: z.W.fr⟩, { z.s with heap := h₁, toks := tk }, z.σ⟩ z2) : Go Λ NoX z (z2.out z.W.fr) :=
  have ne {b : Addr} {o : Obj} (e : z.s.heap.get? b = some o) : b ≠ L := ne_none hL e
  ⟨⟨fun _ _ e => g.le.fz _ _ e, fun _ _ e => g.le.mu _ _ e⟩, rfl, fun b o e f _ => (g.keep b o (k b o e) f (ne e)).imp (fun h q => h fun m => (List.mem_cons.mp m).elim (ne e) q) id, fun b o e f _ => g.fresh b o (k b o e) f (ne e), g.gens, g.os, g.sr.out _⟩
end
end Mine
namespace Mine
section
variable {Λ : Ly} {z z1 z2 : Z} {L : Addr} {h₁ h' B : Heap} {tk : Nat} {ρ : Env'} {l : List Env}
theorem cov_exit (hL : z.s.heap.get? L = none) (k : Kp z.s.heap h₁) (g : Go Λ (· = L) ⟨⟨z.W.fz, z.W.mu, L :: z.W.fr⟩, { z.s with heap := h₁, toks := tk }, z.σ⟩ z2) (fx : Fx Λ ρ L z2) (stay : B.StaysIn h')
    (cov : Cov ⟨⟨z.W.fz, z.W.mu, L :: z.W.fr⟩, { z.s with heap := h₁, toks := tk }, z.σ⟩ z2 B) : Cov z (Z.out ⟨z2.W, { z2.s with heap := h' }, z2.σ⟩ z.W.fr) B := fun b o eb nb h => by
  have nL : b ≠ L := fun q => h.elim (fun h => fx.nf (q ▸ h)) (·.elim (fun h => h.elim fun _ h => ns fx.nz (q ▸ h)) fun h => h.elim fun _ h => ns hL (q ▸ h))
  have h : foot z2.W b ∨ (∃ o', z2.W.fz b = some o') ∨ ∃ o', z.s.heap.get? b = some o' := h
  have h2 : foot z2.W b ∨ (∃ o', z2.W.fz b = some o') ∨ ∃ o', h₁.get? b = some o' := h.imp id (Or.imp id (Exists.imp fun o => k b o))
  exact (h.elim (fun h => g.sr.there h) (·.elim (Exists.imp (g.sr.fz b)) fun h => g.was nL (h.imp fun o => k b o))).elim fun o2 ho2 => by
    have c2 := cov b o2 ho2 (by rw [g.frs]; exact fun m => (List.mem_cons.mp m).elim nL nb) h2
    exact Option.some.inj ((stay b o2 c2).symm.trans eb) ▸ c2
theorem s_call {fns : Nat → Option Fn} {rc : Nat → Rc} {sp : Orc} (G : Gf Λ fns rc) (hr : RaiOk Λ) {k₀ n : Nat} (hs : CallOk Λ k₀ sp) (ih : CallOk Λ (n + k₀) (runN Λ.T fns sp n)) : CallOk Λ (n + 1 + k₀) (runN Λ.T fns sp (n + 1)) := by
  intro f args z K he A l vals R cx sr out rs ck
  have he : Option.rec (sp f args z.σ K) (fun fn => runF Λ.T (runN Λ.T fns sp n) fn args z.σ K) (fns f) := he
  cases hfn : fns f with
  | none => rw [hfn] at he; exact hs f args z K he A l vals R (cx.less (by (first | lia | omega))) sr out rs ck
  | some fn =>
    rw [hfn] at he
    have he : cond (okN fn.ps fn.ds args) (wB Λ.T (runN Λ.T fns sp n) fn.body (bindP fn.ps fn.ds args) z.σ (endK K)) False := he
    cases hb : okN fn.ps fn.ds args with
    | false => rw [hb] at he; exact he.elim
    | true =>
      rw [hb] at he
      have he : wB Λ.T (runN Λ.T fns sp n) fn.body (bindP fn.ps fn.ds args) z.σ (endK K) := he
      obtain ⟨binds, b1, b2, b3⟩ := G.bind f fn args hfn hb z vals sr rs
      obtain ⟨pt, hpt, hck⟩ := G.chk f fn hfn
      have c3 := (G.sc f fn hfn).2.2.1
      have kb : Kp Λ.base z.s.heap := fun b o e => sr.fz _ _ (sr.base _ _ e)
      have hL : z.s.heap.get? z.s.heap.objs.size = none := new_none
      refine call_plainQ (Nat.lt_of_le_of_lt (Nat.le_add_right _ _) cx.room) ((G.obj f fn hfn).imp fun o => .imp (kb _ _) (.imp id (·.keeps kb))) (G.lim.imp fun _ => .imp (·.keeps kb) id) b1 b2 (G.sc f fn hfn) fun h₁ F => ?_
      have sr1 : SR Λ ⟨⟨z.W.fz, z.W.mu, z.s.heap.objs.size :: z.W.fr⟩, { z.s with heap := h₁, toks := z.s.toks + binds.length }, z.σ⟩ := sr.old le_out rfl (fun b o e => F.keep b o (sr.fz b o e)) sr.nofz fun b o _ e => F.keep b o e
      have i : In ⟨Λ, A.deeper _, (rc f).scope, (rc f).name, z.s.heap.objs.size, Λ.fad f, (rc f).cd, _ :: l, n + k₀, runN Λ.T fns sp n⟩ (bindP fn.ps fn.ds args) ⟨⟨z.W.fz, z.W.mu, z.s.heap.objs.size :: z.W.fr⟩, { z.s with heap := h₁, toks := z.s.toks + binds.length }, z.σ⟩ :=
        ⟨⟨G.toGl, c3, (cx.less (m := 2 * (n + k₀) + 1 + 1) (by (first | lia | omega))).deeper (env := envOf (rc f).name (rc f).scope z.s.heap.objs.size (Λ.fad f) (rc f).cd), ih⟩, sr1,
          ⟨⟨_, F.ns, fun x v e => (b3 x v e).imp id (.imp fun u => .imp id (·.le le_out))⟩, sr.foot_new hL, sr.fz_new hL⟩,
          ⟨all2 ⟨F.ns.imp fun o h => h.elim fun es h => h.elim fun ep h => ⟨h.1, fun vs q => nomatch (h.2.1.symm.trans q : Data.dict _ _ = .fields _)⟩, sr.foot_new hL, sr.fz_new hL⟩ fun b hb => (out.at_ b hb).imp (.imp fun o => .imp (F.keep _ _) id) id,
            all2 ⟨fun q => (nomatch (c3.symm.trans q : ScopeKind.function = .module)), _, rfl, .head _⟩ fun e h => (out.mem e h).imp id (.imp fun _ => .imp id (.tail _))⟩, .head _⟩
      rw [hpt]
      refine s_pss hr rfl fn.body _ _ _ (endK K) hck he i _ _ ⟨fun ρ z2 k g fx => ck.ret .non .none (z2.out z.W.fr) k (g.exit hL F.keep) rfl, fun v u ρ z2 k g fx r => ck.ret v u (z2.out z.W.fr) k (g.exit hL F.keep) (r.le le_out), fun e ρ z2 B k g fx hB cov flt => ?_⟩
      have i2 := i.goL g fx
      have main : ∀ h' a0, Heap.FlyingW B l e (mclass Λ) a0 h' → z2.s.heap.UpToSlots h' → R (.error (.ref e)) { z2.s with heap := h' } := fun h' a0 fl ups =>
        ck.exc e (Z.out ⟨z2.W, { z2.s with heap := h' }, z2.σ⟩ z.W.fr) B k ((exc_go g i2.out cov fl.1 ups).exit hL F.keep) (fun b hb => hB b (.tail _ hb)) (cov_exit hL F.keep g fx fl.1 cov) ⟨a0, fl⟩
      rcases flt with ⟨q1, q2, oe, vs, a0, q3, q4, q5, q6, q7⟩ | ⟨a0, fl⟩
      · refine wpAny_leaving_firstW i.H.cx.frs (i2.out.ff (B := B) fun b hb => hB b (by rw [g.frs] at hb; exact hb)) rfl q3 q1 q2 q5 q6 q7 fun h' hL' => ?_
        obtain ⟨k1, ⟨_, _, k2⟩, k3, k4⟩ := hL'
        exact main h' a0 ⟨k1, q2, k2, by rw [q4] at k3; exact k3⟩ k4
      · exact wpAny_leaves_onW i.H.cx.frs rfl fl fun h' f1 f2 => main h' a0 f1 f2
theorem s_run {fns : Nat → Option Fn} {rc : Nat → Rc} {sp : Orc} (G : Gf Λ fns rc) (hr : RaiOk Λ) {k₀ : Nat} (hs : CallOk Λ k₀ sp) : ∀ n : Nat, CallOk Λ (n + k₀) (runN Λ.T fns sp n) :=
  Nat.rec (fun _ _ _ _ he => he.elim) fun n ih => s_call G hr hs ih
end
end Mine
namespace Mine
structure Me (Λ : Ly) (fI : Addr) (r : Rc) : Prop where
  cls : ∃ nm q N bs bm hdct sn sub ab col dd k0 k1 k2 k3 k5, Λ.base.get? (Λ.cad 79) = some (excClassObj nm q (Λ.cad 79) N bs bm hdct sn sub ab col dd k0 k1 k2 k3 k5 "Exception.__new__") ∧ bm.contains (.type "Exception") = true ∧
    bm.contains (.type "AttributeError") = false ∧ bm.contains (.type "NameError") = false ∧ bm.contains (.type "BaseException") = true
  keep : keepIn Λ.K (.ref (Λ.cad 79)) = true
  init : findIn Λ.K (.ref (Λ.cad 79)) "__init__" = some (some (.ref fI))
  fn : typeIn Λ.K (.ref fI) = some (.type "function")
  hasd : hasDictIn Λ.K (Λ.cad 79) = true
  seta : findIn Λ.K (.ref (Λ.cad 79)) "__setattr__" = some (some (.builtin "object.__setattr__"))
  over : ExcOver Λ.K (Λ.cad 79)
  tkw : takerIn Λ.K (Λ.cad 79) "what" = some none
  tka : takerIn Λ.K (Λ.cad 79) "at" = some none
  obj : ∃ o, Λ.base.get? fI = some o ∧ o.data = .func r.fd ∧ Λ.base.CodeRec r.cd r.name
  sc : r.ok
  loc : r.scope.names.lookup (Str.ofString "self") = some .local ∧ r.scope.names.lookup (Str.ofString "what") = some .local ∧ r.scope.names.lookup (Str.ofString "at") = some .local ∧ r.scope.names.lookup (Str.ofString "Exception") = some .globalImplicit
  body : ∃ p1 p2 p3 p4 p5 p6 p7 p8 p9 pa pb pc pd pe, r.body = [.Expr (.Call (.Attribute (.Name "Exception" p1) "__init__" p2) [.Name "self" p3, .Name "what" p4] [] p5) p6,
    .Assign [.Attribute (.Name "self" p7) "what" p8] (.Name "what" p9) pa, .Assign [.Attribute (.Name "self" pb) "at" pc] (.Name "at" pd) pe] ∧ oneLine p2 p5 = true
  bind : ∀ (s : Shared) (u v : Value), Kp Λ.base s.heap → BindsTo s r.fd ⟨[u, v], []⟩ [("self", u), ("what", v), ("at", .none)]
  gl : Λ.gm "Exception" = none ∧ Λ.bm "Exception" = some (.type "Exception")
  op : ∀ (M : Model) h, Kp Λ.base h → Looks M h (opaqueClassAbove (.type "Exception")) none
  ty : ∀ (M : Model) h, Kp Λ.base h → Looks M h (typeOf (.type "Exception")) (.type "type")
  hook : ∀ (M : Model) h, Kp Λ.base h → ∃ k, Looks M h (hookBefore (.type "type")) k
  x2 : findIn Λ.K (.type "type") "__getattribute__" = some (some (.builtin "type.__getattribute__"))
  x3 : subIn Λ.K (.type "type") (.type "type") = some true
  x4 : findCls Λ.K (.type "Exception") (.type "type") "__init__" = some (.val (.builtin "Exception.__init__"))
  lim : Λ.base.NoLimit
section
variable {Λ : Ly} {A : Around} {sc : Scope} {name : Str} {L a : Addr} {cd : Value} {s : Shared} {fI : Addr} {r : Rc}
theorem nm_load {x : Str} {p : Pos} {m : Str → Option Value} {v : Value} {Q : Value → Shared → Prop} {E : Value → Shared → Prop} (hk : sc.kind = .function) (hl : sc.names.lookup x = some .local) (hn : s.heap.Ns L m) (hv : m x = some v) (hd : (x == ("__debug__" : Str)) = false) (q : Q v s) :
    wpAny (model Λ.prog Λ.w) A (eval (.Name x p) (envOf name sc L a cd)) Q E s := wpAny_Name (wpAny_loadName_local hk hl hn hv q) hd
theorem x_meInit (G : Gl Λ) (X : Me Λ fI r) {e tt : Addr} {v : Value} {R : Result → Shared → Prop} (hroom : A.depth < recursionLimit) (kb : Kp Λ.base s.heap) (he : s.heap.get? e = some (excObj (Λ.cad 79) tt)) (hnb : Λ.base.get? e = none)
    (hq : ∀ h' tk t' dx, (∀ b o, b ≠ e → s.heap.get? b = some o → h'.get? b = some o) → h'.get? e = some (excD (Λ.cad 79) t' dx) → R (.ok (.ret .none)) { s with heap := h', toks := tk }) :
    codeAny (model Λ.prog Λ.w) A (.call (.ref fI) ⟨[.ref e, v], []⟩) R s := by
  have c3 := X.sc.2.2.1
  obtain ⟨l1, l2, l3, l4⟩ := X.loc
  obtain ⟨nm, q, N, bs, bm, hdct, sn, sub, ab, col, dd, k0, k1, k2, k3, k5, hC, hB, hA, hN, hBE⟩ := X.cls
  obtain ⟨p1, p2, p3, p4, p5, p6, p7, p8, p9, pa, pb, pc, pd, pe, hbody, hone⟩ := X.body
  refine call_plainQ hroom (X.obj.imp fun o => .imp (kb _ _) (.imp id (·.keeps kb))) (X.lim.imp fun _ => .imp (·.keeps kb) id) (X.bind s _ _ kb) (all2 l1 (all2 l2 (all1 l3))) X.sc fun h₁ F => ?_
  have hLe : s.heap.objs.size ≠ e := Nat.ne_of_gt (Heap.lt_size he)
  have m1 : (fun x => [(("self" : Str), Value.ref e), ("what", v), ("at", .none)].reverse.lookup x) "self" = some (.ref e) := by rfl
  have m2 : (fun x => [(("self" : Str), Value.ref e), ("what", v), ("at", .none)].reverse.lookup x) "what" = some v := by rfl
  have m3 : (fun x => [(("self" : Str), Value.ref e), ("what", v), ("at", .none)].reverse.lookup x) "at" = some .none := by rfl
  have kb1 : Kp Λ.base h₁ := fun b o z => F.keep b o (kb b o z)
  have K1 : Λ.K.In h₁ := G.kin.keeps kb1
  rw [hbody]
  refine wpAny_execs_cons (wpAny_Expr_any ?_ (by
    unfold interactive
    show (r.scope.kind == .module && _) = false
    rw [c3]; rfl) rfl)
  rw [arm_eval_Call]
  refine wpAny_bind (Calls.Name_function_global c3 l4 (Calls.loadGlobal_builtin (G.gns.at fun o z => kb1 _ _ z) X.gl.1 (G.bns.at fun o z => kb1 _ _ z) X.gl.2 (wpAny_bind (wpAny_standAt ?_))) (by decide))
  unfold methodCall
  show wpAny _ _ (holding [.type "Exception"] (calleeOf true _ _ _ _) >>= _) _ _ _
  obtain ⟨hook, hhook⟩ := X.hook (model Λ.prog Λ.w) h₁ kb1
  refine wpAny_bind (wpAny_holding (me_method (s := { s with heap := h₁, toks := _ }) K1 (X.op _ _ kb1) (X.ty _ _ kb1) X.x2 hhook X.x3 X.x4 ?_))
  refine wpAny_bind ?_
  show wpAny _ _ (methodCallPos (methodCallForm 2 (backTo p5 (starEach [.Name "self" p3, .Name "what" p4] _)) []) _ _ p2 p5) _ _ _
  rw [pos_few hone]
  refine wpAny_pure ?_
  have he1 : h₁.get? e = some (excObj (Λ.cad 79) tt) := F.keep _ _ he
  refine Calls.callWith_builtin rfl (Calls.evalArgs_plain (Calls.spliced_cons (nm_load (s := { s with heap := h₁, toks := _ }) c3 l1 F.ns m1 (by decide) (Calls.spliced_cons (nm_load (s := { s with heap := h₁, toks := _ }) c3 l2 F.ns m2 (by decide) (Calls.spliced_nil ?_))))))
  refine me_init (s := { s with heap := h₁, toks := _ }) (kb1 _ _ hC) hB he1 fun h2 t2 q1 q2 => ?_
  have kb2 : Kp Λ.base h2 := fun b o z => q1 b o (fun y => by rw [y, hnb] at z; cases z) (kb1 b o z)
  have n2 := F.ns.at' (h' := h2) fun o z => q1 _ o hLe z
  refine wpAny_execs_cons (plainObj_wpAny_Assign_Attribute (nm_load (s := { s with heap := h2, toks := _ }) c3 l2 n2 m2 (by decide) (nm_load (s := { s with heap := h2, toks := _ }) c3 l1 n2 m1 (by decide) ?_)) rfl)
  refine exc_set1 (s := { s with heap := h2, toks := _ }) (G.kin.keeps kb2) q2 X.hasd X.seta X.over X.tkw fun h3 tk3 dx es nn r1 r2 r3 r4 r5 r6 r7 => ?_
  have kb3 : Kp Λ.base h3 := fun b o z => r1 b o (fun y => by rw [y, hnb] at z; cases z) (kb2 b o z)
  have n3 := n2.at' (h' := h3) fun o z => r1 _ o hLe z
  refine wpAny_execs_cons (plainObj_wpAny_Assign_Attribute (nm_load (s := { s with heap := h3, toks := tk3 }) c3 l3 n3 m3 (by decide) (nm_load (s := { s with heap := h3, toks := tk3 }) c3 l1 n3 m1 (by decide) ?_)) rfl)
  refine exc_set2 (s := { s with heap := h3, toks := tk3 }) (G.kin.keeps kb3) r2 r3 r4 r5 (Nat.le_trans r6 (by decide)) X.hasd X.seta X.over X.tka fun h4 tk4 r8 => ?_
  refine wpAny_execs_nil ?_
  refine hq h4 tk4 t2 dx (fun b o hb z => ?_) (r8 _ _ (Ne.symm r3) r2)
  have z2 := q1 b o hb (F.keep b o z)
  exact r8 b o (fun y => by rw [y] at z2; rw [show h2.get? dx = none from r7] at z2; cases z2) (r1 b o hb z2)
theorem me_stmt {M : Model} {env : Env} {Cl : Addr} {nm q : Str} {N : Addr} {bs bm : List Value} {hdct : Bool} {sn : List Str} {sub : List Value} {ab : Bool} {col : Option Bool} {dd : Option Addr} {k0 k1 k2 k3 k5 : Option Value} {newId : String} {x : Sem Value} {Q : Flow → Shared → Prop} {E : Value → Shared → Prop}
    (hbase : bm.contains (.type "BaseException") = true) (hh : A.handled = none)
    (h : wpAny M A x (fun v s₁ => ∃ e t dx, v = .ref e ∧ s₁.heap.get? Cl = some (excClassObj nm q Cl N bs bm hdct sn sub ab col dd k0 k1 k2 k3 k5 newId) ∧ s₁.heap.get? e = some (excD Cl t dx) ∧ E (.ref e) s₁) E s) :
    wpAny M A (raiseStmt env (some x) none) Q E s := by
  have hcB : (Value.ref Cl :: bm).contains (.type "BaseException") = true := by rw [List.contains_cons, hbase, Bool.or_true]
  unfold raiseStmt
  refine wpAny_bind (wpAny_mono h (fun v s₁ h₁ => ?_) fun _ _ x => x)
  obtain ⟨e, t, dx, rfl, hC, he, hE⟩ := h₁
  obtain ⟨hp, g, d, tk, os⟩ := s₁
  repeat (first | with_reducible refine wpAny_loadPart_at he ?_ | with_reducible refine wpAny_loadPart_at hC ?_ | (with_reducible refine wpAny_isSubtype_exc hC ?_; rw [hcB]) | wp_step)
  exact wpAny_raiseNew_none hh hE
theorem raiOk (G : Gl Λ) (X : Me Λ fI r) : RaiOk Λ := by
  intro Γ l c x hΛ hl p ρ z K hc he i Q E q
  subst hΛ
  have hc : (Nat.beq c 79 && isGlo Γ.sc (Γ.Λ.T.nm c)) = true := hc
  obtain rfl := Nat.eq_of_beq_eq_true (andL hc)
  obtain ⟨nm, qq, N, bs, bm, hdct, sn, sub, ab, col, dd, j0, j1, j2, j3, j5, hC, hB, hA, hN, hBE⟩ := X.cls
  have kb : Kp Γ.Λ.base z.s.heap := fun b o e => i.sr.fz _ _ (i.sr.base _ _ e)
  show wpAny _ _ (exec (.Raise (some (.Call (.Name (Γ.Λ.T.nm 79) p.a.a.p) [.Constant (.str x) p.a.b.a.k p.a.b.a.p] [] p.a.p)) none p.p) _) Q E z.s
  rw [arm_exec_Raise]
  have K0 := G.at i.sr
  refine wpAny_bind (wpAny_standAt (me_stmt (Cl := Γ.Λ.cad 79) (nm := nm) (q := qq) (N := N) (bs := bs) (hdct := hdct) (sn := sn) (sub := sub) (ab := ab) (col := col) (dd := dd) (k0 := j0) (k1 := j1) (k2 := j2) (k3 := j3) (k5 := j5) (newId := "Exception.__new__") hBE i.H.cx.hand (wpAny_bind (wpAny_Call_ofName (i.glo (andR hc) G.mexn (callWith_of (P := Γ.Λ.K.In) rfl (keeps_K X.keep) (Calls.evalArgs_plain (Calls.spliced_cons (Calls.Constant_str (x := x) (k := p.a.b.a.k) (pos := p.a.b.a.p) (Calls.spliced_nil ⟨K0, wpAny_call ?_⟩))))))))))
  refine me_call (h := z.s.heap) (kb _ _ hC) hB hA hN (by show 1 ≤ sizeLine; decide) (looks_findIn K0 X.init) (fun self => bind_fn K0 self X.fn) ?_
  have fe : z.s.heap.get? (z.s.heap.objs.size + 1) = none := none_of_size (Nat.le_succ _)
  have kx : Kp z.s.heap (excHeap z.s.heap (Γ.Λ.cad 79) [.str x z.s.toks]) := push2_old
  have hget : (excHeap z.s.heap (Γ.Λ.cad 79) [.str x z.s.toks]).get? (z.s.heap.objs.size + 1) = some (excObj (Γ.Λ.cad 79) z.s.heap.objs.size) := by
    rw [← size_push' z.s.heap { cls := .type "tuple", data := .seq [Value.str x z.s.toks].toArray }]; exact Heap.get?_push_size _ rfl
  refine x_meInit (s := { z.s with heap := excHeap z.s.heap (Γ.Λ.cad 79) [.str x z.s.toks], toks := z.s.toks + 1 }) G X (Nat.lt_of_le_of_lt (Nat.le_add_right _ _) (i.H.cx.tc (c := Γ.Λ.cad 79) (rest := [.str x z.s.toks])).room) (fun b o e => kx b o (kb b o e)) hget (Kp.none kb fe) fun h' tk t' dx q1 q2 => ?_
  have kk : Kp z.s.heap h' := fun b o e => q1 b o (ne_none fe e) (kx b o e)
  refine ⟨rfl, wpAny_bind (wpAny_standAt (wpAny_pure ⟨_, t', dx, rfl, kk _ _ (kb _ _ hC), q2, ?_⟩))⟩
  have g : Go Γ.Λ NoX z ⟨z.W, { z.s with heap := h', toks := tk }, z.σ⟩ := .new i.sr kk
  refine q.exc (z.s.heap.objs.size + 1) ρ ⟨z.W, { z.s with heap := h', toks := tk }, z.σ⟩ (hideAll z.s.heap z.W.fr) he g.toL (i.go g).fx (fun b hb => hideAll_none _ hb) (fun b o eb nb hh => ?_) (.inl ⟨fun b o e => kk b o (of_hideAll _ e), ?_, _, _, _, q2, rfl, rfl, rfl, rfl⟩)
  · exact (hh.elim (fun h => i.sr.there h) (·.elim (Exists.imp (i.sr.fz b)) id)).elim fun o' ho' => Option.some.inj ((kk b o' ho').symm.trans eb) ▸ hideAll_get _ ho' nb
  · exact Option.eq_none_iff_forall_ne_some.mpr fun o e => ns fe (of_hideAll _ e)
end
end Mine
namespace Mine
theorem fm_congr {α β : Type} {f g : α → Option β} : ∀ {l : List α}, (∀ x ∈ l, f x = g x) → l.filterMap f = l.filterMap g
  | [], _ => rfl
  | x :: r, h => by rw [List.filterMap_cons, List.filterMap_cons, h x (.head _), fm_congr fun y hy => h y (.tail _ hy)]
theorem look_zip : ∀ {ns : List Str} {vs : List Value}, ns.Nodup → ns.length = vs.length → ns.filterMap (fun n => ((ns.zip vs).lookup n).map (n, ·)) = ns.zip vs := by
  intro ns
  induction ns with
  | nil => intro vs _ _; rfl
  | cons x xs ih =>
    intro vs nd hl
    cases vs with
    | nil => cases hl
    | cons v vs =>
      rw [List.nodup_cons] at nd
      rw [List.zip_cons_cons, List.filterMap_cons]
      simp only [List.lookup_cons, beq_self_eq_true, Option.map_some]
      congr 1
      rw [← ih nd.2 (by simpa using hl)]
      apply fm_congr
      intro y hy
      have hne : (y == x) = false := by
        rw [beq_eq_false_iff_ne]; intro z; rw [z] at hy; exact nd.1 hy
      rw [hne, ih nd.2 (by simpa using hl)]
theorem look_all {ns : List Str} {vs : List Value} (nd : ns.Nodup) (hl : ns.length = vs.length) : ns.filter (fun n => ((ns.zip vs).lookup n).isNone) = [] := by
  rw [List.filter_eq_nil_iff]
  intro n hn
  have : n ∈ (ns.filterMap (fun n => ((ns.zip vs).lookup n).map (n, ·))).map (·.1) := by
    rw [look_zip nd hl, List.map_fst_zip (by (first | lia | omega))]; exact hn
  rw [List.mem_map] at this
  obtain ⟨p, hp, e⟩ := this
  rw [List.mem_filterMap] at hp
  obtain ⟨m, hm, e2⟩ := hp
  obtain ⟨v, hv, e3⟩ := Option.map_eq_some_iff.mp e2
  subst e3
  simp only at e
  subst e
  rw [hv]; simp
theorem bind_plain {fd : FuncData} {as : List Arg} {vals : List Value} {ds : List Expr} (hp : fd.params = ⟨[], as, none, [], [], none, ds⟩) (hd : fd.defaults = .none) (hl : vals.length = as.length) (nd : (as.map (·.arg)).Nodup) :
    bindArgs fd ⟨vals, []⟩ = pure ((as.map (·.arg)).zip vals) := by
  have hl' : (as.map (·.arg)).length = vals.length := by rw [List.length_map]; (first | lia | omega)
  have z1 := look_zip nd hl'
  have z2 := look_all nd hl'
  unfold bindArgs
  rw [hp, hd]
  have hs : seqItems? Value.none = pure none := rfl
  simp only [List.map_nil, List.nil_append, List.append_nil, List.forIn_nil, pure_bind, hs]
  have e0 : (none.getD #[] : Array Value).toList = [] := rfl
  have e1 : (decide (vals.length > (as.map (·.arg)).length) && (none : Option Arg).isNone) = false := by
    rw [hl', decide_eq_false (Nat.lt_irrefl _)]; rfl
  rw [e0, if_neg (by rw [e1]; decide)]
  simp only [List.length_nil, List.drop_nil, Nat.sub_zero, List.take_length, List.zip_nil_right, z2, List.isEmpty_nil, Bool.not_true, Bool.false_eq_true, if_false, List.forIn_nil, pure_bind, z1]
theorem lookup_mem {k : Str} {u : Value} : ∀ {l : List (Str × Value)}, (l.map (·.1)).Nodup → (k, u) ∈ l → l.lookup k = some u
  | [], _, h => by cases h
  | (a, b) :: r, nd, h => by
    rw [List.map_cons, List.nodup_cons] at nd
    rw [List.lookup_cons]
    rcases List.mem_cons.mp h with h | h
    · cases h; simp
    · have : (k == a) = false := by
        rw [beq_eq_false_iff_ne]; intro z
        exact nd.1 (by rw [← z]; exact List.mem_map_of_mem (f := (·.1)) h)
      rw [this]; exact lookup_mem nd.2 h
theorem bindP_zip : ∀ (ps : List Nat) (ds args : List V), args.length ≤ ps.length → bindP ps ds args = ps.zip (args ++ ds.drop (ds.length - (ps.length - args.length))) := by
  intro ps
  induction ps with
  | nil => intro ds args _; rfl
  | cons p ps ih =>
    intro ds args h
    cases args with
    | nil => rfl
    | cons v vs =>
      show (p, v) :: bindP ps ds vs = _
      rw [ih ds vs (Nat.le_of_succ_le_succ h), List.length_cons, List.length_cons, Nat.succ_sub_succ]; rfl
theorem look_at {x : Nat} {v : V} : ∀ (ps : List Nat) (args : List V), look x (ps.zip args) = some v → ∃ i : Nat, ps[i]? = some x ∧ args[i]? = some v := by
  intro ps
  induction ps with
  | nil => intro args h; cases args <;> cases h
  | cons p ps ih =>
    intro args h
    cases args with
    | nil => cases h
    | cons a args =>
      have h : cond (Nat.beq x p) (some a) (look x (ps.zip args)) = some v := h
      cases e : Nat.beq x p with
      | true => rw [e] at h; exact ⟨0, congrArg some (Nat.eq_of_beq_eq_true e).symm, h⟩
      | false => rw [e] at h; exact (ih args h).elim fun i h => ⟨i + 1, h⟩
theorem nodup_map {α β : Type} {f : α → β} : ∀ {l : List α}, (∀ x, x ∈ l → ∀ y, y ∈ l → f x = f y → x = y) → l.Nodup → (l.map f).Nodup
  | [], _, _ => List.nodup_nil
  | a :: r, h, nd => by
    rw [List.nodup_cons] at nd
    rw [List.map_cons, List.nodup_cons]
    refine ⟨fun z => ?_, nodup_map (fun x hx y hy e => h x (.tail _ hx) y (.tail _ hy) e) nd.2⟩
    obtain ⟨y, hy, e⟩ := List.mem_map.mp z
    exact nd.1 ((h y (.tail _ hy) a (.head _) e) ▸ hy)
end Mine
namespace Mine
noncomputable def kAd : List Nat := [1, 2, 3, 24, 29, 36, 45, 46, 52, 58, 59, 64, 70, 71, 80, 87, 94, 101, 108, 115, 122, 129, 136, 143, 150, 157, 164, 171, 174, 185, 192, 199, 206, 220, 227, 234, 243, 244, 262, 269, 283, 290, 291, 298, 305, 306, 313, 316, 327, 364, 365, 376, 383, 390, 393, 404, 411, 418, 425, 432, 449, 470, 477, 479, 480, 491, 494, 505, 512, 519, 526, 538, 545, 552, 559, 566, 587, 594, 596, 597, 604, 615, 638, 639, 646, 657, 673, 674, 679, 684, 691, 707, 708, 713, 718, 725, 760, 761, 766, 771, 778, 813, 814, 825, 832, 839, 846, 853, 860, 867, 874, 881, 888, 895, 902, 909, 916, 923, 930, 937, 944, 951, 958, 965, 972, 979, 986, 993, 998, 1005, 1012, 1019, 1026, 1033, 1040, 1047, 1054, 1061, 1068, 1075, 1082, 1089, 1096, 1103, 1110, 1117, 1124, 35, 79, 86, 93, 100, 107, 114, 121, 128, 135, 142, 149, 156, 163, 170, 184, 191, 198, 205, 219, 226, 233, 261, 268, 282, 289, 297, 304, 312, 326, 375, 382, 389, 403, 410, 417, 424, 431, 448, 469, 476, 490, 504, 511, 518, 525, 537, 544, 551, 558, 565, 586, 593, 614, 656, 690, 724, 777, 824, 831, 838, 845, 852, 859, 866, 873, 880, 887, 894, 901, 908, 915, 922, 929, 936, 943, 950, 957, 964, 971, 978, 985, 992, 997, 1004, 1011, 1018, 1025, 1032, 1039, 1046, 1053, 1060, 1067, 1074, 1081, 1088, 1095, 1102, 1109, 1116, 1123]
noncomputable def kk (P : Params) : Frag := [(1, boot_o_1 P), (2, o2v1 P), (3, o3v21 P), (24, o24 P), (29, o29 P), (36, o36 P), (45, o45 P), (46, o46v2 P), (52, o52 P), (58, o58 P), (59, o59 P), (64, o64 P), (70, o70 P), (71, o71 P), (80, o80 P), (87, o87 P), (94, o94 P), (101, o101 P), (108, o108 P), (115, o115 P), (122, o122 P), (129, o129 P), (136, o136 P), (143, o143 P), (150, o150 P), (157, o157 P), (164, o164 P), (171, o171 P), (174, o174 P), (185, o185 P), (192, o192 P), (199, o199 P), (206, o206 P), (220, o220 P), (227, o227 P), (234, o234 P), (243, o243 P), (244, o244 P), (262, o262 P), (269, o269 P), (283, o283 P), (290, o290 P), (291, o291 P), (298, o298 P), (305, o305 P), (306, o306 P), (313, o313 P), (316, o316 P), (327, o327 P), (364, o364 P), (365, o365 P), (376, o376 P), (383, o383 P), (390, o390 P), (393, o393 P), (404, o404 P), (411, o411 P), (418, o418 P), (425, o425 P), (432, o432 P), (449, o449 P), (470, o470 P), (477, o477 P), (479, o479 P), (480, o480 P), (491, o491 P), (494, o494 P), (505, o505 P), (512, o512 P), (519, o519 P), (526, o526 P), (538, o538 P), (545, o545 P), (552, o552 P), (559, o559 P), (566, o566 P), (587, o587 P), (594, o594 P), (596, o596 P), (597, o597 P), (604, o604 P), (615, o615 P), (638, o638 P), (639, o639v3 P), (646, o646 P), (657, o657 P), (673, o673 P), (674, o674 P), (679, o679 P), (684, o684 P), (691, o691 P), (707, o707 P), (708, o708 P), (713, o713 P), (718, o718 P), (725, o725 P), (760, o760 P), (761, o761 P), (766, o766 P), (771, o771 P), (778, o778 P), (813, o813 P), (814, o814 P), (825, o825 P), (832, o832 P), (839, o839 P), (846, o846 P), (853, o853 P), (860, o860 P), (867, o867 P), (874, o874 P), (881, o881 P), (888, o888 P), (895, o895 P), (902, o902 P), (909, o909 P), (916, o916 P), (923, o923 P), (930, o930 P), (937, o937 P), (944, o944 P), (951, o951 P), (958, o958 P), (965, o965 P), (972, o972 P), (979, o979 P), (986, o986 P), (993, o993 P), (998, o998 P), (1005, o1005 P), (1012, o1012 P), (1019, o1019 P), (1026, o1026 P), (1033, o1033 P), (1040, o1040 P), (1047, o1047 P), (1054, o1054 P), (1061, o1061 P), (1068, o1068 P), (1075, o1075 P), (1082, o1082 P), (1089, o1089 P), (1096, o1096 P), (1103, o1103 P), (1110, o1110 P), (1117, o1117 P), (1124, o1124 P), (35, o35 P), (79, o79 P), (86, o86 P), (93, o93 P), (100, o100 P), (107, o107 P), (114, o114 P), (121, o121 P), (128, o128 P), (135, o135 P), (142, o142 P), (149, o149 P), (156, o156 P), (163, o163 P), (170, o170 P), (184, o184 P), (191, o191 P), (198, o198 P), (205, o205 P), (219, o219 P), (226, o226 P), (233, o233 P), (261, o261 P), (268, o268 P), (282, o282 P), (289, o289 P), (297, o297 P), (304, o304 P), (312, o312 P), (326, o326 P), (375, o375 P), (382, o382 P), (389, o389 P), (403, o403 P), (410, o410 P), (417, o417 P), (424, o424 P), (431, o431 P), (448, o448 P), (469, o469 P), (476, o476 P), (490, o490 P), (504, o504 P), (511, o511 P), (518, o518 P), (525, o525 P), (537, o537 P), (544, o544 P), (551, o551 P), (558, o558 P), (565, o565 P), (586, o586 P), (593, o593 P), (614, o614 P), (656, o656 P), (690, o690 P), (724, o724 P), (777, o777 P), (824, o824 P), (831, o831 P), (838, o838 P), (845, o845 P), (852, o852 P), (859, o859 P), (866, o866 P), (873, o873 P), (880, o880 P), (887, o887 P), (894, o894 P), (901, o901 P), (908, o908 P), (915, o915 P), (922, o922 P), (929, o929 P), (936, o936 P), (943, o943 P), (950, o950 P), (957, o957 P), (964, o964 P), (971, o971 P), (978, o978 P), (985, o985 P), (992, o992 P), (997, o997 P), (1004, o1004 P), (1011, o1011 P), (1018, o1018 P), (1025, o1025 P), (1032, o1032 P), (1039, o1039 P), (1046, o1046 P), (1053, o1053 P), (1060, o1060 P), (1067, o1067 P), (1074, o1074 P), (1081, o1081 P), (1088, o1088 P), (1095, o1095 P), (1102, o1102 P), (1109, o1109 P), (1116, o1116 P), (1123, o1123 P)]
noncomputable def cadL : List (Nat × Nat) := [(57, 365), (143, 674), (145, 708), (142, 761), (177, 814), (181, 244), (193, 480), (161, 597), (79, 71), (209, 639)]
noncomputable def fadL : List (Nat × Nat) := [(1, 80), (3, 87), (5, 94), (7, 101), (9, 108), (11, 115), (13, 122), (16, 129), (17, 136), (18, 143), (20, 150), (24, 157), (26, 164), (29, 171), (30, 262), (37, 269), (39, 283), (42, 290), (43, 298), (45, 305), (48, 313), (49, 376), (54, 383), (55, 390), (59, 491), (61, 825), (62, 832), (65, 839), (67, 846), (68, 853), (70, 860), (72, 867), (76, 874), (80, 881), (81, 888), (82, 895), (86, 902), (92, 909), (102, 916), (105, 923), (106, 930), (109, 937), (110, 944), (111, 951), (112, 958), (117, 965), (118, 972), (119, 979), (121, 986), (124, 993), (130, 998), (132, 1005), (136, 1012), (138, 1019), (139, 1026), (140, 1033), (141, 1040), (144, 1047), (147, 1054), (149, 1061), (151, 1068), (155, 1075), (156, 1082), (157, 1089), (162, 1096), (164, 1103), (165, 1110), (171, 1117), (178, 1124), (700, 185), (701, 192), (702, 199), (703, 206), (704, 220), (705, 227), (706, 234), (707, 327), (708, 404), (709, 411), (710, 418), (711, 425), (712, 432), (713, 470), (714, 477), (715, 505), (716, 512), (717, 519), (718, 526), (719, 538), (720, 545), (721, 552), (722, 559), (723, 566), (724, 587), (725, 594), (726, 615), (727, 657), (728, 691), (729, 725), (730, 778), (731, 449)]
noncomputable def cadF (c : Nat) : Nat := (lkN c cadL).getD 0
noncomputable def fadF (f : Nat) : Nat := (lkN f fadL).getD 0
@[irreducible] noncomputable def gmT (P : Params) : Str → Option Value := (H1 P).nsMap mainGlobals
@[irreducible] noncomputable def bmT (P : Params) : Str → Option Value := (H1 P).nsMap builtinsNs
noncomputable def lam (w : World) : Ly := ⟨tab, pw, w, cadF, fadF, H1 w.params, kk w.params, gmT w.params, bmT w.params⟩
theorem kin (w : World) : (kk w.params).In (H1 w.params) := Frag.in_of (as := kAd) (by kernel_rfl) (by kernel_rfl)
theorem lkN_mem {α : Type} {k : Nat} {v : α} : ∀ l : List (Nat × α), lkN k l = some v → (k, v) ∈ l := by
  intro l
  induction l with
  | nil => intro h; cases h
  | cons p r ih =>
    intro h
    have h : cond (Nat.beq k p.1) (some p.2) (lkN k r) = some v := h
    cases e : Nat.beq k p.1 with
    | true => rw [e] at h; rw [Nat.eq_of_beq_eq_true e, ← Option.some.inj h]; exact .head _
    | false => rw [e] at h; exact .tail _ (ih h)
theorem getD_mem {α : Type} {k : Nat} {l : List (Nat × List α)} {x : α} (h : x ∈ (lkN k l).getD []) : ∃ v, (k, v) ∈ l ∧ x ∈ v := by
  cases e : lkN k l with
  | none => rw [e] at h; cases h
  | some v => rw [e] at h; exact ⟨v, lkN_mem _ e, h⟩
theorem all_at {α : Type} {f : α → Bool} {l : List α} (h : l.all f = true) {x : α} (m : x ∈ l) : f x = true := List.all_eq_true.mp h x m
noncomputable def cdOf (s : Str) : Nat := s.cps.toList.foldr (fun c n => Nat.add c (Nat.mul 1114112 n)) 1
noncomputable def ndN (l : List Nat) : Bool := List.rec true (fun x r ih => r.all (fun y => !Nat.beq x y) && ih) l
theorem ndN_all {x : Nat} {l : List Nat} (h : l.all (fun y => !Nat.beq x y) = true) (m : x ∈ l) : False := by
  have h := all_at h m
  rw [Nat.beq_refl] at h; cases h
theorem ndN_nodup : ∀ l : List Nat, ndN l = true → l.Nodup := List.rec (fun _ => .nil) fun _ _ ih h => List.nodup_cons.mpr ⟨ndN_all (andL h), ih (andR h)⟩
theorem nms_nd : ndN ((List.range 210).map fun i => cdOf (nmT i)) = true := by kernel_rfl
theorem inj_map {f : Nat → Nat} {x y : Nat} (e : f x = f y) : ∀ l : List Nat, ndN (l.map f) = true → x ∈ l → y ∈ l → x = y :=
  List.rec (fun _ hx _ => nomatch hx) fun z r ih h hx hy => (List.mem_cons.mp hx).elim (fun a => (List.mem_cons.mp hy).elim (fun b => a.trans b.symm) fun b => (ndN_all (andL h) (a ▸ e ▸ List.mem_map_of_mem b)).elim)
    fun a => (List.mem_cons.mp hy).elim (fun b => (ndN_all (andL h) (b ▸ e ▸ List.mem_map_of_mem a)).elim) fun b => ih (andR h) a b
theorem nm_inj (x y : Nat) (hx : x < 210) (hy : y < 210) (e : nmT x = nmT y) : x = y :=
  inj_map (f := fun i => cdOf (nmT i)) (congrArg cdOf e) _ nms_nd (List.mem_range.mpr hx) (List.mem_range.mpr hy)
noncomputable def fldC (P : Params) (p : Nat × List Nat) : Bool := p.2.all (fun x => Nat.blt x 210 && attrOk (kk P) (cadF p.1) (nmT x)) && Nat.ble p.2.length 100
theorem fld_ok (P : Params) : fldL.all (fldC P) = true := by kernel_rfl
noncomputable def fnAt (x : Option (Option Value)) (a : Nat) : Bool := decide (x = some (some (.ref a)))
noncomputable def methC (P : Params) (p : Nat × List (Nat × Nat)) : Bool := p.2.all fun q => Nat.blt q.1 210 && ((fldT p.1).all (fun x => !Nat.beq x q.1) && (decide (findIn (kk P) (.ref (cadF p.1)) (nmT q.1) = some (some (.ref (fadF q.2)))) &&
  (isFn (kk P) (.ref (fadF q.2)) && (plainGet (kk P) (cadF p.1) (nmT q.1) && keepIn (kk P) (.ref (fadF q.2))))))
theorem meth_ok (P : Params) : methL.all (methC P) = true := by kernel_rfl
noncomputable def valR (x : Option CFound) (a : Nat) : Bool := match x with
  | some (.val (.ref b)) => Nat.beq b a
  | _ => false
theorem valR_eq {x : Option CFound} {a : Nat} (h : valR x a = true) : x = some (.val (.ref a)) := by
  unfold valR at h
  split at h
  · rw [Nat.eq_of_beq_eq_true h]
  · cases h
noncomputable def initC (P : Params) (p : Nat × Nat) : Bool :=
  (makesIn (kk P) (cadF p.1) && (keepIn (kk P) (.ref (cadF p.1)) && (decide (findIn (kk P) (.ref (cadF p.1)) "__init__" = some (some (.ref (fadF p.2)))) && (decide (typeIn (kk P) (.ref (fadF p.2)) = some (.type "function")) &&
  (decide (specialIn (kk P) (.ref (cadF p.1)) "__getattribute__" = some (some (.builtin "type.__getattribute__"))) && (readsIn (kk P) (cadF p.1) (.type "type") && (valR (findCls (kk P) (.ref (cadF p.1)) (.type "type") "__init__") (fadF p.2) &&
  keepIn (kk P) (.ref (fadF p.2))))))))) && decide (gmT P (nmT p.1) = some (.ref (cadF p.1)))
theorem init_ok (P : Params) : initL.all (initC P) = true := by kernel_rfl
theorem init_mem {c : Nat} (h : 0 < initT c) : (c, initT c) ∈ initL := by
  have h : 0 < (lkN c initL).getD 0 := h
  show (c, (lkN c initL).getD 0) ∈ _
  cases e : lkN c initL with
  | none => rw [e] at h; exact absurd h (Nat.lt_irrefl _)
  | some v => exact lkN_mem _ e
theorem gr (w : World) : Gr (lam w) where
  kin := kin w
  inj := nm_inj
  fn := fun c x hx => (getD_mem hx).elim fun v h => ble_lt (andL (all_at (andL (all_at (fld_ok w.params) h.1)) h.2))
  fl := fun c => by
    show ((lkN c fldL).getD []).length ≤ 100
    cases e : lkN c fldL with
    | none => exact Nat.zero_le _
    | some v => exact Nat.le_of_ble_eq_true (andR (all_at (fld_ok w.params) (lkN_mem _ e)))
  attr := fun c x hx => (getD_mem hx).elim fun v h => andR (all_at (andL (all_at (fld_ok w.params) h.1)) h.2)
noncomputable def repC (u : Option Value) (v : V) : Bool := match u, v with
  | some (.int i _), .int j => decide (i = j)
  | some (.str s _), .str t => seq s t
  | _, _ => false
theorem repC_is {u : Option Value} {v : V} (h : repC u v = true) : ∃ x, u = some x ∧ ∀ Λ W, Rep Λ W x v := by
  unfold repC at h
  split at h
  · exact ⟨_, rfl, fun _ _ => ⟨_, congrArg (Value.int · _) (of_decide_eq_true h)⟩⟩
  · exact ⟨_, rfl, fun _ _ => ⟨_, congrArg (Value.str · _) (seq_iff.mp h)⟩⟩
  · cases h
theorem glob_ok (P : Params) : globL.all (fun p => repC (gmT P (nmT p.1)) p.2) = true := by kernel_rfl
noncomputable def inB (P : Params) (x : String) (v : Value) : Bool := decide (gmT P (Str.ofString x) = none) && decide (bmT P (Str.ofString x) = some v)
theorem inB_is {P : Params} {x : String} {v : Value} (h : inB P x v = true) : gmT P (Str.ofString x) = none ∧ bmT P (Str.ofString x) = some v := ⟨of_decide_eq_true (andL h), of_decide_eq_true (andR h)⟩
theorem bi_ok (P : Params) (b : BI) : inB P (biName b) (biVal b) = true := by cases b <;> kernel_rfl
theorem rng_ok (P : Params) : inB P "range" (.type "range") = true := by kernel_rfl
theorem enum_ok (P : Params) : inB P "enumerate" (.type "enumerate") = true := by kernel_rfl
theorem exc_ok (P : Params) : inB P "Exception" (.type "Exception") = true := by kernel_rfl
theorem isg (P : Params) : (H1 P).isNs mainGlobals = true := by kernel_rfl
theorem isb (P : Params) : (H1 P).isNs builtinsNs = true := by kernel_rfl
theorem me_gm (P : Params) : gmT P (nmT 79) = some (.ref (cadF 79)) := by kernel_rfl
theorem nolim (P : Params) : (H1 P).noLimitOk = true := by kernel_rfl
theorem me_cls (P : Params) : ∃ nm q N bs bm hdct sn sub ab col dd k0 k1 k2 k3 k5, (kk P).lookup 71 = some (excClassObj nm q 71 N bs bm hdct sn sub ab col dd k0 k1 k2 k3 k5 "Exception.__new__") ∧ bm.contains (.type "Exception") = true ∧
    bm.contains (.type "AttributeError") = false ∧ bm.contains (.type "NameError") = false ∧ bm.contains (.type "BaseException") = true :=
  ⟨_, _, _, _, _, _, _, _, _, _, _, _, _, _, _, _, rfl, by decide +kernel, by decide +kernel, by decide +kernel, by decide +kernel⟩
noncomputable def fnmC (P : Params) (p : Nat × Fn) : Bool := Nat.ble 210 p.1 || (decide (gmT P (nmT p.1) = some (.ref (fadF p.1))) && keepIn (kk P) (.ref (fadF p.1)))
theorem fnm_ok (P : Params) : fnL.all (fnmC P) = true := by kernel_rfl
theorem gns_ (P : Params) : (H1 P).Ns mainGlobals (gmT P) := by unfold gmT; exact Heap.Ns.of_isNs (isg P)
theorem bns_ (P : Params) : (H1 P).Ns builtinsNs (bmT P) := by unfold bmT; exact Heap.Ns.of_isNs (isb P)
theorem gl (w : World) : Gl (lam w) where
  toGr := gr w
  gns := gns_ w.params
  bns := bns_ w.params
  glob := fun x v h => (repC_is (all_at (glob_ok w.params) (lkN_mem _ h))).imp fun u h => ⟨h.1, h.2 _⟩
  cls := fun c h => of_decide_eq_true (andR (all_at (init_ok w.params) (init_mem h)))
  bi := fun b => inB_is (bi_ok w.params b)
  rng := inB_is (rng_ok w.params)
  enum := inB_is (enum_ok w.params)
  fnm := fun f h => by
    have h : ((lkN f fnL).isSome && Nat.blt f 210) = true := h
    cases e : lkN f fnL with
    | none => rw [e] at h; cases h
    | some fn =>
      exact (Bool.or_eq_true_iff.mp (all_at (fnm_ok w.params) (lkN_mem _ e))).elim (fun q => absurd (ble_lt (andR h)) (Nat.not_lt.mpr (Nat.le_of_ble_eq_true q))) fun q => ⟨of_decide_eq_true (andL q), andR q⟩
  sysm := ⟨_, kin w 1 _ rfl⟩
  mexc := by
    obtain ⟨nm, q, N, bs, bm, hdct, sn, sub, ab, col, dd, k0, k1, k2, k3, k5, h, _, _, _, hb⟩ := me_cls w.params
    exact ⟨nm, q, N, bs, bm, hdct, sn, sub, ab, col, dd, k0, k1, k2, k3, k5, _, kin w _ _ h, hb⟩
  mexn := me_gm w.params
  meth := fun c m f h => (getD_mem (lkN_mem _ h)).elim fun v h =>
    have h1 := all_at (all_at (meth_ok w.params) h.1) h.2
    have h2 := andR h1
    have h3 := andR h2
    ⟨ble_lt (andL h1), fun x hx q => ndN_all (x := x) (l := [m]) (by have := all_at (andL h2) hx; simpa using this) (q ▸ .head _), of_decide_eq_true (andL h3), andL (andR h3), andL (andR (andR h3)), andR (andR (andR h3))⟩
  make := fun c h =>
    have h0 := andL (all_at (init_ok w.params) (init_mem h))
    have h1 := andR h0
    have h2 := andR h1
    have h3 := andR h2
    have h4 := andR h3
    have h5 := andR h4
    have h6 := andR h5
    ⟨andL h0, andL h1, of_decide_eq_true (andL h2), of_decide_eq_true (andL h3), of_decide_eq_true (andL h4), andL h5, valR_eq (andL h6), andR h6⟩
end Mine
namespace Mine
noncomputable def isNn : Value → Bool
  | .none => true
  | _ => false
theorem isNn_eq {v : Value} (h : isNn v = true) : v = .none := by cases v <;> first | rfl | cases h
noncomputable def bodyOf (fd : FuncData) : List Stmt := match fd.body with
  | .stmts b => b
  | .expr _ => []
noncomputable def rcFd (fd : FuncData) : Rc := ⟨fd.name, fd.qualname, fd.params, bodyOf fd, fd.scope, fd.pyModule, fd.code, fd.doc, fd.defaults⟩
noncomputable def fdOk (fd : FuncData) : Bool := (match fd.body with
  | .stmts _ => true
  | .expr _ => false) && Nat.beq fd.globals 3 && fd.closure.isEmpty && isNn fd.kwdefaults && fd.annotations.isNone && isNn fd.closureTuple && Nat.beq fd.builtins 0
theorem fd_of {fd : FuncData} (h : fdOk fd = true) : fd = (rcFd fd).fd := by
  obtain ⟨n, q, ps, b, sc, g, cl, dv, kv, doc, pm, an, cd, ct, bl⟩ := fd
  unfold fdOk at h
  simp only [Bool.and_eq_true] at h
  obtain ⟨⟨⟨⟨⟨⟨a, h1⟩, h2⟩, h3⟩, h4⟩, h5⟩, h6⟩ := h
  obtain rfl := Nat.eq_of_beq_eq_true h1
  obtain rfl := List.isEmpty_iff.mp h2
  obtain rfl := isNn_eq h3
  obtain rfl := Option.isNone_iff_eq_none.mp h4
  obtain rfl := isNn_eq h5
  obtain rfl := Nat.eq_of_beq_eq_true h6
  cases b with
  | stmts b => rfl
  | expr e => cases a
noncomputable def fdA (P : Params) (a : Nat) : Option FuncData := match (kk P).lookup a with
  | some ⟨_, _, .func fd, _⟩ => some fd
  | _ => none
theorem fdA_is {P : Params} {a : Nat} {fd : FuncData} (h : fdA P a = some fd) : ∃ o, (kk P).lookup a = some o ∧ o.data = .func fd := by
  unfold fdA at h
  split at h
  · rename_i e; cases h; exact ⟨_, e, rfl⟩
  · cases h
noncomputable def rcA (P : Params) (a : Nat) : Rc := match fdA P a with
  | some fd => rcFd fd
  | none => ⟨Str.empty, Str.empty, default, [], default, .none, .none, .none, .none⟩
noncomputable def cdC (P : Params) (fd : FuncData) : Bool := match fd.code with
  | .ref c => (match (kk P).lookup c with
    | some ⟨_, _, .fields vs, _⟩ => (match vs.toList with
      | _ :: .str q _ :: _ => seq q fd.qualname
      | _ => false)
    | _ => false)
  | _ => false
theorem cdC_is {w : World} {fd : FuncData} (h : cdC w.params fd = true) : (H1 w.params).CodeRec fd.code fd.qualname := by
  unfold cdC at h
  split at h
  · rename_i c hc
    split at h
    · rename_i vs _ e
      split at h
      · rename_i q t r e2
        refine ⟨c, _, vs, t, hc, kin w _ _ e, rfl, ?_⟩
        rw [← Array.getElem?_toList, e2, ← seq_iff.mp h]; rfl
      · cases h
    · cases h
  · cases h
noncomputable def scC (sc : Scope) : Bool := !sc.isCoroutine && !sc.isGenerator && (match sc.kind with
  | .function => true
  | _ => false) && sc.names.all fun x => match x.2 with
  | .cell => false
  | _ => true
theorem scC_is {r : Rc} (h : scC r.scope = true) : r.ok := by
  unfold scC at h
  simp only [Bool.and_eq_true, Bool.not_eq_true', List.all_eq_true] at h
  obtain ⟨⟨⟨a, b⟩, c⟩, d⟩ := h
  refine ⟨a, b, ?_, fun x hx e => ?_⟩
  · split at c
    · assumption
    · cases c
  · have := d x hx; rw [e] at this; cases this
noncomputable def bdC (ps : List Nat) (ds : List V) (fd : FuncData) : Bool := (List.casesOn ds (match fd.params with
    | ⟨[], as, none, [], [], none, _⟩ => chArgs ps as && isNn fd.defaults
    | _ => false) fun _ _ => true) && (ps.all (fun x => Nat.blt x 210 && isLoc fd.scope (nmT x)) && ndN ps)
noncomputable def fnC (P : Params) (p : Nat × Fn) : Bool := match fdA P (fadF p.1) with
  | some fd => fdOk fd && (cdC P fd && (scC fd.scope && (bdC p.2.ps p.2.ds fd && okB tab fd.scope p.2.body (posB (bodyOf fd)))))
  | none => false
noncomputable def fnX : List (Nat × Fn) := (714, f_Memory_told) :: fnL
noncomputable def bodyA (P : Params) (a : Nat) : List Stmt := match fdA P a with
  | some fd => bodyOf fd
  | none => []
theorem fn_ok (P : Params) : fnX.all (fnC P) = true := by kernel_rfl
theorem fn_b (P : Params) : fnX.map (fun p => bodyA P (fadF p.1)) = fnX.map fun p => toB tab p.2.body (posB (bodyA P (fadF p.1))) := by kernel_rfl
theorem Reps.drop {Λ : Ly} {W : Wd} {us : List Value} {l : List V} (h : Reps Λ W us l) : ∀ k : Nat, Reps Λ W (us.drop k) (l.drop k) :=
  Reps.ind (P := fun l us => ∀ k : Nat, Reps Λ W (us.drop k) (l.drop k)) (fun k => by rw [List.drop_nil, List.drop_nil]; exact .nil) (fun u v us l r rs ih k => by
    cases k with
    | zero => exact .cons r rs
    | succ k => exact ih k) l us h
theorem arg_names : ∀ (ps : List Nat) (as : List Arg), chArgs ps as = true → as.map (·.arg) = ps.map nmT := by
  intro ps
  induction ps with
  | nil => intro as h; cases as <;> first | rfl | cases h
  | cons x ps ih =>
    intro as h
    cases as with
    | nil => cases h
    | cons a as => rw [List.map_cons, List.map_cons, seq_iff.mp (andL h), ih as (andR h)]
noncomputable def BindOk (w : World) (r : Rc) (ps : List Nat) (ds : List V) : Prop :=
  ∀ args, okN ps ds args = true → ∀ (z : Z) vals, SR (lam w) z → Reps (lam w) z.W vals args →
    ∃ binds : List (Str × Value), BindsTo z.s r.fd ⟨vals, []⟩ binds ∧ (∀ x ∈ binds, r.scope.names.lookup x.1 = some .local) ∧ ∀ (x : Nat) v, look x (bindP ps ds args) = some v → x < (lam w).T.n ∧ ∃ u, binds.reverse.lookup ((lam w).T.nm x) = some u ∧ Rep (lam w) z.W u v
theorem bind_all {w : World} {r : Rc} {ps : List Nat} {ds : List V} {dv : List Value} (hd : ∀ W, Reps (lam w) W dv ds) (hps : ∀ x, x ∈ ps → x < 210 ∧ r.scope.names.lookup (nmT x) = some .local) (nd : ps.Nodup)
    (hB : ∀ (s : Shared) (vals : List Value), Kp (H1 w.params) s.heap → vals.length ≤ ps.length → ps.length ≤ vals.length + dv.length →
      BindsTo s r.fd ⟨vals, []⟩ ((ps.map nmT).zip (vals ++ dv.drop (dv.length - (ps.length - vals.length))))) : BindOk w r ps ds := by
  intro args hb z vals sr rs
  have l1 := Nat.le_of_ble_eq_true (andL hb)
  have l2 := Nat.le_of_ble_eq_true (andR hb)
  have e1 := rs.length
  have e2 := (hd z.W).length
  rw [← e1] at l1
  rw [← e1, ← e2] at l2
  refine ⟨_, hB z.s vals (fun b o e => sr.fz _ _ (sr.base _ _ e)) l1 l2, fun x hx => ?_, fun x v hx => ?_⟩
  · exact (List.mem_map.mp (List.of_mem_zip (show (x.1, x.2) ∈ _ from hx)).1).elim fun y h => h.2 ▸ (hps y h.1).2
  · rw [bindP_zip _ _ _ (e1 ▸ l1), ← e1, ← e2] at hx
    obtain ⟨i, h1, h2⟩ := look_at _ _ hx
    obtain ⟨u, h3, h4⟩ := (Reps.get (Reps.append rs (Reps.drop (hd z.W) _)) h2)
    have hl : vals.length + (dv.length - (dv.length - (ps.length - vals.length))) = ps.length := by (first | lia | omega)
    refine ⟨(hps x (List.mem_of_getElem? h1)).1, u, lookup_mem ?_ ?_, h4⟩
    · rw [List.map_reverse, List.map_fst_zip (by rw [List.length_map, List.length_append, List.length_drop, hl]; exact Nat.le_refl _)]
      exact (List.reverse_perm _).symm.nodup (nodup_map (fun x hx y hy e => nm_inj x y (hps x hx).1 (hps y hy).1 e) nd)
    · rw [List.mem_reverse]
      refine List.mem_of_getElem? (i := i) ?_
      rw [List.getElem?_zip_eq_some]
      exact ⟨by rw [List.getElem?_map, h1]; rfl, h3⟩
theorem bd_of {ps : List Nat} {ds : List V} {fd : FuncData} (h : bdC ps ds fd = true) : (∀ x, x ∈ ps → x < 210 ∧ fd.scope.names.lookup (nmT x) = some .local) ∧ ps.Nodup :=
  ⟨fun x hx => have b := all_at (andL (andR h)) hx; ⟨ble_lt (andL b), (isLoc_iff (andR b)).1⟩, ndN_nodup _ (andR (andR h))⟩
theorem bind_none {w : World} {fd : FuncData} {ps : List Nat} (h : bdC ps [] fd = true) : BindOk w (rcFd fd) ps [] := by
  obtain ⟨h1, h2⟩ := bd_of h
  have a := andL h
  dsimp only at a
  split at a
  · rename_i as dd e
    have e2 := arg_names _ _ (andL a)
    refine bind_all (dv := []) (fun W => rfl) h1 h2 fun s vals k l1 l2 => ?_
    rw [List.drop_nil, List.append_nil, ← e2]
    refine BindsTo.of_eq (bind_plain (fd := (rcFd fd).fd) e (isNn_eq (andR a)) ?_ ?_)
    · rw [Nat.le_antisymm l1 l2, ← List.length_map nmT, ← e2, List.length_map]
    · rw [e2]
      exact nodup_map (fun x hx y hy e => nm_inj x y (h1 x hx).1 (h1 y hy).1 e) h2
  · cases a
set_option maxHeartbeats 1000000
theorem bind_43 (w : World) {fd : FuncData} (hf : fdA w.params 298 = some fd) (h : bdC f_sure_flags.ps f_sure_flags.ds fd = true) : BindOk w (rcFd fd) f_sure_flags.ps f_sure_flags.ds := by
  obtain ⟨h1, h2⟩ := bd_of h
  cases hf
  refine bind_all (dv := [_]) (fun W => .one ⟨556, rfl⟩) h1 h2 fun s vals k l1 l2 => ?_
  have hT := k _ _ (kin w 291 _ rfl)
  rcases vals with _ | ⟨a, _ | ⟨b, _ | ⟨c, t⟩⟩⟩
  · exact absurd (show false = true from Nat.ble_eq_true_of_le l2) Bool.false_ne_true
  · exact BindsTo.of_defaults rfl hT rfl rfl rfl
  · exact BindsTo.of_defaults rfl hT rfl rfl rfl
  · exact absurd (show false = true from Nat.ble_eq_true_of_le l1) Bool.false_ne_true
theorem bind_48 (w : World) {fd : FuncData} (hf : fdA w.params 313 = some fd) (h : bdC f_undefined_flags.ps f_undefined_flags.ds fd = true) : BindOk w (rcFd fd) f_undefined_flags.ps f_undefined_flags.ds := by
  obtain ⟨h1, h2⟩ := bd_of h
  cases hf
  refine bind_all (dv := [_, _]) (fun W => .cons ⟨576, rfl⟩ (.one ⟨577, rfl⟩)) h1 h2 fun s vals k l1 l2 => ?_
  have hT := k _ _ (kin w 306 _ rfl)
  rcases vals with _ | ⟨a, _ | ⟨b, _ | ⟨c, _ | ⟨d, t⟩⟩⟩⟩
  · exact absurd (show false = true from Nat.ble_eq_true_of_le l2) Bool.false_ne_true
  · exact BindsTo.of_defaults rfl hT rfl rfl rfl
  · exact BindsTo.of_defaults rfl hT rfl rfl rfl
  · exact BindsTo.of_defaults rfl hT rfl rfl rfl
  · exact absurd (show false = true from Nat.ble_eq_true_of_le l1) Bool.false_ne_true
theorem bind_728 (w : World) {fd : FuncData} (hf : fdA w.params 691 = some fd) (h : bdC f_Imm_init.ps f_Imm_init.ds fd = true) : BindOk w (rcFd fd) f_Imm_init.ps f_Imm_init.ds := by
  obtain ⟨h1, h2⟩ := bd_of h
  cases hf
  refine bind_all (dv := [_]) (fun W => .one ⟨1078, rfl⟩) h1 h2 fun s vals k l1 l2 => ?_
  have hT := k _ _ (kin w 684 _ rfl)
  rcases vals with _ | ⟨a, _ | ⟨b, _ | ⟨c, _ | ⟨d, t⟩⟩⟩⟩
  · exact absurd (show false = true from Nat.ble_eq_true_of_le l2) Bool.false_ne_true
  · exact absurd (show false = true from Nat.ble_eq_true_of_le l2) Bool.false_ne_true
  · exact BindsTo.of_defaults rfl hT rfl rfl rfl
  · exact BindsTo.of_defaults rfl hT rfl rfl rfl
  · exact absurd (show false = true from Nat.ble_eq_true_of_le l1) Bool.false_ne_true
theorem bind_729 (w : World) {fd : FuncData} (hf : fdA w.params 725 = some fd) (h : bdC f_Mem_init.ps f_Mem_init.ds fd = true) : BindOk w (rcFd fd) f_Mem_init.ps f_Mem_init.ds := by
  obtain ⟨h1, h2⟩ := bd_of h
  cases hf
  refine bind_all (dv := [_, _, _]) (fun W => .cons ⟨1120, rfl⟩ (.cons ⟨1121, rfl⟩ (.one ⟨1122, rfl⟩))) h1 h2 fun s vals k l1 l2 => ?_
  have hT := k _ _ (kin w 718 _ rfl)
  rcases vals with _ | ⟨a, _ | ⟨b, _ | ⟨c, _ | ⟨d, _ | ⟨e, _ | ⟨f, _ | ⟨g, _ | ⟨h, _ | ⟨i, t⟩⟩⟩⟩⟩⟩⟩⟩⟩
  · exact absurd (show false = true from Nat.ble_eq_true_of_le l2) Bool.false_ne_true
  · exact absurd (show false = true from Nat.ble_eq_true_of_le l2) Bool.false_ne_true
  · exact absurd (show false = true from Nat.ble_eq_true_of_le l2) Bool.false_ne_true
  · exact absurd (show false = true from Nat.ble_eq_true_of_le l2) Bool.false_ne_true
  · exact absurd (show false = true from Nat.ble_eq_true_of_le l2) Bool.false_ne_true
  · exact BindsTo.of_defaults rfl hT rfl rfl rfl
  · exact BindsTo.of_defaults rfl hT rfl rfl rfl
  · exact BindsTo.of_defaults rfl hT rfl rfl rfl
  · exact BindsTo.of_defaults rfl hT rfl rfl rfl
  · exact absurd (show false = true from Nat.ble_eq_true_of_le l1) Bool.false_ne_true
theorem bind_730 (w : World) {fd : FuncData} (hf : fdA w.params 778 = some fd) (h : bdC f_Instruction_init.ps f_Instruction_init.ds fd = true) : BindOk w (rcFd fd) f_Instruction_init.ps f_Instruction_init.ds := by
  obtain ⟨h1, h2⟩ := bd_of h
  cases hf
  refine bind_all (dv := [_]) (fun W => .one ⟨1196, rfl⟩) h1 h2 fun s vals k l1 l2 => ?_
  have hT := k _ _ (kin w 771 _ rfl)
  rcases vals with _ | ⟨a, _ | ⟨b, _ | ⟨c, _ | ⟨d, _ | ⟨e, t⟩⟩⟩⟩⟩
  · exact absurd (show false = true from Nat.ble_eq_true_of_le l2) Bool.false_ne_true
  · exact absurd (show false = true from Nat.ble_eq_true_of_le l2) Bool.false_ne_true
  · exact absurd (show false = true from Nat.ble_eq_true_of_le l2) Bool.false_ne_true
  · exact BindsTo.of_defaults rfl hT rfl rfl rfl
  · exact BindsTo.of_defaults rfl hT rfl rfl rfl
  · exact absurd (show false = true from Nat.ble_eq_true_of_le l1) Bool.false_ne_true
theorem fn_dfl : fnX.filter (fun p => !p.2.ds.isEmpty) = [(43, f_sure_flags), (48, f_undefined_flags), (728, f_Imm_init), (729, f_Mem_init), (730, f_Instruction_init)] := by rfl
theorem fn_is {P : Params} {f : Nat} {fn : Fn} (h : (f, fn) ∈ fnX) : ∃ fd, fdA P (fadF f) = some fd ∧ rcA P (fadF f) = rcFd fd ∧ fdOk fd = true ∧ cdC P fd = true ∧ scC fd.scope = true ∧ bdC fn.ps fn.ds fd = true ∧ (bodyOf fd = toB tab fn.body (posB (bodyOf fd)) ∧ okB tab fd.scope fn.body (posB (bodyOf fd)) = true) := by
  have h1 := all_at (fn_ok P) h
  have hb := List.map_inj_left.mp (fn_b P) _ h
  unfold fnC at h1
  unfold bodyA at hb
  split at h1
  · rename_i fd e
    dsimp only at e hb
    rw [e] at hb
    exact ⟨fd, e, by unfold rcA; rw [e], andL h1, andL (andR h1), andL (andR (andR h1)), andL (andR (andR (andR h1))), hb, andR (andR (andR (andR h1)))⟩
  · cases h1
theorem bind_ok (w : World) {f : Nat} {fn : Fn} (h : (f, fn) ∈ fnX) : BindOk w (rcA w.params (fadF f)) fn.ps fn.ds := by
  obtain ⟨fd, e, er, _, _, _, hb, _⟩ := fn_is (P := w.params) h
  rw [er]
  by_cases q : fn.ds = []
  · rw [q] at hb ⊢
    exact bind_none hb
  · have m : (f, fn) ∈ fnX.filter (fun p => !p.2.ds.isEmpty) := List.mem_filter.mpr ⟨h, by
      cases z : fn.ds with
      | nil => exact absurd z q
      | cons a b => rfl⟩
    rw [fn_dfl] at m
    simp only [List.mem_cons, List.not_mem_nil, or_false, Prod.mk.injEq] at m
    rcases m with ⟨rfl, rfl⟩ | ⟨rfl, rfl⟩ | ⟨rfl, rfl⟩ | ⟨rfl, rfl⟩ | ⟨rfl, rfl⟩
    · exact bind_43 w e hb
    · exact bind_48 w e hb
    · exact bind_728 w e hb
    · exact bind_729 w e hb
    · exact bind_730 w e hb
theorem gf (w : World) (fns : Nat → Option Fn) (hx : ∀ f fn, fns f = some fn → (f, fn) ∈ fnX) : Gf (lam w) fns (fun f => rcA w.params (fadF f)) where
  toGl := gl w
  obj := fun f fn h => by
    obtain ⟨fd, e, er, a, b, _⟩ := fn_is (P := w.params) (hx f fn h)
    obtain ⟨o, ho, hd⟩ := fdA_is e
    exact ⟨o, kin w _ _ ho, by rw [er, hd, ← fd_of a], by rw [er]; exact cdC_is b⟩
  chk := fun f fn h => by
    obtain ⟨fd, e, er, _, _, _, _, g⟩ := fn_is (P := w.params) (hx f fn h)
    rw [er]; exact ⟨_, g⟩
  sc := fun f fn h => by
    obtain ⟨fd, e, er, _, _, s, _⟩ := fn_is (P := w.params) (hx f fn h)
    rw [er]; exact scC_is s
  lim := .of_ok (nolim _)
  bind := fun f fn args h hb => bind_ok w (hx f fn h) args hb
end Mine
namespace Mine
noncomputable def meC (P : Params) : Bool := keepIn (kk P) (.ref 71) && decide (findIn (kk P) (.ref 71) "__init__" = some (some (.ref 36))) && decide (typeIn (kk P) (.ref 36) = some (.type "function")) && hasDictIn (kk P) 71 &&
  decide (findIn (kk P) (.ref 71) "__setattr__" = some (some (.builtin "object.__setattr__"))) && decide (takerIn (kk P) 71 "what" = some none) && decide (takerIn (kk P) 71 "at" = some none) &&
  decide (findIn (kk P) (.type "type") "__getattribute__" = some (some (.builtin "type.__getattribute__"))) && decide (subIn (kk P) (.type "type") (.type "type") = some true) &&
  (match findCls (kk P) (.type "Exception") (.type "type") "__init__" with
    | some (.val (.builtin b)) => decide (b = "Exception.__init__")
    | _ => false)
theorem me_ok (P : Params) : meC P = true := by kernel_rfl
noncomputable def meFd : FuncData := fd (sb (st 2) 0) "MintError.__init__" 3 (.ref 29) .none .none (.str "octetmint.basics" 194) (.ref 35)
theorem me_fd (P : Params) : fdA P 36 = some meFd := rfl
theorem me_rc (P : Params) : rcA P 36 = rcFd meFd := by unfold rcA; rw [me_fd]
theorem me_f1 : fdOk meFd = true := by kernel_rfl
theorem me_f2 (P : Params) : cdC P meFd = true := by kernel_rfl
theorem me_f3 : scC meFd.scope = true := by kernel_rfl
theorem me_l1 : lkp "self" meFd.scope.names = some .local := by kernel_rfl
theorem me_l2 : lkp "what" meFd.scope.names = some .local := by kernel_rfl
theorem me_l3 : lkp "at" meFd.scope.names = some .local := by kernel_rfl
theorem me_l4 : lkp "Exception" meFd.scope.names = some .globalImplicit := by kernel_rfl
theorem me (w : World) : Me (lam w) 36 (rcA w.params 36) := by
  have h := me_ok w.params
  unfold meC at h
  simp only [Bool.and_eq_true, decide_eq_true_eq] at h
  obtain ⟨⟨⟨⟨⟨⟨⟨⟨⟨a, b⟩, c⟩, d⟩, e⟩, g⟩, i⟩, j⟩, k⟩, l⟩ := h
  rw [me_rc]
  refine ⟨?_, a, b, c, d, e, ⟨_, [71, 46], rfl, rfl⟩, g, i, ?_, scC_is me_f3, ⟨(lkp_eq _ _).symm.trans me_l1, (lkp_eq _ _).symm.trans me_l2, (lkp_eq _ _).symm.trans me_l3, (lkp_eq _ _).symm.trans me_l4⟩, ⟨_, _, _, _, _, _, _, _, _, _, _, _, _, _, rfl, rfl⟩, fun s u v k => BindsTo.of_defaults rfl (k _ _ (kin w 29 _ rfl)) rfl rfl rfl, inB_is (exc_ok w.params),
    fun M h k => Looks.of_pure (by kernel_rfl), fun M h k => Looks.of_pure (by kernel_rfl), fun M h k => ⟨none, Looks.of_pure (by kernel_rfl)⟩, j, k, ?_, .of_ok (nolim _)⟩
  · obtain ⟨nm, q, N, bs, bm, hdct, sn, sub, ab, col, dd, k0, k1, k2, k3, k5, h, hb⟩ := me_cls w.params
    exact ⟨nm, q, N, bs, bm, hdct, sn, sub, ab, col, dd, k0, k1, k2, k3, k5, kin w _ _ h, hb⟩
  · obtain ⟨o, ho, hd⟩ := fdA_is (me_fd w.params)
    exact ⟨o, kin w _ _ ho, by rw [hd, ← fd_of me_f1], cdC_is (me_f2 _)⟩
  · revert l
    split
    · rename_i e; intro l; rw [← of_decide_eq_true l]; exact e
    · intro l; cases l
theorem rai_ok (w : World) : RaiOk (lam w) := raiOk (gl w) (me w)
end Mine
namespace Mine
noncomputable def tupO (k : Int) (t : Tok) (v : Int) (u : Tok) : Obj := seqObj "tuple" [Value.int k t, Value.int v u].toArray 0
inductive Tps (news : List (Addr × Obj)) : List Value → List (Int × Int) → Prop
  | nil : Tps news [] []
  | cons {a : Addr} {k v : Int} {t u : Tok} {vs : List Value} {ps : List (Int × Int)} (h : (a, tupO k t v u) ∈ news) (r : Tps news vs ps) : Tps news (.ref a :: vs) ((k, v) :: ps)
section
variable {news : List (Addr × Obj)} {vs : List Value} {ps : List (Int × Int)}
theorem Tps.len (T : Tps news vs ps) : vs.length = ps.length := by
  induction T with
  | nil => rfl
  | cons _ _ ih => rw [List.length_cons, List.length_cons, ih]
theorem Tps.at_ (T : Tps news vs ps) : ∀ {i : Nat}, i < ps.length → ∃ a t u, vs.getD i .none = .ref a ∧ (a, tupO (gtP ps i).1 t (gtP ps i).2 u) ∈ news := by
  induction T with
  | nil => intro i h; cases h
  | cons h r ih =>
    intro i hi
    cases i with
    | zero => exact ⟨_, _, _, rfl, h⟩
    | succ i => exact ih (Nat.lt_of_succ_lt_succ hi)
theorem Tps.pick (T : Tps news vs ps) : ∀ {is : List Nat}, (∀ i ∈ is, i < ps.length) → Tps news (is.map fun i => vs.getD i .none) (is.map (gtP ps))
  | [], _ => .nil
  | i :: r, h => by
    obtain ⟨a, t, u, e, m⟩ := T.at_ (h i (.head _))
    rw [List.map_cons, List.map_cons, e]
    exact .cons m (T.pick fun j hj => h j (.tail _ hj))
theorem Tps.app {us : List Value} {qs : List (Int × Int)} (T : Tps news vs ps) (U : Tps news us qs) : Tps news (vs ++ us) (ps ++ qs) := by
  induction T with
  | nil => exact U
  | cons m r ih => exact .cons m ih
theorem Tps.mono {news' : List (Addr × Obj)} (T : Tps news vs ps) (h : ∀ p ∈ news, p ∈ news') : Tps news' vs ps := by
  induction T with
  | nil => exact .nil
  | cons m r ih => exact .cons (h _ m) ih
end
section
variable {prog : Program} {w : World} {A : Around} {E : Value → Shared → Prop} {s : Shared} {h₀ : Heap} {L l : Addr} {m : Str → Option Value} {news : List (Addr × Obj)} {vs : List Value} {ps : List (Int × Int)}
theorem tps_first {h : Heap} (T : Tps news vs ps) (N : News h₀ L h news) : ∃ fs : List Value, KatTups h vs fs ∧ fs.length = ps.length ∧ ∀ v ∈ fs, ∃ k t, v = .int k t := by
  induction T with
  | nil => exact ⟨[], KatTups.nil, rfl, fun _ h => nomatch h⟩
  | cons hm r ih =>
    obtain ⟨fs, h1, h2, h3⟩ := ih
    exact ⟨_ :: fs, KatTups.cons (N _ hm).1 rfl rfl rfl h1, by rw [List.length_cons, List.length_cons, h2], fun v hv => by
      rcases List.mem_cons.mp hv with rfl | hv
      · exact ⟨_, _, rfl⟩
      · exact h3 v hv⟩
theorem ask_tps {A : Around} {i j : Nat} {C : Bool → Shared → Prop} (T : Tps news vs ps) (N : News h₀ L s.heap news) (hi : i < ps.length) (hj : j < ps.length) (h : C (ltP (gtP ps i) (gtP ps j)) s) :
    kas_ask prog w A (tuples' true) vs i j C s := by
  obtain ⟨a, t, u, e1, m1⟩ := T.at_ hi
  obtain ⟨b, t', u', e2, m2⟩ := T.at_ hj
  unfold kas_ask
  rw [e1, e2]
  refine kat_lt (N _ m1).1 rfl (N _ m2).1 rfl ?_
  generalize gtP ps i = p at *
  generalize gtP ps j = q at *
  obtain ⟨p1, p2⟩ := p
  obtain ⟨q1, q2⟩ := q
  refine kat_cons (wpAny_eqBool_int ?_)
  by_cases e : p1 = q1
  · rw [show (p1 == q1) = true from beq_iff_eq.mpr e]
    refine kat_yes (kat_cons (wpAny_eqBool_int ?_))
    by_cases e' : p2 = q2
    · rw [show (p2 == q2) = true from beq_iff_eq.mpr e']
      refine kat_yes (kat_nil ?_)
      have : ltP (p1, p2) (q1, q2) = false := by unfold ltP; rw [decide_eq_true e]; dsimp only; rw [decide_eq_true e']
      rw [this] at h; exact h
    · rw [show (p2 == q2) = false from beq_eq_false_iff_ne.mpr e']
      refine kat_no (kat_one _ _ (lt_int ?_))
      have : ltP (p1, p2) (q1, q2) = decide (p2 < q2) := by unfold ltP; rw [decide_eq_true e]; dsimp only; rw [decide_eq_false e']
      rw [this] at h; exact h
  · rw [show (p1 == q1) = false from beq_eq_false_iff_ne.mpr e]
    refine kat_no (oneLt_int ?_)
    have : ltP (p1, p2) (q1, q2) = decide (p1 < q1) := by unfold ltP; rw [decide_eq_false e]
    rw [this] at h; exact h
theorem run_tps {α : Type} {A : Around} {Q : α → Shared → Prop} {P : α → Prop} (T : Tps news vs ps) (N : News h₀ L s.heap news) : ∀ {t : KasT α}, Good ps.length P t → Q (kasR (fun i j => ltP (gtP ps i) (gtP ps j)) t) s → t.kasWp (kas_ask prog w A (tuples' true) vs) Q s
  | .ret a, _, h => h
  | .ask i j k, g, h => ask_tps T N g.1 g.2.1 (run_tps T N (g.2.2 _) h)
end
section
variable {prog : Program} {w : World} {A : Around} {E : Value → Shared → Prop} {s : Shared} {h₀ : Heap} {L l : Addr} {m : Str → Option Value} {news : List (Addr × Obj)} {vs : List Value} {ps : List (Int × Int)}
theorem sort_few {Q : Value → Shared → Prop} (hl : s.heap.IsList l vs.toArray) (h2 : vs.length < 2)
    (h : ∀ h' n, (∀ b o, s.heap.get? b = some o → h'.get? b = some o) → h'.get? (s.heap.objs.size + 1) = some (seqObj "list" vs.toArray n) → Q (.ref (s.heap.objs.size + 1)) { s with heap := h' }) :
    wpAny (model prog w) A (call (.builtin "sorted") [.ref l]) Q E s := by
  refine Calls.call_function_entry kind_sorted plain_sorted entry_sorted (args_sorted1 _) ?_
  unfold Builtin.«sorted»
  refine wpAny_bind (m := checkCount "sorted" 1 1 _) (wpAny_pure ?_)
  refine wpAny_bind (collect_list hl ?_ (by rw [sizeLine_eq]; (first | lia | omega)))
  refine wpAny_bind (wpAny_newList ?_ (by rw [sizeLine_eq]; (first | lia | omega)))
  generalize hH : (s.heap.push (seqObj "list" #[] 0)).update s.heap.objs.size (Obj.mapSeq (· ++ vs.toArray)) = H
  have hz : H.objs.size = s.heap.objs.size + 1 := by rw [← hH, Heap.size_update, size_push']
  have old : ∀ b o, s.heap.get? b = some o → H.get? b = some o := fun b o e => by
    have hb : b < s.heap.objs.size := Heap.lt_size e
    rw [← hH, Heap.get?_update_ne _ _ _ _ (Nat.ne_of_lt hb), Heap.get?_push_ne _ _ _ (Nat.ne_of_lt hb)]; exact e
  have hoL : (H.push (seqObj "list" vs.toArray 0)).get? H.objs.size = some (seqObj "list" vs.toArray 0) := Heap.get?_push_size _ rfl
  refine wpAny_bind (wpAny_holding (wpAny_call_entry slot_list_sort ⟨_, hoL, rfl⟩ entry_list_sort ?_ (args_list_sort _)))
  rw [list_sort_plain]
  refine wpAny_bind (listItems_at hoL rfl ?_)
  refine wpAny_bind (listUpdate_at hoL rfl ?_ (by rw [List.size_toArray, sizeLine_eq]; (first | lia | omega)) (Nat.zero_le _))
  obtain ⟨e1, ho1⟩ : ∃ e1, ((H.push (seqObj "list" vs.toArray 0)).update H.objs.size (Obj.mapSeq fun _ => #[])).get? H.objs.size = some (seqObj "list" #[] e1) := ⟨_, get?_update_seq hoL (fun _ => #[])⟩
  generalize hG : (H.push (seqObj "list" vs.toArray 0)).update H.objs.size (Obj.mapSeq fun _ => #[]) = G at *
  have hzG : G.objs.size = H.objs.size + 1 := by rw [← hG, Heap.size_update, size_push']
  refine wpAny_bind (seqEpoch_at ho1 rfl ?_)
  refine wpAny_bind (wpAny_newTuple ?_ (by show vs.length ≤ _; rw [sizeLine_eq]; (first | lia | omega)))
  refine wpAny_bind (wpAny_newList ?_ (Nat.zero_le _))
  refine wpAny_holding ?_
  have h2' : vs.toArray.size < 2 := by rw [List.size_toArray]; exact h2
  rw [if_pos h2', if_pos h2']
  refine wpAny_bind (wpAny_pure ?_)
  dsimp only
  rw [StateT.run_pure]
  refine wpAny_bind (wpAny_pure ?_)
  dsimp only
  have ho2 : ((G.push (seqObj "tuple" vs.toArray 0)).push (seqObj "list" #[] 0)).get? H.objs.size = some (seqObj "list" #[] e1) := Heap.get?_push_of_some _ (Heap.get?_push_of_some _ ho1)
  refine wpAny_bind (seqEpoch_at ho2 rfl ?_)
  have hout : (arrOf (SortSt.mk' general' (vs.toArray.zip vs.toArray) #[] 7 none)).map (·.2) = vs.toArray := by
    show (vs.toArray.zip vs.toArray).map (·.2) = _
    apply Array.toList_inj.mp
    rw [Array.toList_map, Array.toList_zip]
    exact List.map_snd_zip (Nat.le_refl _)
  rw [hout]
  refine wpAny_bind (listUpdate_at ho2 rfl ?_ (Nat.zero_le _) (by rw [List.size_toArray, sizeLine_eq]; (first | lia | omega)))
  simp only [bne_self_eq_false, Bool.false_eq_true, if_false]
  refine wpAny_pure ⟨_, rfl, wpAny_pure ⟨_, rfl, ?_⟩⟩
  obtain ⟨e2, ho3⟩ : ∃ e2, (((G.push (seqObj "tuple" vs.toArray 0)).push (seqObj "list" #[] 0)).update H.objs.size (Obj.mapSeq fun _ => vs.toArray)).get? H.objs.size = some (seqObj "list" vs.toArray e2) := ⟨_, get?_update_seq ho2 (fun _ => vs.toArray)⟩
  rw [hz] at *
  refine h _ e2 (fun b o e => ?_) ho3
  have hb : b < s.heap.objs.size := Heap.lt_size e
  rw [Heap.get?_update_ne _ _ _ _ (Nat.ne_of_lt (Nat.lt_succ_of_lt hb))]
  refine Heap.get?_push_of_some _ (Heap.get?_push_of_some _ ?_)
  rw [← hG, Heap.get?_update_ne _ _ _ _ (Nat.ne_of_lt (Nat.lt_succ_of_lt hb))]
  exact Heap.get?_push_of_some _ (old b o e)
theorem sort_tps {Q : Value → Shared → Prop} (F : Fr h₀ L s.heap m) (N : News h₀ L s.heap news) (hl : s.heap.IsList l vs.toArray) (T : Tps news vs ps) (h64 : vs.length < 64)
    (h : ∀ D h' c vs', (∀ b o, h₀.get? b = some o → h'.get? b = some o) → h'.Ns L m → News h₀ L h' news → h₀.get? D = none → h'.get? D = some (seqObj "list" (List.toArray vs') c) → Tps news vs' (srtK ps) → Q (.ref D) { s with heap := h' }) :
    wpAny (model prog w) A (call (.builtin "sorted") [.ref l]) Q E s := by
  have hL := T.len
  by_cases h2 : vs.length < 2
  · refine sort_few hl h2 fun h' n k e => ?_
    have e' : srtK ps = ps := by
      unfold srtK
      rw [show Nat.blt ps.length 2 = true from Nat.ble_eq_true_of_le (by (first | lia | omega))]
    have nz : h₀.get? (s.heap.objs.size + 1) = none := by
      cases z : h₀.get? (s.heap.objs.size + 1) with
      | none => rfl
      | some o => exact absurd (Heap.lt_size (F.keep _ _ z)) (Nat.not_lt.mpr (Nat.le_succ _))
    exact h _ h' n vs (fun b o z => k b o (F.keep b o z)) (F.ns.keeps k) (N.grown k) nz e (by rw [e']; exact T)
  · refine kat_sorted F N hl (by (first | lia | omega)) h64 fun D e1 h' F' N' lt => ?_
    have N1 : News h₀ L h' news := fun p hp => N' p (.tail _ hp)
    obtain ⟨fs, f1, f2, f3⟩ := tps_first T N1
    refine kat_kind (T := .type "int") f1 (by (first | lia | omega)) (fun v hv => ?_) rfl ?_
    · obtain ⟨k, t, rfl⟩ := f3 v hv
      exact Looks.of_pure rfl
    · have hp : 0 < ps.length := by (first | lia | omega)
      rw [hL]
      refine run_tps (s := { s with heap := h' }) T N1 (good_sort hp) ?_
      have hout := Good.out (cmp := fun i j => ltP (gtP ps i) (gtP ps j)) (good_sort hp)
      have e' : srtK ps = (kasR (fun i j => ltP (gtP ps i) (gtP ps j)) (kas_sort ps.length)).toList.map (gtP ps) := by
        unfold srtK
        rw [show Nat.blt ps.length 2 = false from Bool.eq_false_iff.mpr fun z => h2 (by rw [hL]; exact Nat.le_of_ble_eq_true z)]
      have D0 := N' _ (.head _)
      refine KasFin.intro F' N' (.head fun p hp => Nat.ne_of_lt (lt p hp)) fun h'' c F'' N'' => ?_
      have D2 := N'' _ (.head _)
      refine h D h'' c _ F''.keep F''.ns (fun p hp => N'' p (.tail _ hp)) D0.2.2 D2.1 ?_
      rw [e']
      refine T.pick fun i hi => ?_
      exact List.mem_range.mp ((Array.perm_iff_toList_perm.mp hout.2).mem_iff.mp hi)
end
end Mine
namespace Mine
noncomputable def meI (l : List (Int × Int)) : List (Int × V) := l.map fun p => (p.1, .int p.2)
noncomputable def nzP (l : List (Int × Int)) : List (Int × Int) := l.filter fun p => !decide (p.2 = 0)
theorem held_is : ∀ (l : List (Int × V)) {ps : List (Int × Int)}, heldP l = some ps → ∃ L : List (Int × Int), l = meI L ∧ ps = nzP L := by
  intro l
  induction l with
  | nil => intro ps h; exact ⟨[], rfl, (Option.some.inj h).symm⟩
  | cons p r ih =>
    intro ps h
    obtain ⟨k, v⟩ := p
    cases v with
    | int v =>
      obtain ⟨x, h1, h2⟩ := Option.map_eq_some_iff.mp (show (heldP r).map (fun r => cond (decide (v = 0)) r ((k, v) :: r)) = some ps from h)
      obtain ⟨L, rfl, rfl⟩ := ih h1
      refine ⟨(k, v) :: L, rfl, h2.symm.trans ?_⟩
      show _ = List.filter _ _
      rw [List.filter_cons]
      by_cases e : v = 0
      · rw [decide_eq_true e]; rfl
      · rw [decide_eq_false e]; rfl
    | _ => cases h
structure Ask (σ : H) (n m : Nat) (L : List (Int × Int)) : Prop where
  at_ : attrW tab σ (.ref n) 192 fun v => v = .ref m
  inst : ∃ l, σ[n]? = some (.inst 193 (.ref m :: l))
  dict : σ[m]? = some (.dicI (meI L))
  held : heldP (meI L) = some (nzP L)
theorem heldW.e {g f : Nat} {fin : List V → V} {args : List V} {σ : H} {K : Option V → H → Prop} (h0 : heldW g fin f args σ K) : f = g ∧ ∃ n m L, args = [.ref n] ∧ Ask σ n m L ∧ K (some (fin ((srtK (nzP L)).map pairV))) σ := by
  have h : cond (Nat.beq f g) (List.casesOn args False fun a r => r = [] ∧ a.R fun n => hI σ[n]? fun c l => c = 193 ∧ List.casesOn l False fun v _ => v.R fun m => hD σ[m]? fun l => opt (heldP l) fun ps => K (some (fin ((srtK ps).map pairV))) σ) False := h0
  clear h0
  cases e : Nat.beq f g with
  | false => rw [e] at h; exact h.elim
  | true =>
    rw [e] at h
    refine ⟨Nat.eq_of_beq_eq_true e, ?_⟩
    cases args with
    | nil => exact h.elim
    | cons a r =>
      obtain ⟨rfl, h⟩ := h
      refine (V.R.is h).elim fun n h' => ?_
      obtain ⟨h, rfl⟩ := h'
      refine hI.e h fun c l hn h => ?_
      obtain ⟨rfl, h⟩ := h
      cases l with
      | nil => exact h.elim
      | cons v l =>
        refine (V.R.is h).elim fun m h' => ?_
        obtain ⟨h, rfl⟩ := h'
        refine hD.e h fun l hm h => opt.e h fun ps hh h => ?_
        obtain ⟨L, rfl, rfl⟩ := held_is l hh
        exact ⟨n, m, L, rfl, ⟨by show hI _ _; rw [hn]; exact rfl, ⟨_, hn⟩, hm, hh⟩, h⟩
theorem Ask.i {g : Nat} {fin : List V → V} {σ : H} {n m : Nat} {L : List (Int × Int)} {K : Option V → H → Prop} (a : Ask σ n m L) (h : K (some (fin ((srtK (nzP L)).map pairV))) σ) : heldW g fin g [.ref n] σ K := by
  show cond (Nat.beq g g) _ _
  rw [Nat.beq_refl]
  refine ⟨rfl, a.inst.elim fun l e => ?_⟩
  show hI σ[n]? _
  rw [e]
  refine ⟨rfl, ?_⟩
  show hD σ[m]? _
  rw [a.dict]
  show opt (heldP (meI L)) _
  rw [a.held]
  exact h
structure Hd (w : World) (z : Z) (n m : Nat) (p q : Addr × Addr) (L : List (Int × Int)) : Prop where
  sr : SR (lam w) z
  ask : Ask z.σ n m L
  hp : z.W.mu[n]? = some p
  hq : z.W.mu[m]? = some q
section
variable {w : World} {A : Around} {z : Z} {ps : List (Int × Int)} {s' : Shared} {n m : Nat} {p q : Addr × Addr} {env : Env} {c : Addr} {kvs : List (Int × Value)} {l : List Env} {sc : Scope}
theorem Hd.keeps (H : Hd w z n m p q ps) (K : Kp z.s.heap s'.heap) : Hd w ⟨z.W, s', z.σ⟩ n m p q ps := ⟨H.sr.keeps K, H.ask, H.hp, H.hq⟩
theorem e_attr (H : Hd w z n m p q ps) (K : Kp z.s.heap s'.heap) {fl : Bool} {Q : Value → Shared → Prop} {E : Value → Shared → Prop}
    (h : Q (.ref q.1) { s' with toks := s'.toks + 1 }) : wpAny (model pw w) A (getAttr (.ref p.1) "held" fl) Q E s' :=
  g_attr (Λ := lam w) (z := ⟨z.W, s', z.σ⟩) (x := 192) (a := .ref n) (gl w).toGr (H.sr.keeps K) H.ask.at_ ⟨p, rfl, H.hp⟩ fun v u e r => by
    subst e
    obtain ⟨q', rfl, hq'⟩ := r
    exact Option.some.inj (H.hq.symm.trans hq') ▸ h
structure Sf (env : Env) (c : Addr) : Prop where
  hk : env.scope.kind = .function
  hl : env.kindOf ("self" : Str) = some .cell
  hc : env.cells.lookup ("self" : Str) = some c
theorem e_held (S : Sf env c) (hv : s'.heap.IsCell c (some (.ref p.1))) (H : Hd w z n m p q ps) (K : Kp z.s.heap s'.heap)
    {p1 p2 : Pos} {Q : Value → Shared → Prop} {E : Value → Shared → Prop} (h : Q (.ref q.1) { s' with toks := s'.toks + 1 }) : wpAny (model pw w) A (eval (.Attribute (.Name "self" p1) "held" p2) env) Q E s' :=
  Attribute_any_ (wpAny_Name (wpAny_loadName_cell S.hk S.hl S.hc hv (e_attr H K h)) (by decide)) (by rw [arm_eval_Attribute]; rfl)
theorem e_sub (S : Sf env c) (hv : s'.heap.IsCell c (some (.ref p.1))) (H : Hd w z n m p q ps) (K : Kp z.s.heap s'.heap)
    {mm : Str → Option Value} {k : Int} {t : Tok} {xv : Value} (hpl : env.kindOf ("place" : Str) = some .local) (hns : s'.heap.Ns env.locals mm) (hm : mm ("place" : Str) = some (.int k t)) (hD : s'.heap.DictOf (intKind pw w) q.1 kvs) (hx : valueAt kvs k = some xv)
    {p1 p2 p3 p4 : Pos} {Q : Value → Shared → Prop} {E : Value → Shared → Prop} (h : Q xv { s' with toks := s'.toks + 1 + 1 }) :
    wpAny (model pw w) A (eval (.Subscript (.Attribute (.Name "self" p1) "held" p2) (.Name "place" p3) p4) env) Q E s' := by
  refine Subscript_ (e_held S hv H K ?_)
  refine wpAny_Name (wpAny_loadName_local (s := { s' with toks := s'.toks + 1 }) S.hk hpl hns hm ?_) (by decide)
  exact tail_any (T := "dict") (s := { s' with toks := s'.toks + 1 }) hD.typeIs slot_dict_getitem.lookup (wpAny_getItem_of (intKind_is pw w _ _) hD.mapOf hx h) rfl
theorem e_test (S : Sf env c) (hv : s'.heap.IsCell c (some (.ref p.1))) (H : Hd w z n m p q ps) (K : Kp z.s.heap s'.heap)
    {mm : Str → Option Value} {k v : Int} {t u : Tok} (hpl : env.kindOf ("place" : Str) = some .local) (hns : s'.heap.Ns env.locals mm) (hm : mm ("place" : Str) = some (.int k t)) (hD : s'.heap.DictOf (intKind pw w) q.1 kvs) (hx : valueAt kvs k = some (.int v u))
    {p1 p2 p3 p4 p5 p6 : Pos} {k5 : Nat} {Q : Bool → Shared → Prop} {E : Value → Shared → Prop} (h : ∀ tk, Q (v != 0) { s' with toks := tk }) :
    wpAny (model pw w) A (isTrue (.Compare (.Subscript (.Attribute (.Name "self" p1) "held" p2) (.Name "place" p3) p4) [.NotEq] [.Constant (.int 0) k5 p5] p6) env
      (eval (.Compare (.Subscript (.Attribute (.Name "self" p1) "held" p2) (.Name "place" p3) p4) [.NotEq] [.Constant (.int 0) k5 p5] p6) env)) Q E s' := by
  show wpAny _ A (do testChain p6 (← eval (.Subscript (.Attribute (.Name "self" p1) "held" p2) (.Name "place" p3) p4) env) [.NotEq] (markedEach [.NotEq] [.Constant (.int 0) k5 p5] (evalEach [.Constant (.int 0) k5 p5] env))) Q E s'
  rw [markedEach_of_false _ _ _ rfl]
  refine wpAny_bind (e_sub S hv H K hpl hns hm hD hx (test_last (wpAny_Constant_int ?_)))
  exact ne_int (truthy_bool (h _))
theorem e_elt (S : Sf env c) (hv : s'.heap.IsCell c (some (.ref p.1))) (H : Hd w z n m p q ps) (K : Kp z.s.heap s'.heap)
    {mm : Str → Option Value} {k v : Int} {t u : Tok} (hpl : env.kindOf ("place" : Str) = some .local) (hns : s'.heap.Ns env.locals mm) (hm : mm ("place" : Str) = some (.int k t)) (hD : s'.heap.DictOf (intKind pw w) q.1 kvs) (hx : valueAt kvs k = some (.int v u))
    {p0 p1 p2 p3 p4 p5 : Pos} {k5 : Nat} {Q : Value → Shared → Prop} {E : Value → Shared → Prop} (h : ∀ tk, Q (.ref s'.heap.objs.size) { s' with heap := s'.heap.push (tupO k t v u), toks := tk }) :
    wpAny (model pw w) A (eval (.Tuple [.Name "place" p0, .Subscript (.Attribute (.Name "self" p1) "held" p2) (.Name "place" p3) p4] k5 p5) env) Q E s' := by
  refine Tuple_ ?_
  refine spliced_cons (wpAny_Name (wpAny_loadName_local S.hk hpl hns hm ?_) (by decide))
  refine spliced_cons (e_sub S hv H K hpl hns hm hD hx (spliced_nil ?_))
  exact wpAny_newTuple (h _) (by show 2 ≤ sizeLine; rw [sizeLine_eq]; decide)
structure Cs (sc : Scope) (env : Env) (c : Addr) : Prop where
  clos : closureFor sc env = pure [(("self" : Str), c)]
  kind : sc.kind = .function
  ek : env.scope.kind = .function
  es : env.kindOf ("self" : Str) = some .cell
  cell : ∀ y ∈ sc.names, y.2 ≠ .cell
  names : ∀ y ∈ sc.names, y.2 = .local → sc.names.lookup y.1 = some .local
  x : sc.names.lookup ("place" : Str) = some .local
  s : ∀ C, (compEnvC sc [(("self" : Str), c)] C env).kindOf ("self" : Str) = some .cell
noncomputable def compX (p0 p1 p2 p3 p4 p5 px q1 q2 r1 r2 r3 r4 r5 r6 : Pos) (k1 k2 : Nat) (sc : Scope) (pos : Pos) : Expr :=
  .ListComp (.Tuple [.Name "place" p0, .Subscript (.Attribute (.Name "self" p1) "held" p2) (.Name "place" p3) p4] k1 p5)
    [⟨.Name "place" px, .Attribute (.Name "self" q1) "held" q2, [.Compare (.Subscript (.Attribute (.Name "self" r1) "held" r2) (.Name "place" r3) r4) [.NotEq] [.Constant (.int 0) k2 r5] r6], 0⟩] sc pos
theorem comp_tps (hh : A.handled = none) (S : Cs sc env c) (hcl : env.cells.lookup ("self" : Str) = some c) (hv : z.s.heap.IsCell c (some (.ref p.1))) (HD : Hd w z n m p q ps)
    (hs : (q.1 == sysModules) = false)
    {p0 p1 p2 p3 p4 p5 px q1 q2 r1 r2 r3 r4 r5 r6 pos : Pos} {k1 k2 : Nat} {Q : Value → Shared → Prop} {E : Value → Shared → Prop}
    (h : ∀ D h' tk us news, (∀ b o, z.s.heap.get? b = some o → h'.get? b = some o) → z.s.heap.get? D = none → h'.IsList D (List.toArray us) → (∀ x ∈ news, h'.get? x.1 = some x.2 ∧ z.s.heap.get? x.1 = none) → Tps news us (nzP ps) → Q (.ref D) { z.s with heap := h', toks := tk }) :
    wpAny (model pw w) A (eval (compX p0 p1 p2 p3 p4 p5 px q1 q2 r1 r2 r3 r4 r5 r6 k1 k2 sc pos) env) Q E z.s := by
  unfold compX
  obtain ⟨hqe, hz, kvs, hD, hk, hr⟩ := HD.sr.obj _ _ _ HD.ask.dict HD.hq
  obtain ⟨ep, hDA⟩ := hD.dictAt
  have hnd : (kvs.map (·.1)).Nodup := by obtain ⟨_, _, _, _, _, _, _, _, nd⟩ := hD; exact nd
  have hN : kvs.length = ps.length := by
    have := congrArg List.length hk
    simp only [List.length_map, meI] at this
    exact this
  have hzp : ps.length ≤ 61 := by simpa only [meI, List.length_map] using hz
  have hat : ∀ {i : Nat} {k : Int} {x : Value}, kvs[i]? = some (k, x) → ∃ v u, x = .int v u ∧ ps[i]? = some (k, v) := fun {i k x} e => by
    obtain ⟨y, h1, h2⟩ := pairs_at hk hr e
    unfold meI at h1
    rw [List.getElem?_map] at h1
    obtain ⟨⟨k', v⟩, h3, h4⟩ := Option.map_eq_some_iff.mp h1
    cases h4
    obtain ⟨t, rfl⟩ := h2
    exact ⟨_, _, rfl, h3⟩
  have Sf0 : Sf env c := ⟨S.ek, S.es, hcl⟩
  rw [eval_ListComp]
  refine wpAny_comprehension_free (use := none) rfl (fun _ => rfl) S.clos S.kind S.names (e_held Sf0 hv HD (fun _ _ e => e) ?_)
  refine wpAny_pyIter_dict (s := { z.s with toks := z.s.toks + 1 }) hs hDA ?_
  have hI : z.s.heap.get? z.s.heap.objs.size = none := none_of_size (Nat.le_refl _)
  generalize hiO : ({ cls := .type "dict_keyiterator", data := .fields #[.ref q.1, .int 0 0, .int kvs.length 0, .int ep 0] } : Obj) = iO
  have hI1 : (z.s.heap.push iO).get? z.s.heap.objs.size = some iO := Heap.get?_push_size _ (by rw [← hiO]; rfl)
  have hI2 : (z.s.heap.push iO).objs.size = z.s.heap.objs.size + 1 := Heap.size_push ..
  refine wpAny_newObj_type (s := { z.s with heap := z.s.heap.push iO, toks := z.s.toks + 1 }) (wpAny_newFunctionEnv S.cell (by intro y hy; simp at hy) (fun h₁ hns₁ hsb₁ => ?_) S.kind)
  dsimp only at hns₁ hsb₁ ⊢
  generalize hH2 : (z.s.heap.push iO).push { cls := .type "list", dict := none, data := .seq ([] : List Value).toArray } = H2 at hns₁ hsb₁ ⊢
  have hC : H2.objs.size = z.s.heap.objs.size + 1 + 1 := by rw [← hH2, Heap.size_push, hI2]
  have hDs : (z.s.heap.push iO).objs.size = z.s.heap.objs.size + 1 := hI2
  rw [hDs]
  have upC : ∀ b o, b ≠ H2.objs.size → H2.get? b = some o → h₁.get? b = some o := fun b o hb e => hsb₁.extBut b o hb (Heap.get?_push_of_some _ e)
  have old : ∀ b o, z.s.heap.get? b = some o → h₁.get? b = some o := fun b o e => by
    have hb : b < z.s.heap.objs.size := Heap.lt_size e
    exact upC b o (by rw [hC]; exact Nat.ne_of_lt (Nat.lt_succ_of_lt (Nat.lt_succ_of_lt hb))) (hH2 ▸ Heap.get?_push_of_some _ (Heap.get?_push_of_some _ e))
  have hIh : h₁.get? z.s.heap.objs.size = some iO := upC _ _ (by rw [hC]; exact Nat.ne_of_lt (Nat.lt_succ_of_lt (Nat.lt_succ_self _))) (hH2 ▸ Heap.get?_push_of_some _ hI1)
  have hDh : h₁.PlainList (z.s.heap.objs.size + 1) (List.toArray []) := ⟨0, upC _ _ (by rw [hC]; exact Nat.ne_of_lt (Nat.lt_succ_self _)) (by rw [← hH2, ← hI2]; exact Heap.get?_push_size _ rfl)⟩
  have lt1 : ∀ b o, z.s.heap.get? b = some o → b ≠ z.s.heap.objs.size ∧ b ≠ z.s.heap.objs.size + 1 ∧ b ≠ H2.objs.size := fun b o e => by
    have hb : b < z.s.heap.objs.size := Heap.lt_size e
    exact ⟨Nat.ne_of_lt hb, Nat.ne_of_lt (Nat.lt_succ_of_lt hb), by rw [hC]; exact Nat.ne_of_lt (Nat.lt_succ_of_lt (Nat.lt_succ_of_lt hb))⟩
  obtain ⟨od, hod⟩ : ∃ o, z.s.heap.get? q.1 = some o := HD.sr.there ⟨q, List.mem_of_getElem? HD.hq, .inl rfl⟩
  have ndI := lt1 _ _ hod
  have Wk := Walks.dictKeys (prog := pw) (w := w) (A := A) (knd := intKind pw w) hh z.s.heap.objs.size q.1 ndI.1 kvs ep
  have hst0 : h₁.IsKeyIter z.s.heap.objs.size q.1 0 kvs.length ep ∧ h₁.DictAt (intKind pw w) q.1 kvs ep := ⟨⟨iO, hIh, by rw [← hiO], by rw [← hiO]; rfl⟩, hDA.at' fun o e => old _ o e⟩
  generalize hce : compEnvC sc [(("self" : Str), c)] H2.objs.size env = cenv
  have Sc : Sf cenv c := by rw [← hce]; exact ⟨by show (relabel sc env).kind = _; exact S.kind, S.s _, by show List.lookup _ [(("self" : Str), c)] = _; simp [List.lookup]⟩
  have hloc : cenv.locals = H2.objs.size := by rw [← hce]; rfl
  have hplc : cenv.kindOf ("place" : Str) = some .local := by rw [← hce]; exact lookup_relabel_local S.x
  have hkb : (cenv.scope.kind == .class || (cenv.scope.kind == .module && cenv.locals != cenv.globals)) = false := by rw [Sc.hk]; rfl
  have loop : ∀ s₃ : Shared, s₃ = { z.s with heap := h₁, toks := z.s.toks + 1 + ([] : List (Str × Value)).length } →
      codeAny (model pw w) A (.compLoop (compX p0 p1 p2 p3 p4 p5 px q1 q2 r1 r2 r3 r4 r5 r6 k1 k2 sc pos) 0 (.ref z.s.heap.objs.size) (.ref (z.s.heap.objs.size + 1)) cenv)
        (compPost (model pw w) A E none Q (.ref (z.s.heap.objs.size + 1)) cenv.locals) s₃ := by
    rintro s₃ rfl
    refine codeAny_compLoop_tests (fun k s' => ∃ (i : Nat) (H : Heap) (tk : Nat) (us : List Value) (news : List (Addr × Obj)) (mm : Str → Option Value), k = kvs.length - i ∧ i ≤ kvs.length ∧ s' = { z.s with heap := H, toks := tk } ∧
        (H.IsKeyIter z.s.heap.objs.size q.1 i kvs.length ep ∧ H.DictAt (intKind pw w) q.1 kvs ep) ∧ H.PlainList (z.s.heap.objs.size + 1) us.toArray ∧ H.Ns cenv.locals mm ∧ (∀ b o, z.s.heap.get? b = some o → H.get? b = some o) ∧
        (∀ x ∈ news, H.get? x.1 = some x.2 ∧ z.s.heap.objs.size + 2 < x.1) ∧ Tps news us (nzP (ps.take i)) ∧ z.s.heap.objs.size + 2 < H.objs.size) ?_ kvs.length
      ⟨0, h₁, _, [], [], _, rfl, Nat.zero_le _, rfl, hst0, hDh, by rw [hloc]; exact hns₁, old, (fun _ hx => nomatch hx), .nil, by have := Heap.Ns.lt hns₁; rw [hC] at this; exact this⟩
    rintro k s' ⟨i, H, tk, us, news, mm, rfl, hi, rfl, hst, hl, hns, K, hnews, T, hHz⟩
    have hCn : cenv.locals = z.s.heap.objs.size + 2 := hloc.trans hC
    by_cases hlt : i < kvs.length
    · refine Wk.item i _ _ _ hlt hst fun v h2 tk2 hv hst2 hk2 => ?_
      obtain ⟨kk, xv, hkv, hvk⟩ := hv
      obtain ⟨vv, uu, rfl, hps⟩ := hat hkv
      have hvi : ∃ t, v = .int kk t := by
        cases v <;> simp [intKind, Value.isInt] at hvk
        subst hvk; exact ⟨_, rfl⟩
      obtain ⟨tt, rfl⟩ := hvi
      have up2 : ∀ b o, b ≠ z.s.heap.objs.size → H.get? b = some o → h2.get? b = some o := fun b o hb e => hk2 b o (by simpa using hb) e
      refine wpAny_assign_Name (wpAny_storeName_local (s := { z.s with heap := h2, toks := tk2 }) hplc (hns.at' fun o e => up2 _ o (by rw [hCn]; exact Nat.ne_of_gt (Nat.lt_succ_of_lt (Nat.lt_succ_self _))) e) (fun h3 hns3 hs3 => ?_) hkb)
      have up3 : ∀ b o, b ≠ z.s.heap.objs.size → b ≠ cenv.locals → H.get? b = some o → h3.get? b = some o := fun b o hb hb' e => hs3.extBut b o hb' (up2 b o hb e)
      have K3 : ∀ b o, z.s.heap.get? b = some o → h3.get? b = some o := fun b o e => up3 b o (lt1 b o e).1 (by rw [hloc]; exact (lt1 b o e).2.2) (K b o e)
      have hD3 : h3.DictOf (intKind pw w) q.1 kvs := (hD.at fun o e => K3 _ o e)
      have hval : valueAt kvs kk = some (.int vv uu) := valueAt_of_get hnd hkv
      have hm3 : (fun y => if y = ("place" : Str) then some (Value.int kk tt) else mm y) ("place" : Str) = some (.int kk tt) := if_pos rfl
      have st3 : h3.IsKeyIter z.s.heap.objs.size q.1 (i + 1) kvs.length ep ∧ h3.DictAt (intKind pw w) q.1 kvs ep :=
        ⟨hst2.1.at fun o e => hs3.extBut _ o (by rw [hCn]; exact Nat.ne_of_lt (Nat.lt_succ_of_lt (Nat.lt_succ_self _))) e, hDA.at' fun o e => K3 _ o e⟩
      have hl3 : h3.PlainList (z.s.heap.objs.size + 1) us.toArray := hl.at fun o e => up3 _ o (Nat.ne_of_gt (Nat.lt_succ_self _)) (by rw [hCn]; exact Nat.ne_of_lt (Nat.lt_succ_self _)) e
      have hn3 : ∀ x ∈ news, h3.get? x.1 = some x.2 ∧ z.s.heap.objs.size + 2 < x.1 := fun x hx => by
        obtain ⟨a, b⟩ := hnews x hx
        exact ⟨up3 _ _ (Nat.ne_of_gt (Nat.lt_of_le_of_lt (Nat.le_add_right _ 2) b)) (by rw [hCn]; exact Nat.ne_of_gt b) a, b⟩
      have htake : ps.take (i + 1) = ps.take i ++ [(kk, vv)] := by rw [List.take_add_one, hps]; rfl
      have hz3 : z.s.heap.objs.size + 2 < h3.objs.size := by have := Heap.Ns.lt hns3; rw [hCn] at this; exact this
      refine wpAny_tests_one (e_test (s' := { z.s with heap := h3, toks := tk2 + 1 }) Sc (hv.keeps K3) HD K3 hplc hns3 hm3 hD3 hval fun tk4 => ?_)
      by_cases zz : vv = 0
      · rw [show (vv != 0) = false by simp [zz]]
        rw [if_neg (by decide)]
        refine ⟨kvs.length - (i + 1), by (first | lia | omega), i + 1, h3, tk4, us, news, _, rfl, hlt, rfl, st3, hl3, hns3, K3, hn3, ?_, hz3⟩
        rw [htake]; unfold nzP; rw [List.filter_append, List.filter_cons_of_neg (by simp [zz]), List.filter_nil, List.append_nil]; exact T
      · rw [show (vv != 0) = true by simp [zz]]
        rw [if_pos rfl]
        refine e_elt (s' := { z.s with heap := h3, toks := tk4 }) Sc (hv.keeps K3) HD K3 hplc hns3 hm3 hD3 hval fun tk5 => ?_
        have hT : (h3.push (tupO kk tt vv uu)).get? h3.objs.size = some (tupO kk tt vv uu) := Heap.get?_push_size _ rfl
        have hl4 : (h3.push (tupO kk tt vv uu)).PlainList (z.s.heap.objs.size + 1) us.toArray := hl3.at fun o e => Heap.get?_push_of_some _ e
        have hus : us.length ≤ 61 := by
          have e1 := T.len
          have e2 : (nzP (ps.take i)).length ≤ (ps.take i).length := List.length_filter_le _ _
          rw [List.length_take] at e2
          (first | lia | omega)
        refine wpAny_list_append_plain (s := { z.s with heap := h3.push (tupO kk tt vv uu), toks := tk5 }) hl4 (fun h6 hl6 hs6 => ?_) (by rw [List.size_toArray, sizeLine_eq]; (first | lia | omega))
        have up6 : ∀ b o, b ≠ z.s.heap.objs.size + 1 → h3.get? b = some o → h6.get? b = some o := fun b o hb e => hs6.extBut b o hb (Heap.get?_push_of_some _ e)
        have hTn : h3.objs.size ≠ z.s.heap.objs.size + 1 := Nat.ne_of_gt (Nat.lt_trans (Nat.lt_succ_self _) hz3)
        refine ⟨kvs.length - (i + 1), by (first | lia | omega), i + 1, h6, tk5, us ++ [.ref h3.objs.size], (h3.objs.size, tupO kk tt vv uu) :: news, _, rfl, hlt, rfl,
          ⟨st3.1.at fun o e => up6 _ o (Nat.ne_of_lt (Nat.lt_succ_self _)) e, st3.2.at' fun o e => up6 _ o ndI.2.1 e⟩, by rw [← List.push_toArray]; exact hl6, hns3.at' fun o e => up6 _ o (by rw [hCn]; exact Nat.ne_of_gt (Nat.lt_succ_self _)) e,
          fun b o e => up6 b o (lt1 b o e).2.1 (K3 b o e), fun x hx => ?_, ?_, ?_⟩
        · rcases List.mem_cons.mp hx with rfl | hx
          · exact ⟨hs6.extBut _ _ hTn hT, hz3⟩
          · obtain ⟨a, b⟩ := hn3 x hx
            exact ⟨up6 _ _ (Nat.ne_of_gt (Nat.lt_trans (Nat.lt_succ_self _) b)) a, b⟩
        · rw [htake]
          unfold nzP
          rw [List.filter_append, List.filter_cons_of_pos (by simp [zz]), List.filter_nil]
          exact (T.mono fun x hx => .tail _ hx).app (.cons (.head _) .nil)
        · exact Heap.lt_size (hs6.extBut _ _ hTn hT) |> Nat.lt_trans hz3
    · have hiN : i = kvs.length := by (first | lia | omega)
      subst hiN
      refine Wk.done _ _ _ hst fun h2 tk2 hk2 => ?_
      have up2 : ∀ b o, b ≠ z.s.heap.objs.size → H.get? b = some o → h2.get? b = some o := fun b o hb e => hk2 b o (by simpa using hb) e
      refine ⟨mm, hns.at' fun o e => up2 _ o (by rw [hCn]; exact Nat.ne_of_gt (Nat.lt_succ_of_lt (Nat.lt_succ_self _))) e, fun h' hs' => ?_⟩
      have up' : ∀ b o, b ≠ z.s.heap.objs.size → b ≠ cenv.locals → H.get? b = some o → h'.get? b = some o := fun b o hb hb' e => hs'.extBut b o hb' (up2 b o hb e)
      refine h _ h' tk2 us news (fun b o e => up' b o (lt1 b o e).1 (by rw [hloc]; exact (lt1 b o e).2.2) (K b o e)) (none_of_size (Nat.le_succ _)) (hl.at fun o e => up' _ o (Nat.ne_of_gt (Nat.lt_succ_self _)) (by rw [hCn]; exact Nat.ne_of_lt (Nat.lt_succ_self _)) e).isList (fun x hx => ?_) ?_
      · obtain ⟨a, b⟩ := hnews x hx
        exact ⟨up' _ _ (Nat.ne_of_gt (Nat.lt_of_le_of_lt (Nat.le_add_right _ 2) b)) (by rw [hCn]; exact Nat.ne_of_gt b) a, none_of_size (Nat.le_of_lt (Nat.lt_of_le_of_lt (Nat.le_add_right _ 2) b))⟩
      · rw [hN, List.take_length] at T; exact T
  rw [← hce] at loop
  exact codeAny_compStart_list (loop _ rfl) (Wk.self 0 _ _ _ hst0 (loop _ rfl))
noncomputable def wFd : FuncData := fd (sb (st 51) 7) "Memory.written" 3 .none .none .none (.str "octetmint.machine" 690) (.ref 448)
theorem w_fd (P : Params) : fdA P 449 = some wFd := rfl
theorem w_f1 : fdOk wFd = true := by kernel_rfl
theorem w_f2 (P : Params) : cdC P wFd = true := by kernel_rfl
theorem so_ok (P : Params) : inB P "sorted" (.builtin "sorted") = true := by kernel_rfl
noncomputable def wSc : Scope := ⟨.function, [(".0", .local), ("place", .local), ("self", .free)], false, false, []⟩
theorem w_body : ∃ P1 P2 P3 p0 p1 p2 p3 p4 p5 px q1 q2 r1 r2 r3 r4 r5 r6 pos k1 k2, wFd.body = .stmts [.Return (some (.Call (.Name "sorted" P1) [compX p0 p1 p2 p3 p4 p5 px q1 q2 r1 r2 r3 r4 r5 r6 k1 k2 wSc pos] [] P2)) P3] :=
  ⟨_, _, _, _, _, _, _, _, _, _, _, _, _, _, _, _, _, _, _, _, _, rfl⟩
theorem w_cs (L : Addr) : Cs wSc (callEnvC wFd L 449) (L + 1) where
  clos := rfl
  kind := rfl
  ek := rfl
  es := rfl
  cell := by decide +kernel
  names := by decide +kernel
  x := rfl
  s := fun _ => rfl
theorem freeze_all {Λ : Ly} {X : Addr → Prop} {h' : Heap} {tk : Nat} (x : SR Λ z) (k : Kp z.s.heap h') :
    ∃ W', Go Λ X z ⟨W', { z.s with heap := h', toks := tk }, z.σ⟩ ∧ ∀ a o, z.s.heap.get? a = none → h'.get? a = some o → W'.fz a = some o := by
  refine ⟨⟨fun a => Option.casesOn (z.s.heap.get? a) (h'.get? a) fun _ => z.W.fz a, z.W.mu, z.W.fr⟩, ?_⟩
  have one : ∀ b o, z.s.heap.get? b = some o → (Option.casesOn (z.s.heap.get? b) (h'.get? b) fun _ => z.W.fz b) = z.W.fz b := fun b o e => by rw [e]
  have l : ∀ b o', z.W.fz b = some o' → (Option.casesOn (z.s.heap.get? b) (h'.get? b) fun _ => z.W.fz b) = some o' := fun b o' e => (one b o' (x.fz _ _ e)).trans e
  refine ⟨⟨⟨l, fun _ _ h => h⟩, rfl, fun b o' e _ _ => exactly (k b o' e), fun b o' hb f _ => ⟨f, fun e => (one b o' hb).trans e⟩, rfl, rfl, x.old ⟨l, fun _ _ h => h⟩ rfl (fun b o' e => ?_) (fun b f => (x.there f).elim fun o e => (one b o e).trans (x.nofz b f)) fun b o' _ e => k b o' e⟩, fun a o e1 e2 => ?_⟩
  · have e : (Option.casesOn (z.s.heap.get? b) (h'.get? b) fun _ => z.W.fz b) = some o' := e
    cases q : z.s.heap.get? b with
    | none => rw [q] at e; exact e
    | some o => rw [q] at e; exact k _ _ (x.fz _ _ e)
  · show (Option.casesOn (z.s.heap.get? a) (h'.get? a) fun _ => z.W.fz a) = some o
    rw [e1]; exact e2
theorem tps_reps {Λ : Ly} {W : Wd} {news : List (Addr × Obj)} {vs : List Value} (T : Tps news vs ps) (h : ∀ x ∈ news, W.fz x.1 = some x.2) : Reps Λ W vs (ps.map pairV) := by
  induction T with
  | nil => exact Reps.nil
  | cons hm r ih => exact Reps.cons ⟨_, _, rfl, ⟨_, _, h _ hm⟩, Reps.cons (Λ := Λ) (W := W) (v := .int _) ⟨_, rfl⟩ (Reps.one (Λ := Λ) (W := W) (v := .int _) ⟨_, rfl⟩)⟩ ih
theorem w_walk {R : Result → Shared → Prop} {N : Nat} (cx : Cx A l (N + 1)) (HD : Hd w z n m p q ps)
    (K : ∀ D h' tk vs c news, (∀ b o, z.s.heap.get? b = some o → h'.get? b = some o) → (∀ x ∈ news, h'.get? x.1 = some x.2 ∧ z.s.heap.get? x.1 = none) → z.s.heap.get? D = none → h'.get? D = some (seqObj "list" (List.toArray vs) c) → Tps news vs (srtK (nzP ps)) → R (.ok (.ret (.ref D))) { z.s with heap := h', toks := tk }) :
    codeAny (model pw w) A (.call (.ref 449) ⟨[.ref p.1], []⟩) R z.s := by
  have kb : Kp (H1 w.params) z.s.heap := fun b o e => HD.sr.fz _ _ (HD.sr.base _ _ e)
  have lim : z.s.heap.NoLimit := by
    obtain ⟨mc, h1, h2⟩ := Heap.NoLimit.of_ok (nolim w.params)
    exact ⟨mc, h1.keeps kb, h2⟩
  obtain ⟨o, ho, hd⟩ := fdA_is (w_fd w.params)
  obtain ⟨P1, P2, P3, p0, p1, p2, p3, p4, p5, px, q1, q2, r1, r2, r3, r4, r5, r6, pos, k1, k2, hb⟩ := w_body
  have hqe : q.1 ≠ sysModules := by
    intro z
    have := HD.sr.nofz q.1 ⟨q, List.mem_of_getElem? HD.hq, .inl rfl⟩
    obtain ⟨o, e⟩ := (gl w).sysm
    rw [z] at this
    rw [HD.sr.base _ _ e] at this; cases this
  refine codeAny_call_cells (binds := [(("self" : Str), .ref p.1)]) (by have := cx.room; (first | lia | omega)) (kb _ _ (kin w _ _ ho)) hd lim ((cdC_is (w_f2 _)).keeps kb) hb rfl rfl (fun x hx => ?_) fun s₁ I => ?_
  · rw [List.mem_singleton.mp hx]
    exact .inr ⟨rfl, rfl⟩
  have hc : s₁.heap.IsCell (z.s.heap.objs.size + 1) (some (.ref p.1)) := I.cell ("self" : Str) _ rfl
  have hns := I.toInCall.ns
  obtain ⟨h₁, tk₁, rfl, K1⟩ := I.done
  have F : Fr z.s.heap z.s.heap.objs.size h₁ _ := ⟨hns, K1, Nat.le_refl _⟩
  refine wpAny_execs_cons (wpAny_Return_some (wpAny_Call_ofName (Calls.Name_function_global rfl rfl (Calls.loadGlobal_builtin ((gns_ w.params).at fun o e => K1 _ _ (kb _ _ e)) (inB_is (so_ok w.params)).1 ((bns_ w.params).at fun o e => K1 _ _ (kb _ _ e)) (inB_is (so_ok w.params)).2 ?_) rfl)))
  refine Calls.callWith_builtin rfl (Calls.evalArgs_plain (Calls.spliced_cons ?_))
  refine comp_tps (z := ⟨z.W, ⟨h₁, z.s.gens, z.s.drawn, tk₁, z.s.os⟩, z.σ⟩) cx.deeper.hand (w_cs _) rfl hc (HD.keeps K1) (beq_eq_false_iff_ne.mpr hqe) fun D h₂ tk₂ us news K2 hD hl hN T => Calls.spliced_nil ?_
  have hLo : ∃ o, h₁.get? z.s.heap.objs.size = some o := by obtain ⟨o, _, _, e, _⟩ := hns; exact ⟨o, e⟩
  have hN2 : News z.s.heap z.s.heap.objs.size h₂ news := fun x hx => by
    obtain ⟨a, b⟩ := hN x hx
    refine ⟨a, fun z => ?_, Kp.none K1 b⟩
    obtain ⟨o, e⟩ := hLo
    rw [z, e] at b; cases b
  obtain ⟨_, hz, _⟩ := HD.sr.obj _ _ _ HD.ask.dict HD.hq
  have hlen : us.length < 64 := by
    have e1 := T.len
    have e2 : (nzP ps).length ≤ ps.length := List.length_filter_le _ _
    have e3 : (meI ps).length = ps.length := List.length_map ..
    (first | lia | omega)
  refine sort_tps (s := ⟨h₂, z.s.gens, z.s.drawn, tk₂, z.s.os⟩) (F.after K2) hN2 hl T hlen fun D' h' c vs' K3 _ N3 hD' e T' => ?_
  exact K D' h' tk₂ vs' c news K3 (fun x hx => ⟨(N3 x hx).1, (N3 x hx).2.2⟩) hD' e T'
end
end Mine
namespace Mine
theorem wr_ok (w : World) : CallOk (lam w) 1 (heldW 731 .lst) := by
  intro f args z K he A l vals R cx sr out rs ck
  obtain ⟨rfl, n, m, L, rfl, a, h⟩ := heldW.e he
  refine rs.uncons (P := fun us => codeAny _ _ (.call _ ⟨us, []⟩) R z.s) fun u us r0 rs => ?_
  obtain rfl := (rs : us = [])
  obtain ⟨p, rfl, hp⟩ := r0
  have hq := List.getElem?_eq_getElem (l := z.W.mu) (sr.len ▸ lt_of_get a.dict)
  refine w_walk (N := 1) cx ⟨sr, a, hp, hq⟩ fun D h' tk vs c news K N hD hDo T => ?_
  obtain ⟨W', g, fr⟩ := freeze_all (X := NoX) (tk := tk) sr K
  exact ck.ret (.lst _) (.ref D) ⟨W', { z.s with heap := h', toks := tk }, z.σ⟩ h g ⟨_, _, rfl, ⟨_, _, fr _ _ hD hDo⟩, tps_reps T fun x hx => fr _ _ (N x hx).2 (N x hx).1⟩
noncomputable def fns1 (f : Nat) : Option Fn := lkN f [(714, f_Memory_told)]
theorem told_run {σ : H} {n m : Nat} {L : List (Int × Int)} {K : Option V → H → Prop} (a : Ask σ n m L) (hz : (meI L).length ≤ 61) (h : K (some (.tup ((srtK (nzP L)).map pairV))) σ) : runN tab fns1 (heldW 731 .lst) 2 714 [.ref n] σ K := by
  have hl : ((srtK (nzP L)).map pairV).length ≤ 1000 := by
    rw [List.length_map, (srtK_perm _).length_eq]
    exact Nat.le_trans (List.length_filter_le _ _) (Nat.le_trans (Nat.le_of_eq (List.length_map ..).symm) (Nat.le_trans hz (by decide)))
  show hI σ[n]? _
  exact a.inst.elim fun l e => by
    rw [e]
    show heldW 731 .lst 731 [.ref n] σ (okK fun v σ => biW σ .tup v fun v => K (some v) σ)
    exact a.i ⟨hl, h⟩
theorem told_ok (w : World) : CallOk (lam w) 3 (heldW 714 .tup) := by
  intro f args z K he A l vals R cx sr out rs ck
  obtain ⟨rfl, n, m, L, rfl, a, h⟩ := heldW.e he
  have hz := sr.obj m _ _ a.dict (List.getElem?_eq_getElem (l := z.W.mu) (sr.len ▸ lt_of_get a.dict))
  exact s_run (gf w fns1 fun f fn h => by
    have := lkN_mem _ h
    rw [List.mem_singleton.mp this]
    exact .head _) (rai_ok w) (wr_ok w) 2 714 [.ref n] z K (told_run a hz.2.1 h) A l vals R cx sr out rs ck
theorem run_ok (w : World) (n : Nat) : CallOk (lam w) (n + 3) (R n) := by
  unfold R
  exact s_run (gf w fnsT fun f fn h => .tail _ (lkN_mem _ h)) (rai_ok w) (told_ok w) n
end Mine
set_option maxHeartbeats 400000
namespace Mine.J
noncomputable abbrev KO := Option V → H → Prop
structure Rs where
  r : Nat → Orc
  h : ∀ {n f : Nat} {fn : Fn} {args : List V} {σ : H} {K : KO}, fnsT f = some fn → runF tab (r n) fn args σ K → r (n + 1) f args σ K
  e : ∀ {n f : Nat} {args : List V} {σ : H} {K : KO}, Mine.R n f args σ K → r n f args σ K
  t : ∀ {n : Nat} {args : List V} {σ : H} {K : KO}, heldW 714 .tup 714 args σ K → r (n + 1) 714 args σ K
section
variable {c : Bool} {a b : Prop} {α : Type} {p : Prop} {i : Decidable p} {x y : Int} {K : V → Prop}
theorem ifT (e : c = true) (h : a) : ifW c a b := by subst e; exact h
theorem ifF (e : c = false) (h : b) : ifW c a b := by subst e; exact h
theorem opE {o : Option α} {K : α → Prop} {b : α} (e : o = some b) (h : K b) : opt o K := by rw [e]; exact h
theorem opX {o : Option α} {K : α → Prop} (b : α) (e : o = some b) (h : K b) : optX o K := by unfold optX; rw [e]; exact h
theorem opT {o : Option Bool} {K : Bool → Prop} (e : o = some true) (h : K true) : optX o K := opX _ e h
theorem opF {o : Option Bool} {K : Bool → Prop} (e : o = some false) (h : K false) : optX o K := opX _ e h
theorem ifD (h : p → a) (h' : ¬ p → b) : ifW (decide p) a b := by
  cases i with
  | isTrue q => exact h q
  | isFalse q => exact h' q
theorem ifB (h : c = true → a) (h' : c = false → b) : ifW c a b := by cases c; exact h' rfl; exact h rfl
theorem dT (h : p) (k : a) : ifW (decide p) a b := ifT (decide_eq_true h) k
theorem dF (h : ¬ p) (k : b) : ifW (decide p) a b := ifF (decide_eq_false h) k
theorem nT (h : ¬ p) (k : a) : ifW (!decide p) a b := ifT (by rw [decide_eq_false h]; rfl) k
theorem nF (h : p) (k : b) : ifW (!decide p) a b := ifF (by rw [decide_eq_true h]; rfl) k
theorem shl (h : 0 ≤ y ∧ y ≤ 1000) (hx : x.natAbs < 2 ^ 256) (q : K (.int (x * 2 ^ y.toNat))) : intW .LShift x y K := ⟨⟨h.1, h.2, hx⟩, q⟩
end
section
variable {R : Rs} {σ : H} {K : KO} {n : Nat} {a w s c d : Int}
noncomputable def wr (a k : Int) : Int := Builtin.bitAnd a (1 * 2 ^ k.toNat - 1)
theorem wr_eq (a k : Int) : wr a k = a % 2 ^ k.toNat := by unfold wr; rw [Int.one_mul, kbt_mask]
theorem wr_pos (a k : Int) : 0 ≤ wr a k ∧ wr a k < 2 ^ k.toNat := by
  have := kbt_pos k.toNat
  rw [wr_eq]; exact ⟨Int.emod_nonneg _ (by lia), Int.emod_lt_of_pos _ this⟩
theorem pow_mono {a b : Nat} (h : a ≤ b) : (2 : Int) ^ a ≤ 2 ^ b := by
  have := Nat.pow_le_pow_right (show 0 < 2 by decide) h
  rw [← kbt_cast, ← kbt_cast]; lia
theorem pow64 {k : Int} (h : k ≤ 64) : (2 : Int) ^ k.toNat ≤ 18446744073709551616 := pow_mono (b := 64) (by lia)
noncomputable def W64 (a : Int) : Prop := 0 ≤ a ∧ a < 18446744073709551616
theorem W64.nb (h : W64 a) : a.natAbs < 2 ^ 256 := by unfold W64 at h; lia
theorem one_nb : (1 : Int).natAbs < 2 ^ 256 := by decide
noncomputable def Sz (s : Int) : Prop := s = 8 ∨ s = 16 ∨ s = 32 ∨ s = 64
theorem Sz.b (h : Sz s) : 8 ≤ s ∧ s ≤ 64 := by rcases h with rfl | rfl | rfl | rfl <;> decide
theorem Sz.k (h : Sz s) : 0 ≤ s ∧ s ≤ 1000 := by have := h.b; lia
theorem Sz.h (h : Sz s) : 1 ≤ s ∧ s ≤ 200 := by have := h.b; lia
theorem wr64 (hs : Sz s) (a : Int) : W64 (wr a s) := ⟨(wr_pos a s).1, Int.lt_of_lt_of_le (wr_pos a s).2 (pow64 hs.b.2)⟩
noncomputable def sg (w s : Int) : Int := if (wr w s).fdiv (2 ^ (s - 1).toNat) = 1 then wr w s - 1 * 2 ^ s.toNat else wr w s
noncomputable def bt (w n : Int) : Int := Builtin.bitAnd (w.fdiv (2 ^ n.toNat)) 1
theorem c_mask {k : Int} (h : 0 ≤ k ∧ k ≤ 1000) (q : K (some (.int (1 * 2 ^ k.toNat - 1))) σ) : R.r (n + 1) 1 [.int k] σ K := R.h rfl (shl h one_nb q)
theorem c_wrap {k : Int} (h : 0 ≤ k ∧ k ≤ 1000) (q : K (some (.int (wr a k))) σ) : R.r (n + 2) 3 [.int a, .int k] σ K := R.h rfl (c_mask h q)
theorem sg_if {P : Int → Prop} (q : P (sg w s)) {a b : Prop} (ha : P (wr w s - 1 * 2 ^ s.toNat) → a) (hb : P (wr w s) → b) : ifW (decide ((wr w s).fdiv (2 ^ (s - 1).toNat) = 1)) a b := by
  unfold sg at q
  exact ifD (fun h => by rw [if_pos h] at q; exact ha q) (fun h => by rw [if_neg h] at q; exact hb q)
theorem h_k (h : 1 ≤ s ∧ s ≤ 200) : 0 ≤ s ∧ s ≤ 1000 := ⟨by lia, by lia⟩
theorem h_p (h : 1 ≤ s ∧ s ≤ 200) : 0 ≤ s - 1 ∧ s - 1 ≤ 1000 := ⟨by lia, by lia⟩
theorem c_signed (h : 1 ≤ s ∧ s ≤ 200) (q : K (some (.int (sg w s))) σ) : R.r (n + 3) 5 [.int w, .int s] σ K :=
  R.h rfl (c_wrap (h_k h) ⟨(h_p h).1, sg_if (P := fun r => K (some (.int r)) σ) q (fun q => shl (h_k h) one_nb q) id⟩)
noncomputable def fits (w s : Int) : Bool := decide (-(1 * 2 ^ (s - 1).toNat : Int) ≤ w) && decide (w < (1 * 2 ^ (s - 1).toNat : Int))
theorem if_and {x y : Bool} {P : Bool → Prop} (q : P (x && y)) : ifW x (P y) (P false) := by cases x <;> exact q
theorem c_fits (h : 1 ≤ s ∧ s ≤ 200) (q : K (some (.boo (fits w s))) σ) : R.r (n + 1) 7 [.int w, .int s] σ K :=
  R.h rfl (shl (h_p h) one_nb (if_and (P := fun b => K (some (.boo b)) σ) q))
theorem c_extended (h : 1 ≤ s ∧ s ≤ 200) (h2 : 0 ≤ d ∧ d ≤ 1000) (q : K (some (.int (wr (sg w s) d))) σ) : R.r (n + 4) 9 [.int w, .int s, .int d] σ K :=
  R.h rfl (c_signed h (c_wrap h2 q))
theorem c_bit (h : 0 ≤ s) (q : K (some (.int (bt w s))) σ) : R.r (n + 1) 11 [.int w, .int s] σ K := R.h rfl (And.intro h q)
noncomputable def jn (o w s : Int) : Int := if 32 ≤ s then w else o - wr o s + w
theorem if_if {p : Prop} [Decidable p] {a b : Prop} {P : Int → Prop} {x y : Int} (q : P (if p then x else y)) (ha : P x → a) (hb : P y → b) : ifW (decide p) a b :=
  ifD (fun h => by rw [if_pos h] at q; exact ha q) fun h => by rw [if_neg h] at q; exact hb q
theorem c_joined {o : Int} (h : 0 ≤ s ∧ s ≤ 1000) (q : K (some (.int (jn o w s))) σ) : R.r (n + 3) 59 [.int o, .int w, .int s] σ K :=
  R.h rfl (if_if (P := fun z => K (some (.int z)) σ) q id fun q => c_wrap h q)
noncomputable def cnt (w s : Int) : Int := wr w (if s = 64 then 6 else 5)
theorem c_masked (q : K (some (.int (cnt w s))) σ) : R.r (n + 3) 61 [.int w, .int s] σ K :=
  R.h rfl (if_if (P := fun z => K (some (.int (wr w z))) σ) q (fun q => c_wrap (by decide) q) fun q => c_wrap (by decide) q)
theorem cnt_lt (w s : Int) : 0 ≤ cnt w s ∧ cnt w s ≤ 63 := by
  unfold cnt; split
  · have h := wr_pos w 6; rw [show (2 : Int) ^ (6 : Int).toNat = 64 from rfl] at h; lia
  · have h := wr_pos w 5; rw [show (2 : Int) ^ (5 : Int).toNat = 32 from rfl] at h; lia
end
end Mine.J
set_option maxHeartbeats 400000
namespace Mine.J
noncomputable def Ret (R : Rs) (k f : Nat) (a : List V) (v : V) : Prop := ∀ {n : Nat} {σ : H} {K : KO}, K (some v) σ → R.r (n + k) f a σ K
noncomputable def t3 (a b c : Int) : V := .tup [.int a, .int b, .int c]
section
variable {R : Rs} {σ : H} {K : KO} {n : Nat} {a w s c d : Int} {nm : Str}
theorem p_l (h : 8 ≤ s) : 0 ≤ s - 1 := by lia
theorem c_shifted (hn : nm = Str.ofString "shl" ∨ nm = Str.ofString "shr" ∨ nm = Str.ofString "sar") (h0 : 1 ≤ c) (h1 : c ≤ 63) (hs : Sz s) (hw : W64 w) :
    ∃ r c' o : Int, (s ≤ c → nm ≠ Str.ofString "sar" → c' = 0) ∧ Ret R 4 62 [.str nm, .int w, .int c, .int s] (t3 r c' o) := by
  have hc : 0 ≤ c ∧ c ≤ 1000 := ⟨by lia, by lia⟩
  have hp : 0 ≤ c - 1 := by lia
  have hl := p_l hs.b.1
  rcases hn with rfl | rfl | rfl
  · by_cases h4 : c < s
    · exact ⟨_, _, _, fun z => absurd h4 (Int.not_lt.mpr z), fun q => R.h rfl (opT (by kernel_rfl) (shl hc hw.nb (c_wrap hs.k (dT h4 (c_bit (Int.sub_nonneg.mpr (Int.le_of_lt h4)) (c_bit hl q))))))⟩
    · exact ⟨_, _, _, fun _ _ => rfl, fun q => R.h rfl (opT (by kernel_rfl) (shl hc hw.nb (c_wrap hs.k (dF h4 (c_bit hl q)))))⟩
  · by_cases h4 : c < s
    · exact ⟨_, _, _, fun z => absurd h4 (Int.not_lt.mpr z), fun q => R.h rfl (opF (by kernel_rfl) (opT (by kernel_rfl) (dT h4 (c_bit hp ⟨hc.1, c_bit hl q⟩))))⟩
    · exact ⟨_, _, _, fun _ _ => rfl, fun q => R.h rfl (opF (by kernel_rfl) (opT (by kernel_rfl) (dF h4 ⟨hc.1, c_bit hl q⟩)))⟩
  · exact ⟨_, _, _, fun _ z => absurd rfl z, fun q => R.h rfl (opF (by kernel_rfl) (opF (by kernel_rfl) (c_signed hs.h ⟨hc.1, c_wrap hs.k ⟨hp, c_wrap (by decide) q⟩⟩)))⟩
noncomputable def tl (v t w : Int) : Int := Builtin.bitOr (wr (v * 2 ^ t.toNat) w) (v.fdiv (2 ^ (w - t).toNat))
theorem c_turned {v t w : Int} (h0 : 0 ≤ t) (h1 : t < w) (h2 : w ≤ 1000) (hv : v.natAbs < 2 ^ 256) (q : K (some (.int (tl v t w))) σ) : R.r (n + 3) 65 [.int v, .int t, .int w] σ K :=
  R.h rfl (shl ⟨h0, by lia⟩ hv (c_wrap ⟨by lia, h2⟩ ⟨by lia, q⟩))
theorem fm (c : Int) (h : 8 ≤ s) : 0 ≤ c.fmod s ∧ c.fmod s < s ∧ s ≠ 0 := ⟨Int.fmod_nonneg_of_pos _ (by lia), Int.fmod_lt_of_pos _ (by lia), by lia⟩
theorem c_rotated (hn : nm = Str.ofString "rol" ∨ nm = Str.ofString "ror") (hs : Sz s) (hw : W64 w) : ∃ r c' o : Int, Ret R 4 67 [.str nm, .int w, .int c, .int s] (t3 r c' o) := by
  have hb := hs.b
  have hl := p_l hb.1
  have k1 := fm c hb.1
  have k2 := fm (s - c.fmod s) hb.1
  rcases hn with rfl | rfl
  · exact ⟨_, _, _, fun q => R.h rfl ⟨k1.2.2, opT (by kernel_rfl) (c_turned k1.1 k1.2.1 hs.k.2 hw.nb (c_bit (Int.le_refl 0) (c_bit hl q)))⟩⟩
  · exact ⟨_, _, _, fun q => R.h rfl ⟨k1.2.2, opF (by kernel_rfl) ⟨k1.2.2, c_turned k2.1 k2.2.1 hs.k.2 hw.nb (c_bit hl (c_bit (by lia) q))⟩⟩⟩
noncomputable def twi (nm : Str) (c s : Int) : Int := cond (seq nm (Str.ofString "rcr")) ((s + 1 - c.fmod (s + 1)).fmod (s + 1)) (c.fmod (s + 1))
noncomputable def rtv (nm : Str) (w k c s : Int) : Int := wr (tl (Builtin.bitOr (k * 2 ^ s.toNat) w) (twi nm c s) (s + 1)) s
theorem c_through {k : Int} (hn : nm = Str.ofString "rcl" ∨ nm = Str.ofString "rcr") (hs : Sz s) (hk : k.natAbs < 2 ^ 256) (hv : (Builtin.bitOr (k * 2 ^ s.toNat) w).natAbs < 2 ^ 256) :
    ∃ c' o : Int, Ret R 4 68 [.str nm, .int w, .int k, .int c, .int s] (t3 (rtv nm w k c s) c' o) := by
  have hb := hs.b
  have hl := p_l hb.1
  have k1 := fm (s := s + 1) c (by lia)
  have k2 := fm (s := s + 1) (s + 1 - c.fmod (s + 1)) (by lia)
  have h3 : s + 1 ≤ 1000 := by lia
  rcases hn with rfl | rfl
  · exact ⟨_, _, fun q => R.h rfl ⟨k1.2.2, opF (by kernel_rfl) (shl hs.k hk (c_turned k1.1 k1.2.1 h3 hv (c_wrap hs.k (c_bit hs.k.1 (opF (by kernel_rfl) (c_bit hl q))))))⟩⟩
  · exact ⟨_, _, fun q => R.h rfl ⟨k1.2.2, opT (by kernel_rfl) ⟨k1.2.2, shl hs.k hk (c_turned k2.1 k2.2.1 h3 hv (c_wrap hs.k (c_bit hs.k.1 (opT (by kernel_rfl) (c_bit hl q)))))⟩⟩⟩
theorem c_doubleN {x : Int} (h : s < c) : Ret R 1 70 [.str nm, .int w, .int x, .int c, .int s] .non := fun q => R.h rfl (dT h q)
theorem or_range {a b : Int} (ha : 0 ≤ a) (hb : 0 ≤ b) : 0 ≤ Builtin.bitOr a b ∧ Builtin.bitOr a b ≤ a + b := by
  have h := PyProof.Rows.bitOr_and a b
  have h1 := (PyProof.Rows.bitAnd_range a hb)
  lia
theorem c_double {x : Int} (hn : nm = Str.ofString "shld" ∨ nm = Str.ofString "shrd") (h0 : 1 ≤ c) (h1 : c ≤ s) (hs : Sz s) (hw : W64 w) (hx : W64 x) :
    ∃ r c' o : Int, Ret R 3 70 [.str nm, .int w, .int x, .int c, .int s] (t3 r c' o) := by
  have hl := p_l hs.b.1
  have h2 := Int.sub_nonneg.mpr h1
  have h3 := Int.not_lt.mpr h1
  rcases hn with rfl | rfl
  · exact ⟨_, _, _, fun q => R.h rfl (dF h3 (opT (by kernel_rfl) (shl hs.k hw.nb ⟨h2, c_wrap hs.k (c_bit h2 (c_bit hl (c_bit hl q)))⟩)))⟩
  · exact ⟨_, _, _, fun q => R.h rfl (dF h3 (opF (by kernel_rfl) (shl hs.k hx.nb ⟨by lia, c_wrap hs.k (c_bit (Int.sub_nonneg.mpr h0) (c_bit hl (c_bit hl q)))⟩)))⟩
end
end Mine.J
set_option maxHeartbeats 400000
namespace Mine.J
section
variable {R : Rs} {σ : H} {K : KO} {n : Nat} {a w s c d : Int} {nm : Str}
inductive Pc : Nat → Int → Prop
  | z : Pc 0 0
  | s {m : Nat} {x : Int} (h : 0 < x) (k : Pc m (Builtin.bitAnd x (x - 1))) : Pc (m + 1) x
theorem and_self' (x : Int) : Builtin.bitAnd x x = x := by
  have h := PyProof.Rows.bitXor_and x x
  rw [PyProof.Rows.bitXor_self] at h; lia
theorem Pc.dbl {m : Nat} {x : Int} (h : Pc m x) : Pc m (2 * x) := by
  induction h with
  | z => exact .z
  | s h k ih =>
    refine .s (by lia) ?_
    rw [kbt_halves, show ∀ x : Int, 2 * x / 2 = x by lia, show ∀ x : Int, (2 * x - 1) / 2 = x - 1 by lia, if_neg (by lia), Int.add_zero]; exact ih
theorem Pc.odd {m : Nat} {x : Int} (h : Pc m x) (p : 0 ≤ x) : Pc (m + 1) (2 * x + 1) := by
  refine .s (by lia) ?_
  rw [kbt_halves, show ∀ x : Int, (2 * x + 1) / 2 = x by lia, show ∀ x : Int, (2 * x + 1 - 1) / 2 = x by lia, if_neg (by lia), and_self', Int.add_zero]; exact h.dbl
theorem Pc.all (k : Nat) : ∀ x : Int, 0 ≤ x → x < 2 ^ k → ∃ m, m ≤ k ∧ Pc m x := by
  induction k with
  | zero => intro x h0 h1; obtain rfl : x = 0 := Int.le_antisymm (Int.lt_add_one_iff.mp h1) h0; exact ⟨0, Nat.le_refl _, .z⟩
  | succ k ih =>
    intro x h0 h1
    rw [Int.pow_succ] at h1
    obtain ⟨m, h2, h3⟩ := ih (x / 2) (by lia) (by lia)
    by_cases h : x % 2 = 0
    · exact ⟨m, by lia, by have := h3.dbl; rwa [show 2 * (x / 2) = x by lia] at this⟩
    · exact ⟨m + 1, by lia, by have := h3.odd (by lia); rwa [show 2 * (x / 2) + 1 = x by lia] at this⟩
theorem ones_loop {m : Nat} {x : Int} (h : Pc m x) : ∀ c : Int, ∃ r : Int, ∀ {C : Orc} {σ : H} {K : KF} {f : Nat}, K .nxt [(4, .int w), (2, .int s), (15, .int 0), (14, .int r)] σ →
    whW K (fun ρ => wE tab C ρ (.cmp .Gt (.loc 15) (.int 0))) (wB tab C (.cons (.asg 15 (.bin .BitAnd (.loc 15) (.bin .Sub (.loc 15) (.int 1)))) (.cons (.asg 14 (.bin .Add (.loc 14) (.int 1))) .nil))) (f + m + 1) [(4, .int w), (2, .int s), (15, .int x), (14, .int c)] σ := by
  induction h with
  | z => exact fun c => ⟨c, fun q => q⟩
  | s h k ih => exact fun c => (ih (c + 1)).elim fun r q => ⟨r, fun {C σ K f} k => dT h (q (f := f) k)⟩
theorem fuel {m k : Nat} (h : m ≤ k) (hk : k ≤ 128) : 199 - m + m + 1 = 200 := by lia
theorem s128 (hs : 0 ≤ s ∧ s ≤ 128) : s.toNat ≤ 128 ∧ 0 ≤ s ∧ s ≤ 1000 := by lia
theorem c_ones (h : 0 ≤ s ∧ s ≤ 128) : ∃ r : Int, Ret R 3 13 [.int w, .int s] (.int r) := by
  have hp := wr_pos w s
  have h2 := s128 h
  obtain ⟨m, hm, hc⟩ := Pc.all s.toNat (wr w s) hp.1 hp.2
  obtain ⟨r, hr⟩ := ones_loop (w := w) (s := s) hc 0
  refine ⟨r, fun {n σ K} q => R.h rfl (c_wrap h2.2 ?_)⟩
  have := fun K q => hr (C := R.r (n + 2)) (σ := σ) (K := K) (f := 199 - m) q
  rw [fuel hm h2.1] at this
  exact this _ q
theorem c_parity : ∃ r : Int, Ret R 4 16 [.int w] (.int r) :=
  (c_ones (s := 8) (by decide)).elim fun r h => ⟨_, fun q => R.h rfl (h ⟨by decide, q⟩)⟩
theorem c_lowest (hs : Sz s) : ∃ r : Int, Ret R 4 17 [.int w, .int s] (.int r) := by
  have hb := hs.b
  obtain ⟨r, h3⟩ := c_ones (R := R) (w := Builtin.bitAnd (wr w s) (-(wr w s)) - 1) (s := s) ⟨by lia, by lia⟩
  by_cases h4 : wr w s = 0
  · exact ⟨_, fun q => R.h rfl (c_wrap hs.k (dT h4 q))⟩
  · exact ⟨_, fun q => R.h rfl (c_wrap hs.k (dF h4 (h3 q)))⟩
theorem high_loop (k : Nat) : ∀ (x c : Int), 0 ≤ x → x < 2 ^ k → ∃ r : Int, ∀ {C : Orc} {σ : H} {K : KF} {f : Nat}, K .nxt [(4, .int w), (2, .int s), (15, .int 0), (19, .int r)] σ →
    whW K (fun ρ => wE tab C ρ (.cmp .Gt (.loc 15) (.int 0))) (wB tab C (.cons (.asg 15 (.bin .RShift (.loc 15) (.int 1))) (.cons (.asg 19 (.bin .Add (.loc 19) (.int 1))) .nil))) (f + k + 1) [(4, .int w), (2, .int s), (15, .int x), (19, .int c)] σ := by
  induction k with
  | zero =>
    intro x c h0 h1
    obtain rfl : x = 0 := Int.le_antisymm (Int.lt_add_one_iff.mp h1) h0
    exact ⟨c, fun q => q⟩
  | succ k ih =>
    intro x c h0 h1
    by_cases h : 0 < x
    · rw [Int.pow_succ] at h1
      obtain ⟨r, q⟩ := ih (x.fdiv (2 ^ (1 : Int).toNat)) (c + 1) (Int.fdiv_nonneg h0 (by decide)) (by rw [Int.fdiv_eq_ediv_of_nonneg _ (by decide)]; show x / 2 < _; lia)
      exact ⟨r, fun {C σ K f} k => dT h ⟨by decide, q (f := f) k⟩⟩
    · obtain rfl : x = 0 := Int.le_antisymm (Int.not_lt.mp h) h0
      exact ⟨c, fun q => q⟩
theorem c_highest (hs : Sz s) : ∃ r : Int, Ret R 3 18 [.int w, .int s] (.int r) := by
  have hp := wr_pos w s
  have hb := hs.b
  obtain ⟨r, hr⟩ := high_loop (w := w) (s := s) s.toNat (wr w s) (-1) hp.1 hp.2
  refine ⟨r, fun {n σ K} q => R.h rfl (c_wrap hs.k ?_)⟩
  have := fun K q => hr (C := R.r (n + 2)) (σ := σ) (K := K) (f := 199 - s.toNat) q
  rw [fuel (Nat.le_refl _) (by lia)] at this
  exact this _ q
end
end Mine.J
set_option maxHeartbeats 400000
namespace Mine.J
section
variable {R : Rs} {σ : H} {K : KO} {n : Nat} {a w s c d : Int} {nm : Str}
theorem swap_loop : ∀ (vs : List V) (j : Nat) (t l : Int) (ρ : Env'), (∀ v, put 23 v ρ = [(4, .int w), (21, .int d), (6, .int l), (22, .int t), (23, v)]) → look 22 ρ = some (.int t) → 0 ≤ t → t < 2 ^ (8 * j) → j + vs.length ≤ 20 →
    ∃ r : Int, ∀ {C : Orc} {σ : H} {K : KF}, (∀ ρ', look 22 ρ' = some (.int r) → K .nxt ρ' σ) → forW K (wB tab C (.cons (.asg 22 (.bin .BitOr (.bin .LShift (.loc 22) (.int 8)) (.bin .BitAnd (.loc 6) (.int 255)))) (.cons (.asg 6 (.bin .RShift (.loc 6) (.int 8))) .nil))) 23 vs ρ σ := by
  intro vs
  induction vs with
  | nil => exact fun j t l ρ e g h0 h1 h2 => ⟨t, fun q => q ρ g⟩
  | cons v vs ih =>
    intro j t l ρ e g h0 h1 h2
    rw [List.length_cons] at h2
    have e8 : (2 : Int) ^ (8 : Int).toNat = 256 := rfl
    have hm := PyProof.Rows.bitAnd_range l (show (0 : Int) ≤ 255 by decide)
    have ho := or_range (a := t * 2 ^ (8 : Int).toNat) (b := Builtin.bitAnd l 255) (by rw [e8]; lia) hm.1
    have hb : t.natAbs < 2 ^ 256 := by
      have : (2 : Int) ^ (8 * j) ≤ 2 ^ 256 := pow_mono (by lia)
      lia
    have hu : (2 : Int) ^ (8 * (j + 1)) = 2 ^ (8 * j) * 256 := Int.pow_add ..
    obtain ⟨r, q⟩ := ih (j + 1) (Builtin.bitOr (t * 2 ^ (8 : Int).toNat) (Builtin.bitAnd l 255)) (l.fdiv (2 ^ (8 : Int).toNat)) [(4, .int w), (21, .int d), (6, _), (22, _), (23, v)] (fun u => rfl) rfl ho.1 (by rw [hu]; rw [e8] at ho ⊢; lia) (by lia)
    refine ⟨r, fun {C σ K} k => ?_⟩
    show wB tab C _ (put 23 v ρ) σ _
    rw [e]
    exact shl (by decide) hb ⟨by decide, q k⟩
theorem c_swapped (h : 0 ≤ d ∧ d ≤ 16) : ∃ r : Int, Ret R 3 20 [.int w, .int d] (.int r) := by
  obtain ⟨r, q⟩ := swap_loop ((List.range d.toNat).map fun i => V.int (i : Nat)) 0 0 (wr w (8 * d)) [(4, .int w), (21, .int d), (6, .int (wr w (8 * d))), (22, .int 0)] (fun v => rfl) rfl (by decide) (by decide) (by rw [List.length_map, List.length_range]; lia)
  exact ⟨r, fun {n σ K} k => R.h rfl ⟨.inl (by decide), c_wrap ⟨by lia, by lia⟩ ⟨⟨h.1, by lia⟩, q fun ρ' g => opE g k⟩⟩⟩
theorem c_with_bit (hn : nm = Str.ofString "bts" ∨ nm = Str.ofString "btr" ∨ nm = Str.ofString "btc") (h : 0 ≤ c ∧ c ≤ 1000) : ∃ r : Int, Ret R 2 81 [.str nm, .int w, .int c] (.int r) := by
  rcases hn with rfl | rfl | rfl
  · exact ⟨_, fun q => R.h rfl (shl h one_nb (opT (by kernel_rfl) q))⟩
  · by_cases h2 : bt w c = 1
    · exact ⟨_, fun q => R.h rfl (shl h one_nb (opF (by kernel_rfl) (opF (by kernel_rfl) (c_bit h.1 (dT h2 q)))))⟩
    · exact ⟨_, fun q => R.h rfl (shl h one_nb (opF (by kernel_rfl) (opF (by kernel_rfl) (c_bit h.1 (dF h2 q)))))⟩
  · exact ⟨_, fun q => R.h rfl (shl h one_nb (opF (by kernel_rfl) (opT (by kernel_rfl) q)))⟩
theorem sg_st (a : Int) (hs : Sz s) : (sg a s).natAbs < 2 ^ 64 := by
  have h2 := wr_pos a s
  have h3 := pow64 hs.b.2
  have h4 := kbt_pos s.toNat
  unfold sg
  split
  · rename_i h5
    by_cases h6 : wr a s = 0
    · rw [h6, Int.zero_fdiv] at h5; exact absurd h5 (by decide)
    · lia
  · lia
theorem c_product {b : Int} (g : Bool) (hs : Sz s) (ha : W64 a) : ∃ x y z : Int, y.natAbs < 2 ^ 256 ∧ Ret R 4 72 [.int a, .int b, .int s, .boo g] (t3 x y z) := by
  have w0 := fun a => (wr64 hs a).nb
  cases g
  · have ha : a.natAbs < 2 ^ 64 := by unfold W64 at ha; lia
    by_cases h : (a * b).fdiv (2 ^ s.toNat) = 0
    · exact ⟨_, _, _, w0 _, fun q => R.h rfl ⟨.inl ha, hs.k.1, dT h (c_wrap hs.k ⟨hs.k.1, c_wrap hs.k q⟩)⟩⟩
    · exact ⟨_, _, _, w0 _, fun q => R.h rfl ⟨.inl ha, hs.k.1, dF h (c_wrap hs.k ⟨hs.k.1, c_wrap hs.k q⟩)⟩⟩
  · have k := sg_st a hs
    cases h : fits (sg a s * sg b s) s
    · exact ⟨_, _, _, w0 _, fun q => R.h rfl (c_signed hs.h (c_signed hs.h ⟨.inl k, c_fits hs.h (ifF h (c_wrap hs.k ⟨hs.k.1, c_wrap hs.k q⟩))⟩))⟩
    · exact ⟨_, _, _, w0 _, fun q => R.h rfl (c_signed hs.h (c_signed hs.h ⟨.inl k, c_fits hs.h (ifT h (c_wrap hs.k ⟨hs.k.1, c_wrap hs.k q⟩))⟩))⟩
theorem sg_ne (h : 0 ≤ w) (h1 : w < 2 ^ s.toNat) (h2 : w ≠ 0) : sg w s ≠ 0 := by
  have e : wr w s = w := by rw [wr_eq, Int.emod_eq_of_lt h h1]
  unfold sg
  rw [e]
  split <;> lia
theorem bne {x y : Bool} {K : Bool → Prop} (q : K (x != y)) : optX (eqO (.boo x) (.boo y)) fun c => K (!c) := by
  cases x <;> cases y <;> exact opX _ rfl q
theorem c_quotient {b : Int} (g : Bool) (hs : Sz s) (hb : 0 ≤ b) (hb1 : b < 2 ^ s.toNat) :
    (∀ {n : Nat} {σ : H} {K : KO}, K none σ → R.r (n + 4) 76 [.int a, .int b, .int s, .boo g] σ K) ∨ ∃ x y : Int, y.natAbs < 2 ^ 256 ∧ Ret R 4 76 [.int a, .int b, .int s, .boo g] (.tup [.int x, .int y]) := by
  have p64 := pow64 hs.b.2
  by_cases hz : b = 0
  · exact .inl fun q => R.h rfl (dT hz q)
  have w0 := fun a => (wr64 hs a).nb
  cases g
  · have nb : b.natAbs < 2 ^ 256 := by lia
    by_cases h : (a.fdiv b).fdiv (2 ^ s.toNat) = 0
    · have h3 : 0 ≤ a.fmod b := Int.fmod_nonneg_of_pos _ (by lia)
      have h4 : a.fmod b < b := Int.fmod_lt_of_pos _ (by lia)
      exact .inr ⟨_, _, by lia, fun q => R.h rfl (dF hz ⟨⟨hz, nb⟩, hs.k.1, nF h ⟨⟨hz, nb⟩, hz, q⟩⟩)⟩
    · exact .inl fun q => R.h rfl (dF hz ⟨⟨hz, nb⟩, hs.k.1, nT h q⟩)
  · have n2 := sg_st b hs
    have n1 := sg_ne hb hb1 hz
    have n3 : ((sg b s).natAbs : Int) ≠ 0 ∧ ((sg b s).natAbs : Int).natAbs < 2 ^ 256 := ⟨by lia, by lia⟩
    have h2 : 1 ≤ 2 * s ∧ 2 * s ≤ 200 := by have := hs.b; exact ⟨by lia, by lia⟩
    cases e : (decide (sg a (2 * s) < 0) != decide (sg b s < 0))
    · cases hf : fits (Int.fdiv (sg a (2 * s)).natAbs (sg b s).natAbs) s
      · exact .inl fun q => R.h rfl (dF hz ⟨.inl (by decide), c_signed h2 (c_signed hs.h ⟨n3, bne (ifF e (c_fits hs.h (ifT (by rw [hf]; rfl) q)))⟩)⟩)
      · exact .inr ⟨_, _, w0 _, fun q => R.h rfl (dF hz ⟨.inl (by decide), c_signed h2 (c_signed hs.h ⟨n3, bne (ifF e (c_fits hs.h (ifF (by rw [hf]; rfl) (c_wrap hs.k ⟨.inr n2, c_wrap hs.k q⟩))))⟩)⟩)⟩
    · cases hf : fits (-Int.fdiv (sg a (2 * s)).natAbs (sg b s).natAbs) s
      · exact .inl fun q => R.h rfl (dF hz ⟨.inl (by decide), c_signed h2 (c_signed hs.h ⟨n3, bne (ifT e (c_fits hs.h (ifT (by rw [hf]; rfl) q)))⟩)⟩)
      · exact .inr ⟨_, _, w0 _, fun q => R.h rfl (dF hz ⟨.inl (by decide), c_signed h2 (c_signed hs.h ⟨n3, bne (ifT e (c_fits hs.h (ifF (by rw [hf]; rfl) (c_wrap hs.k ⟨.inr n2, c_wrap hs.k q⟩))))⟩)⟩)⟩
theorem c_scanned (hn : nm = Str.ofString "popcnt" ∨ nm = Str.ofString "lzcnt" ∨ nm = Str.ofString "tzcnt") (hs : Sz s) : ∃ r : Int, Ret R 5 80 [.str nm, .int w, .int s] (.int r) := by
  have hb := hs.b
  rcases hn with rfl | rfl | rfl
  · obtain ⟨a, a2⟩ := c_ones (R := R) (w := w) (s := s) ⟨by lia, by lia⟩
    exact ⟨_, fun q => R.h rfl (opT (by kernel_rfl) (a2 q))⟩
  · obtain ⟨a, a2⟩ := c_highest (R := R) (w := w) hs
    by_cases h : w = 0
    · exact ⟨_, fun q => R.h rfl (opF (by kernel_rfl) (dT h (opT (by kernel_rfl) q)))⟩
    · exact ⟨_, fun q => R.h rfl (opF (by kernel_rfl) (dF h (opF (by kernel_rfl) (opF (by kernel_rfl) (a2 q)))))⟩
  · obtain ⟨a, a2⟩ := c_lowest (R := R) (w := w) hs
    by_cases h : w = 0
    · exact ⟨_, fun q => R.h rfl (opF (by kernel_rfl) (dT h (opT (by kernel_rfl) q)))⟩
    · exact ⟨_, fun q => R.h rfl (opF (by kernel_rfl) (dF h (opT (by kernel_rfl) (a2 q))))⟩
theorem c_scanF (hn : nm = Str.ofString "bsf" ∨ nm = Str.ofString "bsr") (hs : Sz s) (h : w ≠ 0) : ∃ r : Int, Ret R 5 80 [.str nm, .int w, .int s] (.int r) := by
  rcases hn with rfl | rfl
  · obtain ⟨a, a2⟩ := c_lowest (R := R) (w := w) hs
    exact ⟨_, fun q => R.h rfl (opF (by kernel_rfl) (dF h (opT (by kernel_rfl) (a2 q))))⟩
  · obtain ⟨a, a2⟩ := c_highest (R := R) (w := w) hs
    exact ⟨_, fun q => R.h rfl (opF (by kernel_rfl) (dF h (opF (by kernel_rfl) (opT (by kernel_rfl) (a2 q)))))⟩
theorem c_scan0 (hn : nm = Str.ofString "bsf" ∨ nm = Str.ofString "bsr") : Ret R 5 80 [.str nm, .int 0, .int s] .non := by
  rcases hn with rfl | rfl
  · exact fun q => R.h rfl (opF (by kernel_rfl) (opF (by kernel_rfl) q))
  · exact fun q => R.h rfl (opF (by kernel_rfl) (opF (by kernel_rfl) q))
end
end Mine.J
set_option maxHeartbeats 400000
namespace Mine.J
structure Pt where
  p : Nat
  r : Nat
  f : Nat
  m : Nat
  d : Nat
  g : Nat
structure F7 where
  c : Int
  p : Int
  a : Int
  z : Int
  s : Int
  o : Int
  d : Int
noncomputable def flV (F : F7) : List V := [.int F.c, .int F.p, .int F.a, .int F.z, .int F.s, .int F.o, .int F.d]
noncomputable def meV (L : List (Int × Int)) : List (Int × V) := L.map fun p => (p.1, .int p.2)
noncomputable def fsV : List (Str × V) := [(Str.ofString "fs", .int 0), (Str.ofString "gs", .int 0)]
noncomputable def stV (P : Pt) : List V := [.non, .ref P.r, .lst (List.replicate 16 (.int 0)), .ref P.f, .ref P.m, .int 0, .int 0, .ref P.g, .boo false]
noncomputable abbrev Hc := List Int → List (Int × Int) → F7 → H
structure Mch (c : Hc) (P : Pt) : Prop where
  p : ∀ {rg L F}, (c rg L F)[P.p]? = some (.inst 161 (stV P))
  m : ∀ {rg L F}, (c rg L F)[P.m]? = some (.inst 193 [.ref P.d])
  g : ∀ {rg L F}, (c rg L F)[P.g]? = some (.dicS fsV)
  r : ∀ {rg L F}, (c rg L F)[P.r]? = some (.lst (rg.map .int))
  f : ∀ {rg L F}, (c rg L F)[P.f]? = some (.inst 181 (flV F))
  d : ∀ {rg L F}, (c rg L F)[P.d]? = some (.dicI (meV L))
  sr : ∀ {rg L F} {rg' : List Int}, (c rg L F).set P.r (.lst (rg'.map .int)) = c rg' L F
  sf : ∀ {rg L F F'}, (c rg L F).set P.f (.inst 181 (flV F')) = c rg L F'
  sd : ∀ {rg L F L'}, (c rg L F).set P.d (.dicI (meV L')) = c rg L' F
structure Flg (g : F7 → H) (p : Nat) : Prop where
  f : ∀ {F}, (g F)[p]? = some (.inst 181 (flV F))
  s : ∀ {F F'}, (g F).set p (.inst 181 (flV F')) = g F'
theorem Flg.wf {g : F7 → H} {p : Nat} (M : Flg g p) {F : F7} {v : Int} {K : H → Prop} {x i : Nat} (F' : F7) (h : opt (fidx x (tab.flds 181)) fun j => j = i) (h1 : Nat.blt i 7 = true) (h2 : (flV F).set i (.int v) = flV F') (q : K (g F')) : setAW tab (g F) (.ref p) x (.int v) K :=
  opE M.f (by
    generalize e : fidx x (tab.flds 181) = o at h
    cases o with
    | none => exact h.elim
    | some j =>
      obtain rfl : j = i := h
      show opt (fidx x (tab.flds 181)) _
      rw [e]
      refine ⟨Nat.le_of_succ_le (Nat.le_of_ble_eq_true h1), ?_⟩
      show K ((g F).set p (.inst 181 (cond (Nat.blt j 7) ((flV F).set j (.int v)) _)))
      rw [h1, h2]
      show K ((g F).set p (.inst 181 (flV F')))
      rw [M.s]; exact q)
noncomputable def lk (k : Int) (L : List (Int × Int)) : Int := List.rec 0 (fun p _ ih => cond (decide (p.1 = k)) p.2 ih) L
noncomputable def pt (k v : Int) (L : List (Int × Int)) : List (Int × Int) := List.rec [(k, v)] (fun p r ih => cond (decide (p.1 = k)) ((k, v) :: r) (p :: ih)) L
section
variable {R : Rs} {c : Hc} {P : Pt} {rg rg' : List Int} {L L' : List (Int × Int)} {F F' : F7} {n : Nat} {K : KO}
section
variable (M : Mch c P)
include M
section
variable {K : HO → Prop}
theorem Mch.ap (q : K (.inst 161 (stV P))) : opt (c rg L F)[P.p]? K := opE M.p q
theorem Mch.am (q : K (.inst 193 [.ref P.d])) : opt (c rg L F)[P.m]? K := opE M.m q
theorem Mch.ag (q : K (.dicS fsV)) : opt (c rg L F)[P.g]? K := opE M.g q
theorem Mch.ar (q : K (.lst (rg.map .int))) : opt (c rg L F)[P.r]? K := opE M.r q
theorem Mch.af (q : K (.inst 181 (flV F))) : opt (c rg L F)[P.f]? K := opE M.f q
theorem Mch.ad (q : K (.dicI (meV L))) : opt (c rg L F)[P.d]? K := opE M.d q
end
section
variable {v : Int} {K : H → Prop}
theorem Mch.fl : Flg (c rg L) P.f := ⟨M.f, M.sf⟩
theorem Mch.sc (q : K (c rg L ⟨v, F.p, F.a, F.z, F.s, F.o, F.d⟩)) : setAW tab (c rg L F) (.ref P.f) 84 (.int v) K := M.fl.wf (i := 0) _ rfl rfl rfl q
theorem Mch.sp (q : K (c rg L ⟨F.c, v, F.a, F.z, F.s, F.o, F.d⟩)) : setAW tab (c rg L F) (.ref P.f) 34 (.int v) K := M.fl.wf (i := 1) _ rfl rfl rfl q
theorem Mch.sa (q : K (c rg L ⟨F.c, F.p, v, F.z, F.s, F.o, F.d⟩)) : setAW tab (c rg L F) (.ref P.f) 85 (.int v) K := M.fl.wf (i := 2) _ rfl rfl rfl q
theorem Mch.sz (q : K (c rg L ⟨F.c, F.p, F.a, v, F.s, F.o, F.d⟩)) : setAW tab (c rg L F) (.ref P.f) 35 (.int v) K := M.fl.wf (i := 3) _ rfl rfl rfl q
theorem Mch.ss (q : K (c rg L ⟨F.c, F.p, F.a, F.z, v, F.o, F.d⟩)) : setAW tab (c rg L F) (.ref P.f) 36 (.int v) K := M.fl.wf (i := 4) _ rfl rfl rfl q
theorem Mch.so (q : K (c rg L ⟨F.c, F.p, F.a, F.z, F.s, v, F.d⟩)) : setAW tab (c rg L F) (.ref P.f) 83 (.int v) K := M.fl.wf (i := 5) _ rfl rfl rfl q
end
end
theorem getD_map {i : Nat} (h : i < rg.length) : (rg.map V.int)[i]? = some (.int (rg.getD i 0)) := by
  rw [List.getElem?_map, List.getD_eq_getElem?_getD, List.getElem?_eq_getElem h]; rfl
noncomputable def Ri (rg : List Int) (i : Int) : Prop := rg.length = 16 ∧ 0 ≤ i ∧ i < 16
theorem Ri.h {i : Int} (h : Ri rg i) : i < 100000 ∧ i.toNat < rg.length := by unfold Ri at h; lia
theorem Mch.gr (M : Mch c P) {i : Int} {K : V → Prop} (h : Ri rg i) (q : K (.int (rg.getD i.toNat 0))) : subW (c rg L F) (.ref P.r) (.int i) K :=
  M.ar ⟨⟨h.2.1, h.h.1⟩, opE (getD_map h.h.2) q⟩
theorem Mch.wr (M : Mch c P) {i v : Int} {K : H → Prop} (h : Ri rg i) (q : K (c (rg.set i.toNat v) L F)) : setSW (c rg L F) (.ref P.r) (.int i) (.int v) K :=
  M.ar ⟨⟨h.2.1, by rw [List.length_map, h.1]; exact h.2.2, h.h.1⟩, by rw [← List.map_set, M.sr]; exact q⟩
theorem lk_V (k : Int) : ∀ L, (lookI k (meV L)).getD (.int 0) = .int (lk k L)
  | [] => rfl
  | p :: r => by
    show (cond (decide (p.1 = k)) (some (V.int p.2)) (lookI k (meV r))).getD (.int 0) = .int (cond (decide (p.1 = k)) p.2 (lk k r))
    cases decide (p.1 = k)
    · exact lk_V k r
    · rfl
theorem pt_V (k v : Int) : ∀ L, putI k (.int v) (meV L) = meV (pt k v L)
  | [] => rfl
  | p :: r => by
    show cond (decide (p.1 = k)) ((k, V.int v) :: meV r) ((p.1, .int p.2) :: putI k (.int v) (meV r)) = meV (cond (decide (p.1 = k)) ((k, v) :: r) (p :: pt k v r))
    cases decide (p.1 = k)
    · rw [pt_V k v r]; rfl
    · rfl
theorem c_octet {k : Int} (M : Mch c P) (q : K (some (.int (lk (wr k 64) L))) (c rg L F)) : R.r (n + 3) 709 [.ref P.m, .int k] (c rg L F) K :=
  R.h rfl (M.am (M.ad (c_wrap (by decide) (M.ad (by rw [← lk_V] at q; exact q)))))
theorem c_setoct {k v : Int} (M : Mch c P) (h : L.length ≤ 60) (q : K (some .non) (c rg (pt (wr k 64) v L) F)) : R.r (n + 3) 710 [.ref P.m, .int k, .int v] (c rg L F) K :=
  R.h rfl (M.am (c_wrap (by decide) (M.ad ⟨by unfold meV; rw [List.length_map]; exact h, by rw [pt_V]; show K _ ((c rg L F).set P.d _); rw [M.sd]; exact q⟩)))
noncomputable def MOk (L : List (Int × Int)) : Prop := (∀ p ∈ L, 0 ≤ p.2 ∧ p.2 < 256) ∧ (L.map (·.1)).Nodup
theorem cb {α : Type} {b : Bool} {x y : α} {P : α → Prop} (h : b = true → P x) (h' : b = false → P y) : P (cond b x y) := by
  cases b
  · exact h' rfl
  · exact h rfl
theorem lk_ok (h : ∀ p ∈ L, 0 ≤ p.2 ∧ p.2 < 256) (k : Int) : 0 ≤ lk k L ∧ lk k L < 256 := by
  induction L with
  | nil => exact ⟨Int.le_refl 0, (by decide : (0 : Int) < 256)⟩
  | cons p r ih => exact cb (P := fun z => 0 ≤ z ∧ z < 256) (fun _ => h p (.head _)) fun _ => ih fun q hq => h q (.tail _ hq)
theorem pt_len (k v : Int) : ∀ L, (pt k v L).length ≤ L.length + 1
  | [] => Nat.le_refl _
  | p :: r => cb (P := fun z : List (Int × Int) => z.length ≤ r.length + 1 + 1) (fun _ => Nat.le_succ _) fun _ => Nat.succ_le_succ (pt_len k v r)
theorem pt_key {k v x : Int} : ∀ {L : List (Int × Int)}, x ∈ (pt k v L).map (·.1) → x = k ∨ x ∈ L.map (·.1)
  | [], h => .inl (List.mem_singleton.mp h)
  | p :: r, h => cb (P := fun z : List (Int × Int) => x ∈ (z.map fun x : Int × Int => x.1) → x = k ∨ x ∈ (p :: r).map (·.1))
    (fun _ h => (List.mem_cons.mp h).elim .inl fun h => .inr (.tail _ h))
    (fun _ h => (List.mem_cons.mp h).elim (fun h => .inr (h ▸ .head _)) fun h => (pt_key h).elim .inl fun h => .inr (.tail _ h)) h
theorem pt_nd {k v : Int} : ∀ {L : List (Int × Int)}, (L.map (·.1)).Nodup → ((pt k v L).map (·.1)).Nodup
  | [], _ => List.nodup_cons.mpr ⟨List.not_mem_nil, List.nodup_nil⟩
  | p :: r, h => cb (P := fun z : List (Int × Int) => (z.map fun x : Int × Int => x.1).Nodup) (fun e => by rw [← of_decide_eq_true e]; exact h)
    fun e => List.nodup_cons.mpr ⟨fun z => (pt_key z).elim (of_decide_eq_false e) (List.nodup_cons.mp h).1, pt_nd (List.nodup_cons.mp h).2⟩
theorem pt_val {k v : Int} (hv : 0 ≤ v ∧ v < 256) : ∀ {L : List (Int × Int)}, (∀ p ∈ L, 0 ≤ p.2 ∧ p.2 < 256) → ∀ p ∈ pt k v L, 0 ≤ p.2 ∧ p.2 < 256
  | [], _, q, hq => by rw [List.mem_singleton.mp hq]; exact hv
  | p :: r, h, q, hq => cb (P := fun z : List (Int × Int) => q ∈ z → 0 ≤ q.2 ∧ q.2 < 256)
    (fun _ hq => (List.mem_cons.mp hq).elim (fun e => by rw [e]; exact hv) fun hq => h q (.tail _ hq))
    (fun _ hq => (List.mem_cons.mp hq).elim (fun e => by rw [e]; exact h _ (.head _)) fun hq => pt_val hv (fun z hz => h z (.tail _ hz)) q hq) hq
theorem pt_ok {k v : Int} (hv : 0 ≤ v ∧ v < 256) (h : MOk L) : MOk (pt k v L) := ⟨pt_val hv h.1, pt_nd h.2⟩
noncomputable def lst (j m : Nat) : List V := (List.range' j m).map fun i => V.int (i : Nat)
theorem range_lst (m : Nat) : (List.range m).map (fun i => V.int (i : Nat)) = lst 0 m := by
  unfold lst; rw [List.range_eq_range']
theorem read_loop (hL : ∀ p ∈ L, 0 ≤ p.2 ∧ p.2 < 256) {k w : Int} : ∀ (m j : Nat) (t : Int), 0 ≤ t → t < 2 ^ (8 * j) → j + m ≤ 20 →
    ∃ r : Int, (0 ≤ r ∧ r < 2 ^ (8 * (j + m))) ∧ ∀ {R : Rs} {n : Nat} {c : Hc} {P : Pt} {rg : List Int} {F : F7} {ρ : Env'} {K : KF}, Mch c P → (∀ v, put 159 v ρ = [(179, .ref P.m), (19, .int k), (21, .int w), (4, .int t), (159, v)]) → look 4 ρ = some (.int t) →
      (∀ ρ', look 4 ρ' = some (.int r) → K .nxt ρ' (c rg L F)) → forW K (wB tab (R.r (n + 3)) (.cons (.asg 4 (.bin .Add (.loc 4) (.bin .LShift (.cm (.loc 179) 194 (.cons (.bin .Add (.loc 19) (.loc 159)) .nil)) (.bin .Mult (.int 8) (.loc 159))))) .nil)) 159 (lst j m) ρ (c rg L F) := by
  intro m
  induction m with
  | zero => exact fun j t h0 h1 h2 => ⟨t, ⟨h0, h1⟩, fun {R n c P rg F ρ K} M e g q => q ρ g⟩
  | succ m ih =>
    intro j t h0 h1 h2
    have hb := lk_ok hL (wr (k + (j : Int)) 64)
    have e : (2 : Int) ^ (8 * (j + 1)) = 2 ^ (8 * j) * 256 := Int.pow_add ..
    have e2 : (8 * (j : Int)).toNat = 8 * j := by lia
    have hp := kbt_pos (8 * j)
    have hk : 0 ≤ lk (wr (k + (j : Int)) 64) L * 2 ^ (8 * j) ∧ lk (wr (k + (j : Int)) 64) L * 2 ^ (8 * j) ≤ 255 * 2 ^ (8 * j) := ⟨Int.mul_nonneg hb.1 (Int.le_of_lt hp), Int.mul_le_mul_of_nonneg_right (by lia) (Int.le_of_lt hp)⟩
    obtain ⟨r, hr, hh⟩ := ih (j + 1) (t + lk (wr (k + (j : Int)) 64) L * 2 ^ (8 * (j : Int)).toNat) (by rw [e2]; lia) (by rw [e2, e]; lia) (by lia)
    refine ⟨r, by rw [Nat.add_comm m, ← Nat.add_assoc]; exact hr, fun {R n c P rg F ρ K} M e1 g q => ?_⟩
    show wB tab _ _ (put 159 (.int j) ρ) _ _
    rw [e1]
    exact M.am (c_octet M ⟨.inl (by decide), shl ⟨by lia, by lia⟩ (by lia) (hh (ρ := [(179, _), (19, _), (21, _), (4, _), (159, _)]) M (fun _ => rfl) rfl q)⟩)
theorem c_mread (hL : MOk L) (k : Int) {w : Nat} (hw : w ≤ 16) : ∃ r : Int, (0 ≤ r ∧ r < 2 ^ (8 * w)) ∧ ∀ {R : Rs} {n : Nat} {c : Hc} {P : Pt} {rg : List Int} {F : F7} {K : KO}, Mch c P → K (some (.int r)) (c rg L F) → R.r (n + 4) 711 [.ref P.m, .int k, .int w] (c rg L F) K := by
  obtain ⟨r, h1, h2⟩ := read_loop hL.1 (k := k) (w := w) w 0 0 (by decide) (by decide) (by lia)
  rw [Nat.zero_add] at h1
  refine ⟨r, h1, fun {R n c P rg F K} M q => R.h rfl ⟨⟨by lia, by lia⟩, ?_⟩⟩
  show forW _ _ _ ((List.range (w : Int).toNat).map _) _ _
  rw [range_lst]
  exact h2 M (fun _ => rfl) rfl fun ρ' g => opE g q
noncomputable def mwr (k v : Int) : Nat → Nat → List (Int × Int) → List (Int × Int)
  | _, 0, L => L
  | j, m + 1, L => mwr k v (j + 1) m (pt (wr (k + (j : Int)) 64) (Builtin.bitAnd (v.fdiv (2 ^ (8 * (j : Int)).toNat)) 255) L)
theorem mwr_ok (k v : Int) : ∀ (m j : Nat) (L : List (Int × Int)), (MOk L → MOk (mwr k v j m L)) ∧ (mwr k v j m L).length ≤ L.length + m
  | 0, j, L => ⟨fun h => h, Nat.le_refl _⟩
  | m + 1, j, L => by
    have hb := PyProof.Rows.bitAnd_range (v.fdiv (2 ^ (8 * (j : Int)).toNat)) (show (0 : Int) ≤ 255 by decide)
    have hl := pt_len (wr (k + (j : Int)) 64) (Builtin.bitAnd (v.fdiv (2 ^ (8 * (j : Int)).toNat)) 255) L
    obtain ⟨h1, h2⟩ := mwr_ok k v m (j + 1) (pt (wr (k + (j : Int)) 64) (Builtin.bitAnd (v.fdiv (2 ^ (8 * (j : Int)).toNat)) 255) L)
    exact ⟨fun q => h1 (pt_ok ⟨hb.1, Int.lt_add_one_iff.mpr hb.2⟩ q), Nat.le_trans h2 (by lia)⟩
theorem write_loop {k v w : Int} : ∀ (m j : Nat) (L : List (Int × Int)), L.length + m ≤ 60 → ∀ {R : Rs} {n : Nat} {c : Hc} {P : Pt} {rg : List Int} {F : F7} {ρ : Env'} {K : KF}, Mch c P → (∀ u, put 159 u ρ = [(179, .ref P.m), (19, .int k), (21, .int w), (4, .int v), (159, u)]) →
      (∀ ρ', K .nxt ρ' (c rg (mwr k v j m L) F)) → forW K (wB tab (R.r (n + 3)) (.cons (.exp (.cm (.loc 179) 195 (.cons (.bin .Add (.loc 19) (.loc 159)) (.cons (.bin .BitAnd (.bin .RShift (.loc 4) (.bin .Mult (.int 8) (.loc 159))) (.int 255)) .nil)))) .nil)) 159 (lst j m) ρ (c rg L F) := by
  intro m
  induction m with
  | zero => exact fun j L h {R n c P rg F ρ K} M e q => q ρ
  | succ m ih =>
    intro j L h R n c P rg F ρ K M e q
    have hl := pt_len (wr (k + (j : Int)) 64) (Builtin.bitAnd (v.fdiv (2 ^ (8 * (j : Int)).toNat)) 255) L
    show wB tab _ _ (put 159 (.int j) ρ) _ _
    rw [e]
    exact M.am ⟨.inl (by decide), by lia, c_setoct M (by lia) (ih (j + 1) _ (by lia) (ρ := [(179, _), (19, _), (21, _), (4, _), (159, _)]) M (fun _ => rfl) q)⟩
theorem c_mwrite {k v : Int} {w : Nat} (M : Mch c P) (hw : w ≤ 16) (h : L.length ≤ 40) (q : K (some .non) (c rg (mwr k v 0 w L) F)) : R.r (n + 4) 712 [.ref P.m, .int k, .int w, .int v] (c rg L F) K := by
  refine R.h rfl ⟨⟨by lia, by lia⟩, ?_⟩
  show forW _ _ _ ((List.range (w : Int).toNat).map _) _ _
  rw [range_lst]
  exact write_loop w 0 L (by lia) M (fun _ => rfl) fun ρ' => q
end
end Mine.J
set_option maxHeartbeats 400000
namespace Mine.J
noncomputable def sR : Str := Str.ofString "reg"
noncomputable def sM : Str := Str.ofString "mem"
noncomputable def s0 : Str := Str.ofString ""
noncomputable def rgV (nm : Str) (i s : Int) : V := .obj 57 [.str nm, .str (Str.ofString "gpr"), .int i, .int s]
noncomputable def roV (nm : Str) (i s : Int) : V := .obj 143 [.str sR, rgV nm i s]
noncomputable def moV (nm : Str) (b d s : Int) : V := .obj 142 [.str sM, rgV nm b 64, .non, .int 1, .int d, .int s, .str s0, .str s0]
noncomputable def ioV (k : Int) : V := .obj 145 [.str (Str.ofString "imm"), .int k, .str s0]
noncomputable def inV' (nm : Str) (ops : List V) : V := .obj 177 [.str nm, .tup ops, .str s0]
noncomputable def ofs (rg : List Int) (b d : Int) : Int := wr (wr (d + wr (rg.getD b.toNat 0) 64) 64 + 0) 64
section
variable {R : Rs} {c : Hc} {P : Pt} {rg rg' : List Int} {L L' : List (Int × Int)} {F F' : F7} {n : Nat} {K : KO} {nm : Str} {i s b d v : Int} (M : Mch c P)
include M
theorem c_get (h : Ri rg i) (h2 : 0 ≤ s ∧ s ≤ 1000) (q : K (some (.int (wr (rg.getD i.toNat 0) s))) (c rg L F)) : R.r (n + 3) 716 [.ref P.p, rgV nm i s] (c rg L F) K :=
  R.h rfl (opT (by kernel_rfl) (M.ap (M.gr h (c_wrap h2 q))))
omit M in
theorem sets {T : Tab} {C : Orc} {ρ : Env'} {x a : Nat} {u v : V} {ts : List (Ex × Nat)} {vs : List V} {σ : H} {G : H → Prop} (h : look x ρ = some u) (q : setAW T σ u a v fun σ => setsW T C ρ ts vs σ G) : setsW T C ρ ((.loc x, a) :: ts) (v :: vs) σ G :=
  opE h q
noncomputable def rgW (rg : List Int) (i s v : Int) : List Int := rg.set i.toNat (jn (rg.getD i.toNat 0) (wr v s) s)
theorem c_put (h : Ri rg i) (h2 : 0 ≤ s ∧ s ≤ 1000) (q : K (some .non) (c (rgW rg i s v) L F)) : R.r (n + 4) 717 [.ref P.p, rgV nm i s, .int v] (c rg L F) K :=
  R.h rfl (c_wrap h2 (opT (by kernel_rfl) (M.ap (M.gr h (c_joined h2 (M.ap (M.wr h q)))))))
theorem c_putlow (h : Ri rg i) (h2 : 0 ≤ s ∧ s ≤ 1000) (q : K (some .non) (c (rgW rg i s v) L F)) : R.r (n + 5) 718 [.ref P.p, rgV nm i s, .int s, .int v] (c rg L F) K :=
  R.h rfl (opF (by kernel_rfl) (M.ap (c_put M h h2 q)))
theorem c_offset (h : Ri rg b) (q : K (some (.int (wr (d + wr (rg.getD b.toNat 0) 64) 64))) (c rg L F)) : R.r (n + 4) 719 [.ref P.p, moV nm b d s] (c rg L F) K :=
  R.h rfl (M.ap (c_get M h (by decide) (c_wrap (by decide) q)))
theorem c_place (h : Ri rg b) (q : K (some (.int (ofs rg b d))) (c rg L F)) : R.r (n + 5) 720 [.ref P.p, moV nm b d s] (c rg L F) K :=
  R.h rfl (opT (by kernel_rfl) (M.ap (c_offset M h (c_wrap (by decide) q))))
theorem c_ftold (q : K (some (.tup (flV F))) (c rg L F)) : R.r (n + 1) 701 [.ref P.f] (c rg L F) K :=
  R.h rfl (M.af (M.af (M.af (M.af (M.af (M.af (M.af q)))))))
theorem c_clear (q : K (some .non) (c rg L ⟨0, 0, 0, 0, 0, 0, F.d⟩)) : R.r (n + 1) 82 [.ref P.f] (c rg L F) K :=
  R.h rfl ⟨rfl, sets rfl (M.sc (sets rfl (M.sp (sets rfl (M.sa ⟨rfl, sets rfl (M.sz (sets rfl (M.ss (sets rfl (M.so q)))))⟩)))))⟩
theorem c_laywide (q : K (some .non) (c rg L ⟨v, 0, 0, 0, 0, v, F.d⟩)) : R.r (n + 2) 105 [.ref P.f, .int v] (c rg L F) K :=
  R.h rfl (c_clear M (M.sc (M.so q)))
omit M in
theorem c_szp (R : Rs) (r : Int) (hs : Sz s) : ∃ pv zv sv t : Int, ∀ {n c P rg L F} {K : KO}, Mch c P → K (some (.int t)) (c rg L ⟨F.c, pv, F.a, zv, sv, F.o, F.d⟩) → R.r (n + 5) 30 [.ref P.f, .int r, .int s] (c rg L F) K := by
  obtain ⟨p, hp⟩ := c_parity (R := R) (w := wr r s)
  have hl := p_l hs.b.1
  by_cases hz : wr r s = 0
  · exact ⟨p, 1, bt (wr r s) (s - 1), wr r s, fun M q => R.h rfl (c_wrap hs.k (c_bit hl (M.ss (dT hz (M.sz (hp (M.sp q)))))))⟩
  · exact ⟨p, 0, bt (wr r s) (s - 1), wr r s, fun M q => R.h rfl (c_wrap hs.k (c_bit hl (M.ss (dF hz (M.sz (hp (M.sp q)))))))⟩
end
inductive Og where
  | reg (nm : Str) (i : Int)
  | mem (nm : Str) (b d : Int)
noncomputable def Og.v (s : Int) : Og → V
  | .reg nm i => roV nm i s
  | .mem nm b d => moV nm b d s
noncomputable def Og.ok : Og → Prop
  | .reg _ i => 0 ≤ i ∧ i < 16
  | .mem _ b _ => 0 ≤ b ∧ b < 16
noncomputable def Og.wR (s v : Int) (rg : List Int) : Og → List Int
  | .reg _ i => rgW rg i s v
  | .mem _ _ _ => rg
noncomputable def Og.wM (s v : Int) (rg : List Int) (L : List (Int × Int)) : Og → List (Int × Int)
  | .reg _ _ => L
  | .mem _ b d => mwr (ofs rg b d) v 0 (s / 8).toNat L
structure MD (rg : List Int) (L : List (Int × Int)) : Prop where
  len : rg.length = 16
  reg : ∀ i : Nat, 0 ≤ rg.getD i 0 ∧ rg.getD i 0 < 18446744073709551616
  me : MOk L
  ml : L.length ≤ 40
section
variable {R : Rs} {c : Hc} {P : Pt} {rg rg' : List Int} {L L' : List (Int × Int)} {F F' : F7} {n : Nat} {σ : H} {K : KO} {nm : Str} {i s b d v : Int}
theorem Sz.div (h : Sz s) : s.fdiv 8 = (((s / 8).toNat : Nat) : Int) ∧ (s / 8).toNat ≤ 8 ∧ 8 * (s / 8).toNat = s.toNat := by
  rcases h with rfl | rfl | rfl | rfl <;> decide
theorem i16 (h : (16 : Nat) = 16) : True := trivial
theorem c_read (O : Og) (hO : O.ok) (hs : Sz s) (hd : MD rg L) : ∃ v : Int, (0 ≤ v ∧ v < 2 ^ s.toNat) ∧ ∀ {R : Rs} {n c P F} {K : KO}, Mch c P → K (some (.int v)) (c rg L F) → R.r (n + 6) 722 [.ref P.p, O.v s, .int s] (c rg L F) K := by
  obtain ⟨e1, e2, e3⟩ := hs.div
  cases O with
  | reg nm i => exact ⟨wr (wr (rg.getD i.toNat 0) s) s, wr_pos _ _, fun {R n c P F K} M q => R.h rfl (opT (by kernel_rfl) (M.ap (c_get M ⟨hd.len, hO⟩ hs.k (c_wrap hs.k q))))⟩
  | mem nm b d =>
    obtain ⟨r, hr, hh⟩ := c_mread hd.me (ofs rg b d) (w := (s / 8).toNat) (by lia)
    rw [e3] at hr
    rw [← e1] at hh
    exact ⟨r, hr, fun {R n c P F K} M q => R.h rfl (opF (by kernel_rfl) (opT (by kernel_rfl) (M.ap (M.am (M.ap (c_place M ⟨hd.len, hO⟩ ⟨⟨by decide, by decide⟩, hh M q⟩))))))⟩
theorem c_write (M : Mch c P) (O : Og) (hO : O.ok) (hs : Sz s) (hd : MD rg L) (q : K (some .non) (c (O.wR s v rg) (O.wM s v rg L) F)) : R.r (n + 6) 723 [.ref P.p, O.v s, .int s, .int v] (c rg L F) K := by
  obtain ⟨e1, e2, e3⟩ := hs.div
  cases O with
  | reg nm i => exact R.h rfl (opT (by kernel_rfl) (M.ap (c_putlow M ⟨hd.len, hO⟩ hs.k q)))
  | mem nm b d =>
    have hh := fun {R : Rs} {n : Nat} {K : KO} => c_mwrite (R := R) (n := n) (K := K) (k := ofs rg b d) (v := v) (w := (s / 8).toNat) (rg := rg) (F := F) M (by lia) hd.ml
    rw [← e1] at hh
    exact R.h rfl (opF (by kernel_rfl) (opT (by kernel_rfl) (M.ap (M.am (M.ap (c_place M ⟨hd.len, hO⟩ ⟨⟨by decide, by decide⟩, hh q⟩))))))
theorem c_sizeof (O : Og) {ops : List V} {pv : V} (hs : Sz s) (hl : ops.length ≤ 100) (q : K (some (.int s)) σ) : R.r (n + 1) 721 [pv, O.v s, inV' nm ops] σ K := by
  have h1 : ops.length ≤ 1000 := by lia
  have h2 : [O.v s].length + ops.length ≤ 1000 := by rw [List.length_singleton]; lia
  have h3 := hs.b.1
  cases O with
  | reg nm i => exact R.h rfl ⟨h1, h2, opT (by kernel_rfl) q⟩
  | mem nm b d => exact R.h rfl ⟨h1, h2, opF (by kernel_rfl) (opT (by kernel_rfl) (dT (Int.lt_of_lt_of_le (by decide) h3) q))⟩
inductive By (rg : List Int) : V → Int → Prop
  | imm (k : Int) : By rg (ioV k) k
  | cl (nm : Str) : By rg (roV nm 1 8) (wr (rg.getD (1 : Int).toNat 0) 8)
theorem c_cnt (M : Mch c P) {B : V} {w : Int} (hB : By rg B w) (hd : MD rg L) (q : K (some (.int (cnt w s))) (c rg L F)) : R.r (n + 4) 86 [.ref P.p, B, .int s] (c rg L F) K := by
  cases hB with
  | imm k => exact R.h rfl (opT (by kernel_rfl) (c_masked q))
  | cl nm => exact R.h rfl (opF (by kernel_rfl) (M.ap (c_get M ⟨hd.len, by decide⟩ (by decide) (c_masked q))))
end
end Mine.J
set_option maxHeartbeats 400000
namespace Mine.J
theorem i0 : 0 ≤ (0 : Int) ∧ (0 : Int) < 100000 := by decide
theorem i1 : 0 ≤ (1 : Int) ∧ (1 : Int) < 100000 := by decide
theorem i2 : 0 ≤ (2 : Int) ∧ (2 : Int) < 100000 := by decide
section
variable {R : Rs} {σ : H} {K : KO} {n : Nat} {i s : Int}
theorem c_early (hs : Sz s) : ∃ ws : List Str, ws.length = 8 ∧ eqO (.lst (ws.map .str)) (.lst []) = some false ∧ Ret R 1 49 [.int s] (.lst (ws.map .str)) := by
  rcases hs with rfl | rfl | rfl | rfl <;> exact ⟨_, by kernel_rfl, by kernel_rfl, fun q => R.h rfl ⟨Nat.le_of_ble_eq_true rfl, q⟩⟩
theorem c_late (hs : Sz s) : ∃ w : Str, w.length ≤ 1 ∧ Ret R 1 54 [.int s] (.str w) := by
  rcases hs with rfl | rfl | rfl | rfl <;> exact ⟨_, Nat.le_of_ble_eq_true (by kernel_rfl), fun q => R.h rfl q⟩
theorem c_RgI {nm : Str} (q : K (some .non) [.inst 57 [.str nm, .str (Str.ofString "gpr"), .int i, .int s]]) : R.r (n + 1) 707 [.ref 0, .str nm, .str (Str.ofString "gpr"), .int i, .int s] [.inst 57 []] K :=
  R.h rfl ⟨Nat.zero_le _, Nat.le_refl 1, Nat.le_refl 2, Nat.le_refl 3, q⟩
theorem str_len (h : 8 ≤ i) (h1 : i ≤ 15) : ("r" : Str).length + (Str.ofString (toString i)).length ≤ 1000 ∧ (("r" : Str) ++ (Str.ofString (toString i))).length ≤ 100 := by
  rcases (show i = 8 ∨ i = 9 ∨ i = 10 ∨ i = 11 ∨ i = 12 ∨ i = 13 ∨ i = 14 ∨ i = 15 by lia) with rfl | rfl | rfl | rfl | rfl | rfl | rfl | rfl <;> exact ⟨Nat.le_of_ble_eq_true (by kernel_rfl), Nat.le_of_ble_eq_true (by kernel_rfl)⟩
theorem c_gpr (hs : Sz s) (h0 : 0 ≤ i) (h1 : i ≤ 15) : ∃ nm, Ret R 4 55 [.int i, .int s] (rgV nm i s) := by
  obtain ⟨ws, hl, he, hw⟩ := c_early (R := R) hs
  obtain ⟨w, hw1, hw2⟩ := c_late (R := R) hs
  by_cases h : i < 8
  · have hi : i < 100000 ∧ i.toNat < ws.length := by lia
    have e : (ws.map V.str)[i.toNat]? = some (.str ws[i.toNat]) := by rw [List.getElem?_map, List.getElem?_eq_getElem hi.2]; rfl
    exact ⟨_, fun q => R.h rfl (hw (opF he (dT h0 (nF h1 (dT h ⟨⟨h0, hi.1⟩, opE e ⟨rfl, c_RgI ⟨⟨rfl, rfl⟩, q⟩⟩⟩)))))⟩
  · have hi := str_len (Int.not_lt.mp h) h1
    exact ⟨_, fun q => R.h rfl (hw (opF he (dT h0 (nF h1 (dF h ⟨⟨h0, by lia⟩, hi.1, hw2 ⟨by lia, rfl, c_RgI ⟨⟨rfl, rfl⟩, q⟩⟩⟩)))))⟩
end
end Mine.J
set_option maxHeartbeats 400000
namespace Mine.J
noncomputable def apF (m : Nat) (v F : F7) : F7 := ⟨cond (m.testBit 0) v.c F.c, cond (m.testBit 1) v.p F.p, cond (m.testBit 2) v.a F.a, cond (m.testBit 3) v.z F.z, cond (m.testBit 4) v.s F.s, cond (m.testBit 5) v.o F.o, cond (m.testBit 6) v.d F.d⟩
noncomputable def Deed (R : Rs) (f : Nat) (a : V) (rg : List Int) (L : List (Int × Int)) (Q : F7 → Prop) (rg' : List Int) (L' : List (Int × Int)) (m : Nat) (v : F7) : Prop :=
  ∀ {n : Nat} {c : Hc} {P : Pt} {F : F7} {K : KO}, Mch c P → Q F → K (some .non) (c rg' L' (apF m v F)) → R.r (n + 8) f [.ref P.p, a] (c rg L F) K
noncomputable def Any (_ : F7) : Prop := True
noncomputable def tst (nm : Str) (w : String) : Bool × Option Bool := (Nat.ble (Str.length (Str.ofString w)) 1000, inO (.str nm) ((Txt.words (Str.ofString w)).map .str))
theorem qT {n : Nat} {o : Option Bool} {K : Bool → Prop} (e : (Nat.ble n 1000, o) = (true, some true)) (q : K true) : n ≤ 1000 ∧ optX o K := ⟨Nat.le_of_ble_eq_true (congrArg Prod.fst e), opT (congrArg Prod.snd e) q⟩
theorem qF {n : Nat} {o : Option Bool} {K : Bool → Prop} (e : (Nat.ble n 1000, o) = (true, some false)) (q : K false) : n ≤ 1000 ∧ optX o K := ⟨Nat.le_of_ble_eq_true (congrArg Prod.fst e), opF (congrArg Prod.snd e) q⟩
section
variable {R : Rs} {rg rg' : List Int} {L L' : List (Int × Int)} {nm : Str} {s w : Int} {B : V}
theorem l100 {n : Nat} (h : Nat.ble n 100 = true) : n ≤ 100 := Nat.le_of_ble_eq_true h
theorem v64 {v : Int} (hs : Sz s) (h : 0 ≤ v ∧ v < 2 ^ s.toNat) : W64 v := ⟨h.1, Int.lt_of_lt_of_le h.2 (pow64 hs.b.2)⟩
theorem or_nb {k v : Int} (hs : Sz s) (hk : 0 ≤ k ∧ k ≤ 1) (hv : 0 ≤ v ∧ v < 2 ^ s.toNat) : k.natAbs < 2 ^ 256 ∧ (Builtin.bitOr (k * 2 ^ s.toNat) v).natAbs < 2 ^ 256 := by
  have hp := pow64 hs.b.2
  have h2 := kbt_pos s.toNat
  have h3 : 0 ≤ k * 2 ^ s.toNat ∧ k * 2 ^ s.toNat ≤ 2 ^ s.toNat := by
    rcases (show k = 0 ∨ k = 1 by lia) with rfl | rfl <;> lia
  have := or_range h3.1 hv.1
  exact ⟨by lia, by lia⟩
section
variable {O : Og} (hO : O.ok) (hs : Sz s) (hd : MD rg L)
include hO hs hd
section
variable (hB : By rg B w)
include hB
theorem d_shift0 (h0 : cnt w s = 0) : ∃ rg' L', ∀ v, Deed R 92 (inV' nm [O.v s, B]) rg L Any rg' L' 0 v := by
  obtain ⟨v, hv, hr⟩ := c_read O hO hs hd
  exact ⟨_, _, fun _ {n c P F K} M _ q => R.h rfl ⟨i0, M.ap (c_sizeof O hs (l100 rfl) ⟨i1, c_cnt M hB hd (M.ap (hr M (dT h0 (M.ap (c_write M O hO hs hd q)))))⟩)⟩⟩
theorem d_shiftS (hn : nm = Str.ofString "shl" ∨ nm = Str.ofString "shr" ∨ nm = Str.ofString "sar") (h0 : cnt w s ≠ 0) :
    ∃ rg' L' v, (s ≤ cnt w s → nm ≠ Str.ofString "sar" → v.c = 0) ∧ v.a = 0 ∧ (cnt w s ≠ 1 → v.o = 0) ∧ Deed R 92 (inV' nm [O.v s, B]) rg L Any rg' L' 63 v := by
  have hc := cnt_lt w s
  have ht : tst nm "shl shr sar" = (true, some true) := by rcases hn with rfl | rfl | rfl <;> kernel_rfl
  obtain ⟨v, hv, hr⟩ := c_read O hO hs hd
  obtain ⟨r, cf, ov, k1, k2⟩ := c_shifted (R := R) hn (c := cnt w s) (by lia) hc.2 hs (v64 hs hv)
  obtain ⟨pv, zv, sv, t, kz⟩ := c_szp R r hs
  exact ⟨O.wR s r rg, O.wM s r rg L, ⟨cf, pv, 0, zv, sv, if cnt w s = 1 then ov else 0, 0⟩, k1, rfl, fun h => if_neg h, fun {n c P F K} M _ q =>
    R.h rfl ⟨i0, M.ap (c_sizeof O hs (l100 rfl) ⟨i1, c_cnt M hB hd (M.ap (hr M (dF h0 (qT ht (k2 (M.ap (kz M (M.ap (M.sa (M.ap (M.sc (if_if (P := fun z => K (some .non) (c _ _ ⟨cf, pv, 0, zv, sv, z, F.d⟩)) q
      (fun q => M.ap (M.so (M.ap (c_write M O hO hs hd q)))) fun q => M.ap (M.so (M.ap (c_write M O hO hs hd q)))))))))))))))⟩)⟩⟩
theorem d_shiftR (hn : nm = Str.ofString "rol" ∨ nm = Str.ofString "ror") (h0 : cnt w s ≠ 0) :
    ∃ rg' L' v, (cnt w s ≠ 1 → v.o = 0) ∧ Deed R 92 (inV' nm [O.v s, B]) rg L Any rg' L' 33 v := by
  have ht : tst nm "shl shr sar" = (true, some false) := by rcases hn with rfl | rfl <;> kernel_rfl
  have hu : tst nm "rol ror" = (true, some true) := by rcases hn with rfl | rfl <;> kernel_rfl
  obtain ⟨v, hv, hr⟩ := c_read O hO hs hd
  obtain ⟨r, cf, ov, k2⟩ := c_rotated (R := R) hn (c := cnt w s) hs (v64 hs hv)
  exact ⟨O.wR s r rg, O.wM s r rg L, ⟨cf, 0, 0, 0, 0, if cnt w s = 1 then ov else 0, 0⟩, fun h => if_neg h, fun {n c P F K} M _ q =>
    R.h rfl ⟨i0, M.ap (c_sizeof O hs (l100 rfl) ⟨i1, c_cnt M hB hd (M.ap (hr M (dF h0 (qF ht (qT hu (k2 (M.ap (M.sc (if_if (P := fun z => K (some .non) (c _ _ ⟨cf, F.p, F.a, F.z, F.s, z, F.d⟩)) q
      (fun q => M.ap (M.so (M.ap (c_write M O hO hs hd q)))) fun q => M.ap (M.so (M.ap (c_write M O hO hs hd q))))))))))))⟩)⟩⟩
theorem d_shiftT (hn : nm = Str.ofString "rcl" ∨ nm = Str.ofString "rcr") (h0 : cnt w s ≠ 0) :
    ∃ v : Int, (0 ≤ v ∧ v < 2 ^ s.toNat) ∧ ∀ k : Int, 0 ≤ k ∧ k ≤ 1 → ∃ u, (cnt w s ≠ 1 → u.o = 0) ∧ Deed R 92 (inV' nm [O.v s, B]) rg L (fun F => F.c = k) (O.wR s (rtv nm v k (cnt w s) s) rg) (O.wM s (rtv nm v k (cnt w s) s) rg L) 33 u := by
  have ht : tst nm "shl shr sar" = (true, some false) := by rcases hn with rfl | rfl <;> kernel_rfl
  have hu : tst nm "rol ror" = (true, some false) := by rcases hn with rfl | rfl <;> kernel_rfl
  obtain ⟨v, hv, hr⟩ := c_read O hO hs hd
  refine ⟨v, hv, fun k hk => ?_⟩
  have hb := or_nb hs hk hv
  obtain ⟨cf, ov, k2⟩ := c_through (R := R) hn (c := cnt w s) hs hb.1 hb.2
  refine ⟨⟨cf, 0, 0, 0, 0, if cnt w s = 1 then ov else 0, 0⟩, fun h => if_neg h, fun {n c P F K} M e q => ?_⟩
  subst e
  exact R.h rfl ⟨i0, M.ap (c_sizeof O hs (l100 rfl) ⟨i1, c_cnt M hB hd (M.ap (hr M (dF h0 (qF ht (qF hu (M.ap (M.af (k2 (M.ap (M.sc (if_if (P := fun z => K (some .non) (c _ _ ⟨cf, F.p, F.a, F.z, F.s, z, F.d⟩)) q
      (fun q => M.ap (M.so (M.ap (c_write M O hO hs hd q)))) fun q => M.ap (M.so (M.ap (c_write M O hO hs hd q))))))))))))))⟩)⟩
variable {G : Og} (hG : G.ok)
include hG
omit hG in
theorem d_double0 (h0 : cnt w s = 0) : ∃ rg' L', ∀ v, Deed R 102 (inV' nm [O.v s, G.v s, B]) rg L Any rg' L' 0 v := by
  obtain ⟨v, hv, hr⟩ := c_read O hO hs hd
  exact ⟨_, _, fun _ {n c P F K} M _ q => R.h rfl ⟨i0, i1, i2, M.ap (c_sizeof O hs (l100 rfl) (c_cnt M hB hd (M.ap (hr M (dT h0 (M.ap (c_write M O hO hs hd q)))))))⟩⟩
theorem d_doubleN (h0 : cnt w s ≠ 0) (h1 : s < cnt w s) : Deed R 102 (inV' nm [O.v s, G.v s, B]) rg L Any rg L 63 ⟨0, 0, 0, 0, 0, 0, 0⟩ := by
  obtain ⟨v, hv, hr⟩ := c_read O hO hs hd
  obtain ⟨x, hx, hy⟩ := c_read G hG hs hd
  exact fun {n c P F K} M _ q => R.h rfl ⟨i0, i1, i2, M.ap (c_sizeof O hs (l100 rfl) (c_cnt M hB hd (M.ap (hr M (dF h0 (M.ap (hy M (c_doubleN h1 (M.ap (c_clear M q))))))))))⟩
theorem d_doubleS (hn : nm = Str.ofString "shld" ∨ nm = Str.ofString "shrd") (h0 : cnt w s ≠ 0) (h1 : cnt w s ≤ s) :
    ∃ rg' L' v, v.a = 0 ∧ (cnt w s ≠ 1 → v.o = 0) ∧ Deed R 102 (inV' nm [O.v s, G.v s, B]) rg L Any rg' L' 63 v := by
  have hc := cnt_lt w s
  obtain ⟨v, hv, hr⟩ := c_read O hO hs hd
  obtain ⟨x, hx, hy⟩ := c_read G hG hs hd
  obtain ⟨r, cf, ov, k2⟩ := c_double (R := R) hn (c := cnt w s) (by lia) h1 hs (v64 hs hv) (v64 hs hx)
  obtain ⟨pv, zv, sv, t, kz⟩ := c_szp R r hs
  exact ⟨O.wR s r rg, O.wM s r rg L, ⟨cf, pv, 0, zv, sv, if cnt w s = 1 then ov else 0, 0⟩, rfl, fun h => if_neg h, fun {n c P F K} M _ q =>
    R.h rfl ⟨i0, i1, i2, M.ap (c_sizeof O hs (l100 rfl) (c_cnt M hB hd (M.ap (hr M (dF h0 (M.ap (hy M (k2 (M.ap (c_clear M (M.ap (kz M (M.ap (M.sc (if_if (P := fun z => K (some .non) (c _ _ ⟨cf, pv, 0, zv, sv, z, F.d⟩)) q
      (fun q => M.ap (M.so (M.ap (c_write M O hO hs hd q)))) fun q => M.ap (M.so (M.ap (c_write M O hO hs hd q))))))))))))))))))⟩⟩
end
end
end
end Mine.J
set_option maxHeartbeats 400000
namespace Mine.J
noncomputable def z7 : F7 := ⟨0, 0, 0, 0, 0, 0, 0⟩
section
variable {R : Rs} {rg rg' : List Int} {L L' : List (Int × Int)} {nm : Str} {s w : Int} {B : V}
theorem rgW_len (rg : List Int) (i s v : Int) : (rgW rg i s v).length = rg.length := List.length_set
theorem c_putHalves (R : Rs) {a b : Int} (hs : Sz s) (hd : MD rg L) (hb : b.natAbs < 2 ^ 256) : ∃ rg', ∀ {n c P F} {K : KO}, Mch c P → K (some .non) (c rg' L F) → R.r (n + 5) 106 [.ref P.p, .int a, .int b, .int s] (c rg L F) K := by
  by_cases h8 : s = 8
  · obtain ⟨m, hm⟩ := c_gpr (R := R) (s := 16) (i := 0) (.inr (.inl rfl)) (by decide) (by decide)
    exact ⟨_, fun {n c P F K} M q => R.h rfl (dT h8 (M.ap (hm (shl (by decide) hb (c_put M ⟨hd.len, by decide⟩ (by decide) q)))))⟩
  · obtain ⟨m, hm⟩ := c_gpr (R := R) (i := 2) hs (by decide) (by decide)
    obtain ⟨m', hm'⟩ := c_gpr (R := R) (i := 0) hs (by decide) (by decide)
    exact ⟨_, fun {n c P F K} M q => R.h rfl (dF h8 (M.ap (hm (c_put M ⟨hd.len, by decide⟩ hs.k (M.ap (hm' (c_put M ⟨(rgW_len ..).trans hd.len, by decide⟩ hs.k q)))))))⟩
theorem c_halves (R : Rs) (hs : Sz s) (hd : MD rg L) : ∃ v : Int, ∀ {n c P F} {K : KO}, Mch c P → K (some (.int v)) (c rg L F) → R.r (n + 5) 109 [.ref P.p, .int s] (c rg L F) K := by
  by_cases h8 : s = 8
  · obtain ⟨m, hm⟩ := c_gpr (R := R) (s := 16) (i := 0) (.inr (.inl rfl)) (by decide) (by decide)
    exact ⟨_, fun {n c P F K} M q => R.h rfl (dT h8 (M.ap (hm (c_get M ⟨hd.len, by decide⟩ (by decide) q))))⟩
  · obtain ⟨m, hm⟩ := c_gpr (R := R) (i := 2) hs (by decide) (by decide)
    obtain ⟨m', hm'⟩ := c_gpr (R := R) (i := 0) hs (by decide) (by decide)
    exact ⟨_, fun {n c P F K} M q => R.h rfl (dF h8 (M.ap (hm (c_get M ⟨hd.len, by decide⟩ hs.k (shl hs.k (wr64 hs _).nb (M.ap (hm' (c_get M ⟨hd.len, by decide⟩ hs.k q))))))))⟩
theorem c_readI {n : Nat} {σ : H} {K : KO} {pv : V} {k : Int} (hs : Sz s) (q : K (some (.int (wr k s))) σ) : R.r (n + 6) 722 [pv, ioV k, .int s] σ K :=
  R.h rfl (opF (by kernel_rfl) (opF (by kernel_rfl) (c_wrap hs.k q)))
theorem l5 {n : Nat} (h : Nat.ble n 100000 = true) : n ≤ 100000 := Nat.le_of_ble_eq_true h
section
variable {O : Og} (hO : O.ok) (hs : Sz s) (hd : MD rg L)
include hO hs hd
theorem d_prod1 (hn : nm = Str.ofString "mul" ∨ nm = Str.ofString "imul") : ∃ rg' v, v.p = 0 ∧ v.a = 0 ∧ v.z = 0 ∧ v.s = 0 ∧ Deed R 110 (inV' nm [O.v s]) rg L Any rg' L 63 v := by
  obtain ⟨v, hv, hr⟩ := c_read O hO hs hd
  obtain ⟨m, hm⟩ := c_gpr (R := R) (i := 0) hs (by decide) (by decide)
  rcases hn with rfl | rfl
  · obtain ⟨x, y, z, hy, k⟩ := c_product (R := R) (b := v) false hs (wr64 hs (rg.getD (0 : Int).toNat 0))
    obtain ⟨rg', kp⟩ := c_putHalves R (a := x) hs hd hy
    exact ⟨_, ⟨z, 0, 0, 0, 0, z, 0⟩, rfl, rfl, rfl, rfl, fun {n c P F K} M _ q => R.h rfl (M.ap ⟨i0, c_sizeof O hs (l100 rfl) (M.ap ⟨i0, hr M ⟨l5 rfl, M.ap (hm (c_get M ⟨hd.len, by decide⟩ hs.k (opF (by kernel_rfl) (k (kp M (M.ap (c_laywide M q)))))))⟩⟩)⟩)⟩
  · obtain ⟨x, y, z, hy, k⟩ := c_product (R := R) (b := v) true hs (wr64 hs (rg.getD (0 : Int).toNat 0))
    obtain ⟨rg', kp⟩ := c_putHalves R (a := x) hs hd hy
    exact ⟨_, ⟨z, 0, 0, 0, 0, z, 0⟩, rfl, rfl, rfl, rfl, fun {n c P F K} M _ q => R.h rfl (M.ap ⟨i0, c_sizeof O hs (l100 rfl) (M.ap ⟨i0, hr M ⟨l5 rfl, M.ap (hm (c_get M ⟨hd.len, by decide⟩ hs.k (opT (by kernel_rfl) (k (kp M (M.ap (c_laywide M q)))))))⟩⟩)⟩)⟩
theorem d_quot (R : Rs) (hn : nm = Str.ofString "div" ∨ nm = Str.ofString "idiv") :
    (∀ {n : Nat} {c : Hc} {P : Pt} {F : F7} {K : KO}, Mch c P → K none (c rg L F) → R.r (n + 8) 111 [.ref P.p, inV' nm [O.v s]] (c rg L F) K) ∨ ∃ rg', Deed R 111 (inV' nm [O.v s]) rg L Any rg' L 63 z7 := by
  obtain ⟨v, hv, hr⟩ := c_read O hO hs hd
  obtain ⟨h, hh⟩ := c_halves R hs hd
  rcases hn with rfl | rfl
  · rcases c_quotient (R := R) (a := h) false hs hv.1 hv.2 with k | ⟨x, y, hy, k⟩
    · exact .inl fun {n c P F K} M q => R.h rfl ⟨i0, M.ap (c_sizeof O hs (l100 rfl) (hh M (M.ap (hr M (opF (by kernel_rfl) (k q))))))⟩
    · obtain ⟨rg', kp⟩ := c_putHalves R (a := x) hs hd hy
      exact .inr ⟨_, fun {n c P F K} M _ q => R.h rfl ⟨i0, M.ap (c_sizeof O hs (l100 rfl) (hh M (M.ap (hr M (opF (by kernel_rfl) (k (kp M (M.ap (c_clear M q)))))))))⟩⟩
  · rcases c_quotient (R := R) (a := h) true hs hv.1 hv.2 with k | ⟨x, y, hy, k⟩
    · exact .inl fun {n c P F K} M q => R.h rfl ⟨i0, M.ap (c_sizeof O hs (l100 rfl) (hh M (M.ap (hr M (opT (by kernel_rfl) (k q))))))⟩
    · obtain ⟨rg', kp⟩ := c_putHalves R (a := x) hs hd hy
      exact .inr ⟨_, fun {n c P F K} M _ q => R.h rfl ⟨i0, M.ap (c_sizeof O hs (l100 rfl) (hh M (M.ap (hr M (opT (by kernel_rfl) (k (kp M (M.ap (c_clear M q)))))))))⟩⟩
theorem d_swap (h16 : s ≠ 16) : ∃ rg' L', ∀ v, Deed R 118 (inV' nm [O.v s]) rg L Any rg' L' 0 v := by
  obtain ⟨v, hv, hr⟩ := c_read O hO hs hd
  obtain ⟨r, k⟩ := c_swapped (R := R) (w := v) (d := s.fdiv 8) (by rw [hs.div.1]; have := hs.div.2.1; lia)
  exact ⟨_, _, fun _ {n c P F K} M _ q => R.h rfl ⟨i0, M.ap (c_sizeof O hs (l100 rfl) (dF h16 (M.ap (M.ap (hr M ⟨⟨by decide, by decide⟩, k (c_write M O hO hs hd q)⟩)))))⟩⟩
theorem d_scanO (hn : nm = Str.ofString "popcnt" ∨ nm = Str.ofString "lzcnt" ∨ nm = Str.ofString "tzcnt") {G : Og} (hG : G.ok) :
    ∃ rg' L' v, v.p = 0 ∧ v.a = 0 ∧ v.s = 0 ∧ v.o = 0 ∧ Deed R 117 (inV' nm [G.v s, O.v s]) rg L Any rg' L' 63 v := by
  obtain ⟨v, hv, hr⟩ := c_read O hO hs hd
  obtain ⟨r, k⟩ := c_scanned (R := R) (w := v) hn hs
  rcases hn with rfl | rfl | rfl
  · exact ⟨_, _, ⟨0, 0, 0, if v = 0 then 1 else 0, 0, 0, 0⟩, rfl, rfl, rfl, rfl, fun {n c P F K} M _ q => R.h rfl ⟨i0, M.ap (c_sizeof G hs (l100 rfl) (M.ap ⟨i1, hr M (k (M.ap (c_clear M (opF (by kernel_rfl)
      (if_if (P := fun z => K (some .non) (c _ _ ⟨0, 0, 0, z, 0, 0, F.d⟩)) q (fun q => M.ap (M.sz (M.ap (c_write M G hG hs hd q)))) fun q => M.ap (M.sz (M.ap (c_write M G hG hs hd q))))))))⟩))⟩⟩
  all_goals exact ⟨_, _, ⟨if v = 0 then 1 else 0, 0, 0, if r = 0 then 1 else 0, 0, 0, 0⟩, rfl, rfl, rfl, rfl, fun {n c P F K} M _ q => R.h rfl ⟨i0, M.ap (c_sizeof G hs (l100 rfl) (M.ap ⟨i1, hr M (k (M.ap (c_clear M (opT (by kernel_rfl)
      (if_if (P := fun x => K (some .non) (c _ _ ⟨x, 0, 0, if r = 0 then 1 else 0, 0, 0, F.d⟩)) q
        (fun q => M.ap (M.sc (if_if (P := fun z => K (some .non) (c _ _ ⟨_, 0, 0, z, 0, 0, F.d⟩)) q (fun q => M.ap (M.sz (M.ap (c_write M G hG hs hd q)))) fun q => M.ap (M.sz (M.ap (c_write M G hG hs hd q))))))
        fun q => M.ap (M.sc (if_if (P := fun z => K (some .non) (c _ _ ⟨_, 0, 0, z, 0, 0, F.d⟩)) q (fun q => M.ap (M.sz (M.ap (c_write M G hG hs hd q)))) fun q => M.ap (M.sz (M.ap (c_write M G hG hs hd q))))))))))⟩))⟩⟩
theorem d_scanF (hn : nm = Str.ofString "bsf" ∨ nm = Str.ofString "bsr") {G : Og} (hG : G.ok) :
    ∃ rg' L' v, v.c = 0 ∧ v.p = 0 ∧ v.a = 0 ∧ v.s = 0 ∧ v.o = 0 ∧ Deed R 117 (inV' nm [G.v s, O.v s]) rg L Any rg' L' 63 v := by
  have ht : inO (.str nm) [.str (Str.ofString "lzcnt"), .str (Str.ofString "tzcnt")] = some false := by rcases hn with rfl | rfl <;> kernel_rfl
  obtain ⟨v, hv, hr⟩ := c_read O hO hs hd
  by_cases h : v = 0
  · subst h
    exact ⟨_, _, ⟨0, 0, 0, 1, 0, 0, 0⟩, rfl, rfl, rfl, rfl, rfl, fun {n c P F K} M _ q => R.h rfl ⟨i0, M.ap (c_sizeof G hs (l100 rfl) (M.ap ⟨i1, hr M (c_scan0 hn (M.ap (c_clear M (opF ht (M.ap (M.sz q))))))⟩))⟩⟩
  · obtain ⟨r, k⟩ := c_scanF (R := R) (w := v) hn hs h
    exact ⟨_, _, ⟨0, 0, 0, 0, 0, 0, 0⟩, rfl, rfl, rfl, rfl, rfl, fun {n c P F K} M _ q => R.h rfl ⟨i0, M.ap (c_sizeof G hs (l100 rfl) (M.ap ⟨i1, hr M (k (M.ap (c_clear M (opF ht (dF h (M.ap (M.sz (M.ap (c_write M G hG hs hd q)))))))))⟩))⟩⟩
end
end
end Mine.J
set_option maxHeartbeats 400000
namespace Mine.J
section
variable {R : Rs} {rg rg' : List Int} {L L' : List (Int × Int)} {nm : Str} {s w : Int} {B : V}
section
variable {O G : Og} (hG : G.ok) (hO : O.ok) (hs : Sz s) (hd : MD rg L)
include hG hO hs hd
theorem d_prod2 : ∃ rg' L' v, v.p = 0 ∧ v.a = 0 ∧ v.z = 0 ∧ v.s = 0 ∧ Deed R 110 (inV' (Str.ofString "imul") [G.v s, O.v s]) rg L Any rg' L' 63 v := by
  obtain ⟨a, ha, hr⟩ := c_read G hG hs hd
  obtain ⟨b, hb, hh⟩ := c_read O hO hs hd
  obtain ⟨x, y, z, hy, k⟩ := c_product (R := R) (b := b) true hs (v64 hs ha)
  exact ⟨_, _, ⟨z, 0, 0, 0, 0, z, 0⟩, rfl, rfl, rfl, rfl, fun {n c P F K} M _ q => R.h rfl (M.ap ⟨i0, c_sizeof G hs (l100 rfl) (M.ap ⟨i0, hr M ⟨l5 rfl, M.ap ⟨i1, hh M ⟨l5 rfl, k (M.ap ⟨i0, c_write M G hG hs hd (M.ap (c_laywide M q))⟩)⟩⟩⟩⟩)⟩)⟩
theorem d_prod3 (i : Int) : ∃ rg' L' v, v.p = 0 ∧ v.a = 0 ∧ v.z = 0 ∧ v.s = 0 ∧ Deed R 110 (inV' (Str.ofString "imul") [G.v s, O.v s, ioV i]) rg L Any rg' L' 63 v := by
  obtain ⟨a, ha, hr⟩ := c_read G hG hs hd
  obtain ⟨b, hb, hh⟩ := c_read O hO hs hd
  obtain ⟨x, y, z, hy, k⟩ := c_product (R := R) (b := b) true hs (wr64 hs i)
  exact ⟨_, _, ⟨z, 0, 0, 0, 0, z, 0⟩, rfl, rfl, rfl, rfl, fun {n c P F K} M _ q => R.h rfl (M.ap ⟨i0, c_sizeof G hs (l100 rfl) (M.ap ⟨i0, hr M ⟨l5 rfl, M.ap ⟨i1, hh M ⟨l5 rfl, M.ap ⟨i2, c_readI hs (k (M.ap ⟨i0, c_write M G hG hs hd (M.ap (c_laywide M q))⟩))⟩⟩⟩⟩⟩)⟩)⟩
end
inductive Bo (rg : List Int) (s : Int) : V → Int → Prop
  | imm (k : Int) : Bo rg s (ioV k) ((wr k 8).fmod s)
  | reg (nm : Str) {i : Int} (h : Ri rg i) : Bo rg s (roV nm i s) (sg (wr (rg.getD i.toNat 0) s) s)
noncomputable def dropS (k : Nat) (b : Sts) : Sts := Nat.rec b (fun _ b => Sts.casesOn (motive_2 := fun _ => Sts) b .nil fun _ b => b) k
noncomputable def btE (P : Pt) (a : V) (o B : V) (s off : Int) : Env' := [(87, .ref P.p), (93, a), (113, o), (104, B), (2, .int s), (116, .int off)]
theorem setsA {c : Hc} {P : Pt} {F : F7} {C : Orc} {ρ : Env'} {x a : Nat} {v : V} {ts : List (Ex × Nat)} {vs : List V} {G : H → Prop} (M : Mch c P) (h : look x ρ = some (.ref P.p)) (q : setAW tab (c rg L F) (.ref P.f) a v fun σ => setsW tab C ρ ts vs σ G) : setsW tab C ρ ((.attr (.loc x) 31, a) :: ts) (v :: vs) (c rg L F) G :=
  opE h (M.ap q)
theorem bt_rest {O : Og} {ops : List V} {off : Int} (hO : O.ok) (hs : Sz s) (hd : MD rg L) (hn : nm = Str.ofString "bt" ∨ nm = Str.ofString "bts" ∨ nm = Str.ofString "btr" ∨ nm = Str.ofString "btc") :
    ∃ rg' L' v, v.p = 0 ∧ v.a = 0 ∧ v.s = 0 ∧ v.o = 0 ∧ ∀ {n : Nat} {c : Hc} {P : Pt} {F : F7} {K : KO}, Mch c P → K (some .non) (c rg' L' (apF 55 v F)) → wB tab (R.r (n + 7)) (dropS 3 f_bit_deed.body) (btE P (inV' nm ops) (O.v s) B s off) (c rg L F) (endK K) := by
  have hb := fm (s := s) off hs.b.1
  have h1 : 0 ≤ off.fmod s ∧ off.fmod s ≤ 1000 := by have := hs.k; exact ⟨hb.1, by lia⟩
  have h8 : (8 : Int) ≠ 0 ∧ (8 : Int).natAbs < 2 ^ 256 := ⟨by decide, by decide⟩
  have hs2 : s ≠ 0 ∧ s.natAbs < 2 ^ 256 := by have := hs.b; exact ⟨hb.2.2, by lia⟩
  obtain ⟨e1, e2, e3⟩ := hs.div
  have hm : (off.fdiv s).natAbs < 2 ^ 64 ∨ (s.fdiv 8).natAbs < 2 ^ 64 := .inr (by rw [e1]; lia)
  cases O with
  | reg rn i =>
    obtain ⟨v, hv, hr⟩ := c_read (.reg rn i) hO hs hd
    rcases hn with rfl | hn
    · exact ⟨_, _, ⟨bt v (off.fmod s), 0, 0, 0, 0, 0, 0⟩, rfl, rfl, rfl, rfl, fun {n c P F K} M q => ⟨hb.2.2, opF (by kernel_rfl) (M.ap (hr M (M.ap (M.af (M.ap (c_clear M (c_bit h1.1 ⟨rfl, setsA M rfl (M.sc (setsA M rfl (M.sz (opT (by kernel_rfl) q))))⟩)))))))⟩⟩
    · obtain ⟨r, k⟩ := c_with_bit (R := R) (w := v) hn h1
      have ht : eqO (.str nm) (.str (Str.ofString "bt")) = some false := by rcases hn with rfl | rfl | rfl <;> kernel_rfl
      exact ⟨_, _, ⟨bt v (off.fmod s), 0, 0, 0, 0, 0, 0⟩, rfl, rfl, rfl, rfl, fun {n c P F K} M q => ⟨hb.2.2, opF (by kernel_rfl) (M.ap (hr M (M.ap (M.af (M.ap (c_clear M (c_bit h1.1 ⟨rfl, setsA M rfl (M.sc (setsA M rfl (M.sz (opF ht (opF (by kernel_rfl) (M.ap (k (c_write M (.reg rn i) hO hs hd q))))))))⟩)))))))⟩⟩
  | mem mn b d =>
    obtain ⟨v, hv, hr⟩ := c_mread hd.me (wr (ofs rg b d + off.fdiv s * s.fdiv 8) 64) (w := (s / 8).toNat) (by lia)
    rw [← e1] at hr
    rcases hn with rfl | hn
    · exact ⟨_, _, ⟨bt v (off.fmod s), 0, 0, 0, 0, 0, 0⟩, rfl, rfl, rfl, rfl, fun {n c P F K} M q => ⟨hb.2.2, opT (by kernel_rfl) (M.ap (c_place M ⟨hd.len, hO⟩ ⟨hs2, h8, hm, c_wrap (by decide) (M.ap (M.am ⟨h8, hr M (M.ap (M.af (M.ap (c_clear M (c_bit h1.1 ⟨rfl, setsA M rfl (M.sc (setsA M rfl (M.sz (opT (by kernel_rfl) q))))⟩)))))⟩))⟩))⟩⟩
    · obtain ⟨r, k⟩ := c_with_bit (R := R) (w := v) hn h1
      have ht : eqO (.str nm) (.str (Str.ofString "bt")) = some false := by rcases hn with rfl | rfl | rfl <;> kernel_rfl
      have hh := fun {n : Nat} {c : Hc} {P : Pt} {F : F7} {K : KO} (M : Mch c P) => c_mwrite (R := R) (n := n) (K := K) (k := wr (ofs rg b d + off.fdiv s * s.fdiv 8) 64) (v := r) (w := (s / 8).toNat) (rg := rg) (F := F) M (by lia) hd.ml
      rw [← e1] at hh
      exact ⟨_, _, ⟨bt v (off.fmod s), 0, 0, 0, 0, 0, 0⟩, rfl, rfl, rfl, rfl, fun {n c P F K} M q => ⟨hb.2.2, opT (by kernel_rfl) (M.ap (c_place M ⟨hd.len, hO⟩ ⟨hs2, h8, hm, c_wrap (by decide) (M.ap (M.am ⟨h8, hr M (M.ap (M.af (M.ap (c_clear M (c_bit h1.1 ⟨rfl, setsA M rfl (M.sc (setsA M rfl (M.sz (opF ht (opT (by kernel_rfl) (M.ap (M.am ⟨h8, k (hh M q)⟩)))))))⟩)))))⟩))⟩))⟩⟩
theorem d_bits {O : Og} {off : Int} (hO : O.ok) (hs : Sz s) (hd : MD rg L) (hn : nm = Str.ofString "bt" ∨ nm = Str.ofString "bts" ∨ nm = Str.ofString "btr" ∨ nm = Str.ofString "btc") (hB : Bo rg s B off) :
    ∃ rg' L' v, v.p = 0 ∧ v.a = 0 ∧ v.s = 0 ∧ v.o = 0 ∧ Deed R 112 (inV' nm [O.v s, B]) rg L Any rg' L' 55 v := by
  obtain ⟨rg', L', v, h1, h2, h3, h4, h⟩ := bt_rest (R := R) (ops := [O.v s, B]) (off := off) (B := B) hO hs hd hn
  refine ⟨rg', L', v, h1, h2, h3, h4, fun {n c P F K} M _ q => ?_⟩
  have hb := hs.b
  cases hB with
  | imm k => exact R.h rfl ⟨i0, i1, M.ap (c_sizeof O hs (l100 rfl) (opT (by kernel_rfl) (c_wrap (by decide) ⟨by lia, h M q⟩)))⟩
  | reg rn hi => exact R.h rfl ⟨i0, i1, M.ap (c_sizeof O hs (l100 rfl) (opF (by kernel_rfl) (M.ap (c_get M hi hs.k (c_signed hs.h (h M q))))))⟩
theorem d_widen {O G : Og} (hG : G.ok) (hO : O.ok) (hs : Sz s) (hd : MD rg L) (hn : nm = Str.ofString "movzx" ∨ nm = Str.ofString "movsx") : ∃ rg' L', ∀ v, Deed R 119 (inV' nm [G.v s, O.v 8]) rg L Any rg' L' 0 v := by
  have h8 : Sz 8 := .inl rfl
  obtain ⟨v, hv, hr⟩ := c_read O hO h8 hd
  rcases hn with rfl | rfl
  · exact ⟨_, _, fun _ {n c P F K} M _ q => R.h rfl ⟨i0, i1, M.ap (c_sizeof G hs (l100 rfl) (M.ap (c_sizeof O h8 (l100 rfl) (M.ap (hr M (opT (by kernel_rfl) (M.ap (c_write M G hG hs hd q))))))))⟩⟩
  · exact ⟨_, _, fun _ {n c P F K} M _ q => R.h rfl ⟨i0, i1, M.ap (c_sizeof G hs (l100 rfl) (M.ap (c_sizeof O h8 (l100 rfl) (M.ap (hr M (opF (by kernel_rfl) (c_extended (by decide) hs.k (M.ap (c_write M G hG hs hd q)))))))))⟩⟩
theorem d_convC {k : Nat} (ht : tst nm "cbw cwde cdqe" = (true, some true)) (hi : (Nat.ble (((Txt.words (Str.ofString "cbw cwde cdqe")).map V.str).length) 1000, (strsOf ((Txt.words (Str.ofString "cbw cwde cdqe")).map .str)).bind (idxS nm)) = (true, some k)) (hk : k ≤ 1000)
    (hS : Sz (16 * 2 ^ ((k : Nat) : Int).toNat)) (hh : Sz ((16 * 2 ^ ((k : Nat) : Int).toNat : Int).fdiv 2)) (hd : MD rg L) : ∃ rg' L', ∀ v, Deed R 121 (.str nm) rg L Any rg' L' 0 v := by
  obtain ⟨m, hm⟩ := c_gpr (R := R) (i := 0) hh (by decide) (by decide)
  obtain ⟨m', hm'⟩ := c_gpr (R := R) (i := 0) hS (by decide) (by decide)
  have h2 : (2 : Int) ≠ 0 ∧ (2 : Int).natAbs < 2 ^ 256 := ⟨by decide, by decide⟩
  have hz : Nat.ble (Str.length (Str.ofString "cbw cwde cdqe")) 1000 = true := congrArg Prod.fst ht
  exact ⟨_, _, fun _ {n c P F K} M _ q => R.h rfl (qT ht ⟨Nat.le_of_ble_eq_true hz, Nat.le_of_ble_eq_true (congrArg Prod.fst hi), opX _ (congrArg Prod.snd hi) (shl ⟨by lia, by lia⟩ (by decide) (M.ap ⟨h2, hm (c_get M ⟨hd.len, by decide⟩ hh.k (M.ap (hm' ⟨h2, c_extended hh.h hS.k (c_put M ⟨hd.len, by decide⟩ hS.k q)⟩)))⟩))⟩)⟩
theorem d_convS {k : Nat} (ht : tst nm "cbw cwde cdqe" = (true, some false)) (hz : Nat.ble (Str.length (Str.ofString "cwd cdq cqo")) 1000 = true) (hi : (Nat.ble (((Txt.words (Str.ofString "cwd cdq cqo")).map V.str).length) 1000, (strsOf ((Txt.words (Str.ofString "cwd cdq cqo")).map .str)).bind (idxS nm)) = (true, some k)) (hk : k ≤ 1000)
    (hS : Sz (16 * 2 ^ ((k : Nat) : Int).toNat)) (hd : MD rg L) : ∃ rg' L', ∀ v, Deed R 121 (.str nm) rg L Any rg' L' 0 v := by
  obtain ⟨m, hm⟩ := c_gpr (R := R) (i := 0) hS (by decide) (by decide)
  obtain ⟨m', hm'⟩ := c_gpr (R := R) (i := 2) hS (by decide) (by decide)
  exact ⟨_, _, fun _ {n c P F K} M _ q => R.h rfl (qF ht ⟨Nat.le_of_ble_eq_true hz, Nat.le_of_ble_eq_true (congrArg Prod.fst hi), opX _ (congrArg Prod.snd hi) (shl ⟨by lia, by lia⟩ (by decide) (M.ap (hm (c_get M ⟨hd.len, by decide⟩ hS.k (M.ap (hm' (c_bit (p_l hS.b.1) (c_wrap hS.k (c_put M ⟨hd.len, by decide⟩ hS.k q)))))))))⟩)⟩
end
end Mine.J
set_option maxHeartbeats 400000
namespace Mine.J
noncomputable def sv (l : List String) : List V := l.map fun s => .str (Str.ofString s)
noncomputable def sO (nm : Str) (s : String) : Option Bool := eqO (.str nm) (.str (Str.ofString s))
noncomputable def sI (nm : Str) (l : List String) : Option Bool := inO (.str nm) (sv l)
noncomputable def tb {α : Type} (o : Option Bool) (x y : Option α) : Option α := o.bind fun b => cond b x y
theorem dsp {α : Type} {o : Option Bool} {x y : Option α} {f : α} {K : Bool → Prop} (h : tb o x y = some f) (a : x = some f → K true) (b : y = some f → K false) : optX o K := by
  cases o with
  | none => cases h
  | some c => cases c; exact opX _ rfl (b h); exact opX _ rfl (a h)
theorem kc {a b : Prop} (h : a = b) (q : a) : b := h ▸ q
theorem nz {α : Type} {f : α} {p : Prop} (h : none = some f) : p := by cases h
section
variable {R : Rs} {σ : H} {K : KO} {n : Nat} {nm : Str} {r : List V}
theorem rL {l : List V} (q : K (some (.lst r)) σ) (e : some l = some r) : K (some (.lst l)) σ := by cases e; exact q
noncomputable def stm (nm : Str) : Option Bool := if nm = Str.ofString "movsx" then some false else inO (.str (Txt.slice nm none (some 4))) (sv ["movs", "cmps", "stos", "lods", "scas"])
noncomputable def nk (nm : Str) : Bool × Bool × Bool × Bool × Option Bool := (Txt.startswith nm (Str.ofString "j"), Txt.startswith nm (Str.ofString "set"), Txt.startswith nm (Str.ofString "cmov"), Nat.ble nm.length 1000, stm nm)
noncomputable def Nk (nm : Str) : Prop := nk nm = (false, false, false, true, some false)
theorem Nk.l (h : Nk nm) : nm.length ≤ 1000 := Nat.le_of_ble_eq_true (congrArg (fun x => x.2.2.2.1) h)
theorem c_cond (h : Nk nm) (q : K (some (.str (Str.ofString ""))) σ) : R.r (n + 1) 26 [.str nm] σ K :=
  R.h rfl (ifF (congrArg (fun x => x.1) h) (ifF (congrArg (fun x => x.2.1) h) (ifF (congrArg (fun x => x.2.2.1) h) q)))
theorem c_stem (h : Nk nm) (q : K (some (.tup [.str (Str.ofString ""), .int 0])) σ) : R.r (n + 1) 29 [.str nm] σ K := by
  have hs : stm nm = some false := congrArg (fun x => x.2.2.2.2) h
  have hl := h.l
  unfold stm at hs
  split at hs
  · rename_i e
    subst e
    exact R.h rfl ⟨⟨by decide, by decide, hl⟩, opT (by kernel_rfl) ⟨hl, ⟨by decide, by decide⟩, opE (by kernel_rfl : (Str.ofString "movsx").cps.toList[(4 : Int).toNat]? = some 120) (dF (by decide +kernel) q)⟩⟩
  · exact R.h rfl ⟨⟨by decide, by decide, hl⟩, opF hs q⟩
noncomputable def six : List V := sv ["cf", "pf", "af", "zf", "sf", "of"]
theorem c_six (q : K (some (.lst six)) σ) : R.r (n + 1) 37 [] σ K :=
  R.h rfl ⟨Nat.le_of_ble_eq_true rfl, ⟨by decide, by decide, Nat.le_of_ble_eq_true (by kernel_rfl)⟩, kc (by kernel_rfl) q⟩
noncomputable def rdF (nm : Str) : Option (List V) := tb (sI nm ["adc", "sbb", "rcl", "rcr", "cmc"]) (some (sv ["cf"])) (tb (sI nm ["loope", "loopne"]) none (tb (sO nm "lahf") none (tb (sO nm "pushfq") none (some []))))
theorem c_reads (h : Nk nm) (e : rdF nm = some r) (q : K (some (.lst r)) σ) : R.r (n + 2) 39 [.str nm] σ K :=
  R.h rfl (c_cond h (opT (by kernel_rfl) (dsp e (rL q) fun e => dsp e nz fun e => dsp e nz fun e => dsp e nz fun e => c_stem h ⟨i0, opT (by kernel_rfl) (rL q e)⟩)))
noncomputable def wrF (nm : Str) : Option (List V) := tb (sI nm ["add", "adc", "sub", "sbb", "cmp", "neg", "and", "or", "xor", "test", "xadd", "cmpxchg"]) none (tb (sI nm ["shl", "shr", "sar", "shld", "shrd", "mul", "imul", "div", "idiv"]) (some six) (tb (sI nm ["bsf", "bsr", "popcnt", "lzcnt", "tzcnt"]) (some six)
  (tb (sI nm ["bt", "bts", "btr", "btc"]) (some (sv ["cf", "pf", "af", "sf", "of"])) (tb (sI nm ["inc", "dec"]) none (tb (sI nm ["rol", "ror", "rcl", "rcr"]) (some (sv ["cf", "of"])) (tb (sI nm ["clc", "stc", "cmc"]) none (tb (sI nm ["cld", "std"]) none (tb (sO nm "sahf") none (tb (sO nm "popfq") none (some []))))))))))
theorem c_writes (h : Nk nm) (e : wrF nm = some r) (q : K (some (.lst r)) σ) : R.r (n + 2) 42 [.str nm] σ K :=
  R.h rfl (dsp e nz fun e => dsp e (fun e => c_six (rL q e)) fun e => dsp e (fun e => c_six (rL q e)) fun e => dsp e (rL q) fun e => dsp e nz fun e => dsp e (rL q) fun e => dsp e nz fun e => dsp e nz fun e => dsp e nz fun e => dsp e nz fun e =>
    c_stem h ⟨i0, opF (by kernel_rfl) (rL q e)⟩)
noncomputable def rnds : List String := ["shl", "shr", "sar", "shld", "shrd", "rol", "ror", "rcl", "rcr"]
noncomputable def suF (nm : Str) : Option (List V) := tb (sI nm rnds) (some []) (wrF nm)
theorem c_sure (h : Nk nm) (e : suF nm = some r) (q : K (some (.lst r)) σ) : R.r (n + 3) 43 [.str nm] σ K :=
  R.h rfl (dsp e (rL q) fun e => c_stem h ⟨i0, opT (by kernel_rfl) (c_writes h e q)⟩)
noncomputable def roO (nm : Str) : Option Bool := sI nm ["shl", "shr", "sar", "rol", "ror", "rcl", "rcr", "shld", "shrd"]
theorem c_rounds {b : Bool} (e : roO nm = some b) (q : K (some (.boo b)) σ) : R.r (n + 1) 138 [.str nm] σ K := R.h rfl (opX _ e q)
noncomputable def sbF (nm : Str) : Option (List V) := tb (sI nm ["rol", "ror", "rcl", "rcr"]) (some (sv ["cf", "of"])) (tb (sI nm ["bt", "bts", "btr", "btc"]) (some (sv ["cf", "pf", "af", "sf", "of"]))
  (tb (roO nm) (some six) (tb (sI nm ["mul", "imul", "div", "idiv", "bsf", "bsr", "popcnt", "lzcnt", "tzcnt"]) (some six) (some []))))
theorem c_setby (e : sbF nm = some r) (q : K (some (.lst r)) σ) : R.r (n + 2) 139 [.str nm] σ K :=
  R.h rfl (dsp e (rL q) fun e => dsp e (rL q) fun e => R.h rfl (dsp e (rL q) fun e => dsp e (rL q) (rL q)))
noncomputable def unF (nm : Str) : Option (List V) := tb (sI nm rnds) none (tb (sI nm ["and", "or", "xor", "test"]) none (tb (sI nm ["mul", "imul"]) (some (sv ["pf", "af", "zf", "sf"])) (tb (sI nm ["div", "idiv"]) (some six) (tb (sI nm ["bsf", "bsr"]) (some (sv ["cf", "pf", "af", "sf", "of"]))
  (tb (sI nm ["bt", "bts", "btr", "btc", "lzcnt", "tzcnt"]) (some (sv ["pf", "af", "sf", "of"])) (some []))))))
theorem c_undef (e : unF nm = some r) (q : K (some (.lst r)) σ) : R.r (n + 2) 48 [.str nm] σ K :=
  R.h rfl (dsp e nz fun e => dsp e nz fun e => dsp e (rL q) fun e => dsp e (fun e => c_six (rL q e)) fun e => dsp e (rL q) fun e => dsp e (rL q) (rL q))
section
variable {c s : Int} {b0 b1 b2 b3 b4 : Bool}
noncomputable def opnR (nm : Str) (b0 b1 b2 b3 b4 : Bool) : Option (List V) := cond b0 (some []) (tb (inO (.str (Txt.slice nm none (some 2))) (sv ["ro", "rc"])) (some (cond b1 (sv ["of"]) []))
  (cond (b4 && b3) (some six) (tb (sI nm ["shl", "shr"]) (some (sv ["af"] ++ cond b1 (sv ["of"]) [] ++ cond b2 (sv ["cf"]) [])) (some (sv ["af"] ++ cond b1 (sv ["of"]) [] ++ [])))))
noncomputable def opnF (nm : Str) (b0 b1 b2 b3 b4 : Bool) : Option (List V) := tb (sI nm ["mul", "imul"]) (some (sv ["pf", "af", "zf", "sf"])) (tb (sI nm ["div", "idiv"]) (some six) (tb (sI nm ["bsf", "bsr"]) (some (sv ["cf", "pf", "af", "sf", "of"]))
  (tb (sI nm ["bt", "bts", "btr", "btc", "lzcnt", "tzcnt"]) (some (sv ["pf", "af", "sf", "of"])) (tb (roO nm) (opnR nm b0 b1 b2 b3 b4) (some [])))))
theorem a3 : 1 + 1 ≤ 1000 := by decide
theorem c_open (h : Nk nm) (e0 : decide (c = 0) = b0) (e1 : decide (1 < c) = b1) (e2 : decide (s ≤ c) = b2) (e3 : decide (s < c) = b3) (e4 : decide ((nm.length : Int) = 4) = b4) (e : opnF nm b0 b1 b2 b3 b4 = some r) (q : K (some (.lst r)) σ) : R.r (n + 2) 140 [.str nm, .int c, .int s] σ K := by
  refine R.h rfl (dsp e (rL q) fun e => dsp e (rL q) fun e => dsp e (rL q) fun e => dsp e (rL q) fun e => R.h rfl (dsp e (fun e => ?_) (rL q)))
  cases b0 with
  | true => exact ifT e0 (rL q e)
  | false =>
    refine ifF e0 ⟨⟨by decide, by decide, h.l⟩, dsp e (fun e => ?_) fun e => ⟨h.l, ?_⟩⟩
    · cases b1
      · exact ifF e1 (rL q e)
      · exact ifT e1 (rL q e)
    · have fin : ∀ {y : List V}, tb (sI nm ["shl", "shr"]) (some (y ++ cond b2 (sv ["cf"]) [])) (some (y ++ [])) = some r → y.length ≤ 500 → wB tab (R.r (n + 1)) (dropS 8 f_law_open.body) [(27, .str nm), (14, .int c), (2, .int s), (31, .lst y)] σ (endK K) := fun {y} e hy => by
        have hy1 : y.length + 1 ≤ 1000 := by lia
        have hy2 : y.length + 0 ≤ 1000 := by lia
        refine dsp e (fun e => ?_) fun e => ⟨hy2, rL q e⟩
        cases b2
        · exact ifF e2 ⟨hy2, rL q e⟩
        · exact ifT e2 ⟨hy1, rL q e⟩
      have go : tb (sI nm ["shl", "shr"]) (some (sv ["af"] ++ cond b1 (sv ["of"]) [] ++ cond b2 (sv ["cf"]) [])) (some (sv ["af"] ++ cond b1 (sv ["of"]) [] ++ [])) = some r → wB tab (R.r (n + 1)) (dropS 7 f_law_open.body) [(27, .str nm), (14, .int c), (2, .int s)] σ (endK K) := fun e => by
        cases b1
        · exact ifF e1 ⟨by decide, fin e (by decide)⟩
        · exact ifT e1 ⟨by decide, fin e (by decide)⟩
      cases b4 with
      | false => exact ifF e4 (go e)
      | true =>
        cases b3 with
        | false => exact ifT e4 (ifF e3 (go e))
        | true => exact ifT e4 (ifT e3 (rL q e))
end
end
end Mine.J
set_option maxHeartbeats 400000
namespace Mine.J
section
variable {R : Rs} {σ : H} {K : KO} {n : Nat} {nm : Str} {c s k : Int} {b0 bq b1 b2 b3 b4 b5 b : Bool} {r : List V}
theorem apE {x : HO} {G : HO → Prop} (q : G x) : opt (σ ++ [x])[σ.length]? G := opE (by rw [List.getElem?_append_right (Nat.le_refl _), Nat.sub_self]; rfl) q
theorem apS {x y : HO} {K : V → H → Prop} {v : V} (q : K v (σ ++ [y])) : K v ((σ ++ [x]).set σ.length y) := by
  rw [List.set_append_right _ _ (Nat.le_refl _), Nat.sub_self]; exact q
theorem mskS {T : Tab} {C : Orc} {ρ : Env'} {ss : Sts} {K : KF} (hk : look 14 ρ = some (.int k)) (hs : look 2 ρ = some (.int s)) (hm : Builtin.bitAnd k (if s = 64 then 63 else 31) = c) (q : wB T C ss (put 47 (.int c) ρ) σ K) : wB T C (.cons (.asg 47 (.bin .BitAnd (.loc 14) (.ite (.cmp .Eq (.loc 2) (.int 64)) (.int 63) (.int 31)))) ss) ρ σ K := by
  subst hm
  refine opE hk (opE hs ?_)
  by_cases h : s = 64
  · rw [if_pos h] at q; exact dT h q
  · rw [if_neg h] at q; exact dF h q
noncomputable def ubA (nm : Str) (bq b2 : Bool) : Option (Bool × List V) := tb (sI nm ["shl", "shr"]) (some (true, cond bq (cond b2 (sv ["cf"]) [] ++ sv ["af"]) (cond b2 (sv ["cf"]) [] ++ sv ["af"] ++ sv ["of"]))) (some (true, cond bq ([] ++ sv ["af"]) ([] ++ sv ["af"] ++ sv ["of"])))
noncomputable def ubF (nm : Str) (b0 bq b2 b3 : Bool) : Option (Bool × List V) := cond b0 (some (false, [])) (tb (sI nm ["rol", "ror", "rcl", "rcr"]) (some (false, cond bq [] (sv ["of"])))
  (tb (sI nm ["shld", "shrd"]) (cond b3 (some (false, six)) (ubA nm bq b2)) (ubA nm bq b2)))
noncomputable def UcQ (K : KO) (x : Bool × List V) (σ : H) : Prop := cond x.1 (K (some (.ref σ.length)) (σ ++ [.app x.2])) (K (some (.lst x.2)) σ)
theorem uq {x y : Bool × List V} (q : UcQ K x σ) (e : some y = some x) : UcQ K y σ := by cases e; exact q
theorem c_ubc {x : Bool × List V} (hm : Builtin.bitAnd k (if s = 64 then 63 else 31) = c) (e0 : decide (c = 0) = b0) (eq : decide (c = 1) = bq) (e2 : decide (s ≤ c) = b2) (e3 : decide (s < c) = b3) (e : ubF nm b0 bq b2 b3 = some x) (q : UcQ K x σ) : R.r (n + 2) 45 [.str nm, .int k, .int s] σ K := by
  have of : ∀ {y : List V}, y.length ≤ 500 → UcQ K (true, cond bq (y ++ sv ["af"]) (y ++ sv ["af"] ++ sv ["of"])) σ → wB tab (R.r (n + 1)) (dropS 5 f_undefined_by_count.body) [(27, .str nm), (14, .int k), (2, .int s), (47, .int c), (46, .ref σ.length)] (σ ++ [.app y]) (endK K) := fun {y} hy q => by
    have h1 : y.length ≤ 1000 := by lia
    have h2 : (y ++ sv ["af"]).length ≤ 1000 := by rw [List.length_append]; exact Nat.le_trans (Nat.add_le_add_right hy _) (by decide)
    cases bq
    · exact apE (apE ⟨h1, apS (nT (of_decide_eq_false eq) (apE (apE ⟨h2, apS q⟩)))⟩)
    · exact apE (apE ⟨h1, apS (nF (of_decide_eq_true eq) q)⟩)
  have ub : ubA nm bq b2 = some x → wB tab (R.r (n + 1)) (dropS 4 f_undefined_by_count.body) [(27, .str nm), (14, .int k), (2, .int s), (47, .int c)] σ (endK K) := fun e => by
    cases b2
    · exact dsp e (fun e => ifF e2 (of (by decide) (uq q e))) fun e => of (by decide) (uq q e)
    · exact dsp e (fun e => ifT e2 (of (by decide) (uq q e))) fun e => of (by decide) (uq q e)
  have go : wB tab (R.r (n + 1)) (dropS 1 f_undefined_by_count.body) [(27, .str nm), (14, .int k), (2, .int s), (47, .int c)] σ (endK K) := by
    cases b0 with
    | true => exact ifT e0 (uq q e)
    | false =>
      refine ifF e0 (dsp e (fun e => ?_) fun e => dsp e (fun e => ?_) ub)
      · cases bq
        · exact ifF eq (uq q e)
        · exact ifT eq (uq q e)
      · cases b3
        · exact ifF e3 (ub e)
        · exact ifT e3 (c_six (uq q e))
  refine R.h rfl (?_ : wB tab (R.r (n + 1)) f_undefined_by_count.body [(27, .str nm), (14, .int k), (2, .int s)] σ (endK K))
  exact mskS rfl rfl hm go
noncomputable def tn (nm : Str) (b5 b : Bool) (ch : List V) := (nk nm, rdF nm, wrF nm, sbF nm, suF nm, roO nm, sI nm ["rcl", "rcr"], eqO (.lst (cond b5 (sv ["cf"]) [])) (.lst (cond b5 (sv ["cf"]) [])), eqO (.lst ch) (.lst ch), eqO (.lst (cond b [] ch)) (.lst (cond b [] ch)))
noncomputable def Tn (nm : Str) (b5 b : Bool) (ch : List V) : Prop := tn nm b5 b ch = ((false, false, false, true, some false), some (cond b5 (sv ["cf"]) []), some ch, some ch, some (cond b [] ch), some b, some b5, some true, some true, some true)
noncomputable def srtd (l : List V) : List V := (isort leS ((strsOf l).getD [])).map .str
noncomputable def Srt (l m : List V) : Prop := (Nat.blt l.length 64, (strsOf l).isSome, Nat.blt m.length 64, (strsOf m).isSome, eqO (.lst (srtd l)) (.lst (srtd m))) = (true, true, true, true, some true)
theorem Srt.l {l m : List V} (h : Srt l m) : l.length < 64 ∧ (strsOf l).isSome = true := ⟨Nat.le_of_ble_eq_true (congrArg (fun x => x.1) h), congrArg (fun x => x.2.1) h⟩
theorem Srt.m {l m : List V} (h : Srt l m) : m.length < 64 ∧ (strsOf m).isSome = true := ⟨Nat.le_of_ble_eq_true (congrArg (fun x => x.2.2.1) h), congrArg (fun x => x.2.2.2.1) h⟩
theorem Srt.e {l m : List V} (h : Srt l m) : eqO (.lst (srtd l)) (.lst (srtd m)) = some true := congrArg (fun x => x.2.2.2.2) h
section
variable {ch : List V} (T : Tn nm b5 b ch)
include T
theorem Tn.hk : Nk nm := (congrArg (fun x => x.1) T : nk nm = (false, false, false, true, some false))
theorem Tn.hr : rdF nm = some (cond b5 (sv ["cf"]) []) := congrArg (fun x => x.2.1) T
theorem Tn.hs : sbF nm = some ch := congrArg (fun x => x.2.2.2.1) T
theorem Tn.ho : roO nm = some b := congrArg (fun x => x.2.2.2.2.2.1) T
theorem t_pre (q : wB tab (R.r (n + 5)) (dropS 2 f_law_told_right.body) [(27, .str nm), (2, .int s), (56, .int k), (14, .int c)] σ (endK K)) : R.r (n + 6) 164 [.str nm, .int s, .int k, .int c] σ K := by
  have hw : wrF nm = some ch := congrArg (fun x => x.2.2.1) T
  have hu : suF nm = some (cond b [] ch) := congrArg (fun x => x.2.2.2.2.1) T
  have hc : sI nm ["rcl", "rcr"] = some b5 := congrArg (fun x => x.2.2.2.2.2.2.1) T
  have h1 : eqO (.lst (cond b5 (sv ["cf"]) [])) (.lst (cond b5 (sv ["cf"]) [])) = some true := congrArg (fun x => x.2.2.2.2.2.2.2.1) T
  have h2 : eqO (.lst ch) (.lst ch) = some true := congrArg (fun x => x.2.2.2.2.2.2.2.2.1) T
  have h3 : eqO (.lst (cond b [] ch)) (.lst (cond b [] ch)) = some true := congrArg (fun x => x.2.2.2.2.2.2.2.2.2) T
  have go : wB tab (R.r (n + 5)) (dropS 1 f_law_told_right.body) [(27, .str nm), (2, .int s), (56, .int k), (14, .int c)] σ (endK K) := by
    cases b
    · exact c_sure T.hk hu (c_rounds T.ho (c_setby T.hs (opT h3 q)))
    · exact c_sure T.hk hu (c_rounds T.ho (opT h3 q))
  cases b5
  · exact R.h rfl (c_reads T.hk T.hr (opX _ hc (opT h1 (c_writes T.hk hw (c_setby T.hs (opT h2 go))))))
  · exact R.h rfl (c_reads T.hk T.hr (opX _ hc (opT h1 (c_writes T.hk hw (c_setby T.hs (opT h2 go))))))
end
section
variable {ch l m : List V} (e0 : decide (c = 0) = b0) (e1 : decide (1 < c) = b1) (e2 : decide (s ≤ c) = b2) (e3 : decide (s < c) = b3) (e4 : decide ((nm.length : Int) = 4) = b4) (e : opnF nm b0 b1 b2 b3 b4 = some m) (hs : Srt l m) (q : ∀ t, K (some (.boo true)) (σ ++ t))
include e0 e1 e2 e3 e4 e hs q
theorem t_non (T : Tn nm b5 false ch) (eu : unF nm = some l) : R.r (n + 6) 164 [.str nm, .int s, .int k, .int c] σ K :=
  t_pre T (c_rounds T.ho (c_undef eu ⟨hs.l, c_open T.hk e0 e1 e2 e3 e4 e ⟨hs.m, opT hs.e (by have := q []; rwa [List.append_nil] at this)⟩⟩))
theorem t_rnd (T : Tn nm b5 true ch) (hr : sI nm rnds = some true) (hm : Builtin.bitAnd k (if s = 64 then 63 else 31) = c) (eq : decide (c = 1) = bq) {x : Bool} (eu : ubF nm b0 bq b2 b3 = some (x, l)) : R.r (n + 6) 164 [.str nm, .int s, .int k, .int c] σ K := by
  refine t_pre T (c_rounds T.ho (R.h rfl (opT hr (c_ubc hm e0 eq e2 e3 eu ?_))))
  cases x
  · exact ⟨hs.l, c_open T.hk e0 e1 e2 e3 e4 e ⟨hs.m, opT hs.e (by have := q []; rwa [List.append_nil] at this)⟩⟩
  · exact apE ⟨hs.l, c_open T.hk e0 e1 e2 e3 e4 e ⟨hs.m, opT hs.e (q _)⟩⟩
end
end
end Mine.J
set_option maxHeartbeats 400000
namespace Mine.J
noncomputable def tw (nm : Str) (w : String) : Option Bool := inO (.str nm) ((Txt.words (Str.ofString w)).map .str)
noncomputable def disp (d : Option Nat) (nm : Str) : Option Nat := tb (tw nm "shl shr sar") (some 92) (tb (tw nm "rol ror") (some 92) (tb (tw nm "rcl rcr") (some 92) (tb (tw nm "shld shrd") (some 102) (tb (sI nm ["mul", "imul"]) (some 110) (tb (sI nm ["div", "idiv"]) d
  (tb (tw nm "bt bts btr btc") (some 112) (tb (tw nm "bsf bsr popcnt lzcnt tzcnt") (some 117) (tb (sO nm "bswap") (some 118) (tb (tw nm "movzx movsx movsxd") (some 119) (tb (tw nm "cbw cwde cdqe") (some 121) (tb (tw nm "cwd cdq cqo") (some 121) none)))))))))))
section
variable {R : Rs} {σ : H} {K : KO} {n p : Nat} {nm : Str} {ops : List V} {f : Nat}
noncomputable def da (nm : Str) (ops : List V) (f : Nat) : V := cond (Nat.beq f 121) (.str nm) (inV' nm ops)
theorem ln (w : String) (h : Nat.ble (Str.length (Str.ofString w)) 1000 = true) : Str.length (Str.ofString w) ≤ 1000 := Nat.le_of_ble_eq_true h
theorem rd (h : disp none nm = some f) (q : R.r n f [.ref p, da nm ops f] σ (okK fun _ τ => K (some (.boo true)) τ)) : R.r (n + 1) 124 [.ref p, inV' nm ops] σ K := by
  have go : ∀ {x}, some x = some f → R.r n x [.ref p, da nm ops x] σ (okK fun _ τ => K (some (.boo true)) τ) := fun {x} e => by cases e; exact q
  exact R.h rfl ⟨ln "shl shr sar" (by kernel_rfl), dsp h go fun h => ⟨ln "rol ror" (by kernel_rfl), dsp h go fun h => ⟨ln "rcl rcr" (by kernel_rfl), dsp h go fun h => ⟨ln "shld shrd" (by kernel_rfl), dsp h go fun h => dsp h go fun h => dsp h nz fun h => ⟨ln "bt bts btr btc" (by kernel_rfl), dsp h go fun h => ⟨ln "bsf bsr popcnt lzcnt tzcnt" (by kernel_rfl), dsp h go fun h => dsp h go fun h =>
    ⟨ln "movzx movsx movsxd" (by kernel_rfl), dsp h go fun h => ⟨ln "cbw cwde cdqe" (by kernel_rfl), dsp h go fun h => ⟨ln "cwd cdq cqo" (by kernel_rfl), dsp h go nz⟩⟩⟩⟩⟩⟩⟩⟩⟩
theorem rdQ (hn : nm = Str.ofString "div" ∨ nm = Str.ofString "idiv") (q : R.r n 111 [.ref p, inV' nm ops] σ fun r τ => Option.rec (K none τ) (fun _ => K (some (.boo true)) τ) r) : R.r (n + 1) 124 [.ref p, inV' nm ops] σ K := by
  rcases hn with rfl | rfl <;> exact R.h rfl ⟨ln "shl shr sar" (by kernel_rfl), opF (by kernel_rfl) ⟨ln "rol ror" (by kernel_rfl), opF (by kernel_rfl) ⟨ln "rcl rcr" (by kernel_rfl), opF (by kernel_rfl) ⟨ln "shld shrd" (by kernel_rfl), opF (by kernel_rfl) (opF (by kernel_rfl) (opT (by kernel_rfl) q))⟩⟩⟩⟩
noncomputable def no : V := .str (Str.ofString "no")
noncomputable def Ans (R : Rs) (nm : Str) (ops : List V) (rg : List Int) (L : List (Int × Int)) (Q : F7 → Prop) (r : V) (rg' : List Int) (L' : List (Int × Int)) (m : Nat) (v : F7) : Prop :=
  ∀ {n : Nat} {c : Hc} {P : Pt} {F : F7} {K : KO}, Mch c P → Q F → K (some r) (c rg' L' (apF m v F)) → R.r (n + 10) 162 [.ref P.p, inV' nm ops] (c rg L F) K
section
variable {rg rg' : List Int} {L L' : List (Int × Int)} {Q : F7 → Prop} {m : Nat} {v : F7}
theorem an_ok {a : V} (D : Deed R f a rg L Q rg' L' m v) (h : disp none nm = some f) (ha : a = da nm ops f) : Ans R nm ops rg L Q (.boo true) rg' L' m v :=
  fun {n c P F K} M hq q => R.h rfl (rd h (by subst ha; exact D M hq q))
theorem an_q (D : Deed R 111 (inV' nm ops) rg L Q rg' L' m v) (hn : nm = Str.ofString "div" ∨ nm = Str.ofString "idiv") : Ans R nm ops rg L Q (.boo true) rg' L' m v :=
  fun {n c P F K} M hq q => R.h rfl (rdQ hn (D M hq q))
theorem an_no (D : ∀ {n : Nat} {c : Hc} {P : Pt} {F : F7} {K : KO}, Mch c P → K none (c rg L F) → R.r (n + 8) 111 [.ref P.p, inV' nm ops] (c rg L F) K) (hn : nm = Str.ofString "div" ∨ nm = Str.ofString "idiv") : Ans R nm ops rg L Any no rg L 0 v :=
  fun {n c P F K} M _ q => R.h rfl (rdQ hn (D M q))
end
end
end Mine.J
set_option maxHeartbeats 400000
namespace Mine.J
noncomputable def flI (F : F7) : List Int := [F.c, F.p, F.a, F.z, F.s, F.o, F.d]
noncomputable def ofI (l : List Int) : F7 := ⟨l.getD 0 0, l.getD 1 0, l.getD 2 0, l.getD 3 0, l.getD 4 0, l.getD 5 0, l.getD 6 0⟩
noncomputable def getF (k : Nat) (F : F7) : Int := (flI F).getD k 0
noncomputable def setF (k : Nat) (F : F7) (v : Int) : F7 := ofI ((flI F).set k v)
noncomputable def nmL : List String := ["cf", "pf", "af", "zf", "sf", "of", "df"]
noncomputable def flN (k : Nat) : Str := Str.ofString (nmL.getD k "")
noncomputable def i01 (b : Bool) : Int := cond b 1 0
noncomputable def fB (c p a z s o d : Bool) : F7 := ⟨i01 c, i01 p, i01 a, i01 z, i01 s, i01 o, i01 d⟩
noncomputable def isB (F : F7) : Prop := ∃ c p a z s o d, F = fB c p a z s o d
noncomputable def pkl (F : F7) : Int := Builtin.bitOr (Builtin.bitOr (Builtin.bitOr (Builtin.bitOr (Builtin.bitOr 2 (F.c * 2 ^ (0 : Int).toNat)) (F.p * 2 ^ (2 : Int).toNat)) (F.a * 2 ^ (4 : Int).toNat)) (F.z * 2 ^ (6 : Int).toNat)) (F.s * 2 ^ (7 : Int).toNat)
noncomputable def pk (F : F7) : Int := Builtin.bitOr (Builtin.bitOr (pkl F) (F.d * 2 ^ (10 : Int).toNat)) (F.o * 2 ^ (11 : Int).toNat)
noncomputable def unp (x : Int) : F7 := ⟨bt x 0, bt x 2, bt x 4, bt x 6, bt x 7, bt x 11, bt x 10⟩
theorem unp_pk' : ∀ c p a z s o d : Bool, flI (unp (pk (fB c p a z s o d))) = flI (fB c p a z s o d) := by decide +kernel
theorem unp_pk {F : F7} (h : isB F) : unp (pk F) = F := by
  obtain ⟨c, p, a, z, s, o, d, rfl⟩ := h
  exact congrArg ofI (unp_pk' c p a z s o d)
noncomputable def sptL : List Int := [0, 2, 4, 6, 7, 11, 10]
noncomputable def spt (k : Nat) : Int := sptL.getD k 0
noncomputable def ptx (k : Nat) (F : F7) (w : Bool) : Int := Builtin.bitOr (Builtin.bitAnd (pk F) (Builtin.bitNot (1 * 2 ^ (spt k).toNat))) (cond w (1 * 2 ^ (spt k).toNat) 0)
theorem put_key' : ∀ k < 7, ∀ c p a z s o d w : Bool, flI (unp (ptx k (fB c p a z s o d) w)) = (flI (fB c p a z s o d)).set k (i01 w) := by decide +kernel
theorem put_key {k : Nat} {F : F7} (hk : k < 7) (h : isB F) (w : Bool) : unp (ptx k F w) = setF k F (i01 w) := by
  obtain ⟨c, p, a, z, s, o, d, rfl⟩ := h
  exact congrArg ofI (put_key' k hk c p a z s o d w)
theorem set_isB {F : F7} (k : Nat) (h : isB F) (w : Bool) : isB (setF k F (i01 w)) := by
  obtain ⟨c, p, a, z, s, o, d, rfl⟩ := h
  match k with
  | 0 => exact ⟨w, p, a, z, s, o, d, rfl⟩
  | 1 => exact ⟨c, w, a, z, s, o, d, rfl⟩
  | 2 => exact ⟨c, p, w, z, s, o, d, rfl⟩
  | 3 => exact ⟨c, p, a, w, s, o, d, rfl⟩
  | 4 => exact ⟨c, p, a, z, w, o, d, rfl⟩
  | 5 => exact ⟨c, p, a, z, s, w, d, rfl⟩
  | 6 => exact ⟨c, p, a, z, s, o, w, rfl⟩
  | k + 7 => exact ⟨c, p, a, z, s, o, d, rfl⟩
theorem set_c {k : Nat} (h : k ≠ 0) (F : F7) (v : Int) : (setF k F v).c = F.c := by
  cases k with
  | zero => exact absurd rfl h
  | succ k => rfl
theorem i01_nb (b : Bool) : (i01 b).natAbs < 2 ^ 256 := by cases b <;> decide
noncomputable def nmsV : List V := (Txt.words (Str.ofString "cf pf af zf sf of df")).map .str
theorem nm_at : ∀ k < 7, (inO (.str (flN k)) nmsV, (strsOf nmsV).bind (idxS (flN k))) = (some true, some k) := by decide +kernel
theorem nm_l : Nat.ble (Str.length (Str.ofString "cf pf af zf sf of df")) 1000 = true ∧ Nat.ble nmsV.length 1000 = true := ⟨by kernel_rfl, by kernel_rfl⟩
section
variable {R : Rs} {c : Hc} {P : Pt} {rg : List Int} {L : List (Int × Int)} {F : F7} {n k : Nat} {K : KO}
theorem k100 (h : k < 7) : 0 ≤ (k : Int) ∧ (k : Int) < 100000 := by lia
theorem spt_k : ∀ k < 7, 0 ≤ spt k ∧ spt k ≤ 1000 := by decide +kernel
theorem c_fget (M : Mch c P) (hk : k < 7) (q : K (some (.int (getF k F))) (c rg L F)) : R.r (n + 2) 705 [.ref P.f, .str (flN k)] (c rg L F) K :=
  R.h rfl ⟨Nat.le_of_ble_eq_true nm_l.1, opX _ (congrArg Prod.fst (nm_at k hk)) (M.af (c_ftold M ⟨Nat.le_of_ble_eq_true nm_l.2, opX _ (congrArg Prod.snd (nm_at k hk)) ⟨k100 hk, opE (getD_map (rg := flI F) hk) q⟩⟩))⟩
section
variable {x0 x1 x2 x3 x4 x5 x6 : Bool}
theorem c_pack (M : Mch c P) (q : K (some (.int (pk (fB x0 x1 x2 x3 x4 x5 x6)))) (c rg L (fB x0 x1 x2 x3 x4 x5 x6))) : R.r (n + 1) 702 [.ref P.f] (c rg L (fB x0 x1 x2 x3 x4 x5 x6)) K :=
  R.h rfl (M.af (shl (by decide) (i01_nb _) (M.af (shl (by decide) (i01_nb _) (M.af (shl (by decide) (i01_nb _) (M.af (shl (by decide) (i01_nb _) (M.af (shl (by decide) (i01_nb _) (M.af (shl (by decide) (i01_nb _) (M.af (shl (by decide) (i01_nb _) q))))))))))))))
end
theorem c_unpack {x : Int} {g : F7 → H} {p : Nat} (M : Flg g p) (q : K (some .non) (g (unp x))) : R.r (n + 2) 703 [.ref p, .int x] (g F) K :=
  R.h rfl (c_bit (by decide) (M.wf (i := 0) ⟨_, F.p, F.a, F.z, F.s, F.o, F.d⟩ rfl rfl rfl (c_bit (by decide) (M.wf (i := 1) ⟨_, _, F.a, F.z, F.s, F.o, F.d⟩ rfl rfl rfl (c_bit (by decide) (M.wf (i := 2) ⟨_, _, _, F.z, F.s, F.o, F.d⟩ rfl rfl rfl
    (c_bit (by decide) (M.wf (i := 3) ⟨_, _, _, _, F.s, F.o, F.d⟩ rfl rfl rfl (c_bit (by decide) (M.wf (i := 4) ⟨_, _, _, _, _, F.o, F.d⟩ rfl rfl rfl (c_bit (by decide) (M.wf (i := 6) ⟨_, _, _, _, _, F.o, _⟩ rfl rfl rfl (c_bit (by decide) (M.wf (i := 5) ⟨_, _, _, _, _, _, _⟩ rfl rfl rfl q))))))))))))))
theorem c_fput (M : Mch c P) (hk : k < 7) (w : Bool) (h : isB F) (q : K (some .non) (c rg L (setF k F (i01 w)))) : R.r (n + 3) 706 [.ref P.f, .str (flN k), .int (i01 w)] (c rg L F) K := by
  rw [← put_key hk h w] at q
  obtain ⟨x0, x1, x2, x3, x4, x5, x6, rfl⟩ := h
  have e := getD_map (rg := sptL) hk
  have hs := spt_k k hk
  cases w
  · exact R.h rfl ⟨Nat.le_of_ble_eq_true nm_l.1, opX _ (congrArg Prod.fst (nm_at k hk)) ⟨Nat.le_of_ble_eq_true nm_l.1, Nat.le_of_ble_eq_true nm_l.2, opX _ (congrArg Prod.snd (nm_at k hk)) ⟨k100 hk, opE e (M.af (c_pack M (shl hs one_nb (M.af (c_unpack M.fl q)))))⟩⟩⟩
  · exact R.h rfl ⟨Nat.le_of_ble_eq_true nm_l.1, opX _ (congrArg Prod.fst (nm_at k hk)) ⟨Nat.le_of_ble_eq_true nm_l.1, Nat.le_of_ble_eq_true nm_l.2, opX _ (congrArg Prod.snd (nm_at k hk)) ⟨k100 hk, opE e (M.af (c_pack M (shl hs one_nb (M.af (shl hs one_nb (c_unpack M.fl q))))))⟩⟩⟩
end
end Mine.J
set_option maxHeartbeats 400000
namespace Mine.J
section
variable {τ b : H} {j : Nat}
theorem gY : (τ ++ b)[τ.length + j]? = b[j]? := by rw [List.getElem?_append_right (Nat.le_add_right ..), Nat.add_sub_cancel_left]
theorem sY {z : HO} : (τ ++ b).set (τ.length + j) z = τ ++ b.set j z := by rw [List.set_append_right _ _ (Nat.le_add_right ..), Nat.add_sub_cancel_left]
theorem sAY {x : Nat} {u : V} {K : H → Prop} (q : hI b[j]? fun c l => opt (fidx x (tab.flds c)) fun i => i ≤ l.length ∧ K (τ ++ b.set j (.inst c (cond (Nat.blt i l.length) (l.set i u) (l ++ [u]))))) : setAW tab (τ ++ b) (.ref (τ.length + j)) x u K := by
  show hI (τ ++ b)[τ.length + j]? _
  rw [gY]; simp only [sY]; exact q
theorem lt_of_get {i : Nat} {o : HO} (h : τ[i]? = some o) : i < τ.length := (List.getElem?_eq_some_iff.mp h).1
theorem get_left {i : Nat} {o : HO} (h : τ[i]? = some o) : (τ ++ b)[i]? = some o := by
  rw [List.getElem?_append_left (lt_of_get h)]; exact h
theorem set_left {i : Nat} {o o' : HO} {τ' : H} (h : τ[i]? = some o) (e : τ.set i o' = τ') : (τ ++ b).set i o' = τ' ++ b := by
  rw [List.set_append_left _ _ (lt_of_get h), e]
theorem Mch.app {c : Hc} {P : Pt} (M : Mch c P) : Mch (fun rg L F => c rg L F ++ b) P :=
  ⟨get_left M.p, get_left M.m, get_left M.g, get_left M.r, get_left M.f, get_left M.d, set_left M.r M.sr, set_left M.f M.sf, set_left M.d M.sd⟩
theorem sAN (xs : Nat → H) {x : Nat} {K : H → Prop} (q : hI (b ++ xs (τ.length + b.length))[j]? fun c l => opt (fidx x (tab.flds c)) fun i => i ≤ l.length ∧ K (τ ++ (b ++ xs (τ.length + b.length)).set j (.inst c (cond (Nat.blt i l.length) (l.set i (.ref (τ.length + b.length))) (l ++ [.ref (τ.length + b.length)]))))) : setAW tab ((τ ++ b) ++ xs (τ ++ b).length) (.ref (τ.length + j)) x (.ref (τ ++ b).length) K := by
  rw [List.length_append, List.append_assoc]; exact sAY q
theorem apG {x : HO} : (τ ++ [x])[τ.length]? = some x := by rw [List.getElem?_append_right (Nat.le_refl _), Nat.sub_self]; rfl
theorem sAD {y z : HO} {x : Nat} {K : H → Prop} (q : hI (b ++ [z])[j]? fun c l => opt (fidx x (tab.flds c)) fun i => i ≤ l.length ∧ K (τ ++ (b ++ [z]).set j (.inst c (cond (Nat.blt i l.length) (l.set i (.ref (τ.length + b.length))) (l ++ [.ref (τ.length + b.length)]))))) : setAW tab (((τ ++ b) ++ [y]).set (τ ++ b).length z) (.ref (τ.length + j)) x (.ref (τ ++ b).length) K := by
  rw [List.set_append_right _ _ (Nat.le_refl _), Nat.sub_self]; exact sAN (fun _ => [z]) q
end
section
variable {R : Rs} {τ b : H} {n : Nat} {K : KO}
theorem i_Fl (q : K (some .non) (τ ++ [.inst 181 (flV z7)])) : R.r (n + 1) 700 [.ref τ.length] (τ ++ [.inst 181 []]) K := by
  show R.r (n + 1) 700 [.ref (τ.length + 0)] _ K
  exact R.h rfl (sAY ⟨Nat.le_refl _, sAY ⟨Nat.le_refl _, sAY ⟨Nat.le_refl _, sAY ⟨Nat.le_refl _, sAY ⟨Nat.le_refl _, sAY ⟨Nat.le_refl _, sAY ⟨Nat.le_refl _, q⟩⟩⟩⟩⟩⟩⟩)
theorem i_Me (q : K (some .non) (τ ++ [.inst 193 [.ref (τ.length + 1)], .dicI []])) : R.r (n + 1) 708 [.ref τ.length] (τ ++ [.inst 193 []]) K := by
  show R.r (n + 1) 708 [.ref (τ.length + 0)] _ K
  exact R.h rfl (sAN (fun _ => [.dicI []]) ⟨Nat.le_refl _, q⟩)
noncomputable def blkV (t : Nat) (rg : List V) (me : List (Int × V)) (fl : List V) : H := [.inst 161 [.non, .ref (t + 1), .lst (List.replicate 16 (.int 0)), .ref (t + 2), .ref (t + 3), .int 0, .int 0, .ref (t + 5), .boo false], .lst rg, .inst 181 fl, .inst 193 [.ref (t + 4)], .dicI me, .dicS fsV]
noncomputable def blk (t : Nat) (rg : List Int) (L : List (Int × Int)) (F : F7) : H := blkV t (rg.map .int) (meV L) (flV F)
noncomputable def b00 (t : Nat) : H := blkV t (List.replicate 16 (.int 0)) [] (flV z7)
theorem i_St2 {C : Orc} (q : K (some .non) (τ ++ b00 τ.length)) : wB tab C (dropS 5 f_State_init.body) [(179, .ref (τ.length + 0)), (196, .non)] (τ ++ [.inst 161 [.non, .ref (τ.length + 1), .lst (List.replicate 16 (.int 0)), .ref (τ.length + 2), .ref (τ.length + 3)], .lst (List.replicate 16 (.int 0)), .inst 181 (flV z7), .inst 193 [.ref (τ.length + 4)], .dicI []]) (endK K) :=
  sAY ⟨Nat.le_refl _, sAY ⟨Nat.le_refl _, apG, sAD ⟨Nat.le_refl _, sAY ⟨Nat.le_refl _, q⟩⟩⟩⟩
theorem i_St (q : K (some .non) (τ ++ b00 τ.length)) : R.r (n + 2) 715 [.ref τ.length, .non] (τ ++ [.inst 161 []]) K := by
  show R.r (n + 2) 715 [.ref (τ.length + 0), .non] _ K
  exact R.h rfl (sAY ⟨Nat.le_refl _, sAN (fun _ => [_]) ⟨Nat.le_refl _, sAY ⟨Nat.le_refl _, i_Fl (sAN (fun _ => [_]) ⟨Nat.le_refl _, i_Me (sAN (fun t => [.inst 193 [.ref (t + 1)], .dicI []]) ⟨Nat.le_refl _, i_St2 q⟩)⟩)⟩⟩⟩)
end
end Mine.J
set_option maxHeartbeats 400000
namespace Mine.J
theorem look_same (x : Nat) (v : V) (ρ : Env') : look x (put x v ρ) = some v := by
  have h : Nat.beq x x = true := Nat.beq_refl x
  induction ρ with
  | nil => show cond (Nat.beq x x) _ _ = _; rw [h]; rfl
  | cons p r ih =>
    show look x (cond (Nat.beq x p.1) ((x, v) :: r) (p :: put x v r)) = _
    cases e : Nat.beq x p.1
    · show cond (Nat.beq x p.1) _ (look x (put x v r)) = _; rw [e]; exact ih
    · show cond (Nat.beq x x) _ _ = _; rw [h]; rfl
theorem look_ne {x y : Nat} (v : V) (h : Nat.beq x y = false) (ρ : Env') : look x (put y v ρ) = look x ρ := by
  induction ρ with
  | nil => show cond (Nat.beq x y) _ _ = _; rw [h]; rfl
  | cons p r ih =>
    show look x (cond (Nat.beq y p.1) ((y, v) :: r) (p :: put y v r)) = cond (Nat.beq x p.1) (some p.2) (look x r)
    cases e : Nat.beq y p.1
    · show cond (Nat.beq x p.1) _ (look x (put y v r)) = _; rw [ih]
    · rw [← Nat.eq_of_beq_eq_true e, h]; show cond (Nat.beq x y) _ _ = _; rw [h]; rfl
theorem look_cp {x y : Nat} (h : Nat.beq x y = false) (l : List (Int × V)) : ∀ ρ, look x (cpEnv ρ y l) = look x ρ := by
  induction l with
  | nil => exact fun ρ => rfl
  | cons q l ih => exact fun ρ => (ih _).trans (look_ne _ h ρ)
section
variable {R : Rs} {c : Hc} {P : Pt} {rg : List Int} {L : List (Int × Int)} {F : F7} {n : Nat} {K : KO}
theorem gYE {τ b : H} {j : Nat} {K : HO → Prop} (q : opt b[j]? K) : opt (τ ++ b)[τ.length + j]? K := by rw [gY]; exact q
theorem c_fcopy (M : Mch c P) (h : isB F) (q : K (some (.ref (c rg L F).length)) (c rg L F ++ [.inst 181 (flV F)])) : R.r (n + 3) 704 [.ref P.f] (c rg L F) K := by
  have e := unp_pk h
  obtain ⟨x0, x1, x2, x3, x4, x5, x6, rfl⟩ := h
  have m : Flg (fun G => c rg L (fB x0 x1 x2 x3 x4 x5 x6) ++ [.inst 181 (flV G)]) (c rg L (fB x0 x1 x2 x3 x4 x5 x6)).length := ⟨apG, fun {A B} => by rw [List.set_append_right _ _ (Nat.le_refl _), Nat.sub_self]; rfl⟩
  exact R.h rfl (i_Fl (apE (M.app.af (c_pack M.app (c_unpack (F := z7) m (by rw [e]; exact q))))))
theorem c_mcopy (M : Mch c P) (q : K (some (.ref (c rg L F).length)) (c rg L F ++ [.inst 193 [.ref ((c rg L F).length + 1)], .dicI (meV L)])) : R.r (n + 2) 713 [.ref P.m] (c rg L F) K := by
  have hd : P.d ≠ (c rg L F).length + 1 := Nat.ne_of_lt (Nat.lt_succ_of_lt (lt_of_get M.d))
  have go : wB tab (R.r (n + 1)) (dropS 1 f_Memory_copy.body) [(179, .ref P.m), (71, .ref ((c rg L F).length + 0))] (c rg L F ++ [.inst 193 [.ref ((c rg L F).length + 1)], .dicI []]) (endK K) :=
    M.app.am (gYE (M.app.ad (gYE ⟨⟨hd, rfl⟩, opE ((look_cp rfl _ _).trans rfl) (by
      show K (some (.ref (c rg L F).length)) ((c rg L F ++ [HO.inst 193 [.ref ((c rg L F).length + 1)], HO.dicI []]).set ((c rg L F).length + 1) (.dicI (meV L)))
      rw [sY]; exact q)⟩)))
  exact R.h rfl (i_Me go)
noncomputable def cpV (t : Nat) (s : List V) (rest : H) : H := .inst 161 s :: .lst (List.replicate 16 (.int 0)) :: .inst 181 (flV z7) :: .inst 193 [.ref (t + 4)] :: .dicI [] :: .dicS fsV :: rest
noncomputable def stW (t i j k l : Nat) : List V := [.non, .ref (t + i), .lst (List.replicate 16 (.int 0)), .ref (t + j), .ref (t + k), .int 0, .int 0, .ref (t + l), .boo false]
noncomputable def cpB (t : Nat) (rg : List Int) (L : List (Int × Int)) (F : F7) : H := cpV t (stW t 6 7 8 10) [.lst (rg.map .int), .inst 181 (flV F), .inst 193 [.ref (t + 9)], .dicI (meV L), .dicS fsV]
theorem cp3 {C : Orc} (M : Mch c P) (q : K (some (.ref ((c rg L F).length + 0))) (c rg L F ++ cpB (c rg L F).length rg L F)) :
    wB tab C (dropS 5 f_State_copy.body) [(179, .ref P.p), (71, .ref ((c rg L F).length + 0))] (c rg L F ++ cpV (c rg L F).length (stW (c rg L F).length 6 7 8 5) [.lst (rg.map .int), .inst 181 (flV F), .inst 193 [.ref ((c rg L F).length + 9)], .dicI (meV L)]) (endK K) :=
  M.app.ap (sAY ⟨Nat.le_of_ble_eq_true rfl, M.app.ap (sAY ⟨Nat.le_of_ble_eq_true rfl, M.app.app.ap (M.app.app.ag (M.app.app.ap (M.app.app.ag ⟨apG, sAD ⟨Nat.le_of_ble_eq_true rfl, M.app.ap (sAY ⟨Nat.le_of_ble_eq_true rfl, q⟩)⟩⟩)))⟩)⟩)
theorem cp2 (M : Mch c P) (h : isB F) (q : K (some (.ref ((c rg L F).length + 0))) (c rg L F ++ cpB (c rg L F).length rg L F)) :
    wB tab (R.r (n + 3)) (dropS 3 f_State_copy.body) [(179, .ref P.p), (71, .ref ((c rg L F).length + 0))] (c rg L F ++ cpV (c rg L F).length (stW (c rg L F).length 6 2 3 5) [.lst (rg.map .int)]) (endK K) :=
  M.app.ap (M.app.af (c_fcopy M.app h (sAN (fun _ => [_]) ⟨Nat.le_of_ble_eq_true rfl, M.app.ap (M.app.am (c_mcopy M.app (sAN (fun t => [.inst 193 [.ref (t + 1)], .dicI (meV L)]) ⟨Nat.le_of_ble_eq_true rfl, cp3 M q⟩)))⟩)))
theorem c_copy (M : Mch c P) (h : isB F) (hr : rg.length = 16) (q : K (some (.ref ((c rg L F).length + 0))) (c rg L F ++ cpB (c rg L F).length rg L F)) : R.r (n + 4) 725 [.ref P.p] (c rg L F) K := by
  have hl : (rg.map V.int).length ≤ 1000 := by rw [List.length_map, hr]; decide
  have go : wB tab (R.r (n + 3)) (dropS 1 f_State_copy.body) [(179, .ref P.p), (71, .ref ((c rg L F).length + 0))] (c rg L F ++ b00 (c rg L F).length) (endK K) :=
    M.app.ap (M.app.ar ⟨hl, sAN (fun _ => [_]) ⟨Nat.le_of_ble_eq_true rfl, M.app.ap ⟨Nat.le_of_ble_eq_true rfl, sAY ⟨Nat.le_of_ble_eq_true rfl, cp2 M h q⟩⟩⟩⟩)
  exact R.h rfl (M.ap (i_St go))
end
end Mine.J
set_option maxHeartbeats 400000
namespace Mine.J
noncomputable def penO (C : List Int) (p m : Int) : HO := .lst [.lst (C.map .int), .int p, .int m]
noncomputable def Pn (k : Nat) (o : HO) : Prop := ∃ C p m, o = penO C p m ∧ (0 < C.length ∧ C.length ≤ 100) ∧ 0 ≤ p ∧ p + k ≤ 10000 ∧ 0 ≤ m
theorem Pn.up {k j : Nat} {o : HO} (h : Pn (k + j) o) : Pn k o := by
  obtain ⟨C, p, m, rfl, hC, h0, h1, h2⟩ := h
  exact ⟨C, p, m, rfl, hC, h0, by lia, h2⟩
section
variable {R : Rs} {o : HO} {g : H} {n k : Nat} {K : KO} {s : Int}
theorem c_below {M : Int} (h : Pn (k + 1) o) (hM : 1 ≤ M ∧ M.natAbs < 2 ^ 256) (q : ∀ {v : Int} {o' : HO}, 0 ≤ v → v < M → Pn k o' → K (some (.int v)) (o' :: g)) : R.r (n + 1) 132 [.ref 0, .int M] (o :: g) K := by
  obtain ⟨C, p, m, rfl, hC, h0, h1, h2⟩ := h
  have hm : M ≠ 0 ∧ M.natAbs < 2 ^ 256 := ⟨by lia, hM.2⟩
  have a0 : (0 : Int) ≤ 2 ∧ (2 : Int) < 3 ∧ (2 : Int) < 100000 := by decide
  have a1 : (0 : Int) ≤ 1 ∧ (1 : Int) < 3 ∧ (1 : Int) < 100000 := by decide
  have fin : ∀ {p x : Int}, 0 ≤ p → p + k ≤ 10000 → 0 ≤ x → wB tab (R.r n) (dropS 1 f_law_below.body) [(133, .ref 0), (134, .int M)] (penO C p x :: g) (endK K) ∧ wB tab (R.r n) (dropS 1 f_law_below.body) [(133, .ref 0), (134, .int M), (135, .int (C.getD ((p - 1).fmod C.length).toNat 0))] (penO C p x :: g) (endK K) := fun {p x} e0 e1 e2 => by
    have f : Pn k (penO C p (x.fdiv M)) := ⟨C, p, _, rfl, hC, e0, e1, Int.fdiv_nonneg e2 (by lia)⟩
    have f0 := Int.fmod_nonneg_of_pos x (show 0 < M by lia)
    have f1 := Int.fmod_lt_of_pos x (show 0 < M by lia)
    exact ⟨⟨i2, hm.1, i2, hm, a0, q f0 f1 f⟩, ⟨i2, hm.1, i2, hm, a0, q f0 f1 f⟩⟩
  by_cases hz : m = 0
  · have hl : (C.map V.int).length ≤ 100000 := by rw [List.length_map]; lia
    have hn : ((C.map V.int).length : Int) ≠ 0 := by rw [List.length_map]; lia
    have k0 : 0 ≤ p.fmod C.length := Int.fmod_nonneg_of_pos _ (by lia)
    have k1 : p.fmod C.length < C.length := Int.fmod_lt_of_pos _ (by lia)
    have e : (C.map V.int)[(p.fmod ((C.map V.int).length : Int)).toNat]? = some (.int (C.getD (p.fmod C.length).toNat 0)) := by rw [List.length_map]; exact getD_map (by lia)
    have k2 : 0 ≤ p.fmod ((C.map V.int).length : Int) ∧ p.fmod ((C.map V.int).length : Int) < 100000 := by rw [List.length_map]; lia
    have pw : ((0 : Int) ≤ 3 ∧ (3 : Int) ≤ 1000 ∧ (p + 1).natAbs < 2 ^ 64) := ⟨by decide, by decide, by lia⟩
    have key : ∀ b : Bool, 0 ≤ (2 * ((C.getD (p.fmod C.length).toNat 0).natAbs : Int) + (if b then 1 else 0)).fmod (10 ^ (36 : Int).toNat) + 104729 * (p + 1) ^ (3 : Int).toNat + 1 := fun b => by
      have e1 : 0 ≤ (2 * ((C.getD (p.fmod C.length).toNat 0).natAbs : Int) + (if b then 1 else 0)).fmod (10 ^ (36 : Int).toNat) := Int.fmod_nonneg_of_pos _ (by decide)
      have e2 : 0 ≤ (p + 1) ^ (3 : Int).toNat := Int.pow_nonneg (by lia)
      lia
    have f := (fin (p := p + 1) (by lia) (by lia) (key (decide (C.getD (p.fmod C.length).toNat 0 < 0)))).2
    rw [Int.add_sub_cancel] at f
    exact R.h rfl ⟨i2, dT hz ⟨i0, i1, i0, hl, hn, k2, opE e ⟨i1, a1, .inl (by decide), ⟨by decide, by decide, by decide⟩, by decide, i1, pw, .inl (by decide), a0, f⟩⟩⟩
  · exact R.h rfl ⟨i2, dF hz (fin h0 (by lia) h2).1⟩
theorem c_oneof {l : List V} (P : V → Prop) (h : Pn (k + 1) o) (hl : 1 ≤ l.length ∧ l.length ≤ 100) (hP : ∀ v ∈ l, P v) (q : ∀ {v : V} {o' : HO}, P v → Pn k o' → K (some v) (o' :: g)) : R.r (n + 2) 136 [.ref 0, .lst l] (o :: g) K := by
  refine R.h rfl ⟨Nat.le_trans hl.2 (by decide), c_below h ⟨by lia, by lia⟩ fun {v o'} v0 v1 ho => ?_⟩
  have hi : v.toNat < l.length := by lia
  exact ⟨⟨v0, by lia⟩, opE (List.getElem?_eq_getElem hi) (q (hP _ (List.getElem_mem hi)) ho)⟩
section
variable {P : V → Prop} {a : V} {l : List V}
theorem aN : ∀ v ∈ ([] : List V), P v := fun v h => nomatch h
theorem aC (h : P a) (t : ∀ v ∈ l, P v) : ∀ v ∈ a :: l, P v := List.forall_mem_cons.mpr ⟨h, t⟩
end
theorem c_RegI {r : V} {K : KO} (q : K (some .non) [.inst 143 [.str sR, r]]) : R.r (n + 2) 727 [.ref 0, r] [.inst 143 []] K :=
  R.h rfl (R.h rfl ⟨Nat.zero_le _, Nat.le_refl 1, q⟩)
theorem c_ImmI {i : Int} {K : KO} (q : K (some .non) [.inst 145 [.str (Str.ofString "imm"), .int i, .str s0]]) : R.r (n + 2) 728 [.ref 0, .int i] [.inst 145 []] K :=
  R.h rfl (R.h rfl ⟨Nat.zero_le _, Nat.le_refl 1, Nat.le_refl 2, q⟩)
theorem c_MemI {b : V} {d : Int} {K : KO} (q : K (some .non) [.inst 142 [.str sM, b, .non, .int 1, .int d, .int s, .str s0, .str s0]]) : R.r (n + 2) 729 [.ref 0, b, .non, .int 1, .int d, .int s] [.inst 142 []] K :=
  R.h rfl (R.h rfl ⟨Nat.zero_le _, Nat.le_refl 1, Nat.le_refl 2, Nat.le_refl 3, Nat.le_refl 4, Nat.le_refl 5, Nat.le_refl 6, Nat.le_refl 7, q⟩)
theorem c_InsI {nm : Str} {ops : List V} {K : KO} (hl : ops.length ≤ 1000) (q : K (some .non) [.inst 177 [.str nm, .tup ops, .str s0]]) : R.r (n + 1) 730 [.ref 0, .str nm, .lst ops] [.inst 177 []] K :=
  R.h rfl ⟨Nat.zero_le _, hl, Nat.le_refl 1, Nat.le_refl 2, q⟩
end
end Mine.J
set_option maxHeartbeats 400000
namespace Mine.J
noncomputable def Is (nm : Str) (l : List String) : Prop := List.rec False (fun s _ ih => nm = Str.ofString s ∨ ih) l
inductive ByN : V → Int → Prop
  | imm (k : Int) (h0 : 0 ≤ k) (h1 : k ≤ 255) : ByN (ioV k) k
  | cl (m : Str) : ByN (roV m 1 8) (-1)
inductive Ln : Str → Int → Int → List V → Prop
  | sh {nm : Str} (hn : Is nm ["shl", "shr", "sar", "rol", "ror", "rcl", "rcr"]) {s k : Int} (hs : Sz s) {O : Og} (hO : O.ok) {B : V} (hB : ByN B k) : Ln nm s k [O.v s, B]
  | db {nm : Str} (hn : Is nm ["shld", "shrd"]) {s k : Int} (hs : Sz s) {O G : Og} (hO : O.ok) (hG : G.ok) {B : V} (hB : ByN B k) : Ln nm s k [O.v s, G.v s, B]
  | p1 {nm : Str} (hn : Is nm ["mul", "imul", "div", "idiv", "div"]) {s : Int} (hs : Sz s) {O : Og} (hO : O.ok) : Ln nm s 1 [O.v s]
  | p2 {s : Int} (hs : Sz s) {G O : Og} (hG : G.ok) (hO : O.ok) : Ln (Str.ofString "imul") s 1 [G.v s, O.v s]
  | p3 {s : Int} (hs : Sz s) {G O : Og} (hG : G.ok) (hO : O.ok) (k : Int) : Ln (Str.ofString "imul") s 1 [G.v s, O.v s, ioV k]
  | bi {nm : Str} (hn : Is nm ["bt", "bts", "btr", "btc"]) {s : Int} (hs : Sz s) {O : Og} (hO : O.ok) (k : Int) : Ln nm s 1 [O.v s, ioV k]
  | br {nm : Str} (hn : Is nm ["bt", "bts", "btr", "btc"]) {s : Int} (hs : Sz s) {O : Og} (hO : O.ok) (m : Str) {i : Int} (hi : 0 ≤ i ∧ i < 16) : Ln nm s 1 [O.v s, roV m i s]
  | sc {nm : Str} (hn : Is nm ["bsf", "bsr", "popcnt", "lzcnt", "tzcnt"]) {s : Int} (hs : Sz s) {G O : Og} (hG : G.ok) (hO : O.ok) : Ln nm s 1 [G.v s, O.v s]
  | wd {nm : Str} (hn : Is nm ["movzx", "movsx"]) {s : Int} (hs : Sz s) {G O : Og} (hG : G.ok) (hO : O.ok) : Ln nm s 1 [G.v s, O.v 8]
  | sw {s : Int} (hs : Sz s) (h16 : s ≠ 16) {G : Og} (hG : G.ok) : Ln (Str.ofString "bswap") 64 1 [G.v s]
  | cv {nm : Str} (hn : Is nm ["cbw", "cwde", "cdqe", "cwd", "cdq", "cqo"]) : Ln nm 64 1 []
section
variable {R : Rs} {o : HO} {g : H} {n k : Nat} {K : KO} {s : Int}
theorem b100 {n : Nat} (h : (Nat.ble 1 n && Nat.ble n 100) = true) : 1 ≤ n ∧ n ≤ 100 := by
  have h := Bool.and_eq_true_iff.mp h; exact ⟨Nat.le_of_ble_eq_true h.1, Nat.le_of_ble_eq_true h.2⟩
noncomputable def isI (Q : Int → Prop) (v : V) : Prop := ∃ i, v = .int i ∧ Q i
noncomputable def isN (l : List String) (v : V) : Prop := ∃ nm, v = .str nm ∧ Is nm l
theorem z3 : ∀ v ∈ [V.int 16, .int 32, .int 64], isI Sz v := aC ⟨_, rfl, .inr (.inl rfl)⟩ (aC ⟨_, rfl, .inr (.inr (.inl rfl))⟩ (aC ⟨_, rfl, .inr (.inr (.inr rfl))⟩ aN))
theorem is_mem {nm : Str} : ∀ l : List String, nm ∈ l.map Str.ofString → Is nm l
  | [], h => nomatch h
  | s :: l, h => (List.mem_cons.mp h).elim .inl fun h => .inr (is_mem l h)
theorem nms (l : List String) : ∀ v ∈ sv l, isN l v := fun v h => by
  obtain ⟨s, hs, rfl⟩ := List.mem_map.mp h
  exact ⟨_, rfl, is_mem l (List.mem_map_of_mem hs)⟩
theorem c_names (l : List String) (h : Pn (k + 1) o) (hl : 1 ≤ (sv l).length ∧ (sv l).length ≤ 100) (q : ∀ {nm : Str} {o' : HO}, Is nm l → Pn k o' → K (some (.str nm)) (o' :: g)) : R.r (n + 2) 136 [.ref 0, .lst (sv l)] (o :: g) K :=
  c_oneof (isN l) h hl (nms l) fun {v o} hb h => by obtain ⟨nm, rfl, hn⟩ := hb; exact q hn h
theorem c_goal (h : Pn (k + 3) o) (hs : Sz s) (q : ∀ {O : Og} {o' : HO}, O.ok → Pn k o' → K (some (O.v s)) (o' :: g)) : R.r (n + 6) 141 [.ref 0, .int s] (o :: g) K := by
  refine R.h rfl (c_below h (by decide) fun {v o} v0 v1 h => ?_)
  by_cases hc : v < 2
  · refine dT hc (c_below h (by decide) fun {v o} v0 v1 h => ?_)
    obtain ⟨nm, hg⟩ := c_gpr (R := R) hs v0 (Int.lt_add_one_iff.mp v1)
    exact hg ⟨rfl, c_RegI ⟨⟨rfl, rfl⟩, q (O := .reg nm v) ⟨v0, v1⟩ (Pn.up (j := 1) h)⟩⟩
  · refine dF hc (c_oneof (isI fun i => 0 ≤ i ∧ i < 16) h (b100 rfl) (aC ⟨_, rfl, by decide⟩ (aC ⟨_, rfl, by decide⟩ (aC ⟨_, rfl, by decide⟩ (aC ⟨_, rfl, by decide⟩ aN)))) fun {b o} hb h => ?_)
    obtain ⟨i, rfl, hi⟩ := hb
    obtain ⟨nm, hg⟩ := c_gpr (R := R) (s := 64) (.inr (.inr (.inr rfl))) hi.1 (Int.lt_add_one_iff.mp hi.2)
    exact hg (c_below h (by decide) fun {v o} v0 v1 h => ⟨rfl, c_MemI ⟨⟨rfl, rfl⟩, q (O := .mem nm i (v - 20)) hi h⟩⟩)
theorem c_by (h : Pn (k + 2) o) (q : ∀ {B : V} {i : Int} {o' : HO}, ByN B i → Pn k o' → K (some (.tup [B, .int i])) (o' :: g)) : R.r (n + 6) 144 [.ref 0] (o :: g) K := by
  refine R.h rfl (c_below h (by decide) fun {v o} v0 v1 h => ?_)
  by_cases h0 : v = 0
  · exact dT h0 ⟨rfl, c_ImmI ⟨⟨rfl, rfl⟩, q (.imm 1 (by decide) (by decide)) (Pn.up (j := 1) h)⟩⟩
  by_cases h1 : v = 1
  · obtain ⟨nm, hg⟩ := c_gpr (R := R) (s := 8) (i := 1) (.inl rfl) (by decide) (by decide)
    exact dF h0 (dT h1 (hg ⟨rfl, c_RegI ⟨⟨rfl, rfl⟩, q (.cl nm) (Pn.up (j := 1) h)⟩⟩))
  · refine dF h0 (dF h1 (c_oneof (isI fun i => 0 ≤ i ∧ i ≤ 255) h (b100 rfl) (aC ⟨_, rfl, by decide⟩ (aC ⟨_, rfl, by decide⟩ (aC ⟨_, rfl, by decide⟩ (aC ⟨_, rfl, by decide⟩ (aC ⟨_, rfl, by decide⟩ (aC ⟨_, rfl, by decide⟩ (aC ⟨_, rfl, by decide⟩ (aC ⟨_, rfl, by decide⟩
      (aC ⟨_, rfl, by decide⟩ (aC ⟨_, rfl, by decide⟩ (aC ⟨_, rfl, by decide⟩ (aC ⟨_, rfl, by decide⟩ (aC ⟨_, rfl, by decide⟩ (aC ⟨_, rfl, by decide⟩ (aC ⟨_, rfl, by decide⟩ (aC ⟨_, rfl, by decide⟩ aN)))))))))))))))) fun {b o} hb h => ?_))
    obtain ⟨i, rfl, hi⟩ := hb
    exact ⟨rfl, c_ImmI ⟨⟨rfl, rfl⟩, q (.imm i hi.1 hi.2) h⟩⟩
noncomputable def LQ (K : KO) (g : H) (k : Nat) : Prop := ∀ {nm : Str} {s j : Int} {ops : List V} {o' : HO}, Ln nm s j ops → Pn k o' → K (some (.tup [.str nm, .int s, .int j, .lst ops])) (o' :: g)
theorem c_counted (h : Pn (k + 7) o) (q : LQ K g k) : R.r (n + 7) 147 [.ref 0] (o :: g) K := by
  refine R.h rfl (c_names ["shl", "shr", "sar", "rol", "ror", "rcl", "rcr"] h (b100 rfl) fun {nm o} hn h => ?_)
  refine c_oneof (isI Sz) h (b100 rfl) (aC ⟨_, rfl, .inl rfl⟩ z3) fun {b o} hb h => ?_
  obtain ⟨s, rfl, hs⟩ := hb
  exact c_goal h hs fun {O o} hO h => c_by h fun {B i o} hB h => q (.sh hn hs hO hB) h
theorem c_dbl (h : Pn (k + 8) o) (q : LQ K g k) : R.r (n + 7) 149 [.ref 0] (o :: g) K := by
  refine R.h rfl (c_names ["shld", "shrd"] h (b100 rfl) fun {nm o} hn h => ?_)
  refine c_oneof (isI Sz) h (b100 rfl) z3 fun {b o} hb h => ?_
  obtain ⟨s, rfl, hs⟩ := hb
  refine c_goal h hs fun {O o} hO h => c_below h (by decide) fun {v o} v0 v1 h => ?_
  obtain ⟨m, hg⟩ := c_gpr (R := R) hs v0 (Int.lt_add_one_iff.mp v1)
  exact hg ⟨rfl, c_RegI ⟨⟨rfl, rfl⟩, c_by h fun {B i o} hB h => q (.db (G := .reg m v) hn hs hO ⟨v0, v1⟩ hB) h⟩⟩
theorem c_unc {t : Int} (h : Pn (k + 9) o) (q : LQ K g k) : R.r (n + 7) 151 [.ref 0, .int t] (o :: g) K := by
  by_cases t2 : t = 2
  · refine R.h rfl (dT t2 (c_oneof (isI Sz) h (b100 rfl) (aC ⟨_, rfl, .inl rfl⟩ z3) fun {b o} hb h => ?_))
    obtain ⟨s, rfl, hs⟩ := hb
    refine c_names ["mul", "imul", "div", "idiv", "div"] h (b100 rfl) fun {nm o} hn h => ?_
    exact c_goal h hs fun {O o} hO h => q (.p1 hn hs hO) (Pn.up (j := 4) h)
  refine R.h rfl (dF t2 (c_oneof (isI Sz) h (b100 rfl) z3 fun {b o} hb h => ?_))
  obtain ⟨s, rfl, hs⟩ := hb
  refine c_below h (by decide) fun {i o} i0 i1 h => ?_
  obtain ⟨m, hg⟩ := c_gpr (R := R) hs i0 (Int.lt_add_one_iff.mp i1)
  have hG : (Og.reg m i).ok := ⟨i0, i1⟩
  refine hg ⟨rfl, c_RegI ⟨⟨rfl, rfl⟩, ?_⟩⟩
  have two : [V.int 0, .int 0].length + 1 ≤ 1000 := by decide
  by_cases t3 : t = 3
  · refine dT t3 (c_below h (by decide) fun {v o} v0 v1 h => ?_)
    by_cases v1 : v = 1
    · exact dT v1 (c_below h (by decide) fun {u o} u0 u1 h => ⟨rfl, c_ImmI ⟨⟨rfl, rfl⟩, c_goal h hs fun {O o} hO h => ⟨two, q (.p3 (G := .reg m i) hs hG hO (u - 128)) (Pn.up (j := 2) h)⟩⟩⟩)
    · exact dF v1 (c_goal h hs fun {O o} hO h => ⟨Nat.le_of_ble_eq_true rfl, q (.p2 (G := .reg m i) hs hG hO) (Pn.up (j := 3) h)⟩)
  by_cases t4 : t = 4
  · refine dF t3 (dT t4 (c_below h (by decide) fun {v o} v0 v1 h => ?_))
    by_cases v1 : v = 1
    · refine dT v1 (c_below h (by decide) fun {u o} u0 u1 h => ⟨rfl, c_ImmI ⟨⟨rfl, rfl⟩, c_names ["bt", "bts", "btr", "btc"] h (b100 rfl) fun {nm o} hn h => ?_⟩⟩)
      exact c_goal h hs fun {O o} hO h => q (.bi hn hs hO u) (Pn.up (j := 1) h)
    · refine dF v1 (c_names ["bt", "bts", "btr", "btc"] h (b100 rfl) fun {nm o} hn h => ?_)
      exact c_goal h hs fun {O o} hO h => q (.br hn hs hO m ⟨i0, i1⟩) (Pn.up (j := 2) h)
  by_cases t5 : t = 5
  · refine dF t3 (dF t4 (dT t5 (c_names ["bsf", "bsr", "popcnt", "lzcnt", "tzcnt"] h (b100 rfl) fun {nm o} hn h => ?_)))
    exact c_goal h hs fun {O o} hO h => q (.sc (G := .reg m i) hn hs hG hO) (Pn.up (j := 3) h)
  by_cases t6 : t = 6
  · refine dF t3 (dF t4 (dF t5 (dT t6 (c_names ["movzx", "movsx", "bswap"] h (b100 rfl) fun {nm o} hn h => ?_))))
    rcases hn with rfl | rfl | rfl | hn
    · exact opF (by kernel_rfl) (c_goal h (s := 8) (.inl rfl) fun {O o} hO h => q (.wd (G := .reg m i) (.inl rfl) hs hG hO) (Pn.up (j := 3) h))
    · exact opF (by kernel_rfl) (c_goal h (s := 8) (.inl rfl) fun {O o} hO h => q (.wd (G := .reg m i) (.inr (.inl rfl)) hs hG hO) (Pn.up (j := 3) h))
    · refine opT (by kernel_rfl) (c_below h (by decide) fun {i o} i0 i1 h => c_oneof (isI fun z => Sz z ∧ z ≠ 16) h (b100 rfl) (aC ⟨_, rfl, .inr (.inr (.inl rfl)), by decide⟩ (aC ⟨_, rfl, .inr (.inr (.inr rfl)), by decide⟩ aN)) fun {b o} hb h => ?_)
      obtain ⟨z, rfl, hz, hz16⟩ := hb
      obtain ⟨m, hg⟩ := c_gpr (R := R) hz i0 (Int.lt_add_one_iff.mp i1)
      exact hg ⟨rfl, c_RegI ⟨⟨rfl, rfl⟩, q (.sw (G := .reg m i) hz hz16 ⟨i0, i1⟩) (Pn.up (j := 4) h)⟩⟩
    · exact hn.elim
  · refine dF t3 (dF t4 (dF t5 (dF t6 (c_names ["cbw", "cwde", "cdqe", "cwd", "cdq", "cqo"] h (b100 rfl) fun {nm o} hn h => ?_))))
    exact q (.cv hn) (Pn.up (j := 6) h)
theorem c_line (h : Pn (k + 10) o) (q : LQ K g k) : R.r (n + 8) 155 [.ref 0] (o :: g) K := by
  refine R.h rfl (c_below h (by decide) fun {t o} _ _ h => ?_)
  by_cases t0 : t = 0
  · exact dT t0 (c_counted (Pn.up (k := k + 7) (j := 2) h) q)
  by_cases t1 : t = 1
  · exact dF t0 (dT t1 (c_dbl (Pn.up (k := k + 8) (j := 1) h) q))
  · exact dF t0 (dF t1 (c_unc h q))
end
end Mine.J
set_option maxHeartbeats 400000
namespace Mine.J
section
variable {K : KF} {body : Env' → H → KF → Prop} {x y N : Nat} (f : Nat → V) (I : Nat → H → Prop)
theorem forE (E : V → Env') (step : ∀ {i : Nat} {σ : H} {K' : KF}, i < N → I i σ → (∀ {σ' : H}, I (i + 1) σ' → K' .nxt (E (f i)) σ') → body (E (f i)) σ K') (e' : ∀ u v, put x v (E u) = E v) (q : ∀ {v : V} {σ' : H}, I N σ' → K .nxt (E v) σ') :
    ∀ {m k : Nat} {ρ : Env'} {σ : H}, k + m + 1 = N → (∀ v, put x v ρ = E v) → I k σ → forW K body x ((List.range' k (m + 1)).map f) ρ σ := by
  intro m
  induction m with
  | zero =>
    intro k ρ σ hN e h
    show body (put x (f k) ρ) σ (loopK K fun ρ σ => K .nxt ρ σ)
    rw [e]
    exact step (by lia) h fun h => q (hN ▸ h)
  | succ m ih =>
    intro k ρ σ hN e h
    show body (put x (f k) ρ) σ (loopK K (forW K body x ((List.range' (k + 1) (m + 1)).map f)))
    rw [e]
    exact step (by lia) h fun h => ih (by lia) (e' _) h
theorem for2E (E : V → V → Env') (step : ∀ {i : Nat} {σ : H} {K' : KF}, i < N → I i σ → (∀ {σ' : H}, I (i + 1) σ' → K' .nxt (E (.int i) (f i)) σ') → body (E (.int i) (f i)) σ K') (e' : ∀ t u v w, put y w (put x v (E t u)) = E v w) (q : ∀ {v w : V} {σ' : H}, I N σ' → K .nxt (E v w) σ') :
    ∀ {m k : Nat} {ρ : Env'} {σ : H}, k + m + 1 = N → (∀ v w, put y w (put x v ρ) = E v w) → I k σ → for2W K body x y ((List.range' k (m + 1)).map f) k ρ σ := by
  intro m
  induction m with
  | zero =>
    intro k ρ σ hN e h
    show body (put y (f k) (put x (.int k) ρ)) σ (loopK K fun ρ σ => K .nxt ρ σ)
    rw [e]
    exact step (by lia) h fun h => q (hN ▸ h)
  | succ m ih =>
    intro k ρ σ hN e h
    show body (put y (f k) (put x (.int k) ρ)) σ (loopK K (for2W K body x y ((List.range' (k + 1) (m + 1)).map f) (k + 1)))
    rw [e]
    exact step (by lia) h fun h => ih (by lia) (e' _ _) h
end
noncomputable def PtB (t : Nat) : Pt := ⟨t, t + 1, t + 2, t + 3, t + 4, t + 5⟩
noncomputable def Sb (o : HO) (g : H) : Hc := fun rg L F => (o :: g) ++ blk (o :: g).length rg L F
theorem mB (o : HO) (g : H) : Mch (Sb o g) (PtB (g.length + 1)) := by
  have e : ∀ {y : H} (j : Nat), ((o :: g) ++ y)[g.length + 1 + j]? = y[j]? := fun j => gY
  have s : ∀ {y : H} (j : Nat) {z : HO}, ((o :: g) ++ y).set (g.length + 1 + j) z = (o :: g) ++ y.set j z := fun j {z} => sY
  exact ⟨(e 0).trans rfl, (e 3).trans rfl, (e 5).trans rfl, (e 1).trans rfl, (e 2).trans rfl, (e 4).trans rfl, (s 1).trans rfl, (s 2).trans rfl, (s 4).trans rfl⟩
section
variable {R : Rs} {o : HO} {g : H} {n k : Nat} {K : KO} {rg : List Int} {L : List (Int × Int)} {F : F7}
theorem w_lt {v M : Int} (h0 : 0 ≤ v) (h : v < M) (hM : M ≤ 18446744073709551616) : W64 v := ⟨h0, Int.lt_of_lt_of_le h hM⟩
theorem c_reg {i : Int} (h : Pn (k + 2) o) (q : ∀ {v : Int} {o' : HO}, W64 v → Pn k o' → K (some (.int v)) (o' :: g)) : R.r (n + 3) 156 [.ref 0, .int i] (o :: g) K := by
  refine R.h rfl (opX _ rfl (ifB (fun _ => c_below h (by decide) fun {v o} v0 v1 h => q ⟨by lia, by lia⟩ (Pn.up (j := 1) h)) fun _ => c_below h (by decide) fun {v o} v0 v1 h => ?_))
  by_cases h0 : v = 0
  · refine dT h0 ⟨⟨by decide, by decide, by decide⟩, ⟨by decide, by decide, by decide⟩, c_oneof (isI W64) h (b100 rfl) (aC ⟨_, rfl, by decide, by decide⟩ (aC ⟨_, rfl, by decide, by decide⟩ (aC ⟨_, rfl, by decide, by decide⟩ (aC ⟨_, rfl, by decide, by decide⟩ aN)))) fun {b o} hb h => ?_⟩
    obtain ⟨i, rfl, hi⟩ := hb
    exact q hi h
  by_cases h1 : v = 1
  · exact dF h0 (dT h1 (c_below h (by decide) fun {v o} v0 v1 h => q (w_lt v0 v1 (by decide)) h))
  · exact dF h0 (dF h1 ⟨⟨by decide, by decide, by decide⟩, c_below h (by decide) fun {v o} v0 v1 h => q (w_lt v0 v1 (by decide)) h⟩)
theorem md_set {i : Nat} {v : Int} (h : MD rg L) (hv : W64 v) : MD (rg.set i v) L :=
  ⟨List.length_set.trans h.len, fun j => by
    rw [List.getD_eq_getElem?_getD, List.getElem?_set]
    split
    · split
      · exact hv
      · exact ⟨by decide, by decide⟩
    · rw [← List.getD_eq_getElem?_getD]; exact h.reg j, h.me, h.ml⟩
end
end Mine.J
set_option maxHeartbeats 400000
namespace Mine.J
section
variable {R : Rs} {o : HO} {g : H} {n k m : Nat} {K : KO} {rg : List Int} {L : List (Int × Int)} {F : F7} {nm : Str} {fl : Int}
theorem p2 : ∀ i < 7, ((2 : Int) ^ ((i : Nat) : Int).toNat ≠ 0 ∧ ((2 : Int) ^ ((i : Nat) : Int).toNat).natAbs < 2 ^ 256) ∧ (0 ≤ ((i : Nat) : Int) ∧ ((i : Nat) : Int) ≤ 1000 ∧ (2 : Int).natAbs < 2 ^ 64) := by decide
theorem m2 (x : Int) : ∃ w, x.fmod 2 = i01 w := by
  have h0 := Int.fmod_nonneg_of_pos x (show (0 : Int) < 2 by decide)
  have h1 := Int.fmod_lt_of_pos x (show (0 : Int) < 2 by decide)
  rcases (show x.fmod 2 = 0 ∨ x.fmod 2 = 1 by lia) with h | h
  · exact ⟨false, h⟩
  · exact ⟨true, h⟩
theorem c_fputE {c : Hc} {P : Pt} {v : Int} {w : Bool} (M : Mch c P) (hk : k < 7) (e : v = i01 w) (h : isB F) (q : K (some .non) (c rg L (setF k F (i01 w)))) : R.r (n + 3) 706 [.ref P.f, .str (flN k), .int v] (c rg L F) K := by
  subst e; exact c_fput M hk w h q
theorem sFor2 {C : Orc} {x y : Nat} {e : Ex} {b ss : Sts} {ρ : Env'} {σ : H} {K : KF} {l : List V} (he : ∀ {K' : KV}, K' (.lst l) σ → wE tab C ρ e σ K') (q : for2W (seqK K (wB tab C ss)) (wB tab C b) x y l 0 ρ σ) : wB tab C (.cons (.for2 x y e b) ss) ρ σ K := he q
noncomputable def E0 (fl : Int) (nm : Str) (t : Nat) : Env' := [(133, .ref 0), (31, .int fl), (27, .str nm), (87, .ref t)]
noncomputable def E1 (ρ : Env') (a b : V) : Env' := ρ ++ [(159, a), (160, b)]
noncomputable def BQ (K : KO) (g : H) (k : Nat) : Prop := ∀ {o : HO} {rg : List Int} {L : List (Int × Int)} {F : F7}, isB F → MD rg L → Pn k o → K (some (.ref (g.length + 1))) (Sb o g rg L F)
theorem bg4 {b : Bool} {a d e f : V} (hq : sI nm ["div", "idiv"] = some b) (hF : isB F) (hd : MD rg L) (h : Pn (k + 1) o) (q : BQ K g k) : wB tab (R.r (n + 4)) (dropS 4 f_law_begin.body) (E1 (E0 fl nm (g.length + 1)) a d ++ [(56, e), (66, f)]) (Sb o g rg L F) (endK K) := by
  have M := mB o g
  cases b with
  | false => exact opF hq (q hF hd h.up)
  | true =>
    refine opT hq (c_below h (by decide) fun {v o} v0 v1 h => ?_)
    have M := mB o g
    by_cases hv : 0 < v
    · have f0 : W64 ((rg.set 2 0).getD 0 0 |>.fmod 120) := ⟨Int.fmod_nonneg_of_pos _ (by decide), Int.lt_trans (Int.fmod_lt_of_pos _ (show (0 : Int) < 120 by decide)) (by decide)⟩
      have h1 : MD (rg.set 2 0) L := md_set hd ⟨by decide, by decide⟩
      exact dT hv (M.ap (M.wr (i := 2) ⟨hd.len, by decide⟩ (M.ap (M.gr (i := 0) ⟨h1.len, by decide⟩ ⟨by decide, M.ap (M.wr (i := 0) ⟨h1.len, by decide⟩ (q hF (md_set h1 f0) h))⟩))))
    · exact dF hv (q hF hd h)
theorem bg3 {b : Bool} {a d e : V} (hq : sI nm ["div", "idiv"] = some b) (hF : isB F) (hd : MD rg []) (h : Pn (k + 1 + 12) o) (q : BQ K g k) : wB tab (R.r (n + 4)) (dropS 3 f_law_begin.body) (E1 (E0 fl nm (g.length + 1)) a d ++ [(56, e)]) (Sb o g rg [] F) (endK K) := by
  refine ⟨⟨by decide, by decide⟩, forE (N := 6) (fun i => V.int (i : Nat)) (fun i σ => ∃ o L j, σ = Sb o g rg L F ∧ j + 2 * i = 12 ∧ Pn (k + 1 + j) o ∧ MD rg L ∧ L.length ≤ i) (fun v => E1 (E0 fl nm (g.length + 1)) a d ++ [(56, e), (66, v)]) ?_ (fun u v => rfl) ?_ (m := 5) (k := 0) rfl (fun v => rfl) ⟨o, [], 12, rfl, rfl, h, hd, Nat.le_refl _⟩⟩
  · rintro i σ K' hi ⟨o, L, j, rfl, hj, hp, hd, hl⟩ q
    obtain ⟨j, rfl⟩ : ∃ i, j = i + 1 + 1 := ⟨j - 2, by lia⟩
    have M := mB o g
    refine M.ap (M.am (c_below (k := k + 1 + j + 1) hp (by decide) fun {v o} v0 v1 hp => c_below (k := k + 1 + j) hp (by decide) fun {w o} w0 w1 hp => c_mwrite (w := 1) (mB o g) (by decide) hd.ml (q ?_)))
    have hw := mwr_ok (4070 + v) w 1 0 L
    exact ⟨o, _, j, rfl, by lia, hp, ⟨hd.len, hd.reg, hw.1 hd.me, by lia⟩, by lia⟩
  · rintro v σ ⟨o, L, j, rfl, hj, hp, hd, hl⟩
    obtain rfl : j = 0 := by lia
    exact bg4 hq hF hd hp q
theorem bg2 {b : Bool} {a d : V} (hq : sI nm ["div", "idiv"] = some b) (hF : isB F) (hd : MD rg []) (h : Pn (k + 1 + 12 + 32) o) (q : BQ K g k) : wB tab (R.r (n + 4)) (dropS 2 f_law_begin.body) (E1 (E0 fl nm (g.length + 1)) a d) (Sb o g rg [] F) (endK K) := by
  refine ⟨⟨by decide, by decide⟩, forE (N := 16) (fun i => V.int (i : Nat)) (fun i σ => ∃ o rg j, σ = Sb o g rg [] F ∧ j + 2 * i = 32 ∧ Pn (k + 1 + 12 + j) o ∧ MD rg []) (fun v => E1 (E0 fl nm (g.length + 1)) a d ++ [(56, v)]) ?_ (fun u v => rfl) ?_ (m := 15) (k := 0) rfl (fun v => rfl) ⟨o, rg, 32, rfl, rfl, h, hd⟩⟩
  · rintro i σ K' hi ⟨o, rg, j, rfl, hj, hp, hd⟩ q
    obtain ⟨j, rfl⟩ : ∃ i, j = i + 2 := ⟨j - 2, by lia⟩
    refine c_reg (k := k + 1 + 12 + j) hp fun {v o} hv hp => ?_
    have M := mB o g
    exact M.ap (M.wr ⟨hd.len, by lia, by lia⟩ (q ⟨o, _, j, rfl, by lia, hp, md_set hd hv⟩))
  · rintro v σ ⟨o, rg, j, rfl, hj, hp, hd⟩
    obtain rfl : j = 0 := by lia
    exact bg3 hq hF hd hp q
noncomputable def rg0 : List Int := List.replicate 16 0
theorem md0 : MD rg0 [] := by
  refine ⟨rfl, fun i => ?_, ⟨fun p h => (nomatch h), List.nodup_nil⟩, Nat.zero_le _⟩
  unfold rg0
  rw [List.getD_eq_getElem?_getD, List.getElem?_replicate]
  split <;> exact ⟨by decide, by decide⟩
theorem z7B : isB z7 := ⟨false, false, false, false, false, false, false, rfl⟩
theorem bg1 {b : Bool} (hq : sI nm ["div", "idiv"] = some b) (h : Pn (k + 1 + 12 + 32) o) (q : BQ K g k) : wB tab (R.r (n + 4)) (dropS 1 f_law_begin.body) (E0 fl nm (g.length + 1)) (Sb o g rg0 [] z7) (endK K) := by
  refine sFor2 (l := (List.range' 0 7).map fun i => V.str (flN i)) (fun {K'} q => q) ?_
  refine for2E (N := 7) (fun i => .str (flN i)) (fun i σ => ∃ F, isB F ∧ σ = Sb o g rg0 [] F) (E1 (E0 fl nm (g.length + 1))) ?_ (fun t u v w => rfl) ?_ (m := 6) (k := 0) rfl (fun v w => rfl) ⟨z7, z7B, rfl⟩
  · rintro i σ K' hi ⟨F, hF, rfl⟩ q
    have M := mB o g
    have hp := p2 i hi
    obtain ⟨w, hw⟩ := m2 (fl.fdiv (2 ^ ((i : Nat) : Int).toNat))
    exact M.ap (M.af ⟨hp.2, hp.1, by decide, c_fputE M hi hw hF (q ⟨_, set_isB i hF w, rfl⟩)⟩)
  · rintro v w σ ⟨F, hF, rfl⟩
    exact bg2 hq hF md0 h q
theorem b0E : Sb o g rg0 [] z7 = (o :: g) ++ b00 (o :: g).length := rfl
theorem sNew {x : Nat} {ss : Sts} {ρ : Env'} {σ : H} {K : KF} (q : wB tab (R.r (n + 2)) ss (put x (.ref σ.length) ρ) (σ ++ b00 σ.length) K) : wB tab (R.r (n + 2)) (.cons (.asg x (.cnm 161 (.cons .non .nil))) ss) ρ σ K := i_St q
theorem c_begin {b : Bool} (hq : sI nm ["div", "idiv"] = some b) (h : Pn (k + 45) o) (q : BQ K g k) : R.r (n + 5) 157 [.ref 0, .int fl, .str nm] (o :: g) K := by
  have := bg1 (n := n) (R := R) (fl := fl) hq h q
  rw [b0E] at this
  refine R.h rfl (?_ : wB tab (R.r (n + 4)) f_law_begin.body [(133, .ref 0), (31, .int fl), (27, .str nm)] (o :: g) (endK K))
  exact sNew this
end
end Mine.J
set_option maxHeartbeats 400000
namespace Mine.J
structure Mc where
  rg : List Int
  L : List (Int × Int)
  F : F7
noncomputable def PtC (t : Nat) : Pt := ⟨t, t + 6, t + 7, t + 8, t + 9, t + 10⟩
@[irreducible] noncomputable def H3 (o : HO) (g : H) (x y z : Mc) (b : H) : H := (o :: g) ++ (blk (o :: g).length x.rg x.L x.F ++ (cpB ((o :: g).length + 6) y.rg y.L y.F ++ (cpB ((o :: g).length + 17) z.rg z.L z.F ++ b)))
section
variable (o : HO) (g : H) (x y z : Mc) (b : H)
theorem gO {y : H} (j : Nat) : ((o :: g) ++ y)[g.length + 1 + j]? = y[j]? := gY
theorem sO' {y : H} (j : Nat) {z : HO} : ((o :: g) ++ y).set (g.length + 1 + j) z = (o :: g) ++ y.set j z := sY
theorem M1 : Mch (fun rg L F => H3 o g ⟨rg, L, F⟩ y z b) (PtB (g.length + 1)) := by
  unfold H3
  exact ⟨(gO o g 0).trans rfl, (gO o g 3).trans rfl, (gO o g 5).trans rfl, (gO o g 1).trans rfl, (gO o g 2).trans rfl, (gO o g 4).trans rfl, (sO' o g 1).trans rfl, (sO' o g 2).trans rfl, (sO' o g 4).trans rfl⟩
theorem M2 : Mch (fun rg L F => H3 o g x ⟨rg, L, F⟩ z b) (PtC (g.length + 1 + 6)) := by
  unfold H3
  exact ⟨(gO o g 6).trans rfl, (gO o g 14).trans rfl, (gO o g 16).trans rfl, (gO o g 12).trans rfl, (gO o g 13).trans rfl, (gO o g 15).trans rfl, (sO' o g 12).trans rfl, (sO' o g 13).trans rfl, (sO' o g 15).trans rfl⟩
theorem M3 : Mch (fun rg L F => H3 o g x y ⟨rg, L, F⟩ b) (PtC (g.length + 1 + 17)) := by
  unfold H3
  exact ⟨(gO o g 17).trans rfl, (gO o g 25).trans rfl, (gO o g 27).trans rfl, (gO o g 23).trans rfl, (gO o g 24).trans rfl, (gO o g 26).trans rfl, (sO' o g 23).trans rfl, (sO' o g 24).trans rfl, (sO' o g 26).trans rfl⟩
theorem H3_app (t : H) : H3 o g x y z b ++ t = H3 o g x y z (b ++ t) := by
  unfold H3; rw [List.append_assoc, List.append_assoc, List.append_assoc, List.append_assoc]
theorem H3_mk (rg : List Int) (L : List (Int × Int)) (F : F7) : (Sb o g rg L F ++ cpB (Sb o g rg L F).length rg L F) ++ cpB (Sb o g rg L F ++ cpB (Sb o g rg L F).length rg L F).length rg L F = H3 o g ⟨rg, L, F⟩ ⟨rg, L, F⟩ ⟨rg, L, F⟩ [] := by
  have e1 : (Sb o g rg L F).length = (o :: g).length + 6 := List.length_append ..
  have e2 : (Sb o g rg L F ++ cpB (Sb o g rg L F).length rg L F).length = (o :: g).length + 17 := by rw [List.length_append, e1]; rfl
  rw [e2, e1]
  unfold H3 Sb
  rw [List.append_assoc, List.append_assoc, List.append_nil]
end
noncomputable def nzL (L : List (Int × Int)) : List (Int × Int) := List.rec [] (fun p _ ih => cond (decide (p.2 = 0)) ih (p :: ih)) L
noncomputable def srtP (L : List (Int × Int)) : List (Int × Int) := srtK (nzL L)
noncomputable def memV (L : List (Int × Int)) : V := .tup ((srtP L).map pairV)
theorem held_nz : ∀ L : List (Int × Int), heldP (meV L) = some (nzL L)
  | [] => rfl
  | (k, v) :: r => by
    show (heldP (meV r)).map (fun r => cond (decide (v = 0)) r ((k, v) :: r)) = _
    rw [held_nz r]; rfl
noncomputable def tolV (rg : List Int) (L : List (Int × Int)) (F : F7) : V := .tup [.tup (rg.map .int), .tup (List.replicate 16 (.int 0)), .tup (flV F), memV L, .int 0, .tup [.int 0, .int 0], .boo false]
section
variable {R : Rs} {c : Hc} {P : Pt} {rg : List Int} {L : List (Int × Int)} {F : F7} {n : Nat} {K : KO}
theorem c_mtold (M : Mch c P) (q : K (some (memV L)) (c rg L F)) : R.r (n + 1) 714 [.ref P.m] (c rg L F) K :=
  R.t ⟨rfl, M.am ⟨rfl, M.ad (opE (held_nz L) q)⟩⟩
theorem c_told (M : Mch c P) (hr : rg.length = 16) (q : K (some (tolV rg L F)) (c rg L F)) : R.r (n + 2) 724 [.ref P.p] (c rg L F) K := by
  have hl : (rg.map V.int).length ≤ 1000 := by rw [List.length_map, hr]; decide
  exact R.h rfl (M.ap (M.ag (M.ap (M.ag (M.ap (M.ar ⟨hl, M.ap ⟨Nat.le_of_ble_eq_true rfl, M.ap (M.af (c_ftold M (M.ap (M.am (c_mtold M (M.ap (M.ap q)))))))⟩⟩))))))
end
noncomputable def pD (p : Int × Int) : PyData := .tuple [.int p.1, .int p.2]
theorem toDs_pairs : ∀ l : List (Int × Int), toDs (l.map pairV) 5 = some (l.map pD)
  | [] => rfl
  | p :: r => by
    show ((toD (pairV p) 5).bind fun d => (toDs (r.map pairV) 5).map fun ds => d :: ds) = _
    rw [toDs_pairs r]; rfl
theorem eqv_pairs : ∀ a b : List (Int × Int), PyData.eqvAll (a.map pD) (b.map pD) = decide (a = b)
  | [], [] => by simp [PyData.eqvAll]
  | [], q :: b => by simp [PyData.eqvAll]
  | p :: a, [] => by simp [PyData.eqvAll]
  | (p1, p2) :: a, (q1, q2) :: b => by
    simp [List.map_cons, PyData.eqvAll, pD, PyData.eqv, eqv_pairs a b]
    by_cases h1 : p1 = q1 <;> by_cases h2 : p2 = q2 <;> by_cases h3 : a = b <;> simp [h1, h2, h3]
theorem eq_mem (a b : List (Int × Int)) : eqO (memV a) (memV b) = some (decide (srtP a = srtP b)) := by
  show ((toDs ((srtP a).map pairV) 5).map .tuple).bind (fun x => ((toDs ((srtP b).map pairV) 5).map .tuple).map fun y => PyData.eqv x y) = _
  rw [toDs_pairs, toDs_pairs, ← eqv_pairs]
  show some (PyData.eqv (.tuple _) (.tuple _)) = _
  simp only [PyData.eqv]
theorem toDs_ints : ∀ l : List Int, toDs (l.map .int) 5 = some (l.map PyData.int)
  | [] => rfl
  | p :: r => by
    show ((toD (.int p) 5).bind fun d => (toDs (r.map .int) 5).map fun ds => d :: ds) = _
    rw [toDs_ints r]; rfl
theorem eqv_ints : ∀ a b : List Int, PyData.eqvAll (a.map PyData.int) (b.map PyData.int) = decide (a = b)
  | [], [] => by simp [PyData.eqvAll]
  | [], q :: b => by simp [PyData.eqvAll]
  | p :: a, [] => by simp [PyData.eqvAll]
  | p :: a, q :: b => by
    simp [List.map_cons, PyData.eqvAll, PyData.eqv, eqv_ints a b]
    by_cases h1 : p = q <;> by_cases h3 : a = b <;> simp [h1, h3]
theorem eq_lst (a b : List Int) : eqO (.lst (a.map .int)) (.lst (b.map .int)) = some (decide (a = b)) := by
  show ((toDs (a.map .int) 5).map .list).bind (fun x => ((toDs (b.map .int) 5).map .list).map fun y => PyData.eqv x y) = _
  rw [toDs_ints, toDs_ints, ← eqv_ints]
  show some (PyData.eqv (.list _) (.list _)) = _
  simp only [PyData.eqv]
section
variable {σ : H} {i j : Nat} {a b : List Int} {K : Bool → Prop}
theorem cmpR (h1 : σ[i]? = some (.lst (a.map .int))) (h2 : σ[j]? = some (.lst (b.map .int))) (q : K (decide (a = b))) : eqW (drf σ (.ref i)) (drf σ (.ref j)) K := by
  have e1 : drf σ (.ref i) = .lst (a.map .int) := by show drfO _ σ[i]? = _; rw [h1]; rfl
  have e2 : drf σ (.ref j) = .lst (b.map .int) := by show drfO _ σ[j]? = _; rw [h2]; rfl
  rw [e1, e2]
  exact opX _ (eq_lst a b) q
end
end Mine.J
set_option maxHeartbeats 400000
namespace Mine.J
section
variable {C : Orc} {ρ : Env'} {σ : H} {K : KF} {ss : Sts}
theorem sForV {x : Nat} {e : Ex} {b : Sts} {l : List V} (he : ∀ {K' : KV}, K' (.lst l) σ → wE tab C ρ e σ K') (q : forW (seqK K (wB tab C ss)) (wB tab C b) x l ρ σ) : wB tab C (.cons (.forV x e b) ss) ρ σ K := he q
noncomputable def num (k : Int) (rg : List Int) : Int := if k = -1 then (rg.getD 1 0).fmod 256 else k
noncomputable def rnd (k s : Int) : Int := k.fmod (if s = 64 then 64 else 32)
theorem sRnd {k s : Int} (hk : look 56 ρ = some (.int k)) (hs : look 2 ρ = some (.int s)) (q : wB tab C ss (put 14 (.int (rnd k s)) ρ) σ K) : wB tab C (.cons (.asg 14 (.bin .Mod (.loc 56) (.ite (.cmp .Eq (.loc 2) (.int 64)) (.int 64) (.int 32)))) ss) ρ σ K := by
  refine opE hk (opE hs ?_)
  unfold rnd at q
  by_cases h : s = 64
  · rw [if_pos h] at q; exact dT h ⟨by decide, q⟩
  · rw [if_neg h] at q; exact dF h ⟨by decide, q⟩
end
theorem rdM : ∀ i < 7, ∀ b5 : Bool, inO (.str (flN i)) (cond b5 (sv ["cf"]) []) = some (b5 && Nat.beq i 0) := by decide +kernel
theorem get_i01 {F : F7} (h : isB F) {k : Nat} (hk : k < 7) : ∃ w, 1 - getF k F = i01 w := by
  obtain ⟨c, p, a, z, s, o, d, rfl⟩ := h
  have e : ∀ b, 1 - i01 b = i01 (!b) := fun b => by cases b <;> rfl
  match k with
  | 0 => exact ⟨_, e c⟩
  | 1 => exact ⟨_, e p⟩
  | 2 => exact ⟨_, e a⟩
  | 3 => exact ⟨_, e z⟩
  | 4 => exact ⟨_, e s⟩
  | 5 => exact ⟨_, e o⟩
  | 6 => exact ⟨_, e d⟩
  | k + 7 => exact absurd hk (by lia)
section
variable {R : Rs} {o : HO} {g : H} {n : Nat} {K : KO} {rg : List Int} {L : List (Int × Int)} {F : F7} {nm : Str} {s k : Int} {ops ch : List V} {b5 b : Bool}
noncomputable def EL (nm : Str) (s k : Int) (ops : List V) (t : Nat) : Env' := [(133, .ref 0), (27, .str nm), (2, .int s), (56, .int k), (100, .lst ops), (73, .ref t), (163, inV' nm ops), (173, .ref (t + 17)), (71, .ref (t + 6))]
noncomputable def EM (nm : Str) (s k c : Int) (ops : List V) (t : Nat) (v : V) : Env' := EL nm s k ops t ++ [(160, v), (14, .int c)]
theorem lr_turn (T : Tn nm b5 b ch) (hF : isB F) (q : ∀ {F2 : F7} {v : V}, isB F2 → (b5 = true → F2.c = F.c) → wB tab (R.r (n + 10)) (dropS 4 f_law_line_right.body) (EL nm s k ops (g.length + 1) ++ [(160, v)]) (H3 o g ⟨rg, L, F⟩ ⟨rg, L, F2⟩ ⟨rg, L, F⟩ []) (endK K)) :
    wB tab (R.r (n + 10)) (dropS 3 f_law_line_right.body) (EL nm s k ops (g.length + 1)) (H3 o g ⟨rg, L, F⟩ ⟨rg, L, F⟩ ⟨rg, L, F⟩ []) (endK K) := by
  refine sForV (l := (List.range' 0 7).map fun i => V.str (flN i)) (fun {K'} q => q) ?_
  refine forE (N := 7) (fun i => V.str (flN i)) (fun i σ => ∃ F2, isB F2 ∧ (b5 = true → F2.c = F.c) ∧ σ = H3 o g ⟨rg, L, F⟩ ⟨rg, L, F2⟩ ⟨rg, L, F⟩ []) (fun v => EL nm s k ops (g.length + 1) ++ [(160, v)]) ?_ (fun u v => rfl) ?_ (m := 6) (k := 0) rfl (fun v => rfl) ⟨F, hF, fun _ => rfl, rfl⟩
  · rintro i σ K' hi ⟨F2, h2, hc, rfl⟩ q
    have A := M1 o g ⟨rg, L, F2⟩ ⟨rg, L, F⟩ []
    have B := M2 o g ⟨rg, L, F⟩ ⟨rg, L, F⟩ []
    refine c_reads T.hk T.hr (opX _ (rdM i hi b5) ?_)
    cases e : (b5 && Nat.beq i 0) with
    | true => exact q ⟨F2, h2, hc, rfl⟩
    | false =>
      obtain ⟨w, hw⟩ := get_i01 hF hi
      exact B.ap (B.af (A.ap (A.af (c_fget A hi (c_fputE B hi hw h2 (q ⟨_, set_isB i h2 w, fun h => (set_c (by rintro rfl; rw [h] at e; cases e) _ _).trans (hc h), rfl⟩))))))
  · rintro v σ ⟨F2, h2, hc, rfl⟩
    exact q h2 hc
noncomputable def Told (R : Rs) (nm : Str) (s k c : Int) : Prop := ∀ {n : Nat} {σ : H} {K : KO}, (∀ t, K (some (.boo true)) (σ ++ t)) → R.r (n + 6) 164 [.str nm, .int s, .int k, .int c] σ K
theorem lr_told {F2 : F7} {v : V} (hd : MD rg L) (ht : Told R nm s (num k rg) (rnd (num k rg) s)) (q : ∀ {t : H}, wB tab (R.r (n + 10)) (dropS 7 f_law_line_right.body) (EM nm s (num k rg) (rnd (num k rg) s) ops (g.length + 1) v) (H3 o g ⟨rg, L, F⟩ ⟨rg, L, F2⟩ ⟨rg, L, F⟩ t) (endK K)) :
    wB tab (R.r (n + 10)) (dropS 4 f_law_line_right.body) (EL nm s k ops (g.length + 1) ++ [(160, v)]) (H3 o g ⟨rg, L, F⟩ ⟨rg, L, F2⟩ ⟨rg, L, F⟩ []) (endK K) := by
  have A := M1 o g ⟨rg, L, F2⟩ ⟨rg, L, F⟩ []
  have q6 : wB tab (R.r (n + 10)) (dropS 6 f_law_line_right.body) (EM nm s (num k rg) (rnd (num k rg) s) ops (g.length + 1) v) (H3 o g ⟨rg, L, F⟩ ⟨rg, L, F2⟩ ⟨rg, L, F⟩ []) (endK K) :=
    ht fun t => by rw [H3_app]; exact q
  have q5 : wB tab (R.r (n + 10)) (dropS 5 f_law_line_right.body) (EL nm s (num k rg) ops (g.length + 1) ++ [(160, v)]) (H3 o g ⟨rg, L, F⟩ ⟨rg, L, F2⟩ ⟨rg, L, F⟩ []) (endK K) := sRnd rfl rfl q6
  exact if_if (P := fun z => wB tab (R.r (n + 10)) (dropS 5 f_law_line_right.body) (EL nm s z ops (g.length + 1) ++ [(160, v)]) (H3 o g ⟨rg, L, F⟩ ⟨rg, L, F2⟩ ⟨rg, L, F⟩ []) (endK K)) q5 (fun q => A.ap (A.gr (i := 1) ⟨hd.len, by decide⟩ ⟨by decide, q⟩)) id
end
end Mine.J
set_option maxHeartbeats 400000
namespace Mine.J
theorem for2J {K : KF} {body : Env' → H → KF → Prop} {x y N : Nat} {σ : H} (f : Nat → V) (J : Env' → Prop) (step : ∀ {i : Nat} {ρ : Env'} {K' : KF}, i < N → J ρ → (∀ {ρ' : Env'}, J ρ' → K' .nxt ρ' σ) → body (put y (f i) (put x (.int i) ρ)) σ K') (q : ∀ {ρ : Env'}, J ρ → K .nxt ρ σ) :
    ∀ {m k : Nat} {ρ : Env'}, k + m = N → J ρ → for2W K body x y ((List.range' k m).map f) k ρ σ := by
  intro m
  induction m with
  | zero => exact fun _ h => q h
  | succ m ih => exact fun hN h => step (by lia) h fun h => ih (by lia) h
theorem ap_get {m k : Nat} {v F : F7} (hk : k < 7) : getF k (apF m v F) = cond (m.testBit k) (getF k v) (getF k F) := by
  match k with
  | 0 => rfl
  | 1 => rfl
  | 2 => rfl
  | 3 => rfl
  | 4 => rfl
  | 5 => rfl
  | 6 => rfl
  | k + 7 => exact absurd hk (by lia)
noncomputable def Zv (z : Nat) (v : F7) : Prop := ∀ k < 7, z.testBit k = true → getF k v = 0
noncomputable def fkB (m z : Nat) (ch op : List V) (i : Nat) : Bool := Option.rec false (fun a => Option.rec false (fun b => (a == m.testBit i) && (!(a && b) || z.testBit i)) (inO (.str (flN i)) op)) (inO (.str (flN i)) ch)
noncomputable def Fk (m z : Nat) (ch op : List V) : Prop := ∀ i < 7, fkB m z ch op i = true
theorem Fk.h {m z i : Nat} {ch op : List V} (h : Fk m z ch op) (hi : i < 7) : ∃ b, inO (.str (flN i)) ch = some (m.testBit i) ∧ inO (.str (flN i)) op = some b ∧ (m.testBit i = true → b = true → z.testBit i = true) := by
  have h := h i hi
  unfold fkB at h
  generalize inO (.str (flN i)) ch = x at h
  generalize inO (.str (flN i)) op = y at h
  cases x with
  | none => cases h
  | some a =>
    cases y with
    | none => cases h
    | some b =>
      have h := Bool.and_eq_true_iff.mp h
      have e := eq_of_beq h.1
      refine ⟨b, by rw [e], rfl, fun h1 h2 => ?_⟩
      have h3 := h.2
      rw [e, h1, h2] at h3
      exact h3
theorem eqP (a b : Int) : eqO (.tup [.int a, .int b]) (.tup [.int a, .int b]) = some true := by
  have h := eqv_ints [a, b] [a, b]
  rw [decide_eq_true rfl] at h
  show some (PyData.eqv (.tuple _) (.tuple _)) = _
  simp only [PyData.eqv]
  exact congrArg some h
theorem sAsg {C : Orc} {x : Nat} {e : Ex} {ss : Sts} {ρ : Env'} {σ : H} {K : KF} {v : V} (he : ∀ {K' : KV}, K' v σ → wE tab C ρ e σ K') (q : wB tab C ss (put x v ρ) σ K) : wB tab C (.cons (.asg x e) ss) ρ σ K := he q
theorem lkE {x : Nat} {ρ : Env'} {v : V} {K : V → Prop} (e : look x ρ = some v) (h : K v) : opt (look x ρ) K := opE e h
section
variable {R : Rs} {σ : H} {K : KO} {n : Nat} {nm : Str} {c s : Int} {b0 b1 b2 b3 b4 b5 b : Bool} {ch op : List V} {m z : Nat} {v A1 A2 : F7}
noncomputable def pV (A B : F7) : V := .tup [.tup (flV A), .tup (flV B)]
noncomputable def Jf (ch op : List V) (P Q : V) (ρ : Env') : Prop := look 166 ρ = some P ∧ look 167 ρ = some Q ∧ look 170 ρ = some (.lst ch) ∧ look 169 ρ = some (.lst op)
noncomputable def fbody : Sts := match dropS 2 f_law_flags_right.body with
  | .cons (.for2 _ _ _ b) _ => b
  | _ => .nil
theorem fr_rest {C : Orc} {K : KF} {ρ : Env'} {x1 x2 : Int} {i : Nat} {Q : V} {bo : Bool} (hi : i < 7) (j : Jf ch op (pV A1 A2) Q ρ) (g168 : look 168 ρ = some (.tup [.int x1, .int x2])) (g159 : look 159 ρ = some (.int i)) (g160 : look 160 ρ = some (.str (flN i))) (f1 : inO (.str (flN i)) ch = some (m.testBit i)) (f2 : inO (.str (flN i)) op = some bo) (f3 : m.testBit i = true → bo = true → getF i v = 0)
    (h1 : x1 = cond (m.testBit i) (getF i v) (getF i A1)) (h2 : x2 = cond (m.testBit i) (getF i v) (getF i A2)) (q : K .nxt ρ σ) : wB tab C (dropS 1 fbody) ρ σ K := by
  obtain ⟨l166, _, l170, l169⟩ := j
  cases hm : m.testBit i with
  | false =>
    rw [hm] at h1 h2 f1
    subst h1 h2
    exact lkE g160 (lkE l170 (opX _ f1 (lkE g168 (lkE l166 ⟨i0, lkE g159 ⟨k100 hi, opE (getD_map (rg := flI A1) hi) (lkE l166 ⟨i1, lkE g159 ⟨k100 hi, opE (getD_map (rg := flI A2) hi) (opX _ (eqP _ _)
      (lkE g160 (lkE l170 (opX _ f1 (lkE g160 (lkE l170 (opX _ f1 q)))))))⟩⟩)⟩⟩))))
  | true =>
    rw [hm] at h1 h2 f1
    have h3 := h1.trans h2.symm
    refine lkE g160 (lkE l170 (opX _ f1 ?_))
    refine lkE g160 (lkE l170 (opX _ f1 ?_))
    refine lkE g168 ⟨i0, ?_⟩
    refine lkE g168 ⟨i1, ?_⟩
    refine nF h3 ?_
    refine lkE g160 (lkE l170 (opX _ f1 ?_))
    refine lkE g160 (lkE l169 (opX _ f2 ?_))
    cases bo with
    | false => exact q
    | true => exact lkE g168 ⟨i0, nF (h1.trans (f3 hm rfl)) q⟩
theorem c_fr (T : Tn nm b5 b ch) (e0 : decide (c = 0) = b0) (e1 : decide (1 < c) = b1) (e2 : decide (s ≤ c) = b2) (e3 : decide (s < c) = b3) (e4 : decide ((nm.length : Int) = 4) = b4) (e : opnF nm b0 b1 b2 b3 b4 = some op) (hk : Fk m z (cond (b && b0) [] ch) op) (hz : Zv z v)
    (q : K (some (.boo true)) σ) : R.r (n + 3) 165 [.str nm, .int s, .int c, pV A1 A2, pV (apF m v A1) (apF m v A2)] σ K := by
  have a1 : ∀ i, i < 7 → getF i (apF m v A1) = cond (m.testBit i) (getF i v) (getF i A1) := fun i hi => ap_get hi
  have a2 : ∀ i, i < 7 → getF i (apF m v A2) = cond (m.testBit i) (getF i v) (getF i A2) := fun i hi => ap_get hi
  generalize apF m v A1 = B1 at a1 ⊢
  generalize apF m v A2 = B2 at a2 ⊢
  have lp : wB tab (R.r (n + 2)) (dropS 2 f_law_flags_right.body) [(27, .str nm), (2, .int s), (14, .int c), (166, pV A1 A2), (167, pV B1 B2), (170, .lst (cond (b && b0) [] ch)), (169, .lst op)] σ (endK K) := by
    refine sFor2 (l := (List.range' 0 7).map fun i => V.str (flN i)) (fun {K'} q => q) ?_
    refine for2J (N := 7) (fun i => V.str (flN i)) (Jf (cond (b && b0) [] ch) op (pV A1 A2) (pV B1 B2)) ?_ (fun h => q) (m := 7) (k := 0) rfl ⟨rfl, rfl, rfl, rfl⟩
    rintro i ρ K' hi ⟨l166, l167, l170, l169⟩ q
    obtain ⟨bo, f1, f2, f3⟩ := hk.h hi
    have g159 : look 159 (put 160 (.str (flN i)) (put 159 (.int i) ρ)) = some (.int i) := (look_ne _ rfl _).trans (look_same ..)
    have g160 := look_same 160 (.str (flN i)) (put 159 (.int i) ρ)
    have g : ∀ {x : Nat} {u : V}, Nat.beq x 160 = false → Nat.beq x 159 = false → look x ρ = some u → look x (put 160 (.str (flN i)) (put 159 (.int i) ρ)) = some u := fun h1 h2 h => (look_ne _ h1 _).trans ((look_ne _ h2 _).trans h)
    have l166 := g rfl rfl l166
    have l167 := g rfl rfl l167
    have l170 := g rfl rfl l170
    have l169 := g rfl rfl l169
    refine lkE l167 ⟨i0, lkE g159 ⟨k100 hi, opE (getD_map (rg := flI B1) hi) (lkE l167 ⟨i1, lkE g159 ⟨k100 hi, opE (getD_map (rg := flI B2) hi) ?_⟩⟩)⟩⟩
    have p : ∀ {x : Nat} {u w : V} {ρ : Env'}, Nat.beq x 168 = false → look x ρ = some u → look x (put 168 w ρ) = some u := fun h1 h => (look_ne _ h1 _).trans h
    have j : ∀ w, Jf (cond (b && b0) [] ch) op (pV A1 A2) (pV B1 B2) (put 168 w (put 160 (.str (flN i)) (put 159 (.int i) ρ))) := fun w => ⟨p rfl l166, p rfl l167, p rfl l170, p rfl l169⟩
    exact fr_rest hi (j _) (look_same ..) (p rfl g159) (p rfl g160) f1 f2 (fun h1 h2 => hz i hi (f3 h1 h2)) (a1 i hi) (a2 i hi) (q (j _))
  have l1 : wB tab (R.r (n + 2)) (dropS 1 f_law_flags_right.body) [(27, .str nm), (2, .int s), (14, .int c), (166, pV A1 A2), (167, pV B1 B2), (170, .lst (cond (b && b0) [] ch))] σ (endK K) :=
    sAsg (v := .lst op) (fun {K'} q => c_open T.hk e0 e1 e2 e3 e4 e q) lp
  cases b with
  | false => exact R.h rfl (c_rounds T.ho (c_setby T.hs l1))
  | true =>
    cases b0 with
    | false => exact R.h rfl (c_rounds T.ho (ifF e0 (c_setby T.hs l1)))
    | true => exact R.h rfl (c_rounds T.ho (ifT e0 l1))
end
end Mine.J
set_option maxHeartbeats 400000
namespace Mine.J
noncomputable def RF (v : V) (n : Nat) : Prop := ∃ d, toD v n = some d ∧ PyData.eqv d d = true
noncomputable def RFs (l : List V) (n : Nat) : Prop := ∃ d, toDs l n = some d ∧ PyData.eqvAll d d = true
section
variable {n : Nat}
theorem rfI (i : Int) : RF (.int i) (n + 1) := ⟨.int i, rfl, by simp [PyData.eqv]⟩
theorem rfB (i : Bool) : RF (.boo i) (n + 1) := ⟨.bool i, rfl, by simp [PyData.eqv]⟩
theorem rfT {l : List V} (h : RFs l n) : RF (.tup l) (n + 1) := by
  obtain ⟨d, h1, h2⟩ := h
  exact ⟨.tuple d, by show (toDs l n).map _ = _; rw [h1]; rfl, by simp only [PyData.eqv]; exact h2⟩
theorem rfN : RFs [] n := ⟨[], rfl, by simp [PyData.eqvAll]⟩
theorem rfC {v : V} {l : List V} (h : RF v n) (t : RFs l n) : RFs (v :: l) n := by
  obtain ⟨d, h1, h2⟩ := h
  obtain ⟨e, h3, h4⟩ := t
  exact ⟨d :: e, by show (toD v n).bind (fun d => (toDs l n).map fun ds => d :: ds) = _; rw [h1, h3]; rfl, by simp only [PyData.eqvAll, h2, h4]; rfl⟩
theorem rfIs : ∀ l : List Int, RFs (l.map .int) (n + 1)
  | [] => rfN
  | i :: l => rfC (rfI i) (rfIs l)
theorem rfPs : ∀ l : List (Int × Int), RFs (l.map pairV) (n + 2)
  | [] => rfN
  | p :: l => rfC (rfT (rfC (rfI _) (rfC (rfI _) rfN))) (rfPs l)
theorem RF.e {v : V} (h : RF v 6) : eqO v v = some true := by
  obtain ⟨d, h1, h2⟩ := h
  show (toD v 6).bind (fun x => (toD v 6).map fun y => PyData.eqv x y) = _
  rw [h1]; exact congrArg some h2
end
theorem eq_fl (F : F7) : eqO (.tup (flV F)) (.tup (flV F)) = some true := (rfT (rfIs (flI F))).e
theorem eq_mm (L : List (Int × Int)) : eqO (memV L) (memV L) = some true := (rfT (rfPs _)).e
theorem eq_tol (rg : List Int) (L : List (Int × Int)) (F : F7) : eqO (tolV rg L F) (tolV rg L F) = some true :=
  (rfT (rfC (rfT (rfIs rg)) (rfC (rfT (rfIs (List.replicate 16 0))) (rfC (rfT (rfIs (flI F))) (rfC (rfT (rfPs _)) (rfC (rfI 0) (rfC (rfT (rfC (rfI 0) (rfC (rfI 0) rfN))) (rfC (rfB false) rfN)))))))).e
theorem beqT {x y : Bool} (h : x = y) : eqO (.boo x) (.boo y) = some true := by subst h; cases x <;> rfl
section
variable {R : Rs} {o : HO} {g : H} {n : Nat} {K : KO} {rg rg' : List Int} {L L' : List (Int × Int)} {F F2 : F7} {nm : Str} {s k c : Int} {ops ch op : List V} {b0 b1 b2 b3 b4 b5 b : Bool} {f : V} {t : H} {m z : Nat} {v : F7} {Q : F7 → Prop}
theorem sIteF {C : Orc} {e : Ex} {a ss : Sts} {ρ : Env'} {σ : H} {K : KF} (he : ∀ {K' : KV}, K' (.boo false) σ → wE tab C ρ e σ K') (q : wB tab C ss ρ σ K) : wB tab C (.cons (.ite e a .nil) ss) ρ σ K := he q
noncomputable def EN (nm : Str) (s k c : Int) (ops : List V) (t : Nat) (f : V) (rg : List Int) (L : List (Int × Int)) (F F2 : F7) (r : V) : Env' := EM nm s k c ops t f ++ [(175, tolV rg L F), (166, pV F F2), (174, r)]
theorem cmpE {σ : H} {i j : Nat} {a : List Int} {K : Bool → Prop} (h1 : σ[i]? = some (.lst (a.map .int))) (h2 : σ[j]? = some (.lst (a.map .int))) (q : K true) : eqW (drf σ (.ref i)) (drf σ (.ref j)) K :=
  cmpR h1 h2 (by rw [decide_eq_true rfl]; exact q)
theorem lr_heard {r : V} (hr : rg.length = 16) (A : Ans R nm ops rg L Q r rg' L' m v) (h1 : Q F) (h2 : Q F2) (hw : ∀ {σ : H} {K : Bool → Prop}, K true → eqW (drf σ r) (drf σ r) K)
    (q : wB tab (R.r (n + 10)) (dropS 10 f_law_line_right.body) (EN nm s k c ops (g.length + 1) f rg L F F2 r) (H3 o g ⟨rg', L', apF m v F⟩ ⟨rg', L', apF m v F2⟩ ⟨rg, L, F⟩ t) (endK K)) :
    wB tab (R.r (n + 10)) (dropS 7 f_law_line_right.body) (EM nm s k c ops (g.length + 1) f) (H3 o g ⟨rg, L, F⟩ ⟨rg, L, F2⟩ ⟨rg, L, F⟩ t) (endK K) := by
  have A1 := M1 o g ⟨rg, L, F2⟩ ⟨rg, L, F⟩ t
  have B1 := M2 o g ⟨rg, L, F⟩ ⟨rg, L, F⟩ t
  have B2 := M2 o g ⟨rg', L', apF m v F⟩ ⟨rg, L, F⟩ t
  have q8 : wB tab (R.r (n + 10)) (dropS 8 f_law_line_right.body) (EM nm s k c ops (g.length + 1) f ++ [(175, tolV rg L F), (166, pV F F2)]) (H3 o g ⟨rg, L, F⟩ ⟨rg, L, F2⟩ ⟨rg, L, F⟩ t) (endK K) :=
    A A1 h1 (A B2 h2 (hw q))
  exact A1.ap (A1.af (c_ftold A1 (B1.ap (B1.af (c_ftold B1 (A1.ap (c_told A1 hr q8)))))))
theorem lr_no (hr : rg.length = 16) (A : Ans R nm ops rg L Any no rg L 0 v) (hd : sI nm ["div", "idiv"] = some true) (q : K (some (.boo true)) (H3 o g ⟨rg, L, F⟩ ⟨rg, L, F2⟩ ⟨rg, L, F⟩ t)) :
    wB tab (R.r (n + 10)) (dropS 7 f_law_line_right.body) (EM nm s k c ops (g.length + 1) f) (H3 o g ⟨rg, L, F⟩ ⟨rg, L, F2⟩ ⟨rg, L, F⟩ t) (endK K) := by
  refine lr_heard hr A trivial trivial (fun q => opT (by kernel_rfl) q) ?_
  have A1 := M1 o g ⟨rg, L, F2⟩ ⟨rg, L, F⟩ t
  have B1 := M2 o g ⟨rg, L, F⟩ ⟨rg, L, F⟩ t
  show wB tab (R.r (n + 10)) (dropS 10 f_law_line_right.body) (EN nm s k c ops (g.length + 1) f rg L F F2 no) (H3 o g ⟨rg, L, F⟩ ⟨rg, L, F2⟩ ⟨rg, L, F⟩ t) (endK K)
  exact opT (by kernel_rfl) (opT hd (A1.ap (c_told A1 hr (opT (eq_tol ..) (B1.ap (B1.af (c_ftold B1 ⟨i1, opT (eq_fl _) q⟩)))))))
theorem lr_ok (T : Tn nm b5 b ch) (hr : rg.length = 16) (A : Ans R nm ops rg L Q (.boo true) rg' L' m v) (h1 : Q F) (h2 : Q F2) (e0 : decide (c = 0) = b0) (e1 : decide (1 < c) = b1) (e2 : decide (s ≤ c) = b2) (e3 : decide (s < c) = b3) (e4 : decide ((nm.length : Int) = 4) = b4) (e : opnF nm b0 b1 b2 b3 b4 = some op) (hk : Fk m z (cond (b && b0) [] ch) op) (hz : Zv z v)
    (q : wB tab (R.r (n + 10)) (dropS 13 f_law_line_right.body) (EN nm s k c ops (g.length + 1) f rg L F F2 (.boo true)) (H3 o g ⟨rg', L', apF m v F⟩ ⟨rg', L', apF m v F2⟩ ⟨rg, L, F⟩ t) (endK K)) :
    wB tab (R.r (n + 10)) (dropS 7 f_law_line_right.body) (EM nm s k c ops (g.length + 1) f) (H3 o g ⟨rg, L, F⟩ ⟨rg, L, F2⟩ ⟨rg, L, F⟩ t) (endK K) := by
  refine lr_heard hr A h1 h2 (fun q => opT (beqT rfl) q) ?_
  have fr : ∀ {σ : H} {K : KO}, K (some (.boo true)) σ → R.r (n + 10) 165 [.str nm, .int s, .int c, pV F F2, pV (apF m v F) (apF m v F2)] σ K := fun {σ K} q => c_fr T e0 e1 e2 e3 e4 e hk hz q
  generalize apF m v F = G1 at fr q ⊢
  generalize apF m v F2 = G2 at fr q ⊢
  have A1 := M1 o g ⟨rg', L', G2⟩ ⟨rg, L, F⟩ t
  have B1 := M2 o g ⟨rg', L', G1⟩ ⟨rg, L, F⟩ t
  have q12 : wB tab (R.r (n + 10)) (dropS 12 f_law_line_right.body) (EN nm s k c ops (g.length + 1) f rg L F F2 (.boo true)) (H3 o g ⟨rg', L', G1⟩ ⟨rg', L', G2⟩ ⟨rg, L, F⟩ t) (endK K) :=
    sIteF (fun {K'} q => A1.ap (A1.af (c_ftold A1 (B1.ap (B1.af (c_ftold B1 (fr q))))))) q
  have q11 : wB tab (R.r (n + 10)) (dropS 11 f_law_line_right.body) (EN nm s k c ops (g.length + 1) f rg L F F2 (.boo true)) (H3 o g ⟨rg', L', G1⟩ ⟨rg', L', G2⟩ ⟨rg, L, F⟩ t) (endK K) :=
    sIteF (fun {K'} q => opT (beqT rfl) (A1.ap (B1.ap (cmpE A1.r B1.r (A1.ap (A1.am (c_mtold A1 (B1.ap (B1.am (c_mtold B1 (opT (eq_mm _) q))))))))))) q12
  exact sIteF (fun {K'} q => opF (by kernel_rfl) q) q11
end
end Mine.J
set_option maxHeartbeats 400000
namespace Mine.J
section
variable {C : Orc} {ρ : Env'} {σ σ' : H} {K : KF} {ss : Sts} {e e1 e2 : Ex} {v v1 v2 : V} {x y : Nat}
theorem sExp (he : ∀ {K' : KV}, K' v σ' → wE tab C ρ e σ K') (q : wB tab C ss ρ σ' K) : wB tab C (.cons (.exp e) ss) ρ σ K := he q
theorem sAs (he : ∀ {K' : KV}, K' v σ' → wE tab C ρ e σ K') (q : wB tab C ss (put x v ρ) σ' K) : wB tab C (.cons (.asg x e) ss) ρ σ K := he q
theorem sW2 {σ2 : H} (h1 : ∀ {K' : KV}, K' v1 σ' → wE tab C ρ e1 σ K') (h2 : ∀ {K' : KV}, K' v2 σ2 → wE tab C ρ e2 σ' K') (q : wB tab C ss (put x v1 (put y v2 ρ)) σ2 K) : wB tab C (.cons (.asgW [x, y] (.cons e1 (.cons e2 .nil))) ss) ρ σ K := h1 (h2 q)
theorem sW2D (Q : V → H → Prop) (h1 : ∀ {K' : KV}, K' v1 σ' → wE tab C ρ e1 σ K') (h2 : ∀ {K' : KV}, (∀ {v : V} {σ2 : H}, Q v σ2 → K' v σ2) → wE tab C ρ e2 σ' K') (q : ∀ {v : V} {σ2 : H}, Q v σ2 → wB tab C ss (put x v1 (put y v ρ)) σ2 K) : wB tab C (.cons (.asgW [x, y] (.cons e1 (.cons e2 .nil))) ss) ρ σ K :=
  h1 (h2 fun h => q h)
end
section
variable {R : Rs} {o : HO} {g : H} {n j : Nat} {K : KO} {rg rg' rg3 : List Int} {L L' L3 : List (Int × Int)} {F F2 G1 G2 v3 : F7} {nm : Str} {s k c : Int} {ops : List V} {f : V} {t : H} {m3 : Nat} {Q3 : F7 → Prop}
theorem lr_13F (hc : sI nm ["rcl", "rcr"] = some false) (q : K (some (.boo true)) (H3 o g ⟨rg', L', G1⟩ ⟨rg', L', G2⟩ ⟨rg, L, F⟩ t)) :
    wB tab (R.r (n + 10)) (dropS 13 f_law_line_right.body) (EN nm s k c ops (g.length + 1) f rg L F F2 (.boo true)) (H3 o g ⟨rg', L', G1⟩ ⟨rg', L', G2⟩ ⟨rg, L, F⟩ t) (endK K) := opF hc q
theorem lr_13T (hc : sI nm ["rcl", "rcr"] = some true) (hF : isB F) (A3 : Ans R nm ops rg L Q3 (.boo true) rg3 L3 m3 v3) (hQ : Q3 (setF 0 F (1 - F.c))) (hs : s + 1 ≠ 0) (hx : (rg3 = rg' ∧ srtP L3 = srtP L') ↔ c.fmod (s + 1) = 0) (q : ∀ F3, K (some (.boo true)) (H3 o g ⟨rg', L', G1⟩ ⟨rg', L', G2⟩ ⟨rg3, L3, F3⟩ t)) :
    wB tab (R.r (n + 10)) (dropS 13 f_law_line_right.body) (EN nm s k c ops (g.length + 1) f rg L F F2 (.boo true)) (H3 o g ⟨rg', L', G1⟩ ⟨rg', L', G2⟩ ⟨rg, L, F⟩ t) (endK K) := by
  have C1 := M3 o g ⟨rg', L', G1⟩ ⟨rg', L', G2⟩ t
  obtain ⟨w, hw⟩ := get_i01 hF (k := 0) (by decide)
  have hw : 1 - F.c = i01 w := hw
  rw [hw] at hQ
  have q16 : wB tab (R.r (n + 10)) (dropS 16 f_law_line_right.body) (EN nm s k c ops (g.length + 1) f rg L F F2 (.boo true) ++ [(172, .boo (decide (rg3 = rg') && decide (srtP L3 = srtP L')))]) (H3 o g ⟨rg', L', G1⟩ ⟨rg', L', G2⟩ ⟨rg3, L3, apF m3 v3 (setF 0 F (i01 w))⟩ t) (endK K) :=
    ⟨hs, opT (beqT (by rw [← Bool.decide_and]; exact decide_eq_decide.mpr hx)) (q _)⟩
  have q15 : wB tab (R.r (n + 10)) (dropS 15 f_law_line_right.body) (EN nm s k c ops (g.length + 1) f rg L F F2 (.boo true)) (H3 o g ⟨rg', L', G1⟩ ⟨rg', L', G2⟩ ⟨rg, L, setF 0 F (i01 w)⟩ t) (endK K) := by
    refine sAs (σ' := H3 o g ⟨rg', L', G1⟩ ⟨rg', L', G2⟩ ⟨rg3, L3, apF m3 v3 (setF 0 F (i01 w))⟩ t) (fun {K'} q => A3 C1 hQ ?_) q16
    generalize apF m3 v3 (setF 0 F (i01 w)) = G3 at q ⊢
    have A1 := M1 o g ⟨rg', L', G2⟩ ⟨rg3, L3, G3⟩ t
    refine opT (beqT rfl) (C1.ap (A1.ap (cmpR C1.r A1.r ?_)))
    cases e : decide (rg3 = rg') with
    | false => rw [e] at q; exact q
    | true => rw [e] at q; exact C1.ap (C1.am (c_mtold C1 (A1.ap (A1.am (c_mtold A1 (opX _ (eq_mem ..) q))))))
  exact sIteF (fun {K'} q => opT hc q) (sExp (σ' := H3 o g ⟨rg', L', G1⟩ ⟨rg', L', G2⟩ ⟨rg, L, setF 0 F (i01 w)⟩ t) (fun {K'} q => C1.ap (C1.af (C1.ap (C1.af (c_fget (k := 0) C1 (by decide) (c_fputE (k := 0) C1 (by decide) hw hF q)))))) q15)
noncomputable def Fin (R : Rs) (nm : Str) (s k : Int) (ops : List V) : Prop := ∀ (n : Nat) (o : HO) (g : H) (K : KO) (rg : List Int) (L : List (Int × Int)) (F : F7), isB F → MD rg L → (∀ {X Y Z : Mc} {t : H}, K (some (.boo true)) (H3 o g X Y Z t)) →
  wB tab (R.r (n + 10)) (dropS 3 f_law_line_right.body) (EL nm s k ops (g.length + 1)) (H3 o g ⟨rg, L, F⟩ ⟨rg, L, F⟩ ⟨rg, L, F⟩ []) (endK K)
theorem H3_c (X Y Z : Mc) : H3 o g X Y Z t = o :: (g ++ (blk (o :: g).length X.rg X.L X.F ++ (cpB ((o :: g).length + 6) Y.rg Y.L Y.F ++ (cpB ((o :: g).length + 17) Z.rg Z.L Z.F ++ t)))) := by unfold H3; rfl
theorem lr_start {b : Bool} (hfin : Fin R nm s k ops) (hq : sI nm ["div", "idiv"] = some b) (hf : fros ops = true) (hl : ops.length ≤ 1000) (h : Pn (j + 46) o) (q : ∀ {o' : HO} {g' : H}, Pn j o' → K (some (.boo true)) (o' :: g')) :
    wB tab (R.r (n + 10)) (dropS 1 f_law_line_right.body) [(133, .ref 0), (27, .str nm), (2, .int s), (56, .int k), (100, .lst ops)] (o :: g) (endK K) := by
  have f1 : fros [.str nm, .lst ops] = true := by show (true && (fros ops && true)) = true; rw [hf]; rfl
  have f2 : fros [.str nm, .tup ops, .str s0] = true := by show (true && (fros ops && true)) = true; rw [hf]; rfl
  refine sW2D (fun v σ => ∃ o rg L F, v = .ref (g.length + 1) ∧ σ = Sb o g rg L F ∧ isB F ∧ MD rg L ∧ Pn j o) (v1 := inV' nm ops) (fun {K'} q => ⟨f1, c_InsI hl ⟨⟨rfl, f2⟩, q⟩⟩) (fun {K'} q => c_below h (by decide) fun {v o} _ _ h => c_begin hq h fun {o rg L F} hF hd h => q ⟨o, rg, L, F, rfl, rfl, hF, hd, h⟩) ?_
  rintro v σ ⟨o, rg, L, F, rfl, rfl, hF, hd, h⟩
  have A := mB o g
  have q3 := hfin n o g K rg L F hF hd fun {X Y Z t} => by rw [H3_c]; exact q h
  have e1 : g.length + 1 + 6 = (Sb o g rg L F).length := by unfold Sb; rw [List.length_append]; rfl
  have e2 : g.length + 1 + 17 = (Sb o g rg L F ++ cpB (Sb o g rg L F).length rg L F).length := by rw [List.length_append, ← e1]; rfl
  rw [← H3_mk] at q3
  unfold EL at q3
  rw [e1, e2] at q3
  exact sW2 (fun {K'} q => A.ap (c_copy A hF hd.len q)) (fun {K'} q => A.app.ap (c_copy A.app hF hd.len q)) q3
end
end Mine.J
set_option maxHeartbeats 400000
namespace Mine.J
section
theorem fmod_e (a : Int) {b : Int} (h : 0 ≤ b) : a.fmod b = a % b := Int.fmod_eq_emod_of_nonneg _ h
theorem and_fits {a b : Int} (t : Nat) (ha : a % 2 ^ t = 0) (hb0 : 0 ≤ b) (hb : b < 2 ^ t) : Builtin.bitAnd a b = 0 := by
  induction t generalizing a b with
  | zero =>
    have : b = 0 := by have : b < 1 := hb; lia
    subst this
    have := PyProof.Rows.bitAnd_range a (Int.le_refl 0)
    lia
  | succ t ih =>
    rw [Int.pow_succ] at ha hb
    have hp := kbt_pos t
    have h1 : a % 2 = 0 := by
      have : a % (2 ^ t * 2) % 2 = a % 2 := Int.emod_emod_of_dvd a ⟨2 ^ t, by rw [Int.mul_comm]⟩
      rw [ha] at this; lia
    have h2 : (a / 2) % 2 ^ t = 0 := by
      have e : a = 2 ^ t * 2 * (a / (2 ^ t * 2)) := by
        have := Int.mul_ediv_add_emod a (2 ^ t * 2); rw [ha, Int.add_zero] at this; exact this.symm
      have e2 : a / 2 = 2 ^ t * (a / (2 ^ t * 2)) := by
        have : a = 2 * (2 ^ t * (a / (2 ^ t * 2))) := by
          rw [← Int.mul_assoc, Int.mul_comm 2 (2 ^ t)]; exact e
        lia
      rw [e2]; exact Int.mul_emod_right _ _
    have h3 := ih (a := a / 2) (b := b / 2) h2 (by lia) (by lia)
    rw [kbt_halves, h3, if_neg (by lia)]; rfl
theorem or_fits {a b : Int} (t : Nat) (ha : a % 2 ^ t = 0) (hb0 : 0 ≤ b) (hb : b < 2 ^ t) : Builtin.bitOr a b = a + b := by
  rw [PyProof.Rows.bitOr_and, and_fits t ha hb0 hb]; lia
theorem turn_val {k v : Int} {s t : Nat} (hk : k = 0 ∨ k = 1) (h0 : 0 ≤ v) (h1 : v < 2 ^ s) (ht : 1 ≤ t) (hts : t ≤ s) :
    tl (Builtin.bitOr (k * 2 ^ s) v) t (s + 1 : Nat) = (v * 2 ^ t) % 2 ^ (s + 1) + (k * 2 ^ (t - 1) + v / 2 ^ (s + 1 - t)) := by
  have ps := kbt_pos s
  have pt' := kbt_pos t
  have e0 : Builtin.bitOr (k * 2 ^ s) v = k * 2 ^ s + v := or_fits s (Int.mul_emod_left _ _) h0 h1
  have d1 : (2 : Int) ^ s = 2 ^ (t - 1) * 2 ^ (s + 1 - t) := by rw [← Int.pow_add]; congr 1; lia
  have q : (k * 2 ^ s + v).fdiv (2 ^ (s + 1 - t)) = k * 2 ^ (t - 1) + v / 2 ^ (s + 1 - t) := by
    rw [d1, ← Int.mul_assoc, kbt_qL, Int.fdiv_eq_ediv_of_nonneg _ (Int.le_of_lt (kbt_pos _))]
  have m : ((k * 2 ^ s + v) * 2 ^ t) % 2 ^ (s + 1) = (v * 2 ^ t) % 2 ^ (s + 1) := by
    have e : (k * 2 ^ s + v) * 2 ^ t = (k * 2 ^ (t - 1)) * 2 ^ (s + 1) + v * 2 ^ t := by
      rw [Int.add_mul, Int.mul_assoc, Int.mul_assoc, ← Int.pow_add, ← Int.pow_add, show s + t = t - 1 + (s + 1) by lia]
    rw [e]; exact (kbt_both _ _ _).2
  have b0 : 0 ≤ v / 2 ^ (s + 1 - t) := Int.ediv_nonneg h0 (Int.le_of_lt (kbt_pos _))
  have b1 : v / 2 ^ (s + 1 - t) < 2 ^ (t - 1) := by
    apply Int.ediv_lt_of_lt_mul (kbt_pos _)
    rw [← d1]; exact h1
  have d2 : (2 : Int) ^ t = 2 ^ (t - 1) * 2 := by rw [← Int.pow_succ]; congr 1; lia
  have pt1 := kbt_pos (t - 1)
  have hlow : (v * 2 ^ t) % 2 ^ (s + 1) % 2 ^ t = 0 := by
    rw [Int.emod_emod_of_dvd _ (by
      rw [show s + 1 = t + (s + 1 - t) by lia, Int.pow_add]; exact Int.dvd_mul_right _ _)]
    exact Int.mul_emod_left _ _
  unfold tl
  rw [e0, wr_eq]
  rw [show ((s + 1 : Nat) : Int).toNat = s + 1 by lia, show ((t : Nat) : Int).toNat = t by lia, show (((s + 1 : Nat) : Int) - (t : Int)).toNat = s + 1 - t by lia, q, m]
  apply or_fits t hlow
  · rcases hk with rfl | rfl <;> lia
  · rcases hk with rfl | rfl <;> lia
theorem tl_zero {k v : Int} {s : Nat} (hk : k = 0 ∨ k = 1) (h0 : 0 ≤ v) (h1 : v < 2 ^ s) : wr (tl (Builtin.bitOr (k * 2 ^ s) v) 0 (s + 1 : Nat)) (s : Nat) = v := by
  have ps := kbt_pos s
  have e0 : Builtin.bitOr (k * 2 ^ s) v = k * 2 ^ s + v := or_fits s (Int.mul_emod_left _ _) h0 h1
  have e1 : (2 : Int) ^ (s + 1) = 2 * 2 ^ s := by rw [Int.pow_succ]; lia
  have lt : 0 ≤ k * 2 ^ s + v ∧ k * 2 ^ s + v < 2 ^ (s + 1) := by rcases hk with rfl | rfl <;> lia
  unfold tl
  rw [e0, wr_eq, wr_eq]
  rw [show ((s + 1 : Nat) : Int).toNat = s + 1 by lia, show ((s : Nat) : Int).toNat = s by lia, show (((s + 1 : Nat) : Int) - 0).toNat = s + 1 by lia]
  rw [show (k * 2 ^ s + v) * 2 ^ (0 : Int).toNat = k * 2 ^ s + v from Int.mul_one _, Int.emod_eq_of_lt lt.1 lt.2, Int.fdiv_eq_ediv_of_nonneg _ (Int.le_of_lt (kbt_pos _)), Int.ediv_eq_zero_of_lt lt.1 lt.2]
  rw [or_fits 0 (by rw [show (2 : Int) ^ 0 = 1 from rfl]; exact Int.emod_one _) (Int.le_refl 0) (by decide), Int.add_zero, (kbt_both v k s).2]
  exact Int.emod_eq_of_lt h0 h1
theorem tw_zero (nm : Str) {c s : Int} (hs : 0 ≤ s) : twi nm c s = 0 ↔ c.fmod (s + 1) = 0 := by
  have h1 := Int.fmod_nonneg_of_pos c (show 0 < s + 1 by lia)
  have h2 := Int.fmod_lt_of_pos c (show 0 < s + 1 by lia)
  unfold twi
  cases seq nm (Str.ofString "rcr")
  · exact Iff.rfl
  · show (s + 1 - c.fmod (s + 1)).fmod (s + 1) = 0 ↔ _
    rw [fmod_e (s + 1 - c.fmod (s + 1)) (by lia)]
    constructor
    · intro h
      rcases (show 0 < c.fmod (s + 1) ∨ c.fmod (s + 1) ≤ 0 by lia) with g | g
      · rw [Int.emod_eq_of_lt (by lia) (by lia)] at h; lia
      · lia
    · intro h; rw [h, Int.sub_zero, Int.emod_self]
theorem tw_lt (nm : Str) {c s : Int} (hs : 0 ≤ s) : 0 ≤ twi nm c s ∧ twi nm c s ≤ s := by
  have h1 := Int.fmod_nonneg_of_pos c (show 0 < s + 1 by lia)
  have h2 := Int.fmod_lt_of_pos c (show 0 < s + 1 by lia)
  have h3 := Int.fmod_nonneg_of_pos (s + 1 - c.fmod (s + 1)) (show 0 < s + 1 by lia)
  have h4 := Int.fmod_lt_of_pos (s + 1 - c.fmod (s + 1)) (show 0 < s + 1 by lia)
  unfold twi; cases seq nm (Str.ofString "rcr")
  · exact ⟨h1, Int.lt_add_one_iff.mp h2⟩
  · exact ⟨h3, Int.lt_add_one_iff.mp h4⟩
theorem rtv_iff (nm : Str) {v c s : Int} (hs : 1 ≤ s) (h0 : 0 ≤ v) (h1 : v < 2 ^ s.toNat) : rtv nm v 0 c s = rtv nm v 1 c s ↔ c.fmod (s + 1) = 0 := by
  obtain ⟨m, rfl⟩ : ∃ m : Nat, s = m := ⟨s.toNat, by lia⟩
  rw [show ((m : Nat) : Int).toNat = m by lia] at h1
  rw [← tw_zero nm (by lia)]
  have hl := tw_lt nm (c := c) (s := (m : Int)) (by lia)
  unfold rtv
  rw [show ((m : Nat) : Int).toNat = m by lia]
  constructor
  · intro h
    rcases Nat.eq_zero_or_pos (twi nm c m).toNat with g | g
    · lia
    · exfalso
      have et : twi nm c m = ((twi nm c m).toNat : Nat) := by lia
      rw [et, show ((m : Int) + 1) = ((m + 1 : Nat) : Int) by lia, turn_val (.inl rfl) h0 h1 g (by lia), turn_val (.inr rfl) h0 h1 g (by lia), wr_eq, wr_eq] at h
      rw [show ((m : Nat) : Int).toNat = m by lia] at h
      have pp := kbt_pos ((twi nm c m).toNat - 1)
      have lt : (2 : Int) ^ ((twi nm c m).toNat - 1) < 2 ^ m := by
        have e : (2 : Int) ^ m = 2 ^ ((twi nm c m).toNat - 1) * 2 ^ (m - ((twi nm c m).toNat - 1)) := by rw [← Int.pow_add]; congr 1; lia
        have e2 : (2 : Int) ≤ 2 ^ (m - ((twi nm c m).toNat - 1)) := by
          have := pow_mono (a := 1) (b := m - ((twi nm c m).toNat - 1)) (by lia)
          exact this
        rw [e]
        calc (2 : Int) ^ ((twi nm c m).toNat - 1) < 2 ^ ((twi nm c m).toNat - 1) * 2 := by lia
          _ ≤ _ := Int.mul_le_mul_of_nonneg_left e2 (by lia)
      generalize (v * 2 ^ (twi nm c m).toNat) % 2 ^ (m + 1) + v / 2 ^ (m + 1 - (twi nm c m).toNat) = X at h
      have key : ((v * 2 ^ (twi nm c m).toNat) % 2 ^ (m + 1) + (1 * 2 ^ ((twi nm c m).toNat - 1) + v / 2 ^ (m + 1 - (twi nm c m).toNat)) - ((v * 2 ^ (twi nm c m).toNat) % 2 ^ (m + 1) + (0 * 2 ^ ((twi nm c m).toNat - 1) + v / 2 ^ (m + 1 - (twi nm c m).toNat)))) % 2 ^ m = 0 := by
        rw [Int.sub_emod, h, Int.sub_self]; exact Int.zero_emod _
      rw [show ∀ a b d : Int, a + (1 * d + b) - (a + (0 * d + b)) = d by intros; lia, Int.emod_eq_of_lt (by lia) lt] at key
      lia
  · intro h
    rw [h, show ((m : Int) + 1) = ((m + 1 : Nat) : Int) by lia, tl_zero (.inl rfl) h0 h1, tl_zero (.inr rfl) h0 h1]
end
section
variable {rg : List Int} {L L1 L2 : List (Int × Int)}
theorem lk_cons (k a b : Int) (r : List (Int × Int)) : lk k ((a, b) :: r) = if a = k then b else lk k r := by
  show cond (decide (a = k)) b (lk k r) = _
  by_cases h : a = k
  · rw [decide_eq_true h, if_pos h]; rfl
  · rw [decide_eq_false h, if_neg h]; rfl
theorem lk_mem (k : Int) : ∀ L : List (Int × Int), lk k L ≠ 0 → (k, lk k L) ∈ L
  | [], h => absurd rfl h
  | (a, b) :: r, h => by
    rw [lk_cons] at h ⊢
    split at h
    · rename_i e
      rw [if_pos e, ← e]
      exact .head _
    · rename_i e
      rw [if_neg e]
      exact .tail _ (lk_mem k r h)
theorem mem_lk {k v : Int} : ∀ {L : List (Int × Int)}, (L.map (·.1)).Nodup → (k, v) ∈ L → lk k L = v
  | [], _, h => by cases h
  | (a, b) :: r, hn, h => by
    rw [List.map_cons, List.nodup_cons] at hn
    rw [lk_cons]
    rcases List.mem_cons.mp h with e | h'
    · cases e; exact if_pos rfl
    · have : a ≠ k := by
        rintro rfl
        exact hn.1 (List.mem_map.mpr ⟨(a, v), h', rfl⟩)
      rw [if_neg this]
      exact mem_lk hn.2 h'
theorem mem_nz {k v : Int} : ∀ {L : List (Int × Int)}, (k, v) ∈ nzL L ↔ (k, v) ∈ L ∧ v ≠ 0
  | [] => ⟨fun h => (nomatch h), fun h => (nomatch h.1)⟩
  | (a, b) :: r => by
    show (k, v) ∈ cond (decide (b = 0)) (nzL r) ((a, b) :: nzL r) ↔ _
    have ih := mem_nz (k := k) (v := v) (L := r)
    by_cases h : b = 0
    · rw [decide_eq_true h]
      exact ih.trans ⟨fun z => ⟨.tail _ z.1, z.2⟩, fun z => ⟨(List.mem_cons.mp z.1).elim (fun e => absurd ((Prod.mk.inj e).2.trans h) z.2) id, z.2⟩⟩
    · rw [decide_eq_false h]
      exact ⟨fun z => (List.mem_cons.mp z).elim (fun e => ⟨List.mem_cons.mpr (.inl e), (Prod.mk.inj e).2 ▸ h⟩) fun z => ⟨.tail _ (ih.mp z).1, (ih.mp z).2⟩,
        fun z => (List.mem_cons.mp z.1).elim (fun e => List.mem_cons.mpr (.inl e)) fun y => .tail _ (ih.mpr ⟨y, z.2⟩)⟩
theorem mem_srt {k v : Int} : (k, v) ∈ srtP L ↔ (k, v) ∈ L ∧ v ≠ 0 := by
  unfold srtP
  rw [(srtK_perm _).mem_iff]
  exact mem_nz
theorem lk_srt (h1 : (L1.map (·.1)).Nodup) (h2 : (L2.map (·.1)).Nodup) (e : srtP L1 = srtP L2) (k : Int) : lk k L1 = lk k L2 := by
  by_cases g1 : lk k L1 = 0
  · by_cases g2 : lk k L2 = 0
    · rw [g1, g2]
    · have := mem_srt.mpr ⟨lk_mem k L2 g2, g2⟩
      rw [← e] at this
      exact mem_lk h1 (mem_srt.mp this).1
  · have := mem_srt.mpr ⟨lk_mem k L1 g1, g1⟩
    rw [e] at this
    exact (mem_lk h2 (mem_srt.mp this).1).symm
theorem lk_pt (a b v : Int) : ∀ L : List (Int × Int), lk a (pt b v L) = if b = a then v else lk a L
  | [] => lk_cons ..
  | (c, d) :: r => by
    show lk a (cond (decide (c = b)) ((b, v) :: r) ((c, d) :: pt b v r)) = _
    rw [lk_cons]
    by_cases h : c = b
    · subst h
      rw [decide_eq_true rfl, cond_true, lk_cons]
      by_cases g : c = a
      · rw [if_pos g, if_pos g]
      · rw [if_neg g, if_neg g, if_neg g]
    · rw [decide_eq_false h, cond_false, lk_cons]
      by_cases g : c = a
      · rw [if_pos g, if_pos g, if_neg (fun z => h (g.trans z.symm))]
      · rw [if_neg g, if_neg g, lk_pt a b v r]
noncomputable def byt (v : Int) (i : Nat) : Int := Builtin.bitAnd (v.fdiv (2 ^ (8 * (i : Int)).toNat)) 255
theorem mwr_other (k v a : Int) : ∀ (m j : Nat) (L : List (Int × Int)), (∀ i, j ≤ i → i < j + m → wr (k + (i : Int)) 64 ≠ a) → lk a (mwr k v j m L) = lk a L
  | 0, _, _, _ => rfl
  | m + 1, j, L, h => by
    unfold mwr
    rw [mwr_other k v a m (j + 1) _ fun i h1 h2 => h i (by lia) (by lia), lk_pt, if_neg (h j (Nat.le_refl _) (by lia))]
theorem wr_ne (k : Int) {i j : Nat} (h : i < j) (h2 : j < 1000) : wr (k + (j : Int)) 64 ≠ wr (k + (i : Int)) 64 := by
  rw [wr_eq, wr_eq, show (2 : Int) ^ (64 : Int).toNat = 18446744073709551616 from rfl]; lia
theorem mwr_at (k v : Int) : ∀ (m j i : Nat) (L : List (Int × Int)), j ≤ i → i < j + m → j + m < 1000 → lk (wr (k + (i : Int)) 64) (mwr k v j m L) = byt v i
  | 0, j, i, L, h1, h2, _ => by lia
  | m + 1, j, i, L, h1, h2, h3 => by
    unfold mwr
    rcases Nat.eq_or_lt_of_le h1 with rfl | h
    · rw [mwr_other k v _ m (j + 1) _ fun i' g1 g2 => wr_ne k (by lia) (by lia), lk_pt, if_pos rfl]; rfl
    · exact mwr_at k v m (j + 1) i _ h (by lia) (by lia)
theorem byt_eq (v : Int) (i : Nat) : byt v i = v / 2 ^ (8 * i) % 256 := by
  unfold byt
  rw [PyProof.Rows.bitAnd_m8, show (8 * (i : Int)).toNat = 8 * i by lia, Int.fdiv_eq_ediv_of_nonneg _ (Int.le_of_lt (kbt_pos _))]
theorem mod_step (x : Int) {q : Int} (hq : 0 < q) : x % (q * 256) = x % q + q * (x / q % 256) := by
  have h1 := Int.mul_ediv_add_emod x q
  have h2 := Int.mul_ediv_add_emod (x / q) 256
  have h3 := Int.emod_nonneg x (show q ≠ 0 by lia)
  have h4 := Int.emod_lt_of_pos x hq
  have h5 := Int.emod_nonneg (x / q) (show (256 : Int) ≠ 0 by decide)
  have h6 := Int.emod_lt_of_pos (x / q) (show (0 : Int) < 256 by decide)
  have h7 : q * (x / q % 256) ≤ q * 255 := Int.mul_le_mul_of_nonneg_left (by lia) (by lia)
  have h8 : 0 ≤ q * (x / q % 256) := Int.mul_nonneg (by lia) h5
  refine (kbt_unique (q := x / q / 256) (by lia) ?_ (by lia) (by lia)).2
  have e : q * 256 * (x / q / 256) + q * (x / q % 256) = q * (x / q) := by
    rw [Int.mul_assoc, ← Int.mul_add, h2]
  lia
theorem bytes_eq (x y : Int) : ∀ m : Nat, (∀ i < m, byt x i = byt y i) → x % 2 ^ (8 * m) = y % 2 ^ (8 * m)
  | 0, _ => by rw [show (2 : Int) ^ (8 * 0) = 1 from rfl, Int.emod_one, Int.emod_one]
  | m + 1, h => by
    have ih := bytes_eq x y m fun i hi => h i (by lia)
    have e : (2 : Int) ^ (8 * (m + 1)) = 2 ^ (8 * m) * 256 := by rw [show 8 * (m + 1) = 8 * m + 8 by lia, Int.pow_add]; rfl
    have hb := h m (by lia)
    rw [byt_eq, byt_eq] at hb
    rw [e, mod_step x (kbt_pos _), mod_step y (kbt_pos _), ih, hb]
theorem wr_low {x s : Int} (h0 : 0 ≤ x) (h1 : x < 2 ^ s.toNat) : wr x s = x := by rw [wr_eq, Int.emod_eq_of_lt h0 h1]
theorem W_inj (O : Og) (hO : O.ok) {s : Int} (hs : Sz s) (hd : MD rg L) {x y : Int} (x0 : 0 ≤ x) (x1 : x < 2 ^ s.toNat) (y0 : 0 ≤ y) (y1 : y < 2 ^ s.toNat)
    (h : O.wR s x rg = O.wR s y rg ∧ srtP (O.wM s x rg L) = srtP (O.wM s y rg L)) : x = y := by
  obtain ⟨e1, e2, e3⟩ := hs.div
  cases O with
  | reg nm i =>
    obtain ⟨i0, i1⟩ := hO
    have hl := hd.len
    have := congrArg (fun l => l.getD i.toNat 0) h.1
    have gs : ∀ a : Int, (rg.set i.toNat a).getD i.toNat 0 = a := fun a => by
      rw [List.getD_eq_getElem?_getD, List.getElem?_set_self (by lia)]; rfl
    simp only [Og.wR, rgW, gs, wr_low x0 x1, wr_low y0 y1] at this
    unfold jn at this
    split at this <;> lia
  | mem nm b d =>
    have h2 := h.2
    simp only [Og.wM] at h2
    have n1 := ((mwr_ok (ofs rg b d) x (s / 8).toNat 0 L).1 hd.me).2
    have n2 := ((mwr_ok (ofs rg b d) y (s / 8).toNat 0 L).1 hd.me).2
    have key := lk_srt n1 n2 h2
    have hb : ∀ i < (s / 8).toNat, byt x i = byt y i := fun i hi => by
      have := key (wr (ofs rg b d + (i : Int)) 64)
      rwa [mwr_at _ _ _ _ _ _ (Nat.zero_le _) (by lia) (by lia), mwr_at _ _ _ _ _ _ (Nat.zero_le _) (by lia) (by lia)] at this
    have := bytes_eq x y _ hb
    rw [e3, Int.emod_eq_of_lt x0 x1, Int.emod_eq_of_lt y0 y1] at this
    exact this
end
end Mine.J
set_option maxHeartbeats 400000
namespace Mine.J
theorem mkZ {z : Nat} {v : F7} (h0 : cond (z.testBit 0) (v.c = 0) True) (h1 : cond (z.testBit 1) (v.p = 0) True) (h2 : cond (z.testBit 2) (v.a = 0) True) (h3 : cond (z.testBit 3) (v.z = 0) True) (h4 : cond (z.testBit 4) (v.s = 0) True) (h5 : cond (z.testBit 5) (v.o = 0) True) (h6 : z.testBit 6 = false) : Zv z v := by
  intro k hk h
  match k with
  | 0 => rw [h] at h0; exact h0
  | 1 => rw [h] at h1; exact h1
  | 2 => rw [h] at h2; exact h2
  | 3 => rw [h] at h3; exact h3
  | 4 => rw [h] at h4; exact h4
  | 5 => rw [h] at h5; exact h5
  | 6 => rw [h] at h6; cases h6
  | k + 7 => exact absurd hk (by lia)
theorem zv0 {v : F7} : Zv 0 v := mkZ trivial trivial trivial trivial trivial trivial rfl
section
variable {R : Rs} {o : HO} {g : H} {n j : Nat} {K : KO} {rg rg' : List Int} {L L' : List (Int × Int)} {F : F7} {nm : Str} {s k c : Int} {ops ch op l l' : List V} {b0 b1 b2 b3 b4 b5 b bq : Bool} {m z : Nat} {v : F7} {Q : F7 → Prop}
theorem fin_core (T : Tn nm b5 b ch) (hF : isB F) (hd : MD rg L) (told : Told R nm s (num k rg) (rnd (num k rg) s)) (A : Ans R nm ops rg L Q (.boo true) rg' L' m v) (hQ : ∀ {F2 : F7}, (b5 = true → F2.c = F.c) → Q F2)
    (e0 : decide (rnd (num k rg) s = 0) = b0) (e1 : decide (1 < rnd (num k rg) s) = b1) (e2 : decide (s ≤ rnd (num k rg) s) = b2) (e3 : decide (s < rnd (num k rg) s) = b3) (e4 : decide ((nm.length : Int) = 4) = b4) (e : opnF nm b0 b1 b2 b3 b4 = some op) (hk : Fk m z (cond (b && b0) [] ch) op) (hz : Zv z v)
    (q : ∀ {f : V} {t : H} {F2 : F7}, wB tab (R.r (n + 10)) (dropS 13 f_law_line_right.body) (EN nm s (num k rg) (rnd (num k rg) s) ops (g.length + 1) f rg L F F2 (.boo true)) (H3 o g ⟨rg', L', apF m v F⟩ ⟨rg', L', apF m v F2⟩ ⟨rg, L, F⟩ t) (endK K)) :
    wB tab (R.r (n + 10)) (dropS 3 f_law_line_right.body) (EL nm s k ops (g.length + 1)) (H3 o g ⟨rg, L, F⟩ ⟨rg, L, F⟩ ⟨rg, L, F⟩ []) (endK K) :=
  lr_turn T hF fun {F2 f} h2 hc => lr_told hd told fun {t} => lr_ok T hd.len A (hQ fun _ => rfl) (hQ hc) e0 e1 e2 e3 e4 e hk hz q
noncomputable def Nr (nm : Str) (ch l l' : List V) : Prop := Tn nm false false ch ∧ unF nm = some l ∧ ∀ b0 b1 b2 b3 b4, opnF nm b0 b1 b2 b3 b4 = some l'
theorem Nr.told (h : Nr nm ch l l') (hs : Srt l l') : Told R nm s k c := fun {n σ K} q => t_non rfl rfl rfl rfl rfl (h.2.2 ..) hs q h.1 h.2.1
theorem Tn.hc (T : Tn nm b5 b ch) : sI nm ["rcl", "rcr"] = some b5 := congrArg (fun x => x.2.2.2.2.2.2.1) T
theorem fin_nr (h : Nr nm ch l l') (hs : Srt l l') (hk : Fk m z ch l') (A : ∀ {rg : List Int} {L : List (Int × Int)}, MD rg L → ∃ rg' L' v, Zv z v ∧ Ans R nm ops rg L Any (.boo true) rg' L' m v) : Fin R nm s k ops := by
  intro n o g K rg L F hF hd q
  obtain ⟨rg', L', v, hz, A⟩ := A hd
  exact fin_core h.1 hF hd (h.told hs) A (fun _ => trivial) rfl rfl rfl rfl rfl (h.2.2 ..) hk hz (lr_13F h.1.hc q)
theorem fin_no (h : Nr nm ch l l') (hs : Srt l l') (hq : sI nm ["div", "idiv"] = some true) (hF : isB F) (hd : MD rg L) (A : Ans R nm ops rg L Any no rg L 0 z7) (q : ∀ {X Y Z : Mc} {t : H}, K (some (.boo true)) (H3 o g X Y Z t)) :
    wB tab (R.r (n + 10)) (dropS 3 f_law_line_right.body) (EL nm s k ops (g.length + 1)) (H3 o g ⟨rg, L, F⟩ ⟨rg, L, F⟩ ⟨rg, L, F⟩ []) (endK K) :=
  lr_turn h.1 hF fun {F2 f} h2 hc => lr_told hd (h.told hs) fun {t} => lr_no hd.len A hq q
noncomputable def v4 : List V := sv ["pf", "af", "zf", "sf"]
noncomputable def v5 : List V := sv ["cf", "pf", "af", "sf", "of"]
noncomputable def v6 : List V := sv ["pf", "af", "sf", "of"]
theorem nr_p (hn : Is nm ["mul", "imul"]) : Nr nm six v4 v4 ∧ disp none nm = some 110 := by
  rcases hn with rfl | rfl | h
  all_goals first | exact h.elim | exact ⟨⟨by unfold Tn; kernel_rfl, by kernel_rfl, fun b0 b1 b2 b3 b4 => by kernel_rfl⟩, by kernel_rfl⟩
theorem nr_q (hn : Is nm ["div", "idiv"]) : Nr nm six six six := by
  rcases hn with rfl | rfl | h
  all_goals first | exact h.elim | exact ⟨by unfold Tn; kernel_rfl, by kernel_rfl, fun b0 b1 b2 b3 b4 => by kernel_rfl⟩
theorem nr_b (hn : Is nm ["bt", "bts", "btr", "btc"]) : Nr nm v5 v6 v6 ∧ disp none nm = some 112 := by
  rcases hn with rfl | rfl | rfl | rfl | h
  all_goals first | exact h.elim | exact ⟨⟨by unfold Tn; kernel_rfl, by kernel_rfl, fun b0 b1 b2 b3 b4 => by kernel_rfl⟩, by kernel_rfl⟩
theorem nr_f (hn : Is nm ["bsf", "bsr"]) : Nr nm six v5 v5 ∧ disp none nm = some 117 := by
  rcases hn with rfl | rfl | h
  all_goals first | exact h.elim | exact ⟨⟨by unfold Tn; kernel_rfl, by kernel_rfl, fun b0 b1 b2 b3 b4 => by kernel_rfl⟩, by kernel_rfl⟩
theorem nr_z (hn : Is nm ["lzcnt", "tzcnt"]) : Nr nm six v6 v6 ∧ disp none nm = some 117 := by
  rcases hn with rfl | rfl | h
  all_goals first | exact h.elim | exact ⟨⟨by unfold Tn; kernel_rfl, by kernel_rfl, fun b0 b1 b2 b3 b4 => by kernel_rfl⟩, by kernel_rfl⟩
theorem nr_c : Nr (Str.ofString "popcnt") six [] [] ∧ disp none (Str.ofString "popcnt") = some 117 := ⟨⟨by unfold Tn; kernel_rfl, by kernel_rfl, fun b0 b1 b2 b3 b4 => by kernel_rfl⟩, by kernel_rfl⟩
theorem nr_w (hn : Is nm ["movzx", "movsx"]) : Nr nm [] [] [] ∧ disp none nm = some 119 := by
  rcases hn with rfl | rfl | h
  all_goals first | exact h.elim | exact ⟨⟨by unfold Tn; kernel_rfl, by kernel_rfl, fun b0 b1 b2 b3 b4 => by kernel_rfl⟩, by kernel_rfl⟩
theorem nr_s : Nr (Str.ofString "bswap") [] [] [] ∧ disp none (Str.ofString "bswap") = some 118 := ⟨⟨by unfold Tn; kernel_rfl, by kernel_rfl, fun b0 b1 b2 b3 b4 => by kernel_rfl⟩, by kernel_rfl⟩
theorem nr_v (hn : Is nm ["cbw", "cwde", "cdqe", "cwd", "cdq", "cqo"]) : Nr nm [] [] [] ∧ disp none nm = some 121 := by
  rcases hn with rfl | rfl | rfl | rfl | rfl | rfl | h
  all_goals first | exact h.elim | exact ⟨⟨by unfold Tn; kernel_rfl, by kernel_rfl, fun b0 b1 b2 b3 b4 => by kernel_rfl⟩, by kernel_rfl⟩
theorem s4 : Srt v4 v4 := by unfold Srt; kernel_rfl
theorem s5 : Srt v5 v5 := by unfold Srt; kernel_rfl
theorem s6 : Srt v6 v6 := by unfold Srt; kernel_rfl
theorem sX : Srt six six := by unfold Srt; kernel_rfl
theorem s0' : Srt [] [] := by unfold Srt; kernel_rfl
theorem k4 : Fk 63 30 six v4 := by unfold Fk; decide +kernel
theorem kX : Fk 63 63 six six := by unfold Fk; decide +kernel
theorem k6 : Fk 55 54 v5 v6 := by unfold Fk; decide +kernel
theorem k5 : Fk 63 55 six v5 := by unfold Fk; decide +kernel
theorem k6' : Fk 63 54 six v6 := by unfold Fk; decide +kernel
theorem kC : Fk 63 0 six [] := by unfold Fk; decide +kernel
theorem k0 : Fk 0 0 [] [] := by unfold Fk; decide +kernel
theorem is2 {x y : String} (h : Is nm [x, y]) : nm = Str.ofString x ∨ nm = Str.ofString y := h.imp id fun h => h.elim id False.elim
theorem is3 {x y z : String} (h : Is nm [x, y, z]) : nm = Str.ofString x ∨ nm = Str.ofString y ∨ nm = Str.ofString z := h.imp id is2
theorem is4 {x y z w : String} (h : Is nm [x, y, z, w]) : nm = Str.ofString x ∨ nm = Str.ofString y ∨ nm = Str.ofString z ∨ nm = Str.ofString w := h.imp id is3
section
variable {O G : Og} (hG : G.ok) (hO : O.ok) (hs : Sz s)
theorem fin_p1 (hn : Is nm ["mul", "imul"]) (hO : O.ok) (hs : Sz s) : Fin R nm s 1 [O.v s] := fin_nr (nr_p hn).1 s4 k4 fun {rg L} hd => by
  obtain ⟨rg', v, h1, h2, h3, h4, D⟩ := d_prod1 (R := R) hO hs hd (is2 hn)
  exact ⟨_, _, v, mkZ trivial h1 h2 h3 h4 trivial rfl, an_ok D (nr_p hn).2 rfl⟩
include hG hO hs
theorem fin_p2 : Fin R (Str.ofString "imul") s 1 [G.v s, O.v s] := fin_nr (nr_p (.inr (.inl rfl))).1 s4 k4 fun {rg L} hd => by
  obtain ⟨rg', L', v, h1, h2, h3, h4, D⟩ := d_prod2 (R := R) hG hO hs hd
  exact ⟨_, _, v, mkZ trivial h1 h2 h3 h4 trivial rfl, an_ok D (nr_p (.inr (.inl rfl))).2 rfl⟩
theorem fin_p3 (i : Int) : Fin R (Str.ofString "imul") s 1 [G.v s, O.v s, ioV i] := fin_nr (nr_p (.inr (.inl rfl))).1 s4 k4 fun {rg L} hd => by
  obtain ⟨rg', L', v, h1, h2, h3, h4, D⟩ := d_prod3 (R := R) hG hO hs hd i
  exact ⟨_, _, v, mkZ trivial h1 h2 h3 h4 trivial rfl, an_ok D (nr_p (.inr (.inl rfl))).2 rfl⟩
theorem fin_sc (hn : Is nm ["bsf", "bsr", "popcnt", "lzcnt", "tzcnt"]) : Fin R nm s 1 [G.v s, O.v s] := by
  have f : ∀ hn : Is nm ["bsf", "bsr"], Fin R nm s 1 [G.v s, O.v s] := fun hn => fin_nr (nr_f hn).1 s5 k5 fun {rg L} hd => by
    obtain ⟨rg', L', v, h1, h2, h3, h4, h5, D⟩ := d_scanF (R := R) hO hs hd (is2 hn) hG
    exact ⟨_, _, v, mkZ h1 h2 h3 trivial h4 h5 rfl, an_ok D (nr_f hn).2 rfl⟩
  have z : ∀ hn : Is nm ["lzcnt", "tzcnt"], Fin R nm s 1 [G.v s, O.v s] := fun hn => fin_nr (nr_z hn).1 s6 k6' fun {rg L} hd => by
    obtain ⟨rg', L', v, h1, h2, h3, h4, D⟩ := d_scanO (R := R) hO hs hd (.inr (is2 hn)) hG
    exact ⟨_, _, v, mkZ trivial h1 h2 trivial h3 h4 rfl, an_ok D (nr_z hn).2 rfl⟩
  rcases hn with e | e | rfl | hn
  · exact f (.inl e)
  · exact f (.inr (.inl e))
  · refine fin_nr nr_c.1 s0' kC fun {rg L} hd => ?_
    obtain ⟨rg', L', v, _, _, _, _, D⟩ := d_scanO (R := R) hO hs hd (.inl rfl) hG
    exact ⟨_, _, v, zv0, an_ok D nr_c.2 rfl⟩
  · exact z hn
omit hG in
theorem fin_qu (hn : Is nm ["div", "idiv"]) : Fin R nm s 1 [O.v s] := by
  intro n o g K rg L F hF hd q
  have hq : sI nm ["div", "idiv"] = some true := by rcases hn with rfl | rfl | h; kernel_rfl; kernel_rfl; exact h.elim
  rcases d_quot hO hs hd R (is2 hn) with D | ⟨rg', D⟩
  · exact fin_no (nr_q hn) sX hq hF hd (an_no D (is2 hn)) q
  · exact fin_core (nr_q hn).1 hF hd ((nr_q hn).told sX) (an_q D (is2 hn)) (fun _ => trivial) rfl rfl rfl rfl rfl ((nr_q hn).2.2 ..) kX (mkZ rfl rfl rfl rfl rfl rfl rfl) (lr_13F (nr_q hn).1.hc q)
end
theorem fin_bits {O : Og} {B : V} (hO : O.ok) (hs : Sz s) (hn : Is nm ["bt", "bts", "btr", "btc"]) (hB : ∀ {rg : List Int} {L : List (Int × Int)}, MD rg L → ∃ off, Bo rg s B off) : Fin R nm s 1 [O.v s, B] := fin_nr (nr_b hn).1 s6 k6 fun {rg L} hd => by
  obtain ⟨off, hB⟩ := hB hd
  obtain ⟨rg', L', v, h1, h2, h3, h4, D⟩ := d_bits (R := R) hO hs hd (is4 hn) hB
  exact ⟨_, _, v, mkZ trivial h1 h2 trivial h3 h4 rfl, an_ok D (nr_b hn).2 rfl⟩
theorem fin_wd {O G : Og} (hG : G.ok) (hO : O.ok) (hs : Sz s) (hn : Is nm ["movzx", "movsx"]) : Fin R nm s 1 [G.v s, O.v 8] := fin_nr (nr_w hn).1 s0' k0 fun {rg L} hd => by
  obtain ⟨rg', L', D⟩ := d_widen (R := R) hG hO hs hd (is2 hn)
  exact ⟨_, _, z7, zv0, an_ok (D z7) (nr_w hn).2 rfl⟩
theorem fin_sw {G : Og} (hG : G.ok) (hs : Sz s) (h16 : s ≠ 16) : Fin R (Str.ofString "bswap") 64 1 [G.v s] := fin_nr nr_s.1 s0' k0 fun {rg L} hd => by
  obtain ⟨rg', L', D⟩ := d_swap (R := R) hG hs hd h16
  exact ⟨_, _, z7, zv0, an_ok (D z7) nr_s.2 rfl⟩
theorem fin_cv (hn : Is nm ["cbw", "cwde", "cdqe", "cwd", "cdq", "cqo"]) : Fin R nm 64 1 [] := fin_nr (nr_v hn).1 s0' k0 fun {rg L} hd => by
  have D : ∃ rg' L', ∀ v, Deed R 121 (.str nm) rg L Any rg' L' 0 v := by
    rcases hn with rfl | rfl | rfl | rfl | rfl | rfl | h
    · exact d_convC (k := 0) (by kernel_rfl) (by kernel_rfl) (by decide) (.inr (.inl rfl)) (.inl rfl) hd
    · exact d_convC (k := 1) (by kernel_rfl) (by kernel_rfl) (by decide) (.inr (.inr (.inl rfl))) (.inr (.inl rfl)) hd
    · exact d_convC (k := 2) (by kernel_rfl) (by kernel_rfl) (by decide) (.inr (.inr (.inr rfl))) (.inr (.inr (.inl rfl))) hd
    · exact d_convS (k := 0) (by kernel_rfl) (by kernel_rfl) (by kernel_rfl) (by decide) (.inr (.inl rfl)) hd
    · exact d_convS (k := 1) (by kernel_rfl) (by kernel_rfl) (by kernel_rfl) (by decide) (.inr (.inr (.inl rfl))) hd
    · exact d_convS (k := 2) (by kernel_rfl) (by kernel_rfl) (by kernel_rfl) (by decide) (.inr (.inr (.inr rfl))) hd
    · exact h.elim
  obtain ⟨rg', L', D⟩ := D
  exact ⟨_, _, z7, zv0, an_ok (D z7) (nr_v hn).2 rfl⟩
end
end Mine.J
set_option maxHeartbeats 400000
namespace Mine.J
theorem by_cnt {B : V} {k : Int} (hB : ByN B k) (rg : List Int) (s : Int) : ∃ w, By rg B w ∧ cnt w s = rnd (num k rg) s := by
  have e6 : (2 : Int) ^ (6 : Int).toNat = 64 := rfl
  have e5 : (2 : Int) ^ (5 : Int).toNat = 32 := rfl
  have e8 : (2 : Int) ^ (8 : Int).toNat = 256 := rfl
  cases hB with
  | imm k h0 h1 =>
    refine ⟨k, .imm k, ?_⟩
    unfold cnt rnd num
    rw [if_neg (show ¬ k = -1 by lia)]
    split
    · rw [wr_eq, e6, fmod_e _ (by decide)]
    · rw [wr_eq, e5, fmod_e _ (by decide)]
  | cl m =>
    refine ⟨_, .cl m, ?_⟩
    unfold cnt rnd num
    rw [if_pos rfl, show (1 : Int).toNat = 1 from rfl]
    split
    · rw [wr_eq, wr_eq, e6, e8, fmod_e _ (by decide), fmod_e _ (by decide)]
    · rw [wr_eq, wr_eq, e5, e8, fmod_e _ (by decide), fmod_e _ (by decide)]
theorem bmR (k s : Int) : Builtin.bitAnd k (if s = 64 then 63 else 31) = rnd k s := by
  unfold rnd
  by_cases h : s = 64
  · rw [if_pos h, if_pos h, fmod_e _ (by decide), ← PyProof.Rows.bitAnd_m6]
  · rw [if_neg h, if_neg h, fmod_e _ (by decide), ← PyProof.Rows.bitAnd_m5]
noncomputable def Cl (c s : Int) (b0 bq b1 b2 b3 : Bool) : Prop := decide (c = 0) = b0 ∧ decide (c = 1) = bq ∧ decide (1 < c) = b1 ∧ decide (s ≤ c) = b2 ∧ decide (s < c) = b3
section
variable {c s : Int}
theorem cl0 (h : c = 0) (hs : Sz s) : Cl c s true false false false false := by
  have := hs.b.1
  exact ⟨decide_eq_true h, decide_eq_false (by lia), decide_eq_false (by lia), decide_eq_false (by lia), decide_eq_false (by lia)⟩
theorem cl1 (h : c = 1) (hs : Sz s) : Cl c s false true false false false := by
  have := hs.b.1
  exact ⟨decide_eq_false (by lia), decide_eq_true h, decide_eq_false (by lia), decide_eq_false (by lia), decide_eq_false (by lia)⟩
theorem clW (h : 1 < c) : Cl c s false false true (decide (s ≤ c)) (decide (s < c)) := ⟨decide_eq_false (by lia), decide_eq_false (by lia), decide_eq_true h, rfl, rfl⟩
end
noncomputable def cfof : List V := sv ["cf", "of"]
noncomputable def Rn (nm : Str) (b5 : Bool) (ch : List V) (b4 : Bool) (f : Nat) : Prop := Tn nm b5 true ch ∧ (sI nm rnds, decide ((nm.length : Int) = 4), disp none nm) = (some true, b4, some f)
noncomputable def Rk (nm : Str) (b0 bq b1 b2 b3 b4 x : Bool) (l l' : List V) : Prop := (ubF nm b0 bq b2 b3, opnF nm b0 b1 b2 b3 b4) = (some (x, l), some l')
section
variable {R : Rs} {o : HO} {g : H} {n j f : Nat} {K : KO} {rg rg' : List Int} {L L' : List (Int × Int)} {F : F7} {nm : Str} {s k c : Int} {ops ch op l l' : List V} {b0 b1 b2 b3 b4 b5 b bq x : Bool} {m z : Nat} {v : F7} {Q : F7 → Prop} {B : V} {O G : Og}
theorem Rn.hf (N : Rn nm b5 ch b4 f) : disp none nm = some f := congrArg (fun x => x.2.2) N.2
theorem fin_rd (N : Rn nm b5 ch b4 f) (C : Cl (rnd (num k rg) s) s b0 bq b1 b2 b3) (r : Rk nm b0 bq b1 b2 b3 b4 x l l') (hs : Srt l l') (hk : Fk m z (cond b0 [] ch) l') (hF : isB F) (hd : MD rg L) (A : Ans R nm ops rg L Q (.boo true) rg' L' m v) (hQ : ∀ {F2 : F7}, (b5 = true → F2.c = F.c) → Q F2) (hz : Zv z v)
    (q : ∀ {f : V} {t : H} {F2 : F7}, wB tab (R.r (n + 10)) (dropS 13 f_law_line_right.body) (EN nm s (num k rg) (rnd (num k rg) s) ops (g.length + 1) f rg L F F2 (.boo true)) (H3 o g ⟨rg', L', apF m v F⟩ ⟨rg', L', apF m v F2⟩ ⟨rg, L, F⟩ t) (endK K)) :
    wB tab (R.r (n + 10)) (dropS 3 f_law_line_right.body) (EL nm s k ops (g.length + 1)) (H3 o g ⟨rg, L, F⟩ ⟨rg, L, F⟩ ⟨rg, L, F⟩ []) (endK K) := by
  obtain ⟨e0, eq, e1, e2, e3⟩ := C
  have e4 : decide ((nm.length : Int) = 4) = b4 := congrArg (fun x => x.2.1) N.2
  have e : opnF nm b0 b1 b2 b3 b4 = some l' := congrArg (fun x => x.2) r
  exact fin_core N.1 hF hd (fun {n σ K} q => t_rnd e0 e1 e2 e3 e4 e hs q N.1 (congrArg (fun x => x.1) N.2) (bmR ..) eq (congrArg (fun x => x.1) r)) A hQ e0 e1 e2 e3 e4 e hk hz q
theorem sa : Srt (sv ["af"]) (sv ["af"]) := by unfold Srt; kernel_rfl
theorem sb : Srt (sv ["af", "of"]) (sv ["af", "of"]) := by unfold Srt; kernel_rfl
theorem sc : Srt (sv ["cf", "af", "of"]) (sv ["af", "of", "cf"]) := by unfold Srt; kernel_rfl
theorem so : Srt (sv ["of"]) (sv ["of"]) := by unfold Srt; kernel_rfl
theorem ka : Fk 63 4 six (sv ["af"]) := by unfold Fk; decide +kernel
theorem kb' : Fk 63 36 six (sv ["af", "of"]) := by unfold Fk; decide +kernel
theorem kc' : Fk 63 37 six (sv ["af", "of", "cf"]) := by unfold Fk; decide +kernel
theorem kr : Fk 33 0 cfof [] := by unfold Fk; decide +kernel
theorem ko : Fk 33 32 cfof (sv ["of"]) := by unfold Fk; decide +kernel
theorem three {c : Int} (h : 0 ≤ c) : c = 0 ∨ c = 1 ∨ 1 < c := by lia
theorem ne1 {c : Int} (h : 1 < c) : c ≠ 0 ∧ c ≠ 1 := by lia
section
variable (hO : O.ok) (hs : Sz s) (hB : ByN B k)
include hO hs hB
theorem fin_sh (hn : Is nm ["shl", "shr"]) : Fin R nm s k [O.v s, B] := by
  intro n o g K rg L F hF hd q
  have N : Rn nm false six false 92 ∧ (∀ b, Rk nm true b false false false false false [] []) ∧ Rk nm false true false false false false true (sv ["af"]) (sv ["af"]) ∧ ∀ b3, Rk nm false false true false b3 false true (sv ["af", "of"]) (sv ["af", "of"]) ∧ Rk nm false false true true b3 false true (sv ["cf", "af", "of"]) (sv ["af", "of", "cf"]) := by
    rcases hn with rfl | rfl | h
    all_goals first | exact h.elim | exact ⟨⟨by unfold Tn; kernel_rfl, by kernel_rfl⟩, fun b => by unfold Rk; kernel_rfl, by unfold Rk; kernel_rfl, fun b => ⟨by unfold Rk; kernel_rfl, by unfold Rk; kernel_rfl⟩⟩
  obtain ⟨N, r0, r1, rW⟩ := N
  have hc := N.1.hc
  have h3 : nm = Str.ofString "shl" ∨ nm = Str.ofString "shr" ∨ nm = Str.ofString "sar" := (is2 hn).imp id .inl
  have hne : nm ≠ Str.ofString "sar" := by rcases is2 hn with rfl | rfl <;> decide +kernel
  obtain ⟨w, hw, hcn⟩ := by_cnt hB rg s
  rcases three (cnt_lt w s).1 with h | h | h
  · obtain ⟨rg', L', D⟩ := d_shift0 (R := R) (nm := nm) hO hs hd hw h
    exact fin_rd N (hcn ▸ cl0 h hs) (r0 _) s0' k0 hF hd (an_ok (D z7) N.hf rfl) (fun _ => trivial) zv0 (lr_13F hc q)
  · obtain ⟨rg', L', v, h1, h2, h4, D⟩ := d_shiftS (R := R) hO hs hd hw h3 (by rw [h]; decide)
    exact fin_rd N (hcn ▸ cl1 h hs) r1 sa ka hF hd (an_ok D N.hf rfl) (fun _ => trivial) (mkZ trivial trivial h2 trivial trivial trivial rfl) (lr_13F hc q)
  · obtain ⟨rg', L', v, h1, h2, h4, D⟩ := d_shiftS (R := R) hO hs hd hw h3 (ne1 h).1
    by_cases hl : s ≤ cnt w s
    · have C := clW (s := s) h
      rw [decide_eq_true hl] at C
      exact fin_rd N (hcn ▸ C) (rW _).2 sc kc' hF hd (an_ok D N.hf rfl) (fun _ => trivial) (mkZ (h1 hl hne) trivial h2 trivial trivial (h4 (ne1 h).2) rfl) (lr_13F hc q)
    · have C := clW (s := s) h
      rw [decide_eq_false hl] at C
      exact fin_rd N (hcn ▸ C) (rW _).1 sb kb' hF hd (an_ok D N.hf rfl) (fun _ => trivial) (mkZ trivial trivial h2 trivial trivial (h4 (ne1 h).2) rfl) (lr_13F hc q)
theorem fin_sar : Fin R (Str.ofString "sar") s k [O.v s, B] := by
  intro n o g K rg L F hF hd q
  have N : Rn (Str.ofString "sar") false six false 92 := ⟨by unfold Tn; kernel_rfl, by kernel_rfl⟩
  have hc := N.1.hc
  obtain ⟨w, hw, hcn⟩ := by_cnt hB rg s
  rcases three (cnt_lt w s).1 with h | h | h
  · obtain ⟨rg', L', D⟩ := d_shift0 (R := R) (nm := Str.ofString "sar") hO hs hd hw h
    exact fin_rd N (hcn ▸ cl0 h hs) (x := false) (l := []) (l' := []) (by unfold Rk; kernel_rfl) s0' k0 hF hd (an_ok (D z7) N.hf rfl) (fun _ => trivial) zv0 (lr_13F hc q)
  · obtain ⟨rg', L', v, h1, h2, h4, D⟩ := d_shiftS (R := R) hO hs hd hw (.inr (.inr rfl)) (by rw [h]; decide)
    exact fin_rd N (hcn ▸ cl1 h hs) (b0 := false) (bq := true) (b1 := false) (b2 := false) (b3 := false) (x := true) (by unfold Rk; kernel_rfl) sa ka hF hd (an_ok D N.hf rfl) (fun _ => trivial) (mkZ trivial trivial h2 trivial trivial trivial rfl) (lr_13F hc q)
  · obtain ⟨rg', L', v, h1, h2, h4, D⟩ := d_shiftS (R := R) hO hs hd hw (.inr (.inr rfl)) (ne1 h).1
    have r : ∀ b2 b3, Rk (Str.ofString "sar") false false true b2 b3 false true (sv ["af", "of"]) (sv ["af", "of"]) := fun b2 b3 => by unfold Rk; cases b2 <;> cases b3 <;> kernel_rfl
    exact fin_rd N (hcn ▸ clW h) (r _ _) sb kb' hF hd (an_ok D N.hf rfl) (fun _ => trivial) (mkZ trivial trivial h2 trivial trivial (h4 (ne1 h).2) rfl) (lr_13F hc q)
omit hO hs hB in
theorem rot_k (hn : Is nm ["rol", "ror", "rcl", "rcr"]) (b2 b3 : Bool) : Rk nm true false false false false false false [] [] ∧ Rk nm false true false false false false false [] [] ∧ Rk nm false false true b2 b3 false false (sv ["of"]) (sv ["of"]) := by
  rcases hn with rfl | rfl | rfl | rfl | h
  all_goals first | exact h.elim | exact ⟨by unfold Rk; kernel_rfl, by unfold Rk; kernel_rfl, by unfold Rk; kernel_rfl⟩
theorem fin_rot (hn : Is nm ["rol", "ror"]) : Fin R nm s k [O.v s, B] := by
  intro n o g K rg L F hF hd q
  have N : Rn nm false cfof false 92 := by
    rcases hn with rfl | rfl | h
    all_goals first | exact h.elim | exact ⟨by unfold Tn; kernel_rfl, by kernel_rfl⟩
  have r := fun b2 b3 => rot_k (nm := nm) (hn.imp id fun h => h.imp id False.elim) b2 b3
  have hc := N.1.hc
  obtain ⟨w, hw, hcn⟩ := by_cnt hB rg s
  rcases three (cnt_lt w s).1 with h | h | h
  · obtain ⟨rg', L', D⟩ := d_shift0 (R := R) (nm := nm) hO hs hd hw h
    exact fin_rd N (hcn ▸ cl0 h hs) (r false false).1 s0' k0 hF hd (an_ok (D z7) N.hf rfl) (fun _ => trivial) zv0 (lr_13F hc q)
  · obtain ⟨rg', L', v, h4, D⟩ := d_shiftR (R := R) hO hs hd hw (is2 hn) (by rw [h]; decide)
    exact fin_rd N (hcn ▸ cl1 h hs) (r false false).2.1 s0' kr hF hd (an_ok D N.hf rfl) (fun _ => trivial) zv0 (lr_13F hc q)
  · obtain ⟨rg', L', v, h4, D⟩ := d_shiftR (R := R) hO hs hd hw (is2 hn) (ne1 h).1
    exact fin_rd N (hcn ▸ clW h) (r _ _).2.2 so ko hF hd (an_ok D N.hf rfl) (fun _ => trivial) (mkZ trivial trivial trivial trivial trivial (h4 (ne1 h).2) rfl) (lr_13F hc q)
theorem fin_db (hn : Is nm ["shld", "shrd"]) (hG : G.ok) : Fin R nm s k [O.v s, G.v s, B] := by
  intro n o g K rg L F hF hd q
  have N : Rn nm false six true 102 ∧ Rk nm true false false false false true false [] [] ∧ Rk nm false true false false false true true (sv ["af"]) (sv ["af"]) ∧ ∀ b2, Rk nm false false true b2 false true true (sv ["af", "of"]) (sv ["af", "of"]) ∧ Rk nm false false true b2 true true false six six := by
    rcases hn with rfl | rfl | h
    all_goals first | exact h.elim | exact ⟨⟨by unfold Tn; kernel_rfl, by kernel_rfl⟩, by unfold Rk; kernel_rfl, by unfold Rk; kernel_rfl, fun b => ⟨by unfold Rk; cases b <;> kernel_rfl, by unfold Rk; kernel_rfl⟩⟩
  obtain ⟨N, r0, r1, rW⟩ := N
  have hc := N.1.hc
  obtain ⟨w, hw, hcn⟩ := by_cnt hB rg s
  rcases three (cnt_lt w s).1 with h | h | h
  · obtain ⟨rg', L', D⟩ := d_double0 (R := R) (nm := nm) (G := G) hO hs hd hw h
    exact fin_rd N (hcn ▸ cl0 h hs) r0 s0' k0 hF hd (an_ok (D z7) N.hf rfl) (fun _ => trivial) zv0 (lr_13F hc q)
  · obtain ⟨rg', L', v, h2, h4, D⟩ := d_doubleS (R := R) hO hs hd hw hG (is2 hn) (by rw [h]; decide) (by have := hs.b; lia)
    exact fin_rd N (hcn ▸ cl1 h hs) r1 sa ka hF hd (an_ok D N.hf rfl) (fun _ => trivial) (mkZ trivial trivial h2 trivial trivial trivial rfl) (lr_13F hc q)
  · have C := clW (s := s) h
    by_cases hl : s < cnt w s
    · rw [decide_eq_true hl] at C
      exact fin_rd N (hcn ▸ C) (rW _).2 sX kX hF hd (an_ok (d_doubleN hO hs hd hw hG (ne1 h).1 hl) N.hf rfl) (fun _ => trivial) (mkZ rfl rfl rfl rfl rfl rfl rfl) (lr_13F hc q)
    · rw [decide_eq_false hl] at C
      obtain ⟨rg', L', v, h2, h4, D⟩ := d_doubleS (R := R) hO hs hd hw hG (is2 hn) (ne1 h).1 (Int.not_lt.mp hl)
      exact fin_rd N (hcn ▸ C) (rW _).1 sb kb' hF hd (an_ok D N.hf rfl) (fun _ => trivial) (mkZ trivial trivial h2 trivial trivial (h4 (ne1 h).2) rfl) (lr_13F hc q)
theorem fin_rc (hn : Is nm ["rcl", "rcr"]) : Fin R nm s k [O.v s, B] := by
  intro n o g K rg L F hF hd q
  have N : Rn nm true cfof false 92 := by
    rcases hn with rfl | rfl | h
    all_goals first | exact h.elim | exact ⟨by unfold Tn; kernel_rfl, by kernel_rfl⟩
  have r := fun b2 b3 => rot_k (nm := nm) (.inr (.inr (hn.imp id fun h => h.imp id False.elim))) b2 b3
  have hc := N.1.hc
  have hs1 : s + 1 ≠ 0 := by have := hs.b; lia
  obtain ⟨w, hw, hcn⟩ := by_cnt hB rg s
  by_cases h0 : cnt w s = 0
  · obtain ⟨rg', L', D⟩ := d_shift0 (R := R) (nm := nm) hO hs hd hw h0
    exact fin_rd N (hcn ▸ cl0 h0 hs) (r false false).1 s0' k0 hF hd (an_ok (D z7) N.hf rfl) (fun _ => trivial) zv0 (lr_13T hc hF (an_ok (D z7) N.hf rfl) trivial hs1 ⟨fun _ => by rw [← hcn, h0]; exact Int.zero_fmod _, fun _ => ⟨rfl, rfl⟩⟩ fun _ => q)
  · obtain ⟨v, hv, hh⟩ := d_shiftT (R := R) hO hs hd hw (is2 hn) h0
    have hfc : F.c = 0 ∨ F.c = 1 := by
      obtain ⟨c, p, a, z, s, o, d, rfl⟩ := hF
      cases c
      · exact .inl rfl
      · exact .inr rfl
    obtain ⟨u, hu, D⟩ := hh F.c (by lia)
    obtain ⟨u3, hu3, D3⟩ := hh (1 - F.c) (by lia)
    have b0 := fun k => wr_pos (tl (Builtin.bitOr (k * 2 ^ s.toNat) v) (twi nm (cnt w s) s) (s + 1)) s
    have ri := rtv_iff nm (c := cnt w s) hs.h.1 hv.1 hv.2
    have hx : (O.wR s (rtv nm v (1 - F.c) (cnt w s) s) rg = O.wR s (rtv nm v F.c (cnt w s) s) rg ∧ srtP (O.wM s (rtv nm v (1 - F.c) (cnt w s) s) rg L) = srtP (O.wM s (rtv nm v F.c (cnt w s) s) rg L)) ↔ (rnd (num k rg) s).fmod (s + 1) = 0 := by
      rw [← hcn]
      constructor
      · intro hx
        have := W_inj O hO hs hd (b0 _).1 (b0 _).2 (b0 _).1 (b0 _).2 hx
        rcases hfc with e | e
        · rw [e, Int.sub_zero] at this; exact ri.mp this.symm
        · rw [e, Int.sub_self] at this; exact ri.mp this
      · intro hx
        have := ri.mpr hx
        rcases hfc with e | e
        · rw [e, Int.sub_zero, this]; exact ⟨rfl, rfl⟩
        · rw [e, Int.sub_self, this]; exact ⟨rfl, rfl⟩
    by_cases h1 : cnt w s = 1
    · exact fin_rd N (hcn ▸ cl1 h1 hs) (r false false).2.1 s0' kr hF hd (an_ok D N.hf rfl) (fun h => h rfl) zv0 (lr_13T hc hF (an_ok D3 N.hf rfl) rfl hs1 hx fun _ => q)
    · have h : 1 < cnt w s := by have := (cnt_lt w s).1; lia
      exact fin_rd N (hcn ▸ clW h) (r _ _).2.2 so ko hF hd (an_ok D N.hf rfl) (fun h => h rfl) (mkZ trivial trivial trivial trivial trivial (hu h1) rfl) (lr_13T hc hF (an_ok D3 N.hf rfl) rfl hs1 hx fun _ => q)
end
end
end Mine.J
set_option maxHeartbeats 400000
namespace Mine.J
section
variable {R : Rs} {o : HO} {g : H} {n j : Nat} {K : KO} {nm : Str} {s k : Int} {ops : List V}
theorem lr_line (h : Ln nm s k ops) : Fin R nm s k ops := by
  cases h with
  | sh hn hs hO hB =>
    rcases hn with e | e | rfl | e | e | hn
    · exact fin_sh hO hs hB (.inl e)
    · exact fin_sh hO hs hB (.inr (.inl e))
    · exact fin_sar hO hs hB
    · exact fin_rot hO hs hB (.inl e)
    · exact fin_rot hO hs hB (.inr (.inl e))
    · exact fin_rc hO hs hB hn
  | db hn hs hO hG hB => exact fin_db hO hs hB hn hG
  | p1 hn hs hO =>
    rcases hn with e | e | e | e | e | hn
    · exact fin_p1 (.inl e) hO hs
    · exact fin_p1 (.inr (.inl e)) hO hs
    · exact fin_qu hO hs (.inl e)
    · exact fin_qu hO hs (.inr (.inl e))
    · exact fin_qu hO hs (.inl e)
    · exact hn.elim
  | p2 hs hG hO => exact fin_p2 hG hO hs
  | p3 hs hG hO k => exact fin_p3 hG hO hs k
  | bi hn hs hO k => exact fin_bits hO hs hn fun {rg L} _ => ⟨_, .imm k⟩
  | br hn hs hO m hi => exact fin_bits hO hs hn fun {rg L} hd => ⟨_, .reg m ⟨hd.len, hi⟩⟩
  | sc hn hs hG hO => exact fin_sc hG hO hs hn
  | wd hn hs hG hO => exact fin_wd hG hO hs hn
  | sw hs h16 hG => exact fin_sw hG hs h16
  | cv hn => exact fin_cv hn
theorem is_q : ∀ {l : List String}, Is nm l → (l.all fun s => (sI (Str.ofString s) ["div", "idiv"]).isSome) = true → ∃ b, sI nm ["div", "idiv"] = some b
  | [], h, _ => h.elim
  | x :: l, h, e => by
    have e := Bool.and_eq_true_iff.mp e
    rcases h with rfl | h
    · exact Option.isSome_iff_exists.mp e.1
    · exact is_q h e.2
theorem Og.fro (O : Og) (s : Int) : fro (O.v s) = true := by cases O <;> rfl
theorem ByN.fro {B : V} (h : ByN B k) : fro B = true := by cases h <;> rfl
theorem fros_c {v : V} {l : List V} (h : fro v = true) (h2 : fros l = true ∧ l.length ≤ 10) : fros (v :: l) = true ∧ (v :: l).length ≤ 11 := ⟨by show (Mine.fro v && fros l) = true; rw [h, h2.1]; rfl, Nat.succ_le_succ h2.2⟩
theorem fros_1 {v : V} {l : List V} {n : Nat} (h : fro v = true) (h2 : fros l = true ∧ l.length ≤ n) : fros (v :: l) = true ∧ (v :: l).length ≤ n + 1 := ⟨by show (Mine.fro v && fros l) = true; rw [h, h2.1]; rfl, Nat.succ_le_succ h2.2⟩
theorem fros_0 : fros [] = true ∧ ([] : List V).length ≤ 0 := ⟨rfl, Nat.le_refl _⟩
theorem Ln.h (h : Ln nm s k ops) : (∃ b, sI nm ["div", "idiv"] = some b) ∧ fros ops = true ∧ ops.length ≤ 1000 := by
  have up : ∀ {n : Nat} {l : List V}, Nat.ble n 1000 = true → fros l = true ∧ l.length ≤ n → fros l = true ∧ l.length ≤ 1000 := fun h h2 => ⟨h2.1, Nat.le_trans h2.2 (Nat.le_of_ble_eq_true h)⟩
  cases h with
  | sh hn hs hO hB => exact ⟨is_q hn (by kernel_rfl), up rfl (fros_1 (Og.fro ..) (fros_1 hB.fro fros_0))⟩
  | db hn hs hO hG hB => exact ⟨is_q hn (by kernel_rfl), up rfl (fros_1 (Og.fro ..) (fros_1 (Og.fro ..) (fros_1 hB.fro fros_0)))⟩
  | p1 hn hs hO => exact ⟨is_q hn (by kernel_rfl), up rfl (fros_1 (Og.fro ..) fros_0)⟩
  | p2 hs hG hO => exact ⟨⟨false, by kernel_rfl⟩, up rfl (fros_1 (Og.fro ..) (fros_1 (Og.fro ..) fros_0))⟩
  | p3 hs hG hO k => exact ⟨⟨false, by kernel_rfl⟩, up rfl (fros_1 (Og.fro ..) (fros_1 (Og.fro ..) (fros_1 rfl fros_0)))⟩
  | bi hn hs hO k => exact ⟨is_q hn (by kernel_rfl), up rfl (fros_1 (Og.fro ..) (fros_1 rfl fros_0))⟩
  | br hn hs hO m hi => exact ⟨is_q hn (by kernel_rfl), up rfl (fros_1 (Og.fro ..) (fros_1 rfl fros_0))⟩
  | sc hn hs hG hO => exact ⟨is_q hn (by kernel_rfl), up rfl (fros_1 (Og.fro ..) (fros_1 (Og.fro ..) fros_0))⟩
  | wd hn hs hG hO => exact ⟨is_q hn (by kernel_rfl), up rfl (fros_1 (Og.fro ..) (fros_1 (Og.fro ..) fros_0))⟩
  | sw hs h16 hG => exact ⟨⟨false, by kernel_rfl⟩, up rfl (fros_1 (Og.fro ..) fros_0)⟩
  | cv hn => exact ⟨is_q hn (by kernel_rfl), rfl, Nat.zero_le _⟩
theorem lr_all (h : Pn (j + 56) o) (q : ∀ {o' : HO} {g' : H}, Pn j o' → K (some (.boo true)) (o' :: g')) : R.r (n + 11) 171 [.ref 0] (o :: g) K := by
  refine R.h rfl (c_line (k := j + 46) h fun {nm s k ops o} hL h => ?_)
  obtain ⟨⟨b, hq⟩, hf, hl⟩ := hL.h
  exact lr_start (lr_line hL) hq hf hl h q
theorem ints_V : ∀ l : List Int, intsOf (l.map .int) = some l
  | [] => rfl
  | i :: l => by show (intsOf (l.map .int)).map (fun r => i :: r) = _; rw [ints_V l]; rfl
theorem law_ok {l : List Int} (h : l.length ≤ 1000) (q : ∀ {σ : H}, K (some (.boo true)) σ) : R.r (n + 13) 178 [.lst (l.map .int)] [] K := by
  have hl : (l.map V.int).length ≤ 100000 := by rw [List.length_map]; lia
  have hi : intsOf ((l.map V.int).take (30 : Int).toNat) = some (l.take 30) := by rw [← List.map_take]; exact ints_V _
  have h5 : ((l.map V.int).take (30 : Int).toNat).length ≤ 500 := Nat.le_trans (List.length_take_le _ _) (by decide)
  have hp : Pn 168 (penO (l.take 30 ++ [41]) 0 0) := ⟨_, _, _, rfl, by rw [List.length_append, List.length_singleton]; have := List.length_take_le 30 l; lia, by decide, by decide, by decide⟩
  have e : [HO.lst [.lst ((l.take 30).map .int ++ [.int 41]), .int 0, .int 0]] = [penO (l.take 30 ++ [41]) 0 0] := by unfold penO; rw [List.map_append]; rfl
  have lp : wB tab (R.r (n + 12)) (dropS 1 f_law.body) [(131, .lst (l.map .int)), (133, .ref 0)] [HO.lst [.lst ((l.take 30).map .int ++ [.int 41]), .int 0, .int 0]] (endK K) := by
    rw [e]
    refine ⟨⟨by decide, by decide⟩, forE (N := 3) (fun i => V.int (i : Nat)) (fun i σ => ∃ o g k, σ = o :: g ∧ k + 56 * i = 168 ∧ Pn k o) (fun v => [(131, .lst (l.map .int)), (133, .ref 0), (66, v)]) ?_ (fun u v => rfl) (fun {v σ} _ => q) (m := 2) (k := 0) rfl (fun v => rfl) ⟨_, [], 168, rfl, rfl, hp⟩⟩
    rintro i σ K' hi ⟨o, g, k, rfl, hk, hp⟩ q
    obtain ⟨j, rfl⟩ : ∃ j, k = j + 56 := ⟨k - 56, by lia⟩
    exact lr_all hp fun {o g} hp => q ⟨o, g, j, rfl, by lia, hp⟩
  exact R.h rfl (R.h rfl ⟨⟨by decide, by decide, hl⟩, opE hi ⟨h5, lp⟩⟩)
theorem run_t {f : Nat} {args : List V} {σ : H} (e : fnsT f = none) (h : heldW 714 .tup f args σ K) : Mine.R (n + 1) f args σ K := by
  unfold Mine.R
  show Option.rec _ _ (fnsT f)
  rw [e]
  exact h
noncomputable def rs : Rs where
  r := Mine.R
  h := fun {n f fn args σ K} hf h => by
    unfold Mine.R at *
    show Option.rec _ _ (fnsT f)
    rw [hf]
    exact h
  e := id
  t := fun {n args σ K} h => run_t (by kernel_rfl) h
end
end Mine.J
namespace Mine
theorem ns_uniq {h : Heap} {a : Addr} {m : Str → Option Value} (x : h.Ns a m) (n : Str) : m n = h.nsMap a n := by
  obtain ⟨o, es, ep, ho, hd, _, hf⟩ := x
  unfold Heap.nsMap
  rw [ho]
  dsimp only
  rw [hd]
  exact (hf n).symm
theorem is_ints {h : Heap} {P : Params} : ∀ {vs : List Value} {l : List Int}, WellAll P h vs (l.map .int) → ∀ (Λ : Ly) (W : Wd), Reps Λ W vs (l.map .int)
  | _, [], .nil, _, _ => rfl
  | _, i :: l, .cons (.int _ t) r, Λ, W => ⟨_, _, rfl, ⟨t, rfl⟩, is_ints r Λ W⟩
theorem len_ok {xs : List WData} (h : WTm.holds [] (.and (.not (.lt (.lit (.int 63)) (.len (.arg 0)))) (.lit (.bool true))) { args := [.list xs] } = true) : xs.length ≤ 63 := by
  have e1 : WTm.value [] (.lt (.lit (.int 63)) (.len (.arg 0))) { args := [.list xs] } = some (.bool (decide ((63 : Int) < xs.length))) := rfl
  have e2 : WTm.value [] (.not (.lt (.lit (.int 63)) (.len (.arg 0)))) { args := [.list xs] } = some (.bool (!decide ((63 : Int) < xs.length))) := by
    show (match WTm.value [] (.lt (.lit (.int 63)) (.len (.arg 0))) { args := [.list xs] } with
      | some (WData.bool b) => some (WData.bool (!b))
      | _ => none) = _
    rw [e1]
  cases q : decide ((63 : Int) < xs.length) with
  | true =>
    rw [q] at e2
    have e3 : WTm.value [] (.and (.not (.lt (.lit (.int 63)) (.len (.arg 0)))) (.lit (.bool true))) { args := [.list xs] } = some (.bool false) := by
      show (match WTm.value [] (.not (.lt (.lit (.int 63)) (.len (.arg 0)))) { args := [.list xs] } with
        | some (WData.bool false) => some (WData.bool false)
        | some (WData.bool true) => some (WData.bool true)
        | _ => none) = _
      rw [e2]; rfl
    unfold WTm.holds at h
    rw [e3] at h; cases h
  | false => exact Int.ofNat_le.mp (Int.not_lt.mp (of_decide_eq_false q))
theorem post_ok (xs ys : List WData) : (WShape.has [] (.bool true) .bool && WTm.holds [] (.eq .res (.lit (.bool true))) { args := xs, res := some (.bool true), after := ys }) = true := by
  have e : PySem.W.same (.bool true) (.bool true) = true := by decide +kernel
  have e2 : WTm.value [] (.eq .res (.lit (.bool true))) { args := xs, res := some (.bool true), after := ys } = some (.bool (PySem.W.same (.bool true) (.bool true))) := rfl
  refine Bool.and_eq_true_iff.mpr ⟨by decide +kernel, ?_⟩
  unfold WTm.holds
  rw [e2, e]
theorem call_ok : WalkO qv lsn XPT YB rw1.row.toRowW dLaw [] fun f vs => PySem.call f vs := by
  intro w s₀ s₁ mg mb G Y a o pm cd doc dV kV ho hdat hcd hfl hmg hgens args vals as hpre hlay hrd hwell hlow
  obtain ⟨hsh, hlen⟩ := pre_splitW hpre
  obtain ⟨d, r, rfl, hd, hr⟩ := hasAllW_cons hsh
  obtain rfl := hasAllW_nil hr
  obtain ⟨xs, rfl, hx⟩ := hasW_list hd
  obtain ⟨l, rfl⟩ := items_int hx
  have hl : l.length ≤ 63 := by
    have := len_ok hlen
    rwa [List.length_map] at this
  obtain ⟨v, vs', rfl, hw1, hw2⟩ := wellAll_cons_inv hwell
  cases hw2
  cases hw1 with
  | @list b vs _ hb hvs =>
    have ha : a = fadF 178 := by
      have e := ((gl w).fnm 178 (by kernel_rfl)).1
      have e2 : mg (tab.nm 178) = some (.ref (fadF 178)) := by
        rw [ns_uniq G.T.g]
        rw [← ns_uniq ((gl w).gns.at fun o e => Y _ _ e)]
        exact e
      have e3 : mg (tab.nm 178) = some (.ref a) := hmg
      rw [e2] at e3; cases e3; rfl
    subst ha
    have sr : SR (lam w) ⟨⟨s₁.heap.get?, [], []⟩, s₁, []⟩ := ⟨Y, fun _ _ e => e, rfl, (fun n o p h => nomatch h), (fun n m p q _ h => nomatch h), fun a ⟨p, hp, _⟩ => nomatch hp⟩
    refine enter_call (run_ok w 13 178 [.lst (l.map .int)] ⟨⟨s₁.heap.get?, [], []⟩, s₁, []⟩ (fun r _ => r = some (.boo true)) (J.law_ok (R := J.rs) (n := 0) (by omega) fun {σ} => rfl) callerA [] [.ref b] _ ⟨rfl, by decide +kernel, by decide +kernel, rfl⟩ sr ⟨(fun a h => nomatch h), fun e h => nomatch h⟩
      ⟨_, _, rfl, ⟨b, vs, rfl, ⟨_, _, hb⟩, is_ints hvs _ _⟩, rfl⟩ ⟨fun v u z' k g r => ?_, fun e z' B k => nomatch k⟩)
    cases k
    cases (r : u = .bool true)
    refine ⟨.inl ⟨_, .bool true, [], rfl, fun _ => rfl, .bool _, post_ok _ _, fun _ => ⟨.nil, fun _ h => nomatch h⟩⟩, .of_keep fun b o e => (g.keep b o e (fun ⟨p, hp, _⟩ => nomatch hp) id).1 (fun h => nomatch h), g.os, .of_eq (g.gens.trans hgens)⟩
end Mine
theorem PySem.Challenge.cw_pb0435_01_holds : PySem.Challenge.rw_pb0435_01.Holds :=
  Mine.holds_of Mine.said Mine.call_ok
