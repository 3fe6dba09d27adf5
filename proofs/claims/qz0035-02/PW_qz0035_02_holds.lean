import PyProof.Rows.All
import Wide.All
import OpenK.AllK
import Wide.FinOn
import KE.KItem
import KE.KSorted
import KE.KDictFold
import PyProof.CompFree
import OpenK.KRaise
import KE.KTryOn
import KE.KDflt
import KE.KSuper
import KE.KSortAsk
import PyProof.MeetsSeq3
import Lean
import PySem.Challenge.RW_qz0035_02
set_option Elab.async false
set_option maxRecDepth 100000
set_option linter.unusedVariables false
set_option linter.unusedSimpArgs false
set_option genSizeOf false
namespace QZ
open PySem
inductive V where
  | none | bool (b : Bool) | int (i : Int) | str (s : Str)
  | tup (l : List V)
  | inst (c : Addr) (n : Nat)
  | loc (n : Nat)
  | ext (a : Addr)
noncomputable def int? : V → Option Int
  | .int i => some i
  | _ => none
noncomputable def loc? : V → Option Nat
  | .loc n => some n
  | _ => none
noncomputable def tup? : V → Option (List V)
  | .tup l => some l
  | _ => none
noncomputable def msgOf : V → Option Str
  | .str m => some m
  | _ => none
noncomputable def bool? : V → Option Bool
  | .bool b => some b
  | _ => none
noncomputable def ext? : V → Option Addr
  | .ext b => some b
  | _ => none
noncomputable def isNone : V → Bool
  | .none => true
  | _ => false
noncomputable def instOf : V → Option Addr
  | .inst c _ => some c
  | _ => none
noncomputable def placeOf : V → Option Nat
  | .inst _ n => some n
  | _ => none
mutual
noncomputable def V.beq : V → V → Bool
  | .none, b => isNone b
  | .bool x, b => (bool? b).any fun y => decide (x = y)
  | .int x, b => (int? b).any fun y => decide (x = y)
  | .str x, b => (msgOf b).any fun y => decide (x = y)
  | .tup l, b => (tup? b).any fun m => V.beqL l m
  | .inst c n, b => (instOf b).any (fun y => decide (c = y)) && (placeOf b).any fun y => decide (n = y)
  | .loc x, b => (loc? b).any fun y => decide (x = y)
  | .ext x, b => (ext? b).any fun y => decide (x = y)
noncomputable def V.beqL : List V → List V → Bool
  | [], m => m.isEmpty
  | a :: l, m => m.casesOn false fun b m => V.beq a b && V.beqL l m
end
mutual
theorem V.of_beq : ∀ a b : V, V.beq a b = true → a = b
  | .none, b, h => by cases b with
    | none => rfl
    | _ => exact absurd h Bool.false_ne_true
  | .bool x, b, h => by cases b with
    | bool y => exact congrArg V.bool (of_decide_eq_true h)
    | _ => exact absurd h Bool.false_ne_true
  | .int x, b, h => by cases b with
    | int y => exact congrArg V.int (of_decide_eq_true h)
    | _ => exact absurd h Bool.false_ne_true
  | .str x, b, h => by cases b with
    | str y => exact congrArg V.str (of_decide_eq_true h)
    | _ => exact absurd h Bool.false_ne_true
  | .tup x, b, h => by cases b with
    | tup y => exact congrArg V.tup (V.of_beqL x y h)
    | _ => exact absurd h Bool.false_ne_true
  | .inst c n, b, h => by cases b with
    | inst y m => exact of_decide_eq_true (Bool.and_eq_true_iff.mp h).1 ▸ of_decide_eq_true (Bool.and_eq_true_iff.mp h).2 ▸ rfl
    | _ => exact absurd h Bool.false_ne_true
  | .loc x, b, h => by cases b with
    | loc y => exact congrArg V.loc (of_decide_eq_true h)
    | _ => exact absurd h Bool.false_ne_true
  | .ext x, b, h => by cases b with
    | ext y => exact congrArg V.ext (of_decide_eq_true h)
    | _ => exact absurd h Bool.false_ne_true
theorem V.of_beqL : ∀ a b : List V, V.beqL a b = true → a = b
  | [], m, h => by cases m with
    | nil => rfl
    | cons => exact absurd h Bool.false_ne_true
  | a :: l, m, h => by cases m with
    | nil => exact absurd h Bool.false_ne_true
    | cons b m => exact V.of_beq a b (Bool.and_eq_true_iff.mp h).1 ▸ V.of_beqL l m (Bool.and_eq_true_iff.mp h).2 ▸ rfl
end
mutual
theorem V.beq_self : ∀ a : V, V.beq a a = true
  | .none => rfl
  | .bool _ => decide_eq_true rfl
  | .int _ => decide_eq_true rfl
  | .str _ => decide_eq_true rfl
  | .tup l => V.beqL_self l
  | .inst _ _ => Bool.and_eq_true_iff.mpr ⟨decide_eq_true rfl, decide_eq_true rfl⟩
  | .loc _ => decide_eq_true rfl
  | .ext _ => decide_eq_true rfl
theorem V.beqL_self : ∀ a : List V, V.beqL a a = true
  | [] => rfl
  | a :: l => Bool.and_eq_true_iff.mpr ⟨V.beq_self a, V.beqL_self l⟩
end
noncomputable instance : DecidableEq V := fun a b => if h : V.beq a b = true then .isTrue (V.of_beq a b h) else .isFalse fun e => h (e ▸ V.beq_self a)
noncomputable def sx (s : String) : Str := ⟨(s.toList.map Char.toNat).toArray⟩
inductive DK where | i | s | t
  deriving DecidableEq
inductive O where
  | list (l : List V)
  | dict (k : DK) (l : List (V × V))
  | attrs (l : List (Nat × V))
noncomputable abbrev St := List O
noncomputable abbrev Rho := List (Option V)
inductive BI where | len | abs | min | sum | sorted | int | tuple | list | dict
  deriving DecidableEq
set_option genInjectivity false
inductive T where | var (i : Nat) | tup (l : List Nat)
mutual
inductive X where
  | lit (v : V)
  | var (i : Nat)
  | glob (v : V)
  | bop (isAnd : Bool) (l : XL)
  | bin (op : Operator) (a b : X)
  | neg (a : X)
  | not (a : X)
  | ite (c a b : X)
  | cmp (a : X) (l : CL)
  | tup (l : XL)
  | lst (l : XL)
  | dct (k : DK) (l : PL)
  | spread (d k v : X)
  | attr (a : X) (n : Nat)
  | item (a i : X)
  | slc (a lo hi : X)
  | call (f : Addr) (l : XL)
  | bi (f : BI) (l : XL)
  | meth (o : X) (n : Nat) (l : XL)
  | sup (f : Addr) (l : XL)
  | comp (elt : X) (t : T) (s : Src) (cond : XL) (k : Nat)
  | fstr (l : XL)
inductive XL where | nil | cons (x : X) (l : XL)
inductive CL where | nil | cons (op : CmpOp) (x : X) (l : CL)
inductive PL where | nil | cons (k v : X) (l : PL)
inductive Src where | expr (x : X) | range (l : XL) | enum (x : X)
end
theorem XL.ind {M : XL → Prop} (h0 : M .nil) (h1 : ∀ x l, M l → M (.cons x l)) : ∀ l, M l
  | .nil => h0
  | .cons x l => h1 x l (XL.ind h0 h1 l)
inductive LHS where | name (i : Nat) | attr (o : X) (n : Nat) | item (o i : X) | tup (l : List Nat)
mutual
inductive S where
  | asg (t : LHS) (x : X)
  | aug (o i : X) (op : Operator) (x : X)
  | exp (x : X)
  | ret (x : X)
  | ifs (c : X) (a b : SL)
  | for (t : T) (s : Src) (b : SL)
  | whl (c : X) (b : SL)
  | rai (c : Addr) (x : X)
  | try (b : SL) (c : Addr) (h : SL)
inductive SL where | nil | cons (s : S) (l : SL)
end
set_option genInjectivity true
inductive Res (α : Type) where
  | ok (a : α) (σ : St)
  | exc (c : Addr) (m : Str) (σ : St)
  | stuck
noncomputable def Res.bind {α β : Type} : Res α → (α → St → Res β) → Res β
  | .ok a σ, f => f a σ
  | .exc c m σ, _ => .exc c m σ
  | .stuck, _ => .stuck
noncomputable def ofO {α β : Type} (o : Option α) (g : α → Res β) : Res β := match o with
  | some a => g a
  | none => .stuck
inductive R (β : Type) where
  | next (b : β) (σ : St)
  | ret (v : V) (b : β) (σ : St)
  | exc (c : Addr) (m : Str) (b : β) (σ : St)
  | stuck
noncomputable def Res.thenR {α : Type} (r : Res α) (ρ : List (Option V)) (g : α → St → R (List (Option V))) : R (List (Option V)) := match r with
  | .ok v σ => g v σ
  | .exc c m σ => .exc c m ρ σ
  | .stuck => .stuck
noncomputable def Res.thenN {α β : Type} (r : Res α) (g : α → St → R β) : R β := match r with
  | .ok v σ => g v σ
  | _ => .stuck
noncomputable def R.thenL {β : Type} (r : R β) (g : β → St → R β) : R β := match r with
  | .next b σ => g b σ
  | r => r
noncomputable def R.catchR {β : Type} (c : Addr) (g : β → St → R β) : R β → R β
  | .next b σ => .next b σ
  | .ret v b σ => .ret v b σ
  | .exc c' _ b σ => cond (decide (c = c')) (g b σ) .stuck
  | .stuck => .stuck
noncomputable def R.thenX {α β : Type} (r : R α) (g : α → St → Res β) : Res β := match r with
  | .next b σ => g b σ
  | _ => .stuck
noncomputable def R.out {β : Type} : R β → Res V
  | .next _ σ => .ok .none σ
  | .ret v _ σ => .ok v σ
  | .exc c m _ σ => .exc c m σ
  | .stuck => .stuck
noncomputable def ofOR {α β : Type} (o : Option α) (g : α → R β) : R β := match o with
  | some a => g a
  | none => .stuck
noncomputable def V.sel {β : Type} (d : β) (t : List V → β) (l : Nat → β) : V → β
  | .tup x => t x
  | .loc n => l n
  | _ => d
noncomputable def lst? : O → Option (List V)
  | .list l => some l
  | _ => none
noncomputable def att? : O → Option (List (Nat × V))
  | .attrs l => some l
  | _ => none
noncomputable def O.sel {β : Type} (d : β) (l : List V → β) (m : DK → List (V × V) → β) : O → β
  | .list x => l x
  | .dict k x => m k x
  | .attrs _ => d
noncomputable def DK.onI {β : Type} (d x : β) : DK → β
  | .i => x
  | _ => d
noncomputable def DK.isT : DK → Bool
  | .t => true
  | _ => false
noncomputable def oneOf : List V → Option V
  | [] => none
  | x :: l => match l with
    | [] => some x
    | _ :: _ => none
noncomputable def twoOf : List V → Option (V × V)
  | [] => none
  | x :: l => (oneOf l).map fun y => (x, y)
noncomputable def listIn (σ : St) (v : V) : Option (List V) := (loc? v).bind fun n => σ[n]?.bind lst?
noncomputable def int2 {β : Type} (x y : V) (d : β) (k : Int → Int → β) : β := match x with
  | .int a => match y with
    | .int b => k a b
    | _ => d
  | _ => d
noncomputable def truth : V → Option Bool
  | .bool b => some b
  | .int i => some (i != 0)
  | .none => some false
  | _ => none
noncomputable def truthR (v : V) (σ : St) : Res Bool := ofO (truth v) fun b => .ok b σ
noncomputable def isInt : V → Bool | .int _ => true | _ => false
noncomputable def intOf : V → Int | .int i => i | _ => 0
noncomputable def intBin (op : Operator) (a b : Int) (σ : St) : Res V := match op with
  | .Add => .ok (.int (a + b)) σ
  | .Sub => .ok (.int (a - b)) σ
  | .Mult => cond (decide (a.natAbs < 2 ^ 60 ∧ b.natAbs < 2 ^ 60)) (.ok (.int (a * b)) σ) .stuck
  | .Mod => cond (decide (b ≠ 0)) (.ok (.int (a.fmod b)) σ) .stuck
  | .FloorDiv => cond (decide (b ≠ 0 ∧ b.natAbs < 2 ^ 30)) (.ok (.int (a.fdiv b)) σ) .stuck
  | .Pow => cond (decide (0 ≤ b ∧ b ≤ 1000 ∧ a.natAbs < 2 ^ 60)) (.ok (.int (a ^ b.toNat)) σ) .stuck
  | .LShift => cond (decide (0 ≤ b ∧ b ≤ 1000 ∧ a.natAbs < 2 ^ 60)) (.ok (.int (a * 2 ^ b.toNat)) σ) .stuck
  | .BitOr => .ok (.int (Builtin.bitOr a b)) σ
  | .BitAnd => .ok (.int (Builtin.bitAnd a b)) σ
  | _ => .stuck
noncomputable def listAdd (a b : V) (σ : St) : Res V := ofO (listIn σ a) fun l => ofO (listIn σ b) fun m => cond (decide (l.length + m.length ≤ 10000)) (.ok (.loc σ.length) (σ ++ [.list (l ++ m)])) .stuck
noncomputable def listMul (a b : V) (σ : St) : Res V := ofO (listIn σ a) fun l => ofO (oneOf l) fun v => ofO (int? b) fun k => cond (decide (0 ≤ k ∧ k ≤ 1000)) (.ok (.loc σ.length) (σ ++ [.list (List.replicate k.toNat v)])) .stuck
noncomputable def listBin (op : Operator) (a b : V) (σ : St) : Res V := match op with
  | .Add => listAdd a b σ
  | .Mult => listMul a b σ
  | _ => .stuck
noncomputable def binop (op : Operator) (a b : V) (σ : St) : Res V := int2 a b (listBin op a b σ) fun i j => intBin op i j σ
noncomputable def eqL (e : V → V → Option Bool) : List V → List V → Option Bool
  | [], m => cond m.isEmpty (some true) none
  | a :: l, m => m.casesOn none fun b m => (e a b).bind fun x => (eqL e l m).map fun y => x && y
noncomputable def eq0 (L : List V → List V → Option Bool) (x y : V) : Option Bool := match x with
  | .none => cond (isNone y) (some true) none
  | .int a => (int? y).map fun b => a == b
  | .str a => (msgOf y).bind fun b => cond (PyData.strOk a && PyData.strOk b) (some (a == b)) none
  | .tup l => (tup? y).bind fun m => L l m
  | _ => none
noncomputable def eqV : Nat → V → V → Option Bool
  | 0 => eq0 fun _ _ => none
  | k + 1 => eq0 (eqL (eqV k))
noncomputable def eqO1 (σ : St) (a b : V) : Option Bool := (loc? a).elim (eqV 8 a b) fun _ => (listIn σ a).bind fun l => (listIn σ b).bind fun k => eqL (eqV 8) l k
noncomputable def eqO (σ : St) (a b : V) : Option Bool := (loc? a).elim (eqV 8 a b) fun _ => (listIn σ a).bind fun l => (listIn σ b).bind fun k => eqL (eqO1 σ) l k
noncomputable def lookD (k : V) : List (V × V) → Option V
  | [] => none
  | (a, v) :: l => if a = k then some v else lookD k l
noncomputable def putD (k v : V) : List (V × V) → List (V × V)
  | [] => [(k, v)]
  | (a, u) :: l => if a = k then (a, v) :: l else (a, u) :: putD k v l
noncomputable def hash1 : V → Bool
  | .int _ => true
  | _ => false
noncomputable def hash2 : V → Bool
  | .int _ => true
  | .str x => PyData.strOk x
  | .tup l => l.all hash1
  | _ => false
noncomputable def keyOk (k : DK) (v : V) : Bool := match k with
  | .i => (int? v).isSome
  | .s => (msgOf v).isSome
  | .t => (tup? v).any fun l => l.all hash2
noncomputable def lookA (n : Nat) : List (Nat × V) → Option V
  | [] => none
  | (a, v) :: l => if a = n then some v else lookA n l
noncomputable def putA (n : Nat) (v : V) : List (Nat × V) → List (Nat × V)
  | [] => [(n, v)]
  | (a, u) :: l => if a = n then (a, v) :: l else (a, u) :: putA n v l
noncomputable def isStrV : V → Bool | .str x => PyData.strOk x | _ => false
noncomputable def eqStrV : V → Str → Bool | .str x, s => x == s | _, _ => false
noncomputable def memV (σ : St) (x c : V) : Option Bool := c.sel none (fun l => (msgOf x).bind fun s => cond (l.all isStrV && PyData.strOk s) (some (l.any fun v => eqStrV v s)) none)
  fun n => σ[n]?.bind (O.sel none (fun l => (int? x).bind fun i => cond (l.all isInt) (some (l.any fun v => intOf v == i)) none)
    fun k l => k.onI none ((int? x).map fun _ => (lookD x l).isSome))
noncomputable def cmpop (op : CmpOp) (a b : V) (σ : St) : Option Bool := match op with
  | .Eq => eqO σ a b
  | .NotEq => (eqO σ a b).map (!·)
  | .Lt => int2 a b none fun a b => some (decide (a < b))
  | .LtE => int2 a b none fun a b => some (decide (a ≤ b))
  | .Gt => int2 a b none fun a b => some (decide (b < a))
  | .GtE => int2 a b none fun a b => some (decide (b ≤ a))
  | .IsNot => cond (isNone b) (cond (isNone a) (some false) ((tup? a).map fun _ => true)) none
  | .Is => cond (isNone b) (cond (isNone a) (some true) ((tup? a).map fun _ => false)) none
  | .In => memV σ a b
  | .NotIn => (memV σ a b).map (!·)
@[irreducible] def ixOf (l : List V) (i : Int) : Option V := cond (decide (0 ≤ i ∧ i < 2 ^ 40)) l[i.toNat]? none
noncomputable def getItem (a i : V) (σ : St) : Option V := a.sel none (fun l => (int? i).bind (ixOf l))
  fun n => σ[n]?.bind (O.sel none (fun l => (int? i).bind (ixOf l)) fun k l => cond (keyOk k i && !k.isT) (lookD i l) none)
noncomputable def setItem (a i v : V) (σ : St) : Option St := (loc? a).bind fun n => σ[n]?.bind (O.sel none
  (fun l => (int? i).bind fun i => cond (decide (0 ≤ i ∧ i < l.length ∧ i < 2 ^ 40)) (some (σ.set n (.list (l.set i.toNat v)))) none)
  fun k l => cond (keyOk k i && decide (l.length ≤ 10000)) (some (σ.set n (.dict k (putD i v l)))) none)
noncomputable def attsOf (a : V) (σ : St) : Option (List (Nat × V)) := (placeOf a).bind fun n => σ[n]?.bind att?
noncomputable def getAttr (a : V) (m : Nat) (σ : St) : Option V := (attsOf a σ).bind (lookA m)
noncomputable def setAttr (a : V) (m : Nat) (v : V) (σ : St) : Option St := (attsOf a σ).bind fun l => (placeOf a).bind fun n => cond (decide (l.length ≤ 100)) (some (σ.set n (.attrs (putA m v l)))) none
noncomputable def cut1 (n d : Nat) : V → Option Nat
  | .none => some d
  | .int i => some (clipAt n i)
  | _ => none
noncomputable def listAt (ext : Addr → Option (List V)) (a : V) (σ : St) : Option (List V) := match a with
  | .loc n => σ[n]?.bind lst?
  | .ext a => ext a
  | _ => none
noncomputable def slice (ext : Addr → Option (List V)) (a lo hi : V) (σ : St) : Res V := ofO (listAt ext a σ) fun l => ofO (cut1 l.length 0 lo) fun a => ofO (cut1 l.length l.length hi) fun b =>
  cond (decide (l.length ≤ 10000)) (.ok (.loc σ.length) (σ ++ [.list ((l.take b).drop a)])) .stuck
inductive SV where | rng (a b : Int) | tup (l : List V) | lst (n : Nat) | enl (n : Nat)
noncomputable def SV.at (σ : St) : SV → Nat → Option (Option V)
  | .rng a b, i => some (if a + (i : Int) < b then some (.int (a + i)) else none)
  | .tup l, i => some l[i]?
  | .lst n, i => match σ[n]? with | some (.list l) => some l[i]? | _ => none
  | .enl n, i => match σ[n]? with | some (.list l) => some ((l[i]?).map fun v => .tup [.int i, v]) | _ => none
noncomputable def SV.len (σ : St) : SV → Nat
  | .rng a b => (b - a).toNat
  | .tup l => l.length
  | .lst n | .enl n => match σ[n]? with | some (.list l) => l.length | _ => 0
noncomputable def loopN {β : Type} (sv : SV) (body : V → β → St → R β) : Nat → Nat → β → St → R β
  | 0, _, _, _ => .stuck
  | k + 1, i, b, σ => ofOR (sv.at σ i) fun o => o.elim (.next b σ) fun v => (body v b σ).thenL fun b' σ' => loopN sv body k (i + 1) b' σ'
noncomputable def loop {β : Type} (sv : SV) (body : V → β → St → R β) (b : β) (σ : St) : R β := loopN sv body (sv.len σ + 1) 0 b σ
noncomputable def whileN (test : Rho → St → Res Bool) (body : Rho → St → R Rho) : Nat → Rho → St → R Rho
  | 0, _, _ => .stuck
  | k + 1, ρ, σ => (test ρ σ).thenN fun t σ' => cond t ((body ρ σ').thenL fun ρ' σ'' => whileN test body k ρ' σ'') (.next ρ σ')
noncomputable def setAll : List Nat → List V → Rho → Option Rho
  | [], [], ρ => some ρ
  | i :: is, v :: vs, ρ => setAll is vs (ρ.set i (some v))
  | _, _, _ => none
noncomputable def setT (t : T) (v : V) (ρ : Rho) : Option Rho := match t with
  | .var i => some (ρ.set i (some v))
  | .tup is => match v with | .tup vs => setAll is vs ρ | _ => none
structure Fn where
  np : Nat
  dflt : List V
  nloc : Nat
  body : SL
structure Prog where
  fn : Addr → Option Fn
  meth : Addr → Nat → Option Addr
  init : Addr → Option Addr
  sup : Addr → Option Addr
  ext : Addr → Option (List V)
noncomputable def lookF {α : Type} : List (Addr × α) → Addr → Option α
  | [], _ => none
  | (b, v) :: l, a => if a = b then some v else lookF l a
noncomputable def lookM : List (Addr × Nat × Addr) → Addr → Nat → Option Addr
  | [], _, _ => none
  | (b, n, v) :: l, c, m => if c = b ∧ m = n then some v else lookM l c m
noncomputable def okCls (P : Prog) : V → Bool
  | .inst c _ => (P.init c).isSome
  | _ => true
noncomputable def intsOf? (l : List V) : Option (List Int) := cond (l.all isInt) (some (l.map intOf)) none
noncomputable def itemsOf (v : V) (σ : St) : Option (List V) := v.sel none some fun n => σ[n]?.bind lst?
noncomputable def firstLt (σ : St) (a b : V) : Option Bool := (listIn σ a).bind fun l => (listIn σ b).bind fun m => (l.head?.bind int?).bind fun x => (m.head?.bind int?).bind fun y => cond (decide (x ≠ y)) (some (decide (x < y))) none
noncomputable def sortedL (σ : St) : List V → Option (List V)
  | [] => none
  | a :: l => match l with
    | [] => (listIn σ a).map fun _ => [a]
    | b :: l => match l with
      | [] => (firstLt σ b a).map fun t => cond t [b, a] [a, b]
      | _ :: _ => none
noncomputable def sorted (v : V) (σ : St) : Res V := ofO (itemsOf v σ) fun l => cond (l.all isInt) (cond (decide (l.length ≤ 60)) (.ok (.loc σ.length) (σ ++ [.list ((W.sortI (l.map intOf)).map .int)])) .stuck)
  (ofO (loc? v) fun _ => ofO (sortedL σ l) fun k => .ok (.loc σ.length) (σ ++ [.list k]))
noncomputable def few {α : Type} (l : List α) : Option Nat := cond (decide (l.length ≤ 10000)) (some l.length) none
noncomputable def lenOf (σ : St) (a : V) : Option Nat := a.sel none few fun n => σ[n]?.bind (O.sel none few fun k l => k.onI none (few l))
noncomputable def callB (f : BI) (args : List V) (σ : St) : Res V := match f with
  | .len => ofO (oneOf args) fun a => ofO (lenOf σ a) fun n => .ok (.int n) σ
  | .abs => ofO (oneOf args) fun a => ofO (int? a) fun i => .ok (.int i.natAbs) σ
  | .min => ofO (twoOf args) fun p => ofO (int? p.1) fun a => ofO (int? p.2) fun b => .ok (.int (if b < a then b else a)) σ
  | .sum => ofO (oneOf args) fun a => ofO (listIn σ a) fun l => ofO (intsOf? l) fun is => .ok (.int is.sum) σ
  | .sorted => ofO (oneOf args) fun a => sorted a σ
  | .int => ofO (oneOf args) fun a => ofO (bool? a) fun b => .ok (.int (if b then 1 else 0)) σ
  | .tuple => ofO (oneOf args) fun a => a.sel .stuck (fun l => .ok (.tup l) σ) fun n => ofO (σ[n]?.bind lst?) fun l => cond (decide (l.length ≤ 10000)) (.ok (.tup l) σ) .stuck
  | .list => ofO (oneOf args) fun a => ofO (itemsOf a σ) fun l => cond (decide (l.length ≤ 10000)) (.ok (.loc σ.length) (σ ++ [.list l])) .stuck
  | .dict => .stuck
noncomputable def mList (n : Nat) (l : List V) (m : Nat) (args : List V) (σ : St) : Res V := match m with
  | 0 => ofO (oneOf args) fun v => cond (decide (l.length ≤ 10000)) (.ok .none (σ.set n (.list (l ++ [v])))) .stuck
  | 1 => ofO (oneOf args) fun v => ofO (loc? v) fun j => ofO (σ[j]?.bind lst?) fun k => cond (decide (l.length + k.length ≤ 10000 ∧ j ≠ n)) (.ok .none (σ.set n (.list (l ++ k)))) .stuck
  | _ => .stuck
noncomputable def mDict (k : DK) (l : List (V × V)) (m : Nat) (args : List V) (σ : St) : Res V := match m with
  | 2 => ofO (twoOf args) fun p => cond (keyOk k p.1) (.ok ((lookD p.1 l).getD p.2) σ) .stuck
  | _ => .stuck
noncomputable def methB (o : V) (m : Nat) (args : List V) (σ : St) : Res V := ofO (loc? o) fun n => ofO σ[n]? fun ob => ob.sel .stuck (fun l => mList n l m args σ) fun k l => mDict k l m args σ
noncomputable def freeA (a : V) (m : Nat) (σ : St) : Bool := (attsOf a σ).any fun l => (lookA m l).isNone
noncomputable def methOk (o : V) (m : Nat) (σ : St) : Bool := (loc? o).any fun n => (σ[n]?).any (O.sel false (fun _ => m == 0 || m == 1) fun _ _ => m == 2)
noncomputable def mkFrame (f : Fn) (args : List V) : Option Rho :=
  cond (decide (args.length ≤ f.np ∧ f.np ≤ args.length + f.dflt.length ∧ f.np ≤ f.nloc))
    (some ((args ++ f.dflt.drop (args.length + f.dflt.length - f.np)).map some ++ List.replicate (f.nloc - f.np) none)) none
noncomputable def strOf : V → Option Str
  | .str s => if s.length ≤ 1000 then some s else none
  | .int i => if i.natAbs < 2 ^ 60 ∧ (Str.ofString (toString i)).length ≤ 1000 then some (Str.ofString (toString i)) else none
  | _ => none
noncomputable def isList (σ : St) (n : Nat) : Bool := match σ[n]? with
  | some (.list _) => true
  | _ => false
noncomputable def srcVal (σ : St) : V → Option SV
  | .tup l => some (.tup l)
  | .loc n => cond (isList σ n) (some (.lst n)) none
  | _ => none
noncomputable def enumVal (σ : St) : V → Option Nat
  | .loc n => cond (isList σ n) (some n) none
  | _ => none
noncomputable def rangeOf : List V → Option Int
  | [.int b] => cond (decide (b.natAbs < 2 ^ 30)) (some b) none
  | _ => none
noncomputable def slot (ρ : Rho) (i : Nat) : Option V := match ρ[i]? with
  | some q => q
  | none => none
theorem slot_of {ρ : Rho} {i : Nat} {q : Option V} (h : ρ[i]? = some q) : slot ρ i = q := by simp only [slot, h]
noncomputable def supOf (P : Prog) (f : Addr) (v : V) : Option V := (instOf v).bind fun c => cond (decide (P.sup c = some f)) (some v) none
noncomputable def cturn (t : T) (k : Nat) (e : Rho → St → Res V) (c : Rho → St → Res Bool) (ρ : Rho) (v : V) (acc : List V) (σ : St) : R (List V) :=
  ofOR (setT t v (ρ ++ List.replicate k none)) fun ρ' => (c ρ' σ).thenN fun b σ => cond b ((e ρ' σ).thenN fun x σ => cond (decide (acc.length ≤ 10000)) (.next (acc ++ [x]) σ) .stuck) (.next acc σ)
noncomputable def sturn (t : T) (b : Rho → St → R Rho) (v : V) (ρ : Rho) (σ : St) : R Rho := ofOR (setT t v ρ) fun ρ => b ρ σ
mutual
noncomputable def evX (P : Prog) (co : Addr → List V → St → Res V) : X → Rho → St → Res V
  | .lit v, _, σ => .ok v σ
  | .var i, ρ, σ => ofO (slot ρ i) fun v => .ok v σ
  | .glob v, _, σ => .ok v σ
  | .bop c l, ρ, σ => evB P co c l ρ σ
  | .bin op a b, ρ, σ => (evX P co a ρ σ).bind fun x σ => (evX P co b ρ σ).bind fun y σ => binop op x y σ
  | .neg a, ρ, σ => (evX P co a ρ σ).bind fun x σ => ofO (int? x) fun i => .ok (.int (-i)) σ
  | .not a, ρ, σ => (evX P co a ρ σ).bind fun x σ => ofO (truth x) fun b => .ok (.bool (!b)) σ
  | .ite c a b, ρ, σ => ((evX P co c ρ σ).bind truthR).bind fun t σ => cond t (evX P co a ρ σ) (evX P co b ρ σ)
  | .cmp a l, ρ, σ => (evX P co a ρ σ).bind fun x σ => evC P co x l ρ σ
  | .tup l, ρ, σ => (evL P co l ρ σ).bind fun vs σ => .ok (.tup vs) σ
  | .lst l, ρ, σ => (evL P co l ρ σ).bind fun vs σ => .ok (.loc σ.length) (σ ++ [.list vs])
  | .dct k l, ρ, σ => (evP P co l ρ σ).bind fun ps σ => cond (ps.all (fun p => keyOk k p.1)) (.ok (.loc σ.length) (σ ++ [.dict k (ps.foldl (fun d p => putD p.1 p.2 d) [])])) .stuck
  | .spread _ _ _, _, _ => .stuck
  | .attr a n, ρ, σ => (evX P co a ρ σ).bind fun x σ => cond (okCls P x) (ofO (getAttr x n σ) fun v => .ok v σ) .stuck
  | .item a i, ρ, σ => (evX P co a ρ σ).bind fun x σ => (evX P co i ρ σ).bind fun y σ => ofO (getItem x y σ) fun v => .ok v σ
  | .slc a lo hi, ρ, σ => (evX P co a ρ σ).bind fun x σ => (evX P co lo ρ σ).bind fun y σ => (evX P co hi ρ σ).bind fun z σ => slice P.ext x y z σ
  | .call f l, ρ, σ => (evL P co l ρ σ).bind fun vs σ => co f vs σ
  | .bi f l, ρ, σ => (evL P co l ρ σ).bind fun vs σ => callB f vs σ
  | .meth o n l, ρ, σ => (evX P co o ρ σ).bind fun ov σ => (instOf ov).elim (cond (methOk ov n σ) ((evL P co l ρ σ).bind fun vs σ => methB ov n vs σ) .stuck)
    fun c => ofO (P.meth c n) fun f => cond (freeA ov n σ) ((evL P co l ρ σ).bind fun vs σ => co f (ov :: vs) σ) .stuck
  | .sup f l, ρ, σ => ofO ((slot ρ 0).bind (supOf P f)) fun v => (evL P co l ρ σ).bind fun vs σ => co f (v :: vs) σ
  | .comp e t s c k, ρ, σ => (evS P co s ρ σ).bind fun sv σ => (loop sv (cturn t k (fun ρ σ => evX P co e ρ σ) (fun ρ σ => evT P co c ρ σ) ρ) [] σ).thenX fun acc σ => .ok (.loc σ.length) (σ ++ [.list acc])
  | .fstr l, ρ, σ => evF P co l Str.empty ρ σ
noncomputable def evL (P : Prog) (co : Addr → List V → St → Res V) : XL → Rho → St → Res (List V)
  | .nil, _, σ => .ok [] σ
  | .cons x l, ρ, σ => (evX P co x ρ σ).bind fun v σ => (evL P co l ρ σ).bind fun vs σ => .ok (v :: vs) σ
noncomputable def evB (P : Prog) (co : Addr → List V → St → Res V) (isAnd : Bool) : XL → Rho → St → Res V
  | .nil, _, _ => .stuck
  | .cons x .nil, ρ, σ => evX P co x ρ σ
  | .cons x l, ρ, σ => (evX P co x ρ σ).bind fun v σ => ofO (truth v) fun b => cond (b == isAnd) (evB P co isAnd l ρ σ) (.ok v σ)
noncomputable def evC (P : Prog) (co : Addr → List V → St → Res V) (x : V) : CL → Rho → St → Res V
  | .nil, _, _ => .stuck
  | .cons op y .nil, ρ, σ => (evX P co y ρ σ).bind fun w σ => ofO (cmpop op x w σ) fun b => .ok (.bool b) σ
  | .cons op y l, ρ, σ => (evX P co y ρ σ).bind fun w σ => ofO (cmpop op x w σ) fun b => cond b (evC P co w l ρ σ) (.ok (.bool false) σ)
noncomputable def evP (P : Prog) (co : Addr → List V → St → Res V) : PL → Rho → St → Res (List (V × V))
  | .nil, _, σ => .ok [] σ
  | .cons k v l, ρ, σ => (evX P co k ρ σ).bind fun kv σ => (evX P co v ρ σ).bind fun vv σ => (evP P co l ρ σ).bind fun ps σ => .ok ((kv, vv) :: ps) σ
noncomputable def evF (P : Prog) (co : Addr → List V → St → Res V) : XL → Str → Rho → St → Res V
  | .nil, acc, _, σ => .ok (.str acc) σ
  | .cons x l, acc, ρ, σ => (evX P co x ρ σ).bind fun v σ => ofO (strOf v) fun y => evF P co l (acc ++ y) ρ σ
noncomputable def evT (P : Prog) (co : Addr → List V → St → Res V) : XL → Rho → St → Res Bool
  | .nil, _, σ => .ok true σ
  | .cons x l, ρ, σ => ((evX P co x ρ σ).bind truthR).bind fun b σ => cond b (evT P co l ρ σ) (.ok false σ)
noncomputable def evS (P : Prog) (co : Addr → List V → St → Res V) : Src → Rho → St → Res SV
  | .expr x, ρ, σ => (evX P co x ρ σ).bind fun v σ => ofO (srcVal σ v) fun sv => .ok sv σ
  | .range l, ρ, σ => (evL P co l ρ σ).bind fun vs σ => ofO (rangeOf vs) fun b => .ok (.rng 0 b) σ
  | .enum x, ρ, σ => (evX P co x ρ σ).bind fun v σ => ofO (enumVal σ v) fun n => .ok (.enl n) σ
end
noncomputable def evA (P : Prog) (co : Addr → List V → St → Res V) (t : LHS) (v : V) (ρ : Rho) (σ : St) : R Rho := match t with
  | .name i => .next (ρ.set i (some v)) σ
  | .tup is => match v with
    | .tup vs => ofOR (setAll is vs ρ) fun ρ => .next ρ σ
    | _ => .stuck
  | .attr o n => (evX P co o ρ σ).thenN fun ov σ => cond (okCls P ov) (ofOR (setAttr ov n v σ) fun σ => .next ρ σ) .stuck
  | .item o i => (evX P co o ρ σ).thenN fun ov σ => (evX P co i ρ σ).thenN fun iv σ => ofOR (setItem ov iv v σ) fun σ => .next ρ σ
noncomputable def test (P : Prog) (co : Addr → List V → St → Res V) (c : X) (ρ : Rho) (σ : St) : Res Bool := (evX P co c ρ σ).bind truthR
noncomputable def addI (a b : V) : Option V := match a, b with
  | .int a, .int b => some (.int (a + b))
  | _, _ => none
mutual
noncomputable def exS (P : Prog) (co : Addr → List V → St → Res V) : S → Rho → St → R Rho
  | .asg t x, ρ, σ => (evX P co x ρ σ).thenR ρ fun v σ => evA P co t v ρ σ
  | .aug o i op x, ρ, σ => (evX P co o ρ σ).thenN fun ov σ => (evX P co i ρ σ).thenN fun iv σ => ofOR (getItem ov iv σ) fun old => (evX P co x ρ σ).thenN fun v σ => ofOR (addI old v) fun nw => ofOR (setItem ov iv nw σ) fun σ => .next ρ σ
  | .exp x, ρ, σ => (evX P co x ρ σ).thenR ρ fun _ σ => .next ρ σ
  | .ret x, ρ, σ => (evX P co x ρ σ).thenR ρ fun v σ => .ret v ρ σ
  | .ifs c a b, ρ, σ => (test P co c ρ σ).thenN fun t σ => cond t (exL P co a ρ σ) (exL P co b ρ σ)
  | .for t s b, ρ, σ => (evS P co s ρ σ).thenN fun sv σ => loop sv (sturn t fun ρ σ => exL P co b ρ σ) ρ σ
  | .whl c b, ρ, σ => whileN (fun ρ σ => test P co c ρ σ) (fun ρ σ => exL P co b ρ σ) 40 ρ σ
  | .rai c x, ρ, σ => (evX P co x ρ σ).thenN fun v σ => (msgOf v).elim .stuck fun m => .exc c m ρ σ
  | .try b c h, ρ, σ => (exL P co b ρ σ).catchR c fun ρ σ => exL P co h ρ σ
noncomputable def exL (P : Prog) (co : Addr → List V → St → Res V) : SL → Rho → St → R Rho
  | .nil, ρ, σ => .next ρ σ
  | .cons s l, ρ, σ => (exS P co s ρ σ).thenL fun ρ σ => exL P co l ρ σ
end
noncomputable def run (P : Prog) : Nat → Addr → List V → St → Res V
  | 0, _, _, _ => .stuck
  | d + 1, a, args, σ => match P.fn a with
    | some f => ofO (mkFrame f args) fun ρ => (exL P (run P d) f.body ρ σ).out
    | none => ofO (P.init a) fun f => (run P d f (.inst a σ.length :: args) (σ ++ [.attrs []])).bind fun w σ' => cond (isNone w) (.ok (.inst a σ.length) σ') .stuck
theorem bind_of {α β : Type} {o : Option α} {g : α → Option β} {b : β} {G : Prop} (h : o.bind g = some b) (k : ∀ a, o = some a → g a = some b → G) : G := by
  cases o with
  | none => cases h
  | some a => exact k a rfl h
theorem map_of {α β : Type} {o : Option α} {g : α → β} {b : β} {G : Prop} (h : o.map g = some b) (k : ∀ a, o = some a → g a = b → G) : G := by
  cases o with
  | none => cases h
  | some a => exact k a rfl (Option.some.inj h)
theorem cond_of {α : Type} {c : Bool} {o : Option α} {b : α} {G : Prop} (h : cond c o none = some b) (k : c = true → o = some b → G) : G := by
  cases c with
  | false => cases h
  | true => exact k rfl h
theorem ite_some {c : Prop} [Decidable c] {α : Type} {o : Option α} {a : α} (h : (if c then o else none) = some a) : c ∧ o = some a := by
  by_cases q : c
  · exact ⟨q, (if_pos q).symm.trans h⟩
  · cases (if_neg q).symm.trans h
end QZ
namespace QZ
open PySem PySem.W PySem.Calls PyProof.Rows
noncomputable abbrev Fmap := List Addr
mutual
noncomputable def Rel (f : Fmap) (h : Heap) : V → Value → Prop
  | .none, v => v = .none
  | .bool b, v => v = .bool b
  | .int i, v => ∃ t, v = .int i t
  | .str x, v => ∃ t, v = .str x t
  | .tup l, v => ∃ a items, v = .ref a ∧ IsTup h a items ∧ RelL f h l items.toList
  | .inst c n, v => ∃ a d, v = .ref a ∧ f[n]? = some d ∧ h.get? a = some (instObj c d)
  | .loc n, v => ∃ a, v = .ref a ∧ f[n]? = some a
  | .ext a, v => v = .ref a
noncomputable def RelL (f : Fmap) (h : Heap) : List V → List Value → Prop
  | [], vs => vs = []
  | x :: l, vs => ∃ v r, vs = v :: r ∧ Rel f h x v ∧ RelL f h l r
end
theorem RelL.len {f : Fmap} {h : Heap} : ∀ {l : List V} {vs : List Value}, RelL f h l vs → vs.length = l.length
  | [], _, e => by rw [RelL] at e; subst e; rfl
  | x :: l, vs, e => by rw [RelL] at e; obtain ⟨v, r, rfl, _, er⟩ := e; simp [RelL.len er]
theorem RelL.get {f : Fmap} {h : Heap} : ∀ {l : List V} {vs : List Value}, RelL f h l vs → ∀ {i : Nat} {x : V}, l[i]? = some x → ∃ v, vs[i]? = some v ∧ Rel f h x v
  | [], _, e, i, x, ex => by cases ex
  | y :: l, vs, e, i, x, ex => by
    rw [RelL] at e
    obtain ⟨v, r, rfl, ev, er⟩ := e
    cases i with
    | zero => cases ex; exact ⟨v, rfl, ev⟩
    | succ i => exact RelL.get er (by simpa using ex)
theorem RelL.none {f : Fmap} {h : Heap} {l : List V} {vs : List Value} (r : RelL f h l vs) {i : Nat} (e : l[i]? = none) : vs[i]? = none := by
  rw [List.getElem?_eq_none_iff] at e ⊢
  rw [r.len]; exact e
theorem RelL.append {f : Fmap} {h : Heap} : ∀ {l m : List V} {vs ws : List Value}, RelL f h l vs → RelL f h m ws → RelL f h (l ++ m) (vs ++ ws)
  | [], m, vs, ws, e, k => by rw [RelL] at e; subst e; exact k
  | x :: l, m, vs, ws, e, k => by
    rw [RelL] at e
    obtain ⟨v, r, rfl, ev, er⟩ := e
    rw [List.cons_append, RelL]
    exact ⟨v, r ++ ws, rfl, ev, RelL.append er k⟩
theorem RelL.one {f : Fmap} {h : Heap} {x : V} {v : Value} (r : Rel f h x v) : RelL f h [x] [v] := by
  rw [RelL]; exact ⟨v, [], rfl, r, by rw [RelL]⟩
theorem RelL.nil {f : Fmap} {h : Heap} : RelL f h [] [] := by rw [RelL]
theorem RelL.cons {f : Fmap} {h : Heap} {x : V} {v : Value} {l : List V} {vs : List Value} (r : Rel f h x v) (k : RelL f h l vs) : RelL f h (x :: l) (v :: vs) := by
  rw [RelL]; exact ⟨v, vs, rfl, r, k⟩
theorem RelL.take {f : Fmap} {h : Heap} : ∀ {l : List V} {vs : List Value}, RelL f h l vs → ∀ n, RelL f h (l.take n) (vs.take n)
  | [], _, e, n => by rw [RelL] at e; subst e; simp [RelL]
  | x :: l, vs, e, 0 => by simp [RelL]
  | x :: l, vs, e, n + 1 => by
    rw [RelL] at e
    obtain ⟨v, r, rfl, ev, er⟩ := e
    exact RelL.cons ev (RelL.take er n)
theorem RelL.drop {f : Fmap} {h : Heap} : ∀ {l : List V} {vs : List Value}, RelL f h l vs → ∀ n, RelL f h (l.drop n) (vs.drop n)
  | [], _, e, n => by rw [RelL] at e; subst e; simp [RelL]
  | x :: l, vs, e, 0 => e
  | x :: l, vs, e, n + 1 => by
    rw [RelL] at e
    obtain ⟨v, r, rfl, ev, er⟩ := e
    exact RelL.drop er n
theorem RelL.set {f : Fmap} {h : Heap} {y : V} {w : Value} (k : Rel f h y w) : ∀ {l : List V} {vs : List Value}, RelL f h l vs → ∀ n, RelL f h (l.set n y) (vs.set n w)
  | [], _, e, n => by rw [RelL] at e; subst e; simp [RelL]
  | x :: l, vs, e, 0 => by
    rw [RelL] at e
    obtain ⟨v, r, rfl, ev, er⟩ := e
    exact RelL.cons k er
  | x :: l, vs, e, n + 1 => by
    rw [RelL] at e
    obtain ⟨v, r, rfl, ev, er⟩ := e
    exact RelL.cons ev (RelL.set k er n)
theorem RelL.replicate {f : Fmap} {h : Heap} {y : V} {w : Value} (k : Rel f h y w) : ∀ n, RelL f h (List.replicate n y) (List.replicate n w)
  | 0 => RelL.nil
  | n + 1 => RelL.cons k (RelL.replicate k n)
end QZ
namespace QZ
open PySem PySem.W PySem.Calls PyProof.Rows
section
variable (prog : Program) (w : World)
noncomputable def intsV (l : List V) : List Int := l.map intOf
noncomputable def hashV : V → Int
  | .int i => hashInt i
  | .str x => hashStr w x
  | .tup l => tupleKeyHash (intKind prog w) (intsV l)
  | _ => 0
noncomputable def drawsV : V → Nat
  | .tup l => (intsV l).length + 1
  | _ => 1
noncomputable def drawsL (l : List V) : Nat := (l.map drawsV).sum
inductive KeyE (h : Heap) : V → Value → Prop
  | int (i t) : KeyE h (.int i) (.int i t)
  | str (x t) (ok : PyData.strOk x = true) : KeyE h (.str x) (.str x t)
  | tup (is a) (k : IsTupleKey (intKind prog w) h is a) : KeyE h (.tup (is.map .int)) (.ref a)
inductive KeyL (h : Heap) : List V → List Value → Prop
  | nil : KeyL h [] []
  | cons {x v l vs} (e : KeyE prog w h x v) (q : KeyL h l vs) : KeyL h (x :: l) (v :: vs)
structure IsKey (h : Heap) (l : List V) (a : Addr) (items : Array Value) : Prop where
  tup : IsTup h a items
  items : KeyL prog w h l items.toList
noncomputable def Keyed (h : Heap) (l : List V) (a : Addr) : Prop := ∃ items, IsKey prog w h l a items
end
section
variable {prog : Program} {w : World} {h h' : Heap}
theorem ints_back (is : List Int) : intsV (is.map V.int) = is := by
  induction is with
  | nil => rfl
  | cons i is ih => exact congrArg (i :: ·) ih
theorem KeyE.inj {x y : V} {v : Value} (hx : KeyE prog w h x v) (hy : KeyE prog w h y v) : x = y := by
  cases hx with
  | int => cases hy; rfl
  | str => cases hy; rfl
  | tup is a k => cases hy with
    | tup is' a k' => exact congrArg (fun is : List Int => V.tup (is.map .int)) (k.inj k')
theorem KeyL.inj {x : List V} {vs : List Value} (hx : KeyL prog w h x vs) : ∀ {y : List V}, KeyL prog w h y vs → x = y := by
  induction hx with
  | nil => exact fun hy => by cases hy; rfl
  | cons e q ih =>
    intro y hy
    cases hy with
    | cons e' q' => rw [e.inj e', ih q']
theorem KeyE.keeps {d : Addr} {o : Obj} {es ep} (ho : h.get? d = some o) (hd : o.data = .dict es ep) (hs : Heap.SameBut d h h') {x : V} {v : Value} (r : KeyE prog w h x v) : KeyE prog w h' x v := by
  cases r with
  | int => exact .int _ _
  | str _ _ ok => exact .str _ _ ok
  | tup is a k => exact .tup is a (k.keeps ho hd hs)
theorem KeyL.keeps {d : Addr} {o : Obj} {es ep} (ho : h.get? d = some o) (hd : o.data = .dict es ep) (hs : Heap.SameBut d h h') {x : List V} {v : List Value} (r : KeyL prog w h x v) : KeyL prog w h' x v := by
  induction r with
  | nil => exact .nil
  | cons e q ih => exact .cons (e.keeps ho hd hs) ih
noncomputable def kd : V → PyData
  | .int i => .int i
  | .str x => .str x
  | .tup l => .tuple (l.map fun v => .int (intOf v))
  | _ => .none
noncomputable def intsD (is : List Int) : List PyData := is.map .int
theorem kd_tup (is : List Int) : kd (.tup (is.map .int)) = .tuple (intsD is) := congrArg PyData.tuple (List.map_map ..)
theorem ints_read {is : List Int} {vs : List Value} (k : ItemsAre (intKind prog w) is vs) : ReadsAll h vs (intsD is) [] := by
  induction k with
  | nil => exact .nil
  | cons e q ih => exact (Value.isInt_shape e).elim fun t ht => ht ▸ .cons (.int _ t) ih
theorem ints_lay (is : List Int) : PyData.canLayAll0 (intsD is) = true := by
  induction is with
  | nil => rfl
  | cons i is ih => exact ih
theorem ints_flat (is : List Int) : PyData.depthAll (intsD is) = 0 := by
  induction is with
  | nil => rfl
  | cons i is ih => exact (congrArg (max 0) ih).trans rfl
theorem ints_eq (is : List Int) : ∀ js : List Int, PyData.eqvAll (intsD is) (intsD js) = decide (is = js) := by
  induction is with
  | nil => exact fun js => by cases js <;> rfl
  | cons i is ih =>
    intro js
    cases js with
    | nil => rfl
    | cons j js =>
      refine (congrArg ((i == j) && ·) (ih js)).trans ?_
      rw [Bool.eq_iff_iff]
      simp
structure KeyD (h : Heap) (x : V) (v : Value) : Prop where
  read : Reads h v (kd x) []
  lay : (kd x).canLay0 = true
  low : (kd x).depth ≤ 1
theorem KeyE.data {x : V} {v : Value} (r : KeyE prog w h x v) : KeyD h x v := by
  cases r with
  | int i t => exact ⟨.int i t, rfl, Nat.zero_le _⟩
  | str x t ok => exact ⟨.str x t, ok, Nat.zero_le _⟩
  | tup is a k =>
    obtain ⟨o, items, n, ho, hc, hd, hi⟩ := k
    exact ⟨kd_tup is ▸ .tuple ho hc hd (ints_read hi), kd_tup is ▸ ints_lay is, kd_tup is ▸ Nat.succ_le_succ (Nat.le_of_eq (ints_flat is))⟩
theorem KeyE.eqv {x y : V} {v u : Value} (r : KeyE prog w h x v) (q : KeyE prog w h y u) : PyData.eqv (kd x) (kd y) = decide (x = y) := by
  cases r with
  | int i t => cases q with
    | int j u => exact decide_eq_decide.mpr ⟨fun e => congrArg V.int e, V.int.inj⟩
    | str => exact (decide_eq_false (fun e => nomatch e)).symm
    | tup js => exact (decide_eq_false (fun e => nomatch e)).symm
  | str x t => cases q with
    | int => exact (decide_eq_false (fun e => nomatch e)).symm
    | str y u => exact decide_eq_decide.mpr ⟨fun e => congrArg V.str e, V.str.inj⟩
    | tup js => exact (decide_eq_false (fun e => nomatch e)).symm
  | tup is a k => cases q with
    | int => exact (decide_eq_false (fun e => nomatch e)).symm
    | str => exact (decide_eq_false (fun e => nomatch e)).symm
    | tup js =>
      rw [kd_tup, kd_tup]
      exact (ints_eq is js).trans (decide_eq_decide.mpr ⟨fun e => congrArg (fun is : List Int => V.tup (is.map .int)) e, fun e => by rw [← ints_back is, V.tup.inj e, ints_back]⟩)
structure KeysD (h : Heap) (l : List V) (vs : List Value) : Prop where
  read : ReadsAll h vs (l.map kd) []
  lay : PyData.canLayAll0 (l.map kd) = true
  low : PyData.depthAll (l.map kd) ≤ 1
theorem KeyL.data {l : List V} {vs : List Value} (r : KeyL prog w h l vs) : KeysD h l vs := by
  induction r with
  | nil => exact ⟨.nil, rfl, Nat.zero_le _⟩
  | cons e q ih => exact ⟨.cons e.data.read ih.read, Bool.and_eq_true_iff.mpr ⟨e.data.lay, ih.lay⟩, Nat.max_le.mpr ⟨e.data.low, ih.low⟩⟩
theorem KeyL.eqv {x : List V} {vs : List Value} (r : KeyL prog w h x vs) : ∀ {y : List V} {us : List Value}, KeyL prog w h y us → PyData.eqvAll (x.map kd) (y.map kd) = decide (x = y) := by
  induction r with
  | nil => exact fun q => by cases q <;> rfl
  | @cons x v l vs e q ih =>
    intro y us q'
    cases q' with
    | nil => rfl
    | @cons y u m us e' q' =>
      refine (congr (congrArg and (e.eqv e')) (ih q')).trans ?_
      rw [Bool.eq_iff_iff]
      simp
end
end QZ
namespace QZ
open PySem PySem.W PySem.Calls PyProof.Rows
section
variable {prog : Program} {w : World} {A : Around} {E : Value → Shared → Prop} {s : Shared}
theorem hash_one {x : V} {v : Value} {Q : Int → Shared → Prop} (hu : A.units < cLine) (r : KeyE prog w s.heap x v) (h : Q (hashV prog w x) { s with toks := s.toks + drawsV x }) : wpAny (model prog w) A (pyHash v) Q E s := by
  cases r with
  | int => exact wpAny_pyHash_int h
  | str => exact wpAny_pyHash_str h
  | tup is a k =>
    have h : Q (tupleKeyHash (intKind prog w) (intsV (is.map .int))) { s with toks := s.toks + ((intsV (is.map .int)).length + 1) } := h
    exact wpAny_pyHash_tuple hu k (ints_back is ▸ h)
noncomputable def keyHash (prog : Program) (w : World) (l : List V) : Int := reduceHash (Builtin.Tuple.tupleHashOf (l.map (hashV prog w)))
inductive HashAt (prog : Program) (w : World) (s : Shared) (l : List V) (rest : List Value) (b : Array Int) : Shared → Prop
  | mk (done left : List V) (e : l = done ++ left) (q : KeyL prog w s.heap left rest) (hb : b.toList = done.map (hashV prog w)) : HashAt prog w s l rest b { s with toks := s.toks + drawsL done }
theorem hash_key {l : List V} {a : Addr} {Q : Int → Shared → Prop} (hu : A.units + 64 < cLine) (hk : Keyed prog w s.heap l a) (h : Q (keyHash prog w l) { s with toks := s.toks + (drawsL l + 1) }) :
    wpAny (model prog w) A (pyHash (.ref a)) Q E s := by
  obtain ⟨items, hi, hq⟩ := hk
  have hT := hi.typeIs (s := s)
  obtain ⟨o, ho, hc, n, hd⟩ := hi
  unfold pyHash
  first | unfold pyHashByItsType | skip
  first | refine wpAny_bind (wpAny_cRoomFor_or (.inr (by omega)) ?_) | skip
  refine wpAny_bind (wpAny_specialOf hT F.slot_tuple_hash.lookup ?_)
  show wpAny _ _ (if (some (Value.builtin "tuple.__hash__") == some Value.none) = true then _ else _) Q E s
  rw [if_neg (by rw [beq_builtin_none]; exact Bool.false_ne_true)]
  refine wpAny_bind (wpAny_specialOf hT F.slot_tuple_hash.lookup ?_)
  show wpAny _ _ (callSpecialIfBoundUnlessNone? (.ref a) "__hash__" _ >>= _) Q E s
  refine wpAny_bind (wpAny_callSpecialIfBoundUnlessNone?_slot hT F.slot_tuple_hash (wpAny_call_entry F.slot_tuple_hash hT F.entry_tuple_hash ?_ (F.args_tuple_hash_1 _)))
  show wpAny _ _ (Builtin.Tuple.tupleItemsOf (.ref a) >>= _) _ _ s
  refine wpAny_bind (wpAny_tupleItemsOf ho hd (wpAny_bind ?_))
  rw [← Array.forIn_toList]
  refine wpAny_forIn_list _ (fun rest b s' => HashAt prog w s l rest b s') _ ?_ ?_ _ _ (.mk [] l rfl hq rfl)
  · rintro x rest b s' q
    cases q with
    | mk done left e q hb =>
      cases q with
      | @cons y v left rest rv rr =>
        refine wpAny_bind (hash_one (s := { s with toks := s.toks + drawsL done }) (by show A.units + 1 < cLine; omega) rv ?_)
        have e1 : s.toks + drawsL (done ++ [y]) = s.toks + drawsL done + drawsV y := by simp [drawsL, Nat.add_assoc]
        have K := HashAt.mk (s := s) (l := l) (b := b.push (hashV prog w y)) (done ++ [y]) left (by rw [e, List.append_assoc]; rfl) rr (by rw [Array.toList_push, hb, List.map_append]; rfl)
        rw [e1] at K
        first
          | exact wpAny_pure K
          | exact wpAny_bind (wpAny_pure (wpAny_pure K))
  · rintro b s' q
    cases q with
    | mk done left e q hb =>
      cases q with
      | nil =>
        rw [List.append_nil] at e
        show wpAny _ _ (retInt (Builtin.Tuple.tupleHashOf b.toList)) _ _ _
        rw [hb, ← e]
        refine wpAny_ret_mkInt ?_
        show wpAny _ _ (if (decide (-(2 : Int) ^ 63 ≤ Builtin.Tuple.tupleHashOf (l.map (hashV prog w))) && decide (Builtin.Tuple.tupleHashOf (l.map (hashV prog w)) < 2 ^ 63)) = true then _ else _) Q E _
        unfold keyHash reduceHash at h
        generalize Builtin.Tuple.tupleHashOf (l.map (hashV prog w)) = i at h ⊢
        by_cases hr : (decide (-(2 : Int) ^ 63 ≤ i) && decide (i < 2 ^ 63)) = true
        · rw [if_pos hr]
          rw [if_pos hr] at h
          exact wpAny_pure h
        · rw [if_neg hr]
          rw [if_neg hr] at h
          exact wpAny_bind (wpAny_rule (wpAny_pure h))
theorem eq_key {x y : List V} {a b : Addr} {Q : Bool → Shared → Prop} (hu : A.units + 64 < cLine) (hx : Keyed prog w s.heap x a) (hy : Keyed prog w s.heap y b) (h : Q (decide (x = y)) s) :
    wpAny (model prog w) A (eqBool (.ref a) (.ref b)) Q E s := by
  obtain ⟨i, ⟨o, ho, hc, n, hd⟩, hi⟩ := hx
  obtain ⟨j, ⟨o', ho', hc', n', hd'⟩, hj⟩ := hy
  exact SeqAt.eqAt_reads _ _ A s _ _ _ _ (show Reads s.heap (.ref a) (.tuple (x.map kd)) [] from .tuple ho hc hd hi.data.read) (show Reads s.heap (.ref b) (.tuple (y.map kd)) [] from .tuple ho' hc' hd' hj.data.read) hi.data.lay hj.data.lay (by have := hi.data.low; have : (PyData.tuple (x.map kd)).depth ≤ 2 := Nat.succ_le_succ this; omega) prog w E Q (show Q (PyData.eqvAll (x.map kd) (y.map kd)) s from hi.eqv hj ▸ h)
theorem quiet_tuple {n : Nat} {a : Addr} {items : Array Value} {Q : Bool → Shared → Prop} (hi : IsTup s.heap a items) (h : Q true s) (k : ∀ v ∈ items.toList, ∀ Q : Bool → Shared → Prop, Q true s → wpAny (model prog w) A (eqIsQuiet n v) Q E s) : wpAny (model prog w) A (eqIsQuiet (n + 1) (.ref a)) Q E s := by
  have hT := hi.typeIs (s := s)
  obtain ⟨o, ho, hc, m, hd⟩ := hi
  unfold eqIsQuiet
  refine wpAny_bind (wpAny_specialOf hT F.slot_tuple_eq.lookup ?_)
  show wpAny _ _ (isInstance (.ref a) (.type "tuple") >>= _) _ _ s
  refine wpAny_bind (wpAny_isInstance hT isSubtype_tuple_tuple ?_)
  simp only [Bool.not_true, Bool.false_eq_true, if_false]
  refine wpAny_bind (wpAny_seqItems ho hd (wpAny_bind ?_))
  show wpAny _ _ (forIn items _ _) _ _ s
  rw [← Array.forIn_toList]
  refine wpAny_forIn_list _ (fun rest r s' => r.1 = none ∧ s' = s ∧ ∀ v ∈ rest, ∀ Q : Bool → Shared → Prop, Q true s → wpAny (model prog w) A (eqIsQuiet n v) Q E s) _ ?_ ?_ _ _ ⟨rfl, rfl, k⟩
  · rintro v rest r s' ⟨hr, rfl, hall⟩
    refine wpAny_bind (hall v List.mem_cons_self _ ?_)
    simp only [Bool.not_true, Bool.false_eq_true, if_false]
    exact wpAny_pure ⟨rfl, rfl, fun u hu' => hall u (List.mem_cons_of_mem _ hu')⟩
  · rintro ⟨r1, r2⟩ s' ⟨hr, rfl, _⟩
    simp only at hr
    subst hr
    exact wpAny_pure h
theorem quiet_one {n : Nat} {x : V} {v : Value} {Q : Bool → Shared → Prop} (r : KeyE prog w s.heap x v) (h : Q true s) : wpAny (model prog w) A (eqIsQuiet (n + 2) v) Q E s := by
  cases r with
  | int => rw [eqIsQuiet_byValue _ rfl]; exact wpAny_pure h
  | str => rw [eqIsQuiet_byValue _ rfl]; exact wpAny_pure h
  | tup is a k =>
    obtain ⟨o, items, m, ho, hc, hd, hi⟩ := k
    exact quiet_tuple ⟨o, ho, hc, m, hd⟩ h fun v hv Q q => eqIsQuiet_byValue _ (hi.byValue v hv) ▸ wpAny_pure q
theorem KeyL.all {l : List V} {vs : List Value} {h : Heap} (q : KeyL prog w h l vs) : ∀ v ∈ vs, ∃ x, KeyE prog w h x v := by
  induction q with
  | nil => exact fun v hv => nomatch hv
  | cons e q ih => exact fun v hv => (List.mem_cons.mp hv).elim (fun h => ⟨_, h ▸ e⟩) (ih v)
theorem quiet_key {l : List V} {a : Addr} {Q : Bool → Shared → Prop} (hk : Keyed prog w s.heap l a) (h : Q true s) : wpAny (model prog w) A (eqIsQuiet 8 (.ref a)) Q E s :=
  hk.elim fun items k => quiet_tuple k.tup h fun v hv Q q => (k.items.all v hv).elim fun x e => quiet_one e q
end
noncomputable def vKind (prog : Program) (w : World) : HeapKind prog w (List V) where
  is := Keyed prog w
  hash := keyHash prog w
  draws := fun l => drawsL l + 1
  room := fun A => A.units + 64 < cLine
  inj := fun hx hy => by
    obtain ⟨i, ⟨o, ho, _, n, hd⟩, ri⟩ := hx
    obtain ⟨j, ⟨o', ho', _, n', hd'⟩, rj⟩ := hy
    cases ho.symm.trans ho'
    cases hd.symm.trans hd'
    exact ri.inj rj
  keeps := fun {h h' k a d o es ep} x ho hd hs => by
    obtain ⟨i, ⟨ob, hob, hc, n, hdt⟩, ri⟩ := x
    have hne : a ≠ d := fun e => by
      cases (e ▸ hob).symm.trans ho
      cases hd.symm.trans hdt
    exact ⟨i, ⟨ob, (hs.2 a hne).trans hob, hc, n, hdt⟩, ri.keeps ho hd hs⟩
  pyHash := fun hu hk h => hash_key hu hk h
  eqBool := fun hu hx hy h => eq_key hu hx hy h
  quiet := fun hk h => quiet_key hk h
end QZ
namespace QZ
open PySem PySem.W PySem.Calls PyProof.Rows
noncomputable def Frozen (o : Obj) : Prop := (o.cls = .type "tuple" ∧ ∃ xs n, o.data = .seq xs n) ∨ ∃ c d, o = instObj c d
noncomputable def Fz (h h' : Heap) : Prop := ∀ b o, h.get? b = some o → Frozen o → h'.get? b = some o
noncomputable def Pre (f f' : Fmap) : Prop := ∀ (n : Nat) (a : Addr), f[n]? = some a → f'[n]? = some a
theorem Pre.refl (f : Fmap) : Pre f f := fun _ _ e => e
theorem Pre.trans {f g k : Fmap} (x : Pre f g) (y : Pre g k) : Pre f k := fun n a e => y n a (x n a e)
theorem Pre.app (f g : Fmap) : Pre f (f ++ g) := fun n a e => by
  rw [List.getElem?_append_left (List.getElem?_eq_some_iff.mp e).1]; exact e
theorem Fz.refl (h : Heap) : Fz h h := fun _ _ e _ => e
theorem Fz.trans {h h' h'' : Heap} (x : Fz h h') (y : Fz h' h'') : Fz h h'' := fun b o e k => y b o (x b o e k) k
mutual
theorem Rel.mono {f f' : Fmap} {h h' : Heap} (p : Pre f f') (z : Fz h h') : ∀ {x : V} {v : Value}, Rel f h x v → Rel f' h' x v
  | .none, v, r => by rw [Rel] at r ⊢; exact r
  | .bool b, v, r => by rw [Rel] at r ⊢; exact r
  | .int i, v, r => by rw [Rel] at r ⊢; exact r
  | .str x, v, r => by rw [Rel] at r ⊢; exact r
  | .tup l, v, r => by
    rw [Rel] at r ⊢
    obtain ⟨a, items, e, ⟨o, ho, hc, n, q⟩, ri⟩ := r
    exact ⟨a, items, e, ⟨o, z a o ho (.inl ⟨hc, _, _, q⟩), hc, n, q⟩, RelL.mono p z ri⟩
  | .inst c n, v, r => by
    rw [Rel] at r ⊢
    obtain ⟨a, d, e, e1, e2⟩ := r
    exact ⟨a, d, e, p n d e1, z a _ e2 (.inr ⟨c, d, rfl⟩)⟩
  | .loc n, v, r => by
    rw [Rel] at r ⊢
    obtain ⟨a, e, e1⟩ := r
    exact ⟨a, e, p n a e1⟩
  | .ext a, v, r => by rw [Rel] at r ⊢; exact r
theorem RelL.mono {f f' : Fmap} {h h' : Heap} (p : Pre f f') (z : Fz h h') : ∀ {l : List V} {vs : List Value}, RelL f h l vs → RelL f' h' l vs
  | [], vs, r => by rw [RelL] at r; subst r; exact RelL.nil
  | x :: l, vs, r => by
    rw [RelL] at r
    obtain ⟨v, k, rfl, rv, rk⟩ := r
    exact RelL.cons (Rel.mono p z rv) (RelL.mono p z rk)
end
section
variable (prog : Program) (w : World)
inductive PairsG {K W : Type} (mk : K → V) (vl : W → Value) (f : Fmap) (h : Heap) : List (V × V) → List (K × W) → Prop
  | nil : PairsG mk vl f h [] []
  | cons {k x w l r} (e : Rel f h x (vl w)) (q : PairsG mk vl f h l r) : PairsG mk vl f h ((mk k, x) :: l) ((k, w) :: r)
noncomputable abbrev PairsI : Fmap → Heap → List (V × V) → List (Int × Value) → Prop := PairsG .int id
noncomputable abbrev PairsS : Fmap → Heap → List (V × V) → List (Str × Value) → Prop := PairsG .str id
noncomputable abbrev PairsT : Fmap → Heap → List (V × V) → List (List V × Addr × Value) → Prop := PairsG .tup (·.2)
noncomputable def attrTab : List String := ["append","extend","get","sort_names","sort_widths","fun_names","fun_args","fun_results","fresh_count","term_ops","term_args","term_sorts","term_datas","numbers","true_number","false_number","bv_numbers","bank","most","done","told","is_broken","rows","declare_fun","fresh_const","op","args","sort","data","width","make","want","bv_sort","want_bits","bv_num","bv_two","concat","extract","zero_extend","sign_extend","want_place","bit","carry","below","bits_of","put","open_sum","open_carry","open_wires","source_of","what"]
noncomputable def attrStr (n : Nat) : Str := Str.ofString (attrTab.getD n "")
structure AttrsAt (f : Fmap) (h : Heap) (l : List (Nat × V)) (es : List DictEntry) : Prop where
  keys : ∀ e ∈ es, ∃ x t, e.key = .str x t
  has : ∀ n v, lookA n l = some v → n < attrTab.length ∧ ∃ val, getL (attrStr n) es = some (some val) ∧ Rel f h v val
  no : ∀ x, (∀ n, n < attrTab.length → x = attrStr n → lookA n l = none) → getL x es = some none
  few : es.length ≤ l.length
noncomputable def ObjAt (f : Fmap) (h : Heap) (a : Addr) : O → Prop
  | .list l => ∃ its n, h.get? a = some (listOf its n) ∧ RelL f h l its.toList
  | .dict .i l => ∃ kvs, h.DictOf (intKind prog w) a kvs ∧ PairsI f h l kvs
  | .dict .s l => ∃ kvs, h.DictOf (strKind prog w) a kvs ∧ PairsS f h l kvs
  | .dict .t l => ∃ kvs, h.DictOfH (vKind prog w) a kvs ∧ PairsT f h l kvs
  | .attrs l => ∃ es n, h.get? a = some (dictOf es n) ∧ AttrsAt f h l es
theorem ObjAt.there {f : Fmap} {h : Heap} {a : Addr} {o : O} (x : ObjAt prog w f h a o) : ∃ ob, h.get? a = some ob ∧ (ob.cls = .type "list" ∨ ob.cls = .type "dict") := by
  cases o with
  | list l => obtain ⟨its, n, e, _⟩ := x; exact ⟨_, e, .inl rfl⟩
  | dict k l =>
    cases k with
    | i => obtain ⟨kvs, ⟨o, es, ep, e, hc, _⟩, _⟩ := x; exact ⟨o, e, .inr hc.1⟩
    | s => obtain ⟨kvs, ⟨o, es, ep, e, hc, _⟩, _⟩ := x; exact ⟨o, e, .inr hc.1⟩
    | t => obtain ⟨kvs, ⟨o, es, ep, e, hc, _⟩, _⟩ := x; exact ⟨o, e, .inr hc.1⟩
  | attrs l => obtain ⟨es, n, e, _⟩ := x; exact ⟨_, e, .inr rfl⟩
theorem PairsG.mono {K W : Type} {mk : K → V} {vl : W → Value} {f f' : Fmap} {h h' : Heap} (p : Pre f f') (z : Fz h h') {l : List (V × V)} {k : List (K × W)} (r : PairsG mk vl f h l k) : PairsG mk vl f' h' l k := by
  induction r with
  | nil => exact .nil
  | cons e q ih => exact .cons (e.mono p z) ih
theorem tup_mono {h h' : Heap} (z : Fz h h') {a : Addr} {items : Array Value} (x : IsTup h a items) : IsTup h' a items := x.elim fun o q => ⟨o, z a o q.1 (.inl ⟨q.2.1, q.2.2.elim fun n e => ⟨_, n, e⟩⟩), q.2⟩
theorem KeyE.mono {h h' : Heap} (z : Fz h h') {x : V} {v : Value} (r : KeyE prog w h x v) : KeyE prog w h' x v := by
  cases r with
  | int => exact .int _ _
  | str _ _ ok => exact .str _ _ ok
  | tup is a k =>
    obtain ⟨o, items, n, ho, hc, hd, hi⟩ := k
    exact .tup is a ⟨o, items, n, z a o ho (.inl ⟨hc, _, _, hd⟩), hc, hd, hi⟩
theorem KeyL.mono {h h' : Heap} (z : Fz h h') {x : List V} {v : List Value} (r : KeyL prog w h x v) : KeyL prog w h' x v := by
  induction r with
  | nil => exact .nil
  | cons e q ih => exact .cons (e.mono prog w z) ih
theorem keyed_mono {h h' : Heap} (z : Fz h h') {k : List V} {a : Addr} (x : Keyed prog w h k a) : Keyed prog w h' k a := x.elim fun items q => ⟨items, tup_mono z q.tup, q.items.mono prog w z⟩
theorem ObjAt.mono {f f' : Fmap} {h h' : Heap} (p : Pre f f') (z : Fz h h') {a : Addr} {o : O} (e : ∀ ob, h.get? a = some ob → h'.get? a = some ob) (x : ObjAt prog w f h a o) : ObjAt prog w f' h' a o := by
  cases o with
  | list l => obtain ⟨its, n, q, r⟩ := x; exact ⟨its, n, e _ q, RelL.mono p z r⟩
  | dict k l =>
    cases k with
    | i => obtain ⟨kvs, ⟨o, es, ep, q, r⟩, r'⟩ := x; exact ⟨kvs, ⟨o, es, ep, e _ q, r⟩, r'.mono p z⟩
    | s => obtain ⟨kvs, ⟨o, es, ep, q, r⟩, r'⟩ := x; exact ⟨kvs, ⟨o, es, ep, e _ q, r⟩, r'.mono p z⟩
    | t =>
      obtain ⟨kvs, ⟨o, es, ep, q, r1, r2, r3, r4, r5⟩, r'⟩ := x
      exact ⟨kvs, ⟨o, es, ep, e _ q, r1, r2, r3, fun x hx => keyed_mono prog w z (r4 x hx), r5⟩, r'.mono p z⟩
  | attrs l =>
    obtain ⟨es, n, q, r⟩ := x
    refine ⟨es, n, e _ q, r.keys, fun m v hv => ?_, r.no, r.few⟩
    obtain ⟨h1, val, h2, h3⟩ := r.has m v hv
    exact ⟨h1, val, h2, h3.mono p z⟩
structure Ok (base : Heap) (f : Fmap) (σ : St) (h : Heap) : Prop where
  len : f.length = σ.length
  nodup : f.Nodup
  at_ : ∀ (i : Nat) (a : Addr) (o : O), f[i]? = some a → σ[i]? = some o → ObjAt prog w f h a o
  fresh : ∀ a ∈ f, base.get? a = none
  stay : ∀ b o, base.get? b = some o → h.get? b = some o
end
noncomputable def Ext (f : Fmap) (h h' : Heap) : Prop := ∀ b o, h.get? b = some o → b ∉ f → h'.get? b = some o
section
variable {prog : Program} {w : World} {base h h' : Heap} {f : Fmap} {σ : St}
theorem Ok.lookup (x : Ok prog w base f σ h) {i : Nat} {o : O} (e : σ[i]? = some o) : ∃ a, f[i]? = some a ∧ ObjAt prog w f h a o := by
  have : i < f.length := by rw [x.len]; exact (List.getElem?_eq_some_iff.mp e).1
  exact ⟨f[i], List.getElem?_eq_getElem this, x.at_ i _ o (List.getElem?_eq_getElem this) e⟩
theorem Ok.notFrozen (x : Ok prog w base f σ h) {a : Addr} (ha : a ∈ f) : ∃ ob, h.get? a = some ob ∧ ¬ Frozen ob := by
  obtain ⟨i, hi⟩ := List.mem_iff_getElem?.mp ha
  have : i < σ.length := by rw [← x.len]; exact (List.getElem?_eq_some_iff.mp hi).1
  obtain ⟨ob, e, hc⟩ := (x.at_ i a _ hi (List.getElem?_eq_getElem this)).there
  refine ⟨ob, e, ?_⟩
  rintro (⟨q, _⟩ | ⟨c, d, rfl⟩)
  · rw [q] at hc; rcases hc with q | q <;> (injection q with q; revert q; decide)
  · rcases hc with q | q <;> cases q
theorem Ok.fz (x : Ok prog w base f σ h) (z : Ext f h h') : Fz h h' := fun b o e k => z b o e fun hb => by
  obtain ⟨ob, e', k'⟩ := x.notFrozen hb
  rw [e] at e'; cases e'
  exact k' k
theorem Ok.lt (x : Ok prog w base f σ h) {a : Addr} (ha : a ∈ f) : a < h.objs.size := by
  obtain ⟨ob, e, _⟩ := x.notFrozen ha; exact Heap.lt_size e
theorem Ok.keeps (x : Ok prog w base f σ h) (k : ∀ b o, h.get? b = some o → h'.get? b = some o) : Ok prog w base f σ h' where
  len := x.len
  nodup := x.nodup
  at_ := fun i a o e1 e2 => (x.at_ i a o e1 e2).mono _ _ (Pre.refl f) (fun b o e _ => k b o e) fun ob e => k a ob e
  fresh := x.fresh
  stay := fun b o e => k b o (x.stay b o e)
theorem Ok.set (x : Ok prog w base f σ h) {i : Nat} {a : Addr} {o' : O} (hi : f[i]? = some a) (hs : ∀ b o, h.get? b = some o → b ≠ a → h'.get? b = some o) (e : ObjAt prog w f h' a o') : Ok prog w base f (σ.set i o') h' := by
  have ha : a ∈ f := List.mem_of_getElem? hi
  have z : Fz h h' := x.fz fun b o e hb => hs b o e fun q => hb (q ▸ ha)
  refine ⟨by rw [x.len, List.length_set], x.nodup, fun j b o e1 e2 => ?_, x.fresh, fun b o k => hs b o (x.stay b o k) fun q => ?_⟩
  · by_cases hj : i = j
    · subst hj
      rw [hi] at e1; cases e1
      rw [List.getElem?_set_self (by rw [← x.len]; exact (List.getElem?_eq_some_iff.mp hi).1)] at e2
      cases e2; exact e
    · rw [List.getElem?_set_ne hj] at e2
      refine (x.at_ j b o e1 e2).mono _ _ (Pre.refl f) z fun ob q => hs b ob q fun qb => ?_
      subst qb
      have hl1 := (List.getElem?_eq_some_iff.mp hi)
      have hl2 := (List.getElem?_eq_some_iff.mp e1)
      exact hj ((List.getElem?_inj hl1.1 x.nodup).mp (hi.trans e1.symm))
  · subst q
    rw [x.fresh b ha] at k; cases k
theorem Ok.push (x : Ok prog w base f σ h) {a : Addr} {o : O} (k : ∀ b o, h.get? b = some o → h'.get? b = some o) (ha : h.get? a = none) (e : ObjAt prog w (f ++ [a]) h' a o) : Ok prog w base (f ++ [a]) (σ ++ [o]) h' := by
  have hn : a ∉ f := fun q => by obtain ⟨ob, e, _⟩ := x.notFrozen q; rw [ha] at e; cases e
  refine ⟨by simp [x.len], ?_, fun j b o' e1 e2 => ?_, fun b hb => ?_, fun b o e => k b o (x.stay b o e)⟩
  · rw [List.nodup_append]
    exact ⟨x.nodup, by simp, fun y hy z hz => by simp only [List.mem_singleton] at hz; subst hz; exact fun q => hn (q ▸ hy)⟩
  · by_cases hj : j < f.length
    · rw [List.getElem?_append_left hj] at e1
      rw [List.getElem?_append_left (by rw [← x.len]; exact hj)] at e2
      exact (x.at_ j b o' e1 e2).mono _ _ (Pre.app f _) (fun b o e _ => k b o e) fun ob q => k b ob q
    · rw [List.getElem?_append_right (Nat.not_lt.mp hj)] at e1
      rw [List.getElem?_append_right (by rw [← x.len]; exact Nat.not_lt.mp hj), ← x.len] at e2
      have hj0 : j - f.length = 0 := by
        have := (List.getElem?_eq_some_iff.mp e1).1
        simp at this; omega
      rw [hj0] at e1 e2
      simp only [List.getElem?_cons_zero, Option.some.injEq] at e1 e2
      subst e1; subst e2; exact e
  · rcases List.mem_append.mp hb with hb | hb
    · exact x.fresh b hb
    · simp only [List.mem_singleton] at hb
      subst hb
      cases q : base.get? b with
      | none => rfl
      | some o => have := x.stay b o q; rw [ha] at this; cases this
end
structure Nxt (ex : List Addr) (f : Fmap) (h : Heap) (f' : Fmap) (h' : Heap) : Prop where
  app : ∃ g, f' = f ++ g ∧ ∀ a ∈ g, h.get? a = none
  ext : Ext (ex ++ f) h h'
  ns : ∀ L ∈ ex, ∀ m, h.Ns L m → h'.Ns L m
  live : ∀ b o, h.get? b = some o → ∃ o', h'.get? b = some o'
theorem Nxt.refl (ex : List Addr) (f : Fmap) (h : Heap) : Nxt ex f h f h := ⟨⟨[], by simp, by simp⟩, fun _ _ e _ => e, fun _ _ _ n => n, fun _ o e => ⟨o, e⟩⟩
theorem Nxt.trans {ex : List Addr} {f f' f'' : Fmap} {h h' h'' : Heap} (x : Nxt ex f h f' h') (y : Nxt ex f' h' f'' h'') : Nxt ex f h f'' h'' := by
  obtain ⟨⟨g, rfl, hg⟩, e1, n1, l1⟩ := x
  obtain ⟨⟨g', rfl, hg'⟩, e2, n2, l2⟩ := y
  refine ⟨⟨g ++ g', by rw [List.append_assoc], fun a ha => ?_⟩, fun b o e hb => e2 b o (e1 b o e hb) fun q => ?_, fun L hL m n => n2 L hL m (n1 L hL m n), fun b o e => let ⟨o', e'⟩ := l1 b o e; l2 b o' e'⟩
  · rcases List.mem_append.mp ha with q | q
    · exact hg a q
    · cases k : h.get? a with
      | none => rfl
      | some o => obtain ⟨o', e'⟩ := l1 a o k; rw [hg' a q] at e'; cases e'
  · rw [← List.append_assoc] at q
    rcases List.mem_append.mp q with q | q
    · exact hb q
    · rw [hg b q] at e; cases e
theorem Nxt.pre {ex : List Addr} {f f' : Fmap} {h h' : Heap} (x : Nxt ex f h f' h') : Pre f f' := by
  obtain ⟨⟨g, rfl, _⟩, _, _, _⟩ := x; exact Pre.app f g
theorem Nxt.of_keeps {ex : List Addr} {f : Fmap} {h h' : Heap} (k : ∀ b o, h.get? b = some o → h'.get? b = some o) : Nxt ex f h f h' :=
  ⟨⟨[], by simp, by simp⟩, fun b o e _ => k b o e, fun L _ m ⟨o, es, ep, e, r⟩ => ⟨o, es, ep, k _ _ e, r⟩, fun b o e => ⟨o, k b o e⟩⟩
theorem Nxt.more {ex : List Addr} {f f' : Fmap} {h h' : Heap} (x : Nxt [] f h f' h') (hn : ∀ L ∈ ex, L ∉ f) : Nxt ex f h f' h' :=
  ⟨x.app, fun b o e hb => x.ext b o e fun q => hb (List.mem_append.mpr (.inr (by simpa using q))), fun L hL m ⟨o, es, ep, e, r⟩ => ⟨o, es, ep, x.ext _ _ e (by simpa using hn L hL), r⟩, x.live⟩
noncomputable def ExOk (ex : List Addr) (h : Heap) : Prop := ∀ L ∈ ex, ∃ m, h.Ns L m
theorem ExOk.nil (h : Heap) : ExOk [] h := fun _ q => nomatch q
theorem ExOk.one {L : Addr} {h : Heap} {m : Str → Option Value} (n : h.Ns L m) : ExOk [L] h := fun b q => by
  simp only [List.mem_singleton] at q; subst q; exact ⟨m, n⟩
theorem Nxt.fz {prog : Program} {w : World} {base h h' : Heap} {ex : List Addr} {f f' : Fmap} {σ : St} (x : Nxt ex f h f' h') (hex : ExOk ex h) (k : Ok prog w base f σ h) : Fz h h' := fun b o e fz => x.ext b o e fun q => by
  rcases List.mem_append.mp q with q | q
  · obtain ⟨m, o', es, ep, e', hd, _⟩ := hex b q
    rw [e] at e'; cases e'
    rcases fz with ⟨_, xs, n, fz⟩ | ⟨c, d, rfl⟩
    · rw [hd] at fz; cases fz
    · cases hd
  · obtain ⟨ob, e', k'⟩ := k.notFrozen q
    rw [e] at e'; cases e'
    exact k' fz
theorem Nxt.notin {ex : List Addr} {f f' : Fmap} {h h' : Heap} (x : Nxt ex f h f' h') {a : Addr} {o : Obj} (e : h.get? a = some o) (n : a ∉ f) : a ∉ f' := by
  obtain ⟨⟨g, rfl, hg⟩, _, _, _⟩ := x
  intro q
  rcases List.mem_append.mp q with q | q
  · exact n q
  · rw [hg a q] at e; cases e
theorem Nxt.out {ex : List Addr} {f f' : Fmap} {h h' : Heap} (x : Nxt ex f h f' h') {a : Addr} {o : Obj} (e : h.get? a = some o) (hx : a ∉ ex) (n : a ∉ f) : h'.get? a = some o ∧ a ∉ f' :=
  ⟨x.ext a o e fun q => (List.mem_append.mp q).elim hx n, x.notin e n⟩
theorem Nxt.of_set {ex : List Addr} {f : Fmap} {h h' : Heap} {a : Addr} (ha : a ∈ f) (hx : ∀ L ∈ ex, L ∉ f) (hs : ∀ b o, h.get? b = some o → b ≠ a → h'.get? b = some o) (hl : ∃ o', h'.get? a = some o') : Nxt ex f h f h' := by
  refine ⟨⟨[], by simp, by simp⟩, fun b o e q => hs b o e fun z => q (List.mem_append.mpr (.inr (z ▸ ha))), fun L hL m ⟨o, es, ep, e, r⟩ => ⟨o, es, ep, hs L o e fun z => hx L hL (z ▸ ha), r⟩, fun b o e => ?_⟩
  by_cases q : b = a
  · subst q; exact hl
  · exact ⟨o, hs b o e q⟩
theorem Nxt.of_push {ex : List Addr} {f : Fmap} {h h' : Heap} {a : Addr} (k : ∀ b o, h.get? b = some o → h'.get? b = some o) (ha : h.get? a = none) : Nxt ex f h (f ++ [a]) h' :=
  ⟨⟨[a], rfl, fun b hb => by simp only [List.mem_singleton] at hb; subst hb; exact ha⟩, fun b o e _ => k b o e, fun L _ m ⟨o, es, ep, e, r⟩ => ⟨o, es, ep, k _ _ e, r⟩, fun b o e => ⟨o, k b o e⟩⟩
theorem none_at (h : Heap) : h.get? h.objs.size = none := by
  cases q : h.get? h.objs.size with
  | none => rfl
  | some o => exact absurd (Heap.lt_size q) (Nat.lt_irrefl _)
end QZ
namespace QZ
open PySem PySem.W PySem.Calls PyProof.Rows
structure Tab where
  G : List (Str × V)
  F : List (Str × Addr)
  E : List Addr := []
noncomputable def biName : BI → String
  | .len => "len" | .abs => "abs" | .min => "min" | .sum => "sum" | .sorted => "sorted" | .int => "int" | .tuple => "tuple" | .list => "list" | .dict => "dict"
noncomputable abbrev Names := List (Str × NameKind)
noncomputable abbrev Slots := List (Str × Nat)
noncomputable def dbg : Str := Str.ofString "__debug__"
noncomputable def isField (n : Nat) : Bool := (3 ≤ n && n ≤ 22) || n == 50
noncomputable def xAt (e : X) (i : Nat) (g : e.ctorIdx = i → Bool) : Bool := if h : e.ctorIdx = i then g h else false
theorem xAt_of {e : X} {i : Nat} {g : e.ctorIdx = i → Bool} {G : Prop} (h : xAt e i g = true) (kk : ∀ hi, g hi = true → G) : G := by
  unfold xAt at h
  split at h
  · exact kk _ h
  · cases h
noncomputable def xlit (e : X) (g : V → Bool) : Bool := xAt e 0 fun h => X.lit.elim (motive_1 := fun _ => Bool) e h g
theorem xlit_of {e : X} {g : V → Bool} {M : X → Prop} (h : xlit e g = true) (kk : ∀ v, g v = true → M (.lit v)) : M e := by
  refine xAt_of h fun hi => ?_
  exact X.lit.elim (motive_1 := fun e => ∀ hi, X.lit.elim (motive_1 := fun _ => Bool) e hi g = true → M e) e hi (fun v _ h => kk v h) hi
noncomputable def xcomp (e : X) (g : X → QZ.T → Src → XL → Nat → Bool) : Bool := xAt e 20 fun h => X.comp.elim (motive_1 := fun _ => Bool) e h g
theorem xcomp_of {e : X} {g : X → QZ.T → Src → XL → Nat → Bool} {M : X → Prop} (h : xcomp e g = true) (kk : ∀ e t s c k, g e t s c k = true → M (.comp e t s c k)) : M e := by
  refine xAt_of h fun hi => ?_
  exact X.comp.elim (motive_1 := fun e => ∀ hi, X.comp.elim (motive_1 := fun _ => Bool) e hi g = true → M e) e hi (fun e t s c k _ h => kk e t s c k h) hi
noncomputable def eAt (e : Expr) (i : Nat) (g : e.ctorIdx = i → Bool) : Bool := if h : e.ctorIdx = i then g h else false
theorem eAt_of {e : Expr} {i : Nat} {g : e.ctorIdx = i → Bool} {G : Prop} (h : eAt e i g = true) (kk : ∀ hi, g hi = true → G) : G := by
  unfold eAt at h
  split at h
  · exact kk _ h
  · cases h
noncomputable def eBoolOp (e : Expr) (g : BoolOp → List Expr → Pos → Bool) : Bool := eAt e 0 fun h => Expr.BoolOp.elim (motive_1 := fun _ => Bool) e h g
theorem eBoolOp_of {e : Expr} {g : BoolOp → List Expr → Pos → Bool} {M : Expr → Prop} (h : eBoolOp e g = true) (kk : ∀ op vs p, g op vs p = true → M (.BoolOp op vs p)) : M e := by
  refine eAt_of h fun hi => ?_
  exact Expr.BoolOp.elim (motive_1 := fun e => ∀ hi, Expr.BoolOp.elim (motive_1 := fun _ => Bool) e hi g = true → M e) e hi (fun op vs p _ h => kk op vs p h) hi
noncomputable def eBinOp (e : Expr) (g : Expr → Operator → Expr → Pos → Bool) : Bool := eAt e 2 fun h => Expr.BinOp.elim (motive_1 := fun _ => Bool) e h g
theorem eBinOp_of {e : Expr} {g : Expr → Operator → Expr → Pos → Bool} {M : Expr → Prop} (h : eBinOp e g = true) (kk : ∀ l o r p, g l o r p = true → M (.BinOp l o r p)) : M e := by
  refine eAt_of h fun hi => ?_
  exact Expr.BinOp.elim (motive_1 := fun e => ∀ hi, Expr.BinOp.elim (motive_1 := fun _ => Bool) e hi g = true → M e) e hi (fun l o r p _ h => kk l o r p h) hi
noncomputable def eUnaryOp (e : Expr) (g : UnaryOp → Expr → Pos → Bool) : Bool := eAt e 3 fun h => Expr.UnaryOp.elim (motive_1 := fun _ => Bool) e h g
theorem eUnaryOp_of {e : Expr} {g : UnaryOp → Expr → Pos → Bool} {M : Expr → Prop} (h : eUnaryOp e g = true) (kk : ∀ o x p, g o x p = true → M (.UnaryOp o x p)) : M e := by
  refine eAt_of h fun hi => ?_
  exact Expr.UnaryOp.elim (motive_1 := fun e => ∀ hi, Expr.UnaryOp.elim (motive_1 := fun _ => Bool) e hi g = true → M e) e hi (fun o x p _ h => kk o x p h) hi
noncomputable def eIfExp (e : Expr) (g : Expr → Expr → Expr → Pos → Bool) : Bool := eAt e 5 fun h => Expr.IfExp.elim (motive_1 := fun _ => Bool) e h g
theorem eIfExp_of {e : Expr} {g : Expr → Expr → Expr → Pos → Bool} {M : Expr → Prop} (h : eIfExp e g = true) (kk : ∀ t x y p, g t x y p = true → M (.IfExp t x y p)) : M e := by
  refine eAt_of h fun hi => ?_
  exact Expr.IfExp.elim (motive_1 := fun e => ∀ hi, Expr.IfExp.elim (motive_1 := fun _ => Bool) e hi g = true → M e) e hi (fun t x y p _ h => kk t x y p h) hi
noncomputable def eDict (e : Expr) (g : List (Option Expr) → List Expr → Pos → Bool) : Bool := eAt e 6 fun h => Expr.Dict.elim (motive_1 := fun _ => Bool) e h g
theorem eDict_of {e : Expr} {g : List (Option Expr) → List Expr → Pos → Bool} {M : Expr → Prop} (h : eDict e g = true) (kk : ∀ ks vs p, g ks vs p = true → M (.Dict ks vs p)) : M e := by
  refine eAt_of h fun hi => ?_
  exact Expr.Dict.elim (motive_1 := fun e => ∀ hi, Expr.Dict.elim (motive_1 := fun _ => Bool) e hi g = true → M e) e hi (fun ks vs p _ h => kk ks vs p h) hi
noncomputable def eListComp (e : Expr) (g : Expr → List Comprehension → Scope → Pos → Bool) : Bool := eAt e 8 fun h => Expr.ListComp.elim (motive_1 := fun _ => Bool) e h g
theorem eListComp_of {e : Expr} {g : Expr → List Comprehension → Scope → Pos → Bool} {M : Expr → Prop} (h : eListComp e g = true) (kk : ∀ e gs sc p, g e gs sc p = true → M (.ListComp e gs sc p)) : M e := by
  refine eAt_of h fun hi => ?_
  exact Expr.ListComp.elim (motive_1 := fun e => ∀ hi, Expr.ListComp.elim (motive_1 := fun _ => Bool) e hi g = true → M e) e hi (fun e gs sc p _ h => kk e gs sc p h) hi
noncomputable def eCompare (e : Expr) (g : Expr → List CmpOp → List Expr → Pos → Bool) : Bool := eAt e 15 fun h => Expr.Compare.elim (motive_1 := fun _ => Bool) e h g
theorem eCompare_of {e : Expr} {g : Expr → List CmpOp → List Expr → Pos → Bool} {M : Expr → Prop} (h : eCompare e g = true) (kk : ∀ l os rs p, g l os rs p = true → M (.Compare l os rs p)) : M e := by
  refine eAt_of h fun hi => ?_
  exact Expr.Compare.elim (motive_1 := fun e => ∀ hi, Expr.Compare.elim (motive_1 := fun _ => Bool) e hi g = true → M e) e hi (fun l os rs p _ h => kk l os rs p h) hi
noncomputable def eCall (e : Expr) (g : Expr → List Expr → List Keyword → Pos → Bool) : Bool := eAt e 16 fun h => Expr.Call.elim (motive_1 := fun _ => Bool) e h g
theorem eCall_of {e : Expr} {g : Expr → List Expr → List Keyword → Pos → Bool} {M : Expr → Prop} (h : eCall e g = true) (kk : ∀ fn es kws p, g fn es kws p = true → M (.Call fn es kws p)) : M e := by
  refine eAt_of h fun hi => ?_
  exact Expr.Call.elim (motive_1 := fun e => ∀ hi, Expr.Call.elim (motive_1 := fun _ => Bool) e hi g = true → M e) e hi (fun fn es kws p _ h => kk fn es kws p h) hi
noncomputable def eFormattedValue (e : Expr) (g : Expr → Int → Option Expr → Pos → Bool) : Bool := eAt e 17 fun h => Expr.FormattedValue.elim (motive_1 := fun _ => Bool) e h g
theorem eFormattedValue_of {e : Expr} {g : Expr → Int → Option Expr → Pos → Bool} {M : Expr → Prop} (h : eFormattedValue e g = true) (kk : ∀ e c fs p, g e c fs p = true → M (.FormattedValue e c fs p)) : M e := by
  refine eAt_of h fun hi => ?_
  exact Expr.FormattedValue.elim (motive_1 := fun e => ∀ hi, Expr.FormattedValue.elim (motive_1 := fun _ => Bool) e hi g = true → M e) e hi (fun e c fs p _ h => kk e c fs p h) hi
noncomputable def eJoinedStr (e : Expr) (g : List Expr → Pos → Bool) : Bool := eAt e 18 fun h => Expr.JoinedStr.elim (motive_1 := fun _ => Bool) e h g
theorem eJoinedStr_of {e : Expr} {g : List Expr → Pos → Bool} {M : Expr → Prop} (h : eJoinedStr e g = true) (kk : ∀ vs p, g vs p = true → M (.JoinedStr vs p)) : M e := by
  refine eAt_of h fun hi => ?_
  exact Expr.JoinedStr.elim (motive_1 := fun e => ∀ hi, Expr.JoinedStr.elim (motive_1 := fun _ => Bool) e hi g = true → M e) e hi (fun vs p _ h => kk vs p h) hi
noncomputable def eConstant (e : Expr) (g : Const → Nat → Pos → Bool) : Bool := eAt e 19 fun h => Expr.Constant.elim (motive_1 := fun _ => Bool) e h g
theorem eConstant_of {e : Expr} {g : Const → Nat → Pos → Bool} {M : Expr → Prop} (h : eConstant e g = true) (kk : ∀ c k p, g c k p = true → M (.Constant c k p)) : M e := by
  refine eAt_of h fun hi => ?_
  exact Expr.Constant.elim (motive_1 := fun e => ∀ hi, Expr.Constant.elim (motive_1 := fun _ => Bool) e hi g = true → M e) e hi (fun c k p _ h => kk c k p h) hi
noncomputable def eAttribute (e : Expr) (g : Expr → Str → Pos → Bool) : Bool := eAt e 20 fun h => Expr.Attribute.elim (motive_1 := fun _ => Bool) e h g
theorem eAttribute_of {e : Expr} {g : Expr → Str → Pos → Bool} {M : Expr → Prop} (h : eAttribute e g = true) (kk : ∀ o x p, g o x p = true → M (.Attribute o x p)) : M e := by
  refine eAt_of h fun hi => ?_
  exact Expr.Attribute.elim (motive_1 := fun e => ∀ hi, Expr.Attribute.elim (motive_1 := fun _ => Bool) e hi g = true → M e) e hi (fun o x p _ h => kk o x p h) hi
noncomputable def eSubscript (e : Expr) (g : Expr → Expr → Pos → Bool) : Bool := eAt e 21 fun h => Expr.Subscript.elim (motive_1 := fun _ => Bool) e h g
theorem eSubscript_of {e : Expr} {g : Expr → Expr → Pos → Bool} {M : Expr → Prop} (h : eSubscript e g = true) (kk : ∀ o i p, g o i p = true → M (.Subscript o i p)) : M e := by
  refine eAt_of h fun hi => ?_
  exact Expr.Subscript.elim (motive_1 := fun e => ∀ hi, Expr.Subscript.elim (motive_1 := fun _ => Bool) e hi g = true → M e) e hi (fun o i p _ h => kk o i p h) hi
noncomputable def eName (e : Expr) (g : Str → Pos → Bool) : Bool := eAt e 23 fun h => Expr.Name.elim (motive_1 := fun _ => Bool) e h g
theorem eName_of {e : Expr} {g : Str → Pos → Bool} {M : Expr → Prop} (h : eName e g = true) (kk : ∀ x p, g x p = true → M (.Name x p)) : M e := by
  refine eAt_of h fun hi => ?_
  exact Expr.Name.elim (motive_1 := fun e => ∀ hi, Expr.Name.elim (motive_1 := fun _ => Bool) e hi g = true → M e) e hi (fun x p _ h => kk x p h) hi
noncomputable def eList (e : Expr) (g : List Expr → Pos → Bool) : Bool := eAt e 24 fun h => Expr.List.elim (motive_1 := fun _ => Bool) e h g
theorem eList_of {e : Expr} {g : List Expr → Pos → Bool} {M : Expr → Prop} (h : eList e g = true) (kk : ∀ es p, g es p = true → M (.List es p)) : M e := by
  refine eAt_of h fun hi => ?_
  exact Expr.List.elim (motive_1 := fun e => ∀ hi, Expr.List.elim (motive_1 := fun _ => Bool) e hi g = true → M e) e hi (fun es p _ h => kk es p h) hi
noncomputable def eTuple (e : Expr) (g : List Expr → Nat → Pos → Bool) : Bool := eAt e 25 fun h => Expr.Tuple.elim (motive_1 := fun _ => Bool) e h g
theorem eTuple_of {e : Expr} {g : List Expr → Nat → Pos → Bool} {M : Expr → Prop} (h : eTuple e g = true) (kk : ∀ es k p, g es k p = true → M (.Tuple es k p)) : M e := by
  refine eAt_of h fun hi => ?_
  exact Expr.Tuple.elim (motive_1 := fun e => ∀ hi, Expr.Tuple.elim (motive_1 := fun _ => Bool) e hi g = true → M e) e hi (fun es k p _ h => kk es k p h) hi
noncomputable def eSlice (e : Expr) (g : Option Expr → Option Expr → Option Expr → Pos → Bool) : Bool := eAt e 26 fun h => Expr.Slice.elim (motive_1 := fun _ => Bool) e h g
theorem eSlice_of {e : Expr} {g : Option Expr → Option Expr → Option Expr → Pos → Bool} {M : Expr → Prop} (h : eSlice e g = true) (kk : ∀ l u st p, g l u st p = true → M (.Slice l u st p)) : M e := by
  refine eAt_of h fun hi => ?_
  exact Expr.Slice.elim (motive_1 := fun e => ∀ hi, Expr.Slice.elim (motive_1 := fun _ => Bool) e hi g = true → M e) e hi (fun l u st p _ h => kk l u st p h) hi
noncomputable def sAt (e : Stmt) (i : Nat) (g : e.ctorIdx = i → Bool) : Bool := if h : e.ctorIdx = i then g h else false
theorem sAt_of {e : Stmt} {i : Nat} {g : e.ctorIdx = i → Bool} {G : Prop} (h : sAt e i g = true) (kk : ∀ hi, g hi = true → G) : G := by
  unfold sAt at h
  split at h
  · exact kk _ h
  · cases h
noncomputable def sReturn (e : Stmt) (g : Option Expr → Pos → Bool) : Bool := sAt e 3 fun h => Stmt.Return.elim (motive_2 := fun _ => Bool) e h g
theorem sReturn_of {e : Stmt} {g : Option Expr → Pos → Bool} {M : Stmt → Prop} (h : sReturn e g = true) (kk : ∀ v p, g v p = true → M (.Return v p)) : M e := by
  refine sAt_of h fun hi => ?_
  exact Stmt.Return.elim (motive_2 := fun e => ∀ hi, Stmt.Return.elim (motive_2 := fun _ => Bool) e hi g = true → M e) e hi (fun v p _ h => kk v p h) hi
noncomputable def sAssign (e : Stmt) (g : List Expr → Expr → Pos → Bool) : Bool := sAt e 5 fun h => Stmt.Assign.elim (motive_2 := fun _ => Bool) e h g
theorem sAssign_of {e : Stmt} {g : List Expr → Expr → Pos → Bool} {M : Stmt → Prop} (h : sAssign e g = true) (kk : ∀ ts v p, g ts v p = true → M (.Assign ts v p)) : M e := by
  refine sAt_of h fun hi => ?_
  exact Stmt.Assign.elim (motive_2 := fun e => ∀ hi, Stmt.Assign.elim (motive_2 := fun _ => Bool) e hi g = true → M e) e hi (fun ts v p _ h => kk ts v p h) hi
noncomputable def sAugAssign (e : Stmt) (g : Expr → Operator → Expr → Pos → Bool) : Bool := sAt e 7 fun h => Stmt.AugAssign.elim (motive_2 := fun _ => Bool) e h g
theorem sAugAssign_of {e : Stmt} {g : Expr → Operator → Expr → Pos → Bool} {M : Stmt → Prop} (h : sAugAssign e g = true) (kk : ∀ t o v p, g t o v p = true → M (.AugAssign t o v p)) : M e := by
  refine sAt_of h fun hi => ?_
  exact Stmt.AugAssign.elim (motive_2 := fun e => ∀ hi, Stmt.AugAssign.elim (motive_2 := fun _ => Bool) e hi g = true → M e) e hi (fun t o v p _ h => kk t o v p h) hi
noncomputable def sFor (e : Stmt) (g : Expr → Expr → List Stmt → List Stmt → Pos → Bool) : Bool := sAt e 9 fun h => Stmt.For.elim (motive_2 := fun _ => Bool) e h g
theorem sFor_of {e : Stmt} {g : Expr → Expr → List Stmt → List Stmt → Pos → Bool} {M : Stmt → Prop} (h : sFor e g = true) (kk : ∀ tg it b el p, g tg it b el p = true → M (.For tg it b el p)) : M e := by
  refine sAt_of h fun hi => ?_
  exact Stmt.For.elim (motive_2 := fun e => ∀ hi, Stmt.For.elim (motive_2 := fun _ => Bool) e hi g = true → M e) e hi (fun tg it b el p _ h => kk tg it b el p h) hi
noncomputable def sWhile (e : Stmt) (g : Expr → List Stmt → List Stmt → Pos → Bool) : Bool := sAt e 11 fun h => Stmt.While.elim (motive_2 := fun _ => Bool) e h g
theorem sWhile_of {e : Stmt} {g : Expr → List Stmt → List Stmt → Pos → Bool} {M : Stmt → Prop} (h : sWhile e g = true) (kk : ∀ t b el p, g t b el p = true → M (.While t b el p)) : M e := by
  refine sAt_of h fun hi => ?_
  exact Stmt.While.elim (motive_2 := fun e => ∀ hi, Stmt.While.elim (motive_2 := fun _ => Bool) e hi g = true → M e) e hi (fun t b el p _ h => kk t b el p h) hi
noncomputable def sIf (e : Stmt) (g : Expr → List Stmt → List Stmt → Pos → Bool) : Bool := sAt e 12 fun h => Stmt.If.elim (motive_2 := fun _ => Bool) e h g
theorem sIf_of {e : Stmt} {g : Expr → List Stmt → List Stmt → Pos → Bool} {M : Stmt → Prop} (h : sIf e g = true) (kk : ∀ t x y p, g t x y p = true → M (.If t x y p)) : M e := by
  refine sAt_of h fun hi => ?_
  exact Stmt.If.elim (motive_2 := fun e => ∀ hi, Stmt.If.elim (motive_2 := fun _ => Bool) e hi g = true → M e) e hi (fun t x y p _ h => kk t x y p h) hi
noncomputable def sRaise (e : Stmt) (g : Option Expr → Option Expr → Pos → Bool) : Bool := sAt e 16 fun h => Stmt.Raise.elim (motive_2 := fun _ => Bool) e h g
theorem sRaise_of {e : Stmt} {g : Option Expr → Option Expr → Pos → Bool} {M : Stmt → Prop} (h : sRaise e g = true) (kk : ∀ e c p, g e c p = true → M (.Raise e c p)) : M e := by
  refine sAt_of h fun hi => ?_
  exact Stmt.Raise.elim (motive_2 := fun e => ∀ hi, Stmt.Raise.elim (motive_2 := fun _ => Bool) e hi g = true → M e) e hi (fun e c p _ h => kk e c p h) hi
noncomputable def sTry (e : Stmt) (g : List Stmt → List ExceptHandler → List Stmt → List Stmt → Pos → Bool) : Bool := sAt e 17 fun h => Stmt.Try.elim (motive_2 := fun _ => Bool) e h g
theorem sTry_of {e : Stmt} {g : List Stmt → List ExceptHandler → List Stmt → List Stmt → Pos → Bool} {M : Stmt → Prop} (h : sTry e g = true) (kk : ∀ b hs el fi p, g b hs el fi p = true → M (.Try b hs el fi p)) : M e := by
  refine sAt_of h fun hi => ?_
  exact Stmt.Try.elim (motive_2 := fun e => ∀ hi, Stmt.Try.elim (motive_2 := fun _ => Bool) e hi g = true → M e) e hi (fun b hs el fi p _ h => kk b hs el fi p h) hi
noncomputable def sExpr (e : Stmt) (g : Expr → Pos → Bool) : Bool := sAt e 24 fun h => Stmt.Expr.elim (motive_2 := fun _ => Bool) e h g
theorem sExpr_of {e : Stmt} {g : Expr → Pos → Bool} {M : Stmt → Prop} (h : sExpr e g = true) (kk : ∀ e p, g e p = true → M (.Expr e p)) : M e := by
  refine sAt_of h fun hi => ?_
  exact Stmt.Expr.elim (motive_2 := fun e => ∀ hi, Stmt.Expr.elim (motive_2 := fun _ => Bool) e hi g = true → M e) e hi (fun e p _ h => kk e p h) hi
section
variable {a b c d e f g : Bool} {G : Prop}
theorem b2 (h : (a && b) = true) (k : a = true → b = true → G) : G := have q := Bool.and_eq_true_iff.mp h; k q.1 q.2
theorem b3 (h : (a && (b && c)) = true) (k : a = true → b = true → c = true → G) : G := b2 h fun x h => b2 h (k x)
theorem b4 (h : (a && (b && (c && d))) = true) (k : a = true → b = true → c = true → d = true → G) : G := b2 h fun x h => b3 h (k x)
theorem b5 (h : (a && (b && (c && (d && e)))) = true) (k : a = true → b = true → c = true → d = true → e = true → G) : G := b2 h fun x h => b4 h (k x)
theorem b6 (h : (a && (b && (c && (d && (e && f))))) = true) (k : a = true → b = true → c = true → d = true → e = true → f = true → G) : G := b2 h fun x h => b5 h (k x)
theorem b7 (h : (a && (b && (c && (d && (e && (f && g)))))) = true) (k : a = true → b = true → c = true → d = true → e = true → f = true → g = true → G) : G := b2 h fun x h => b6 h (k x)
theorem hh2 {p : Prop} (h : p ∨ (a && b) = true) : (p ∨ a = true) ∧ (p ∨ b = true) := ⟨h.imp_right fun h => (Bool.and_eq_true_iff.mp h).1, h.imp_right fun h => (Bool.and_eq_true_iff.mp h).2⟩
end
noncomputable def nil? {α : Type} : List α → Bool
  | [] => true
  | _ => false
theorem nil?_of {α : Type} {l : List α} (h : nil? l = true) : l = [] := by cases l with | nil => rfl | cons => cases h
noncomputable def none? {α : Type} : Option α → Bool
  | none => true
  | _ => false
theorem none?_of {α : Type} {l : Option α} (h : none? l = true) : l = none := by cases l with | none => rfl | some => cases h
noncomputable def one? {α : Type} (l : List α) (g : α → Bool) : Bool := match l with
  | a :: r => nil? r && g a
  | [] => false
theorem one?_of {α : Type} {l : List α} {g : α → Bool} {M : List α → Prop} (h : one? l g = true) (k : ∀ a, g a = true → M [a]) : M l := by
  cases l with
  | nil => cases h
  | cons a r => exact b2 h fun h1 h2 => nil?_of h1 ▸ k a h2
noncomputable def some? {α : Type} (o : Option α) (g : α → Bool) : Bool := match o with
  | some a => g a
  | none => false
theorem some?_of {α : Type} {o : Option α} {g : α → Bool} {M : Option α → Prop} (h : some? o g = true) (k : ∀ a, g a = true → M (some a)) : M o := by
  cases o with
  | none => cases h
  | some a => exact k a h
noncomputable def cons? {α : Type} (l : List α) (g : α → List α → Bool) : Bool := match l with
  | a :: r => g a r
  | [] => false
theorem cons?_of {α : Type} {l : List α} {g : α → List α → Bool} {M : List α → Prop} (h : cons? l g = true) (k : ∀ a r, g a r = true → M (a :: r)) : M l := by
  cases l with
  | nil => cases h
  | cons a r => exact k a r h
noncomputable def litC : V → Option Const
  | .none => some .none
  | .bool b => some (.bool b)
  | .int i => some (.int i)
  | .str x => some (.str x)
  | _ => none
noncomputable def strC : Const → Option Str
  | .str x => some x
  | _ => none
noncomputable def litOk (v : V) (c : Const) : Bool := decide (litC v = some c)
noncomputable def glo (ns : Names) (x : Str) : Bool := ns.lookup x == some .globalImplicit && x != dbg
noncomputable def isName (e : Expr) : Bool := eName e fun _ _ => true
noncomputable def isNA (e : Expr) : Bool := Nat.beq e.ctorIdx 23 || Nat.beq e.ctorIdx 20
noncomputable def dot0 : Str := Str.ofString ".0"
noncomputable def compNames (ns own : Names) : Names := own.map fun (n, k) => if k == .free && ns.lookup n == some .cell then (n, .cell) else (n, k)
noncomputable def ownNames (own : Names) : List Str := (own.filter fun p => p.2 == .local && p.1 != dot0).map (·.1)
noncomputable def compSlots (sl : Slots) (n : Nat) (own : Names) : Slots :=
  (ownNames own).zipIdx n ++ (own.filter fun p => p.2 == .free).filterMap fun p => (sl.lookup p.1).map (p.1, ·)
noncomputable def compOk (ns : Names) (sl : Slots) (own : Names) : Bool :=
  own.all (fun p => p.2 != .cell && p.1 != dbg) && (own.all (fun p => p.2 != .free || ((sl.lookup p.1).isSome && (ns.lookup p.1 == some .cell || ns.lookup p.1 == some .free))) && decide (own.map (·.1)).Nodup)
noncomputable def namesOf : List Expr → List Str
  | [] => []
  | e :: es => (match e with | .Name x _ => x :: namesOf es | _ => namesOf es)
noncomputable def storable (ns : Names) (x : Str) : Bool := ns.lookup x == some .local || ns.lookup x == some .cell
noncomputable def chkN (ns : Names) (sl : Slots) : List Nat → List Expr → Bool
  | [], es => nil? es
  | i :: l, es => cons? es fun e es => eName e fun x _ => sl.lookup x == some i && (storable ns x && chkN ns sl l es)
noncomputable def chkTS (ns : Names) (sl : Slots) : T → Expr → Bool
  | .var i, e => eName e fun x _ => sl.lookup x == some i && storable ns x
  | .tup l, e => eTuple e fun es _ _ => chkN ns sl l es && decide (namesOf es).Nodup
noncomputable def allLoc (ns : Names) (e : Expr) : Bool := (eName e fun x _ => ns.lookup x == some .local) || eTuple e fun es _ _ => (namesOf es).all fun x => ns.lookup x == some .local
noncomputable def chkT (ns : Names) (sl : Slots) (t : T) (e : Expr) : Bool := chkTS ns sl t e && allLoc ns e
noncomputable def enumOk : Src → Expr → Bool
  | .enum _, e => eTuple e fun _ _ _ => true
  | _, _ => true
noncomputable def isText (x : X) (e : Expr) : Bool := xlit x fun v => eConstant e fun c _ _ => some? (strC c) fun z => decide (v = .str z)
noncomputable def isNoneX (x : X) : Bool := xlit x fun v => decide (v = .none)
theorem isNoneX_of {x : X} (h : isNoneX x = true) : x = .lit .none := by
  apply xlit_of h
  exact fun v h => congrArg X.lit (of_decide_eq_true h)
noncomputable def oddIx (i : Nat) : Bool := Nat.beq i 7 || (Nat.beq i 22 || Nat.beq i 26)
noncomputable def even (e : Expr) : Bool := !oddIx e.ctorIdx
noncomputable def isSpecX (x : X) : Bool := Nat.beq x.ctorIdx 3 || (Nat.beq x.ctorIdx 6 || (Nat.beq x.ctorIdx 7 || Nat.beq x.ctorIdx 8))
noncomputable def isSpecial (e : Expr) : Bool := Nat.beq e.ctorIdx 0 || ((eUnaryOp e fun o _ _ => o == .Not) || (Nat.beq e.ctorIdx 5 || Nat.beq e.ctorIdx 15))
noncomputable def tst (x : X) (e : Expr) : Bool := isSpecX x || !isSpecial e
noncomputable def tstL : XL → List Expr → Bool
  | .cons x l, es => cons? es fun e es => tst x e && tstL l es
  | .nil, _ => true
mutual
noncomputable def chkX (T : Tab) (ns : Names) (sl : Slots) (n : Nat) : X → Expr → Bool
  | .lit v, e => eConstant e fun c _ _ => litOk v c
  | .var i, e => eName e fun x _ => sl.lookup x == some i && (x != dbg && x != Str.ofString "__classdict__")
  | .glob v, e => eName e fun x _ => glo ns x && T.G.lookup x == some v
  | .bop c l, e => eBoolOp e fun op vs _ => (op == .And) == c && (tstL l vs && chkL T ns sl n l vs)
  | .bin op a b, e => eBinOp e fun l o r _ => o == op && (chkX T ns sl n a l && chkX T ns sl n b r)
  | .neg a, e => eUnaryOp e fun o x _ => o == .USub && chkX T ns sl n a x
  | .not a, e => eUnaryOp e fun o x _ => o == .Not && (tst a x && chkX T ns sl n a x)
  | .ite c a b, e => eIfExp e fun t x y _ => tst c t && (tst a x && (tst b y && (chkX T ns sl n c t && (chkX T ns sl n a x && chkX T ns sl n b y))))
  | .cmp a l, e => eCompare e fun x ops rs _ => chkX T ns sl n a x && chkC T ns sl n l ops rs
  | .tup l, e => eTuple e fun es _ _ => chkL T ns sl n l es && decide (es.length ≤ 1000)
  | .lst l, e => eList e fun es _ => chkL T ns sl n l es && decide (es.length ≤ 1000)
  | .dct k l, e => eDict e fun ks vs _ => chkP T ns sl n l ks vs && (decide (ks.length ≤ 15) && (k != .t || nil? ks))
  | .spread _ _ _, _ => false
  | .attr a m, e => eAttribute e fun o x _ => x == attrStr m && (isField m && (isName o && chkX T ns sl n a o))
  | .item a i, e => eSubscript e fun o ix _ => even ix && (chkX T ns sl n a o && chkX T ns sl n i ix)
  | .slc a lo hi, e => eSubscript e fun o ix _ => eSlice ix fun l u st _ => none? st && (chkX T ns sl n a o && ((match l with | none => isNoneX lo | some e => chkX T ns sl n lo e) && (match u with | none => isNoneX hi | some e => chkX T ns sl n hi e)))
  | .call f l, e => eCall e fun fn args kws _ => nil? kws && eName fn fun x _ => glo ns x && (T.F.lookup x == some f && chkL T ns sl n l args)
  | .bi b l, e => eCall e fun fn args kws _ => nil? kws && eName fn fun x _ => glo ns x && (x == Str.ofString (biName b) && chkL T ns sl n l args)
  | .meth o m l, e => eCall e fun fn args kws cp => nil? kws && eAttribute fn fun o' x ap => ap.endLine == cp.line && (x == attrStr m && (decide (m < attrTab.length) && (isNA o' && (chkX T ns sl n o o' && (chkL T ns sl n l args && decide (args.length < 30))))))
  | .comp e t s c k, ex => eListComp ex fun e' gs scope _ => one? gs fun g => decide (g.is_async = 0) &&
    (compOk ns sl scope.names && (k == (ownNames scope.names).length && (scope.kind == .function &&
    (chkX T (compNames ns scope.names) (compSlots sl n scope.names) (n + k) e e' && (chkT (compNames ns scope.names) (compSlots sl n scope.names) t g.target && (enumOk s g.target && (chkSrc T ns sl n s g.iter && (tstL c g.ifs && (even g.iter && chkL T (compNames ns scope.names) (compSlots sl n scope.names) (n + k) c g.ifs)))))))))
  | .fstr l, e => eJoinedStr e fun vs _ => chkF T ns sl n l vs && (decide (2 ≤ vs.length) && decide (vs.length ≤ 30))
  | .sup _ _, _ => false
noncomputable def chkL (T : Tab) (ns : Names) (sl : Slots) (n : Nat) : XL → List Expr → Bool
  | .nil, es => nil? es
  | .cons x l, es => cons? es fun e es => even e && (chkX T ns sl n x e && chkL T ns sl n l es)
noncomputable def chkC (T : Tab) (ns : Names) (sl : Slots) (n : Nat) : CL → List CmpOp → List Expr → Bool
  | .nil, os, es => nil? os && nil? es
  | .cons op x l, os, es => cons? os fun o os => cons? es fun e es => o == op && (even e && (chkX T ns sl n x e && chkC T ns sl n l os es))
noncomputable def chkP (T : Tab) (ns : Names) (sl : Slots) (n : Nat) : PL → List (Option Expr) → List Expr → Bool
  | .nil, ks, vs => nil? ks && nil? vs
  | .cons k v l, ks, vs => cons? ks fun ko ks => some? ko fun ke => cons? vs fun ve vs => chkX T ns sl n k ke && (chkX T ns sl n v ve && chkP T ns sl n l ks vs)
noncomputable def chkF (T : Tab) (ns : Names) (sl : Slots) (n : Nat) : XL → List Expr → Bool
  | .nil, es => nil? es
  | .cons x l, es => cons? es fun e es => (isText x e || eFormattedValue e fun e' c fs _ => c == -1 && (none? fs && chkX T ns sl n x e')) && chkF T ns sl n l es
noncomputable def chkSrc (T : Tab) (ns : Names) (sl : Slots) (n : Nat) : Src → Expr → Bool
  | .expr x, e => chkX T ns sl n x e
  | .range l, e => eCall e fun fn args kws _ => nil? kws && eName fn fun x _ => glo ns x && (x == Str.ofString "range" && chkL T ns sl n l args)
  | .enum y, e => eCall e fun fn args kws _ => nil? kws && eName fn fun x _ => glo ns x && (x == Str.ofString "enumerate" && one? args fun a => even a && chkX T ns sl n y a)
end
noncomputable def isComp (e : Expr) : Bool := Nat.beq e.ctorIdx 8 || (Nat.beq e.ctorIdx 9 || Nat.beq e.ctorIdx 10)
noncomputable def swaps (ns : Names) (x : Str) (pos : Pos) (v : Expr) : Bool := eListComp v fun _ _ s p => ns.lookup x == some .local && (pos.line == p.line && !(s.names.any fun (n, k) => n == x && (k == .local || k == .cell)))
noncomputable def swStat (ns : Names) (ts vs : List Expr) : Option (Option (List Str)) :=
  if !(ts.length == 2 || ts.length == 3) || vs.length != ts.length then some none else
  let line := (ts.head?.map (·.pos.line)).getD 0
  let names := ts.filterMap fun
    | .Name id pos => if ns.lookup id == some .local && pos.line == line then some id else none
    | _ => none
  if names.length != ts.length || names.eraseDups.length != names.length then some none else
  if vs.all (foldedForSure 8) then some none else
  if vs.all (constantsAlone 8) then none else some (some names)
noncomputable def starred : Expr → Bool
  | .Starred .. => true
  | _ => false
noncomputable def swOk (ns : Names) (ts : List Expr) (v : Expr) : Bool := !(Nat.beq v.ctorIdx 25) || eTuple v fun vs _ _ => !(vs.any starred) && (swStat ns ts vs).isSome
noncomputable def calmB : BI → Bool
  | .len => true
  | _ => false
mutual
noncomputable def calmX : X → Bool
  | .lit _ => true
  | .var _ => true
  | .glob _ => true
  | .bop _ l => calmL l
  | .bin _ a b => calmX a && calmX b
  | .neg a => calmX a
  | .not a => calmX a
  | .ite c a b => calmX c && (calmX a && calmX b)
  | .cmp a l => calmX a && calmC l
  | .tup l => calmL l
  | .lst l => calmL l
  | .dct _ _ => false
  | .spread _ _ _ => false
  | .attr a _ => calmX a
  | .item a i => calmX a && calmX i
  | .slc a b c => calmX a && (calmX b && calmX c)
  | .call _ _ => false
  | .bi b l => calmB b && calmL l
  | .meth _ _ _ => false
  | .sup _ _ => false
  | .comp _ _ _ _ _ => false
  | .fstr _ => false
noncomputable def calmL : XL → Bool
  | .nil => true
  | .cons x l => calmX x && calmL l
noncomputable def calmC : CL → Bool
  | .nil => true
  | .cons _ x l => calmX x && calmC l
end
noncomputable def calmS : S → Bool
  | .ret x => calmX x
  | _ => false
noncomputable def calmSL : SL → Bool
  | .nil => true
  | .cons s l => calmS s && calmSL l
mutual
noncomputable def chkS (T : Tab) (ns : Names) (sl : Slots) (n : Nat) : S → Stmt → Bool
  | .asg t x, st => sAssign st fun ts v _ => one? ts fun te => chkX T ns sl n x v && (match t with
    | .name i => eName te fun y p => sl.lookup y == some i && (storable ns y && (isComp v == swaps ns y p v && (!isComp v || xcomp x fun _ _ _ _ _ => true)))
    | .tup l => eTuple te fun es _ _ => chkN ns sl l es && (decide (namesOf es).Nodup && (!isComp v && swOk ns es v))
    | .attr o m => eAttribute te fun oe y _ => y == attrStr m && (isField m && (chkX T ns sl n o oe && !isComp v))
    | .item o i => eSubscript te fun oe ie _ => chkX T ns sl n o oe && (chkX T ns sl n i ie && !isComp v))
  | .aug o i op x, st => sAugAssign st fun te o' v _ => o' == .Add && (op == .Add && eSubscript te fun oe ie _ => even ie && (chkX T ns sl n o oe && (chkX T ns sl n i ie && chkX T ns sl n x v)))
  | .exp x, st => sExpr st fun e _ => chkX T ns sl n x e && !isComp e
  | .ret x, st => sReturn st fun v _ => some? v fun e => chkX T ns sl n x e
  | .ifs c a b, st => sIf st fun t x y _ => tst c t && (chkX T ns sl n c t && (chkSL T ns sl n a x && chkSL T ns sl n b y))
  | .for t s b, st => sFor st fun tg it body el _ => nil? el && (chkTS ns sl t tg && (enumOk s tg && (even it && (chkSrc T ns sl n s it && chkSL T ns sl n b body))))
  | .whl c b, st => sWhile st fun t body el _ => nil? el && (tst c t && (chkX T ns sl n c t && chkSL T ns sl n b body))
  | .rai c x, st => sRaise st fun ex ca _ => none? ca && some? ex fun ex => eCall ex fun fn args kws _ => nil? kws && one? args fun e => eName fn fun y _ => glo ns y && (T.F.lookup y == some c && (T.E.contains c && (even e && chkX T ns sl n x e)))
  | .try b c h, st => sTry st fun body hs el fi _ => nil? el && (nil? fi && one? hs fun hd => (match hd with | .ExceptHandler ty nm hb _ => none? nm && some? ty fun te => eName te fun y _ => glo ns y && (T.F.lookup y == some c && (T.E.contains c && (chkSL T ns sl n b body && (chkSL T ns sl n h hb && (!nil? hb && calmSL h)))))))
noncomputable def chkSL (T : Tab) (ns : Names) (sl : Slots) (n : Nat) : SL → List Stmt → Bool
  | .nil, ts => nil? ts
  | .cons s l, ts => cons? ts fun t ts => chkS T ns sl n s t && chkSL T ns sl n l ts
end
end QZ
namespace QZ
open PySem PySem.W PySem.Calls PyProof.Rows
structure Cx where
  prog : Program
  w : World
  base : Heap
  K : Frag
  os : OsState
  mg : Str → Option Value
  mb : Str → Option Value
  T : Tab
  cls : List Addr
noncomputable def biVal : BI → Value
  | .len => .builtin "len" | .abs => .builtin "abs" | .min => .builtin "min" | .sum => .builtin "sum" | .sorted => .builtin "sorted"
  | .int => .type "int" | .tuple => .type "tuple" | .list => .type "list" | .dict => .type "dict"
noncomputable def clsOk (K : Frag) (c : Addr) : Bool := plainGet K c (attrStr 0) && hasDictIn K c && plainOver K c && findIn K (.ref c) "__setattr__" == some (some (.builtin "object.__setattr__")) && (List.range 51).all fun n => !isField n || (findIn K (.ref c) (attrStr n) == some none && takerIn K c (attrStr n) == some none)
structure Cx.Good (C : Cx) : Prop where
  kin : C.K.In C.base
  lim : C.base.NoLimit
  nsG : C.base.Ns mainGlobals C.mg
  nsB : C.base.Ns builtinsNs C.mb
  glob : ∀ x v, C.T.G.lookup x = some v → ∃ val, C.mg x = some val ∧ Rel [] C.base v val
  fns : ∀ x a, C.T.F.lookup x = some a → C.mg x = some (.ref a)
  bis : ∀ b, C.mg (Str.ofString (biName b)) = none ∧ C.mb (Str.ofString (biName b)) = some (biVal b)
  rng : C.mg (Str.ofString "range") = none ∧ C.mb (Str.ofString "range") = some (.type "range")
  cls : ∀ c ∈ C.cls, clsOk C.K c = true
  sysm : (C.base.get? sysModules).isSome = true
  enm : C.mg (Str.ofString "enumerate") = none ∧ C.mb (Str.ofString "enumerate") = some (.type "enumerate")
noncomputable def ExtOk (C : Cx) (xt : Addr → Option (List V)) : Prop := ∀ a l, xt a = some l → ∃ its, C.base.IsList a its ∧ RelL [] C.base l its.toList
structure Act where
  A : Around
  env : Env
  envs : List Env
  ns : Names
  sl : Slots
  n : Nat
structure Act.Good (a : Act) (d : Nat) : Prop where
  names : a.env.scope.names = a.ns
  kind : a.env.scope.kind = .function
  globals : a.env.globals = mainGlobals
  builtins : a.env.builtins = builtinsNs
  inj : ∀ x y c, a.env.cells.lookup x = some c → a.env.cells.lookup y = some c → x = y
  frames : a.A.frames = some a.envs
  depth : a.A.depth + 4 * d + 8 ≤ 900
  units : a.A.units + 40 * d + 300 ≤ cLine
  slinj : ∀ x y i, a.sl.lookup x = some i → a.sl.lookup y = some i → x = y
noncomputable def OR (f : Fmap) (h : Heap) : Option V → Option Value → Prop
  | none, _ => True
  | some v, some val => Rel f h v val
  | _, _ => False
theorem OR.mono {f f' : Fmap} {h h' : Heap} (p : Pre f f') (z : Fz h h') : ∀ {q : Option V} {v : Option Value}, OR f h q v → OR f' h' q v
  | none, _, _ => trivial
  | some _, some _, r => Rel.mono p z r
  | some _, none, r => r.elim
theorem OR.some {f : Fmap} {h : Heap} {v : V} {o : Option Value} {G : Prop} (r : OR f h (some v) o) (k : ∀ val, o = some val → Rel f h v val → G) : G := by
  cases o with
  | none => exact r.elim
  | some val => exact k val rfl r
structure Celled (env : Env) (f : Fmap) (h : Heap) (x : Str) (q : Option V) (c : Addr) (ov : Option Value) : Prop where
  at_ : env.cells.lookup x = some c
  out : c ∉ f
  cell : h.IsCell c ov
  rel : OR f h q ov
inductive SlotOk (env : Env) (m : Str → Option Value) (f : Fmap) (h : Heap) (x : Str) (q : Option V) : Prop
  | loc (k : env.kindOf x = some .local) (o : OR f h q (m x))
  | cell (k : env.kindOf x = some .cell) {c ov} (o : Celled env f h x q c ov)
  | free (k : env.kindOf x = some .free) {c ov} (o : Celled env f h x q c ov)
structure Frm (base : Heap) (a : Act) (f : Fmap) (ρ : Rho) (h : Heap) : Prop where
  len : ρ.length = a.n
  ns : ∃ m, h.Ns a.env.locals m ∧ ∀ x i, a.sl.lookup x = some i → ∃ q, ρ[i]? = some q ∧ SlotOk a.env m f h x q
  out : a.env.locals ∉ f
  ff : h.FunFrames base a.envs
  fout : ∀ e ∈ a.envs, ∀ L, e.frame = some L → L ∉ f
  fns : ∀ e ∈ a.envs, ∀ L, e.frame = some L → ∃ m, h.Ns L m
structure Sp (C : Cx) (a : Act) (f : Fmap) (ρ : Rho) (σ : St) (s : Shared) : Prop where
  ok : Ok C.prog C.w C.base f σ s.heap
  fr : Frm C.base a f ρ s.heap
  gens : s.gens = #[]
  os : s.os = C.os
theorem isCell_of {h h' : Heap} {c : Addr} {v : Option Value} (x : h.IsCell c v) (e : ∀ o, h.get? c = some o → h'.get? c = some o) : h'.IsCell c v := let ⟨o, ho, hd⟩ := x; ⟨o, e o ho, hd⟩
theorem cell_ne {ex : List Addr} {h : Heap} {c : Addr} {v : Option Value} (x : ExOk ex h) (k : h.IsCell c v) : c ∉ ex := fun q => by
  obtain ⟨m, o, es, ep, e, hd, _⟩ := x c q
  obtain ⟨o', e', hd'⟩ := k
  rw [e] at e'; cases e'; rw [hd] at hd'; cases hd'
theorem Celled.next {env : Env} {ex : List Addr} {f f' : Fmap} {h h' : Heap} {x : Str} {q : Option V} {c : Addr} {ov : Option Value} (hx : ExOk ex h) (n : Nxt ex f h f' h') (z : Fz h h') (k : Celled env f h x q c ov) : Celled env f' h' x q c ov :=
  k.cell.elim fun o ho => ⟨k.at_, (n.out ho.1 (cell_ne hx k.cell) k.out).2, isCell_of k.cell fun o ho => (n.out ho (cell_ne hx k.cell) k.out).1, k.rel.mono n.pre z⟩
theorem SlotOk.next {env : Env} {m : Str → Option Value} {ex : List Addr} {f f' : Fmap} {h h' : Heap} {x : Str} {q : Option V} (hx : ExOk ex h) (n : Nxt ex f h f' h') (z : Fz h h') (k : SlotOk env m f h x q) : SlotOk env m f' h' x q := by
  cases k with
  | loc k o => exact .loc k (o.mono n.pre z)
  | cell k o => exact .cell k (o.next hx n z)
  | free k o => exact .free k (o.next hx n z)
theorem ns_of {h h' : Heap} {a : Addr} {m : Str → Option Value} (x : h.Ns a m) (e : ∀ o, h.get? a = some o → h'.get? a = some o) : h'.Ns a m := let ⟨o, es, ep, ho, r⟩ := x; ⟨o, es, ep, e o ho, r⟩
theorem funFrames_next {base h h' : Heap} {ex : List Addr} (hx : ExOk ex h) : ∀ {l : List Env} {f f' : Fmap}, Nxt ex f h f' h' → h.FunFrames base l → (∀ e ∈ l, ∀ L, e.frame = some L → L ∉ f) → h'.FunFrames base l ∧ (∀ e ∈ l, ∀ L, e.frame = some L → L ∉ f')
  | [], _, _, _, _, _ => ⟨trivial, fun _ h => (nomatch h)⟩
  | env :: l, f, f', n, ⟨hk, ⟨L, o, hf, hb, ho, hd⟩, hr⟩, hout => by
    obtain ⟨r1, r2⟩ := funFrames_next hx n hr fun e he => hout e (.tail _ he)
    have hL := n.notin ho (hout env (.head _) L hf)
    have z : ∃ o', h'.get? L = some o' ∧ ∀ vs, o'.data ≠ .fields vs := by
      by_cases q : L ∈ ex
      · obtain ⟨m, hm⟩ := hx L q
        obtain ⟨o', es, ep, e', hd', _⟩ := n.ns L q m hm
        exact ⟨o', e', fun vs q => by rw [hd'] at q; cases q⟩
      · exact ⟨o, (n.out ho q (hout env (.head _) L hf)).1, hd⟩
    obtain ⟨o', z1, z2⟩ := z
    refine ⟨⟨hk, ⟨L, o', hf, hb, z1, z2⟩, r1⟩, fun e he L' hL' => ?_⟩
    rcases List.mem_cons.mp he with rfl | he
    · rw [hf] at hL'; cases hL'; exact hL
    · exact r2 e he L' hL'
noncomputable def frs (envs : List Env) : List Addr := envs.filterMap (·.frame)
noncomputable abbrev lx (a : Act) : List Addr := a.env.locals :: frs a.envs
theorem frs_out {envs : List Env} {f : Fmap} (h : ∀ e ∈ envs, ∀ L, e.frame = some L → L ∉ f) {b : Addr} (hb : b ∈ frs envs) : b ∉ f := by
  obtain ⟨e, he, hf⟩ := List.mem_filterMap.mp hb
  exact h e he b hf
theorem frs_there {base h : Heap} {envs : List Env} (x : h.FunFrames base envs) {b : Addr} (hb : b ∈ frs envs) : ∃ o, h.get? b = some o := by
  obtain ⟨_, o, ho, _⟩ := x.mem hb; exact ⟨o, ho⟩
theorem Frm.ex {base : Heap} {a : Act} {f : Fmap} {ρ : Rho} {h : Heap} (k : Frm base a f ρ h) : ExOk (lx a) h := fun b hb => by
  rcases List.mem_cons.mp hb with rfl | hb
  · obtain ⟨m, hm, _⟩ := k.ns; exact ⟨m, hm⟩
  · obtain ⟨e, he, hf⟩ := List.mem_filterMap.mp hb
    exact k.fns e he b hf
theorem Frm.lxout {base : Heap} {a : Act} {f : Fmap} {ρ : Rho} {h : Heap} (k : Frm base a f ρ h) : ∀ L ∈ lx a, L ∉ f := fun b hb => by
  rcases List.mem_cons.mp hb with rfl | hb
  · exact k.out
  · exact frs_out k.fout hb
theorem Frm.next {base : Heap} {a : Act} {f f' : Fmap} {ρ : Rho} {h h' : Heap} (n : Nxt (lx a) f h f' h') (z : Fz h h') (k : Frm base a f ρ h) : Frm base a f' ρ h' := by
  obtain ⟨m, hm, hs⟩ := id k.ns
  obtain ⟨o, es, ep, ho, r⟩ := id hm
  obtain ⟨r1, r2⟩ := funFrames_next k.ex n k.ff k.fout
  refine ⟨k.len, ⟨m, n.ns _ (.head _) m hm, fun x i e => let ⟨q, h1, h2⟩ := hs x i e; ⟨q, h1, h2.next k.ex n z⟩⟩, n.notin ho k.out, r1, r2, fun e he L hL => ?_⟩
  obtain ⟨m', hm'⟩ := k.fns e he L hL
  by_cases q : L ∈ lx a
  · exact ⟨m', n.ns L q m' hm'⟩
  · exact ⟨m', ns_of hm' fun o e' => (n.out e' q (k.fout e he L hL)).1⟩
structure Post (C : Cx) (ex : List Addr) (f : Fmap) (s : Shared) (f' : Fmap) (σ' : St) (s' : Shared) : Prop where
  nxt : Nxt ex f s.heap f' s'.heap
  ok : Ok C.prog C.w C.base f' σ' s'.heap
  gens : s'.gens = #[]
  os : s'.os = C.os
theorem Post.trans {C : Cx} {ex : List Addr} {f f' f'' : Fmap} {σ σ' : St} {s s' s'' : Shared} (x : Post C ex f s f' σ s') (y : Post C ex f' s' f'' σ' s'') : Post C ex f s f'' σ' s'' := ⟨x.nxt.trans y.nxt, y.ok, y.gens, y.os⟩
theorem Nxt.wide {ex ex' : List Addr} {f f' : Fmap} {h h' : Heap} (x : Nxt ex f h f' h') (hs : ∀ L ∈ ex, L ∈ ex') (hn : ∀ L ∈ ex', L ∉ f) : Nxt ex' f h f' h' :=
  ⟨x.app, fun b o e hb => x.ext b o e fun q => hb (List.mem_append.mpr ((List.mem_append.mp q).imp_left (hs b))), fun L hL m n => by
    by_cases q : L ∈ ex
    · exact x.ns L q m n
    · exact ns_of n fun o e => x.ext L o e fun z => (List.mem_append.mp z).elim q (hn L hL), x.live⟩
theorem Post.wide {C : Cx} {ex ex' : List Addr} {f f' : Fmap} {σ' : St} {s s' : Shared} (x : Post C ex f s f' σ' s') (hs : ∀ L ∈ ex, L ∈ ex') (hn : ∀ L ∈ ex', L ∉ f) : Post C ex' f s f' σ' s' := ⟨x.nxt.wide hs hn, x.ok, x.gens, x.os⟩
theorem Sp.wide {C : Cx} {a : Act} {f f' : Fmap} {ρ : Rho} {σ σ' : St} {s s' : Shared} (k : Sp C a f ρ σ s) (p : Post C [a.env.locals] f s f' σ' s') : Post C (lx a) f s f' σ' s' := p.wide (fun L hL => by simp only [List.mem_singleton] at hL; subst hL; exact .head _) k.fr.lxout
theorem Sp.next {C : Cx} {a : Act} {f f' : Fmap} {ρ : Rho} {σ σ' : St} {s s' : Shared} (k : Sp C a f ρ σ s) (p : Post C (lx a) f s f' σ' s') : Sp C a f' ρ σ' s' := ⟨p.ok, k.fr.next p.nxt (p.nxt.fz k.fr.ex k.ok), p.gens, p.os⟩
theorem Sp.post {C : Cx} {a : Act} {f : Fmap} {ρ : Rho} {σ : St} {s : Shared} (k : Sp C a f ρ σ s) {ex : List Addr} : Post C ex f s f σ s := ⟨Nxt.refl _ _ _, k.ok, k.gens, k.os⟩
noncomputable def PV (C : Cx) (ex : List Addr) (f : Fmap) (s : Shared) {α β : Type} (Rl : Fmap → Heap → β → α → Prop) (r : Res β) (val : α) (s' : Shared) : Prop := match r with
  | .ok v σ' => ∃ f', Post C ex f s f' σ' s' ∧ Rl f' s'.heap v val
  | .exc _ _ _ => False
  | .stuck => False
noncomputable def kept (ex : List Addr) (envs : List Env) (f : Fmap) (s : Shared) : Heap := hideAll s.heap (ex ++ frs envs ++ f)
structure Flies (C : Cx) (ex : List Addr) (envs : List Env) (f : Fmap) (s : Shared) (c : Addr) (f' : Fmap) (σ' : St) (e : Addr) (s' : Shared) : Prop where
  app : ∃ g, f' = f ++ g ∧ ∀ a ∈ g, s.heap.get? a = none
  fly : ∃ a0, Heap.FlyingW (kept ex envs f s) envs e (.ref c) a0 s'.heap
  ns : ∀ L ∈ ex, ∀ m, s.heap.Ns L m → s'.heap.Ns L m
  live : ∀ b o, s.heap.get? b = some o → ∃ o', s'.heap.get? b = some o'
  ok : Ok C.prog C.w C.base f' σ' s'.heap
  gens : s'.gens = #[]
  os : s'.os = C.os
noncomputable def PE (C : Cx) (ex : List Addr) (envs : List Env) (f : Fmap) (s : Shared) {β : Type} (r : Res β) (e : Value) (s' : Shared) : Prop := match r with
  | .exc c _ σ' => ∃ f' ea, e = .ref ea ∧ Flies C ex envs f s c f' σ' ea s'
  | .ok _ _ => False
  | .stuck => False
theorem kept_stays {ex : List Addr} {envs : List Env} {f f₁ : Fmap} {s s₁ : Shared} (n : Nxt ex f s.heap f₁ s₁.heap) : (kept ex envs f s).StaysIn (kept ex envs f₁ s₁) := fun b o e => by
  have e' := of_hideAll _ e
  have hb : b ∉ ex ++ frs envs ++ f := fun q => by rw [kept, hideAll_none _ q] at e; cases e
  rw [List.mem_append, List.mem_append, not_or, not_or] at hb
  have := n.out e' hb.1.1 hb.2
  exact hideAll_get _ this.1 (by rw [List.mem_append, List.mem_append, not_or, not_or]; exact ⟨hb.1, this.2⟩)
theorem Flies.before {C : Cx} {ex : List Addr} {envs : List Env} {f f₁ f' : Fmap} {s s₁ s' : Shared} {σ₁ σ' : St} {c e : Addr} (p : Post C ex f s f₁ σ₁ s₁) (hf : s.heap.FunFrames C.base envs) (ho : ∀ e ∈ envs, ∀ L, e.frame = some L → L ∉ f) (x : Flies C ex envs f₁ s₁ c f' σ' e s') : Flies C ex envs f s c f' σ' e s' where
  app := by
    obtain ⟨g, rfl, hg⟩ := p.nxt.app
    obtain ⟨g', rfl, hg'⟩ := x.app
    refine ⟨g ++ g', by rw [List.append_assoc], fun a ha => ?_⟩
    rcases List.mem_append.mp ha with q | q
    · exact hg a q
    · cases k : s.heap.get? a with
      | none => rfl
      | some o => obtain ⟨o', e'⟩ := p.nxt.live a o k; rw [hg' a q] at e'; cases e'
  fly := let ⟨a0, k⟩ := x.fly; ⟨a0, flyingW_base (kept_stays p.nxt) k⟩
  ns := fun L hL m n => x.ns L hL m (p.nxt.ns L hL m n)
  live := fun b o e => let ⟨o', e'⟩ := p.nxt.live b o e; x.live b o' e'
  ok := x.ok
  gens := x.gens
  os := x.os
section
variable {C : Cx} {ex : List Addr} {a : Act} {f : Fmap} {ρ : Rho} {σ : St} {s : Shared}
theorem PV.before {α β : Type} {Rl : Fmap → Heap → β → α → Prop} {r : Res β} {f₁ : Fmap} {σ₁ : St} {s₁ s' : Shared} {val : α} (p : Post C ex f s f₁ σ₁ s₁) (x : PV C ex f₁ s₁ Rl r val s') : PV C ex f s Rl r val s' := by
  cases r with
  | ok v σ' => obtain ⟨f', k, r⟩ := x; exact ⟨f', p.trans k, r⟩
  | exc => exact x
  | stuck => exact x
theorem PE.before {β : Type} {r : Res β} {f₁ : Fmap} {σ₁ : St} {s₁ s' : Shared} {e : Value} (S : Sp C a f ρ σ s) (p : Post C ex f s f₁ σ₁ s₁) (x : PE C ex a.envs f₁ s₁ r e s') : PE C ex a.envs f s r e s' := by
  cases r with
  | ok v σ' => exact x
  | exc c m σ' => obtain ⟨f', ea, he, k⟩ := x; exact ⟨f', ea, he, k.before p S.fr.ff S.fr.fout⟩
  | stuck => exact x
theorem bind_ne {α β : Type} {r : Res α} {g : α → St → Res β} (h : r.bind g ≠ .stuck) : r ≠ .stuck := fun e => by rw [e] at h; exact h rfl
theorem PV.here {α β : Type} {Rl : Fmap → Heap → β → α → Prop} {v : β} {val : α} (S : Sp C a f ρ σ s) (r : Rl f s.heap v val) (tk : Nat) : PV C ex f s Rl (.ok v σ) val { s with toks := tk } := ⟨f, ⟨Nxt.refl _ _ _, S.ok, S.gens, S.os⟩, r⟩
theorem PV.of {α β : Type} {Rl : Fmap → Heap → β → α → Prop} {v : β} {val : α} {σ' : St} {s' : Shared} {f' : Fmap} (p : Post C ex f s f' σ' s') (r : Rl f' s'.heap v val) : PV C ex f s Rl (.ok v σ') val s' := ⟨f', p, r⟩
end
end QZ
namespace QZ
open PySem PySem.W PySem.Calls PyProof.Rows
noncomputable def allBut (h : Heap) (xs : List Addr) : List (Addr × Obj) := (List.range h.objs.size).filterMap fun b => if b ∈ xs then none else (h.get? b).map (b, ·)
theorem mem_allBut {h : Heap} {xs : List Addr} {b : Addr} {o : Obj} : (b, o) ∈ allBut h xs ↔ h.get? b = some o ∧ b ∉ xs := by
  unfold allBut
  rw [List.mem_filterMap]
  constructor
  · rintro ⟨c, _, e⟩
    split at e
    · cases e
    · rename_i hx
      rw [Option.map_eq_some_iff] at e
      obtain ⟨o', e1, e2⟩ := e
      cases e2; exact ⟨e1, hx⟩
  · rintro ⟨e, hx⟩
    exact ⟨b, List.mem_range.mpr (Heap.lt_size e), by rw [if_neg hx, e]; rfl⟩
noncomputable abbrev noHeap : Heap := {}
theorem noHeap_none (b : Addr) : noHeap.get? b = none := by
  show (match (#[] : Array Obj)[b]? with | some ⟨_, _, .freed, _⟩ => none | o => o) = none
  simp
theorem frK {h : Heap} {L : Addr} {m : Str → Option Value} (n : h.Ns L m) : Fr noHeap L h m := ⟨n, fun b o e => (by rw [noHeap_none] at e; cases e), Nat.zero_le _⟩
theorem newsK (h : Heap) (L : Addr) : News noHeap L h (allBut h [L]) := fun ⟨b, o⟩ hp => by
  obtain ⟨e, hx⟩ := mem_allBut.mp hp
  exact ⟨e, by simpa using hx, noHeap_none b⟩
theorem newsD {h : Heap} {L D : Addr} {o : Obj} (e : h.get? D = some o) (hD : D ≠ L) : News noHeap L h ((D, o) :: allBut h [L, D]) := fun ⟨b, ob⟩ hp => by
  rcases List.mem_cons.mp hp with q | q
  · cases q; exact ⟨e, hD, noHeap_none _⟩
  · obtain ⟨e', hx⟩ := mem_allBut.mp q
    exact ⟨e', fun z => hx (by rw [show b = L from z]; exact .head _), noHeap_none b⟩
section
variable {C : Cx} {a : Act} {f : Fmap} {ρ : Rho} {σ : St} {s : Shared} {h' : Heap} {L : Addr} {m : Str → Option Value}
theorem ns_fun {h : Heap} {m m' : Str → Option Value} (x : h.Ns L m) (y : h.Ns L m') : m = m' := by
  obtain ⟨o, es, ep, e, hd, _, hf⟩ := x
  obtain ⟨o', es', ep', e', hd', _, hf'⟩ := y
  rw [e] at e'; cases e'; rw [hd] at hd'; cases hd'
  funext n; rw [← hf, ← hf']
theorem nxtK {news : List (Addr × Obj)} (hn : s.heap.Ns L m) (F : Fr noHeap L h' m) (N : News noHeap L h' news) (hs : ∀ p ∈ allBut s.heap [L], p ∈ news) : Nxt [L] f s.heap f h' := by
  refine ⟨⟨[], by simp, by simp⟩, fun b o e hb => (N _ (hs _ (mem_allBut.mpr ⟨e, fun q => hb (List.mem_append.mpr (.inl q))⟩))).1, fun L' hL m' n' => ?_, fun b o e => ?_⟩
  · simp only [List.mem_singleton] at hL; subst hL
    rw [← ns_fun hn n']; exact F.ns
  · by_cases q : b = L
    · subst q; obtain ⟨o', _, _, e', _⟩ := F.ns; exact ⟨o', e'⟩
    · exact ⟨o, (N _ (hs _ (mem_allBut.mpr ⟨e, by simpa using q⟩))).1⟩
theorem fzK {news : List (Addr × Obj)} (hn : s.heap.Ns L m) (N : News noHeap L h' news) (hs : ∀ p ∈ allBut s.heap [L], p ∈ news) : Fz s.heap h' := fun b o e k => by
  by_cases q : b = L
  · subst q
    obtain ⟨o', es, ep, e', hd, _⟩ := hn
    rw [e] at e'; cases e'
    rcases k with ⟨_, xs, n, fz⟩ | ⟨c, d, rfl⟩
    · rw [hd] at fz; cases fz
    · cases hd
  · exact (N _ (hs _ (mem_allBut.mpr ⟨e, by simpa using q⟩))).1
theorem Sp.ns (S : Sp C a f ρ σ s) : ∃ m, s.heap.Ns a.env.locals m := let ⟨m, h, _⟩ := S.fr.ns; ⟨m, h⟩
theorem okK {base : Heap} {prog : Program} {w : World} (k : Ok prog w base f σ s.heap) (hL : L ∉ f) (hb : base.get? L = none) {news : List (Addr × Obj)} (hn : s.heap.Ns L m) (N : News noHeap L h' news) (hs : ∀ p ∈ allBut s.heap [L], p ∈ news) : Ok prog w base f σ h' where
  len := k.len
  nodup := k.nodup
  at_ := fun i a o e1 e2 => (k.at_ i a o e1 e2).mono _ _ (Pre.refl f) (fzK hn N hs) fun ob e => (N _ (hs _ (mem_allBut.mpr ⟨e, by
    simp only [List.mem_singleton]; rintro rfl; exact hL (List.mem_of_getElem? e1)⟩))).1
  fresh := k.fresh
  stay := fun b o e => (N _ (hs _ (mem_allBut.mpr ⟨k.stay b o e, by
    simp only [List.mem_singleton]; rintro rfl; rw [hb] at e; cases e⟩))).1
end
structure Act.Apart (C : Cx) (a : Act) : Prop where
  base : C.base.get? a.env.locals = none
  cells : ∀ x i c, a.sl.lookup x = some i → a.env.cells.lookup x = some c → C.base.get? c = none
section
variable {C : Cx} {a : Act} {f : Fmap} {ρ : Rho} {σ : St} {s : Shared} {h' : Heap} {m : Str → Option Value}
theorem postK (S : Sp C a f ρ σ s) (ap : a.Apart C) {news : List (Addr × Obj)} (hn : s.heap.Ns a.env.locals m) (F : Fr noHeap a.env.locals h' m) (N : News noHeap a.env.locals h' news) (hs : ∀ p ∈ allBut s.heap [a.env.locals], p ∈ news) (tk : Nat) : Post C (lx a) f s f σ { s with heap := h', toks := tk } := S.wide
 
  ⟨nxtK hn F N hs, okK S.ok S.fr.out ap.base hn N hs, S.gens, S.os⟩
theorem postNew (S : Sp C a f ρ σ s) (ap : a.Apart C) {news : List (Addr × Obj)} {D : Addr} {ob : Obj} {o : O} (hn : s.heap.Ns a.env.locals m) (F : Fr noHeap a.env.locals h' m) (N : News noHeap a.env.locals h' ((D, ob) :: news)) (hs : ∀ p ∈ allBut s.heap [a.env.locals], p ∈ news)
    (hD : D = s.heap.objs.size ∨ ∀ p ∈ allBut s.heap [a.env.locals], p.1 < D) (e : Fz s.heap h' → h'.get? D = some ob → ObjAt C.prog C.w (f ++ [D]) h' D o) (tk : Nat) : Post C (lx a) f s (f ++ [D]) (σ ++ [o]) { s with heap := h', toks := tk } := by
  refine S.wide ?_
  have hs' : ∀ p ∈ allBut s.heap [a.env.locals], p ∈ (D, ob) :: news := fun p hp => .tail _ (hs p hp)
  have n := nxtK (f := f) hn F N hs'
  have k := okK S.ok S.fr.out ap.base hn N hs'
  have hDL : D ≠ a.env.locals := (N _ (.head _)).2.1
  have hfresh : s.heap.get? D = none := by
    rcases hD with rfl | hD
    · exact none_at _
    · cases q : s.heap.get? D with
      | none => rfl
      | some o => exact absurd (hD (D, o) (mem_allBut.mpr ⟨q, by simpa using hDL⟩)) (Nat.lt_irrefl _)
  have z := fzK hn N hs'
  refine ⟨⟨⟨[D], rfl, fun b hb => by simp only [List.mem_singleton] at hb; subst hb; exact hfresh⟩, n.ext, n.ns, n.live⟩, ?_, S.gens, S.os⟩
  have hn' : D ∉ f := fun q => by obtain ⟨ob, e, _⟩ := S.ok.notFrozen q; rw [hfresh] at e; cases e
  refine ⟨by simp [k.len], ?_, fun j b o' e1 e2 => ?_, fun b hb => ?_, k.stay⟩
  · rw [List.nodup_append]
    exact ⟨k.nodup, by simp, fun y hy z hz => by simp only [List.mem_singleton] at hz; subst hz; exact fun q => hn' (q ▸ hy)⟩
  · by_cases hj : j < f.length
    · rw [List.getElem?_append_left hj] at e1
      rw [List.getElem?_append_left (by rw [← k.len]; exact hj)] at e2
      exact (k.at_ j b o' e1 e2).mono _ _ (Pre.app f _) (Fz.refl _) fun ob q => q
    · rw [List.getElem?_append_right (Nat.not_lt.mp hj)] at e1
      rw [List.getElem?_append_right (by rw [← k.len]; exact Nat.not_lt.mp hj), ← k.len] at e2
      have hj0 : j - f.length = 0 := by
        have := (List.getElem?_eq_some_iff.mp e1).1
        simp at this; omega
      rw [hj0] at e1 e2
      simp only [List.getElem?_cons_zero, Option.some.injEq] at e1 e2
      subst e1; subst e2; exact e z (N _ (.head _)).1
  · rcases List.mem_append.mp hb with hb | hb
    · exact S.ok.fresh b hb
    · simp only [List.mem_singleton] at hb
      subst hb
      cases q : C.base.get? b with
      | none => rfl
      | some o => have := S.ok.stay b o q; rw [hfresh] at this; cases this
theorem postPush (S : Sp C a f ρ σ s) {o : O} {ob : Obj} {ex : List Addr} (e : ObjAt C.prog C.w (f ++ [s.heap.objs.size]) (s.heap.push ob) s.heap.objs.size o) (tk : Nat) : Post C ex f s (f ++ [s.heap.objs.size]) (σ ++ [o]) { s with heap := s.heap.push ob, toks := tk } :=
  ⟨Nxt.of_push (fun b o e => Heap.get?_push_of_some _ e) (none_at _), S.ok.push (fun b o e => Heap.get?_push_of_some _ e) (none_at _) e, S.gens, S.os⟩
theorem postGrow (S : Sp C a f ρ σ s) {ex : List Addr} (k : ∀ b o, s.heap.get? b = some o → h'.get? b = some o) (tk : Nat) : Post C ex f s f σ { s with heap := h', toks := tk } :=
  ⟨Nxt.of_keeps k, S.ok.keeps k, S.gens, S.os⟩
theorem postSet (S : Sp C a f ρ σ s) {i : Nat} {D : Addr} {o' : O} (hi : f[i]? = some D) (hs : ∀ b o, s.heap.get? b = some o → b ≠ D → h'.get? b = some o) (e : Fz s.heap h' → ObjAt C.prog C.w f h' D o') (tk : Nat) : Post C (lx a) f s f (σ.set i o') { s with heap := h', toks := tk } := by
  refine S.wide ?_
  have hD : D ∈ f := List.mem_of_getElem? hi
  have z : Fz s.heap h' := S.ok.fz fun b o e hb => hs b o e fun q => hb (q ▸ hD)
  refine ⟨Nxt.of_set hD (fun L hL => by simp only [List.mem_singleton] at hL; subst hL; exact S.fr.out) hs ?_, S.ok.set hi hs (e z), S.gens, S.os⟩
  obtain ⟨ob, e, _⟩ := (e z).there
  exact ⟨ob, e⟩
theorem postUpd (S : Sp C a f ρ σ s) (ap : a.Apart C) {i : Nat} {D : Addr} {ob : Obj} {o' : O} (hn : s.heap.Ns a.env.locals m) (hi : f[i]? = some D) (F : Fr noHeap a.env.locals h' m) (N : News noHeap a.env.locals h' ((D, ob) :: allBut s.heap [a.env.locals, D]))
    (e : Fz s.heap h' → h'.get? D = some ob → ObjAt C.prog C.w f h' D o') (tk : Nat) : Post C (lx a) f s f (σ.set i o') { s with heap := h', toks := tk } := by
  refine S.wide ?_
  have hD : D ∈ f := List.mem_of_getElem? hi
  have hDL : D ≠ a.env.locals := (N _ (.head _)).2.1
  have st : ∀ b o, s.heap.get? b = some o → b ≠ D → b ≠ a.env.locals → h'.get? b = some o := fun b o e h1 h2 => (N _ (.tail _ (mem_allBut.mpr ⟨e, by simp [h1, h2]⟩))).1
  have z : Fz s.heap h' := fun b o e1 k => by
    by_cases q : b = a.env.locals
    · subst q
      obtain ⟨o', es, ep, e', hd, _⟩ := hn
      rw [e1] at e'; cases e'
      rcases k with ⟨_, xs, n, fz⟩ | ⟨c, d, rfl⟩
      · rw [hd] at fz; cases fz
      · cases hd
    · refine st b o e1 (fun q' => ?_) q
      subst q'
      obtain ⟨ob, e', k'⟩ := S.ok.notFrozen hD
      rw [e1] at e'; cases e'; exact k' k
  have hob := (N _ (.head _)).1
  have eo := e z hob
  refine ⟨⟨⟨[], by simp, by simp⟩, fun b o e hb => ?_, fun L hL m' n' => ?_, fun b o e => ?_⟩, ?_, S.gens, S.os⟩
  · exact st b o e (fun q => hb (List.mem_append.mpr (.inr (q ▸ hD)))) fun q => hb (List.mem_append.mpr (.inl (by simp [q])))
  · simp only [List.mem_singleton] at hL; subst hL
    rw [← ns_fun hn n']; exact F.ns
  · by_cases q : b = D
    · subst q; exact ⟨_, hob⟩
    · by_cases q' : b = a.env.locals
      · subst q'; obtain ⟨o', _, _, e', _⟩ := F.ns; exact ⟨o', e'⟩
      · exact ⟨o, st b o e q q'⟩
  · refine ⟨by rw [S.ok.len, List.length_set], S.ok.nodup, fun j b o e1 e2 => ?_, S.ok.fresh, fun b o k => st b o (S.ok.stay b o k) (fun q => ?_) fun q => ?_⟩
    · by_cases hj : i = j
      · subst hj
        rw [hi] at e1; cases e1
        rw [List.getElem?_set_self (by rw [← S.ok.len]; exact (List.getElem?_eq_some_iff.mp hi).1)] at e2
        cases e2; exact eo
      · rw [List.getElem?_set_ne hj] at e2
        refine (S.ok.at_ j b o e1 e2).mono _ _ (Pre.refl f) z fun ob q => st b ob q (fun qb => ?_) fun qb => ?_
        · subst qb
          have hl1 := (List.getElem?_eq_some_iff.mp hi)
          exact hj ((List.getElem?_inj hl1.1 S.ok.nodup).mp (hi.trans e1.symm))
        · subst qb; exact S.fr.out (List.mem_of_getElem? e1)
    · subst q
      rw [S.ok.fresh b hD] at k; cases k
    · subst q
      rw [ap.base] at k; cases k
end
end QZ
namespace QZ
open PySem PySem.W PySem.Calls PyProof.Rows
theorem no_some {α : Type} {a : α} {G : Prop} (h : Option.none = some a) : G := nomatch h
theorem no_tt {G : Prop} (h : false = true) : G := nomatch h
theorem loc?_of {v : V} {n : Nat} {M : V → Prop} (h : loc? v = some n) (k : M (.loc n)) : M v := by
  cases v with
  | loc => exact Option.some.inj h ▸ k
  | _ => exact no_some h
theorem int?_of {v : V} {n : Int} {M : V → Prop} (h : int? v = some n) (k : M (.int n)) : M v := by
  cases v with
  | int => exact Option.some.inj h ▸ k
  | _ => exact no_some h
theorem tup?_of {v : V} {n : List V} {M : V → Prop} (h : tup? v = some n) (k : M (.tup n)) : M v := by
  cases v with
  | tup => exact Option.some.inj h ▸ k
  | _ => exact no_some h
theorem str?_of {v : V} {n : Str} {M : V → Prop} (h : msgOf v = some n) (k : M (.str n)) : M v := by
  cases v with
  | str => exact Option.some.inj h ▸ k
  | _ => exact no_some h
theorem bool?_of {v : V} {n : Bool} {M : V → Prop} (h : bool? v = some n) (k : M (.bool n)) : M v := by
  cases v with
  | bool => exact Option.some.inj h ▸ k
  | _ => exact no_some h
theorem isNone_of {v : V} {M : V → Prop} (h : isNone v = true) (k : M .none) : M v := by
  cases v with
  | none => exact k
  | _ => exact no_tt h
theorem lst?_of {o : O} {l : List V} {M : O → Prop} (h : lst? o = some l) (k : M (.list l)) : M o := by
  cases o with
  | list => exact Option.some.inj h ▸ k
  | _ => exact no_some h
theorem att?_of {o : O} {l : List (Nat × V)} {M : O → Prop} (h : att? o = some l) (k : M (.attrs l)) : M o := by
  cases o with
  | attrs => exact Option.some.inj h ▸ k
  | _ => exact no_some h
theorem V.sel_of {β : Type} {d : β} {t : List V → β} {l : Nat → β} {v : V} {M : V → β → Prop} (hd : ∀ v, M v d) (ht : ∀ x, M (.tup x) (t x)) (hl : ∀ n, M (.loc n) (l n)) : M v (v.sel d t l) := by
  cases v with
  | tup => exact ht _
  | loc => exact hl _
  | _ => exact hd _
theorem O.sel_of {β : Type} {d : β} {l : List V → β} {m : DK → List (V × V) → β} {o : O} {M : O → β → Prop} (hd : ∀ o, M o d) (hl : ∀ x, M (.list x) (l x)) (hm : ∀ k x, M (.dict k x) (m k x)) : M o (o.sel d l m) := by
  cases o with
  | list => exact hl _
  | dict => exact hm _ _
  | _ => exact hd _
theorem lstAt_of {σ : St} {n : Nat} {l : List V} (h : σ[n]?.bind lst? = some l) : σ[n]? = some (.list l) := bind_of h fun o e h => e.trans (congrArg some (lst?_of (M := fun o => o = .list l) h rfl))
theorem listIn_of {σ : St} {v : V} {l : List V} {M : V → Prop} (h : listIn σ v = some l) (k : ∀ n, σ[n]? = some (.list l) → M (.loc n)) : M v :=
  bind_of h fun n e h => loc?_of e (k n (lstAt_of h))
theorem oneOf_of {vs : List V} {v : V} {M : List V → Prop} (h : oneOf vs = some v) (k : M [v]) : M vs := by
  cases vs with
  | nil => cases h
  | cons w vs => cases vs with
    | nil => exact Option.some.inj h ▸ k
    | cons => cases h
theorem twoOf_of {vs : List V} {p : V × V} {M : List V → Prop} (h : twoOf vs = some p) (k : M [p.1, p.2]) : M vs := by
  cases vs with
  | nil => cases h
  | cons w vs => exact map_of h fun y e q => oneOf_of (M := fun vs => M (w :: vs)) e (by cases q; exact k)
noncomputable def Ne {β : Type} (P : Res β → Prop) (r : Res β) : Prop := r ≠ .stuck → P r
section
variable {α β : Type} {P : Res β → Prop}
theorem ne_of {o : Option α} {g : α → Res β} (k : ∀ b, o = some b → Ne P (g b)) : Ne P (ofO o g) := by
  cases o with
  | none => exact fun h => absurd rfl h
  | some a => exact k a rfl
theorem ne_if {b : Bool} {r : Res β} (k : b = true → Ne P r) : Ne P (cond b r .stuck) := by
  cases b with
  | false => exact fun h => absurd rfl h
  | true => exact k rfl
theorem ne_no : Ne P .stuck := fun h => absurd rfl h
theorem ne_dec {p : Prop} {_ : Decidable p} {r : Res β} (k : p → Ne P r) : Ne P (cond (decide p) r .stuck) := ne_if fun h => k (of_decide_eq_true h)
end
section
variable {C : Cx} {a : Act} {f : Fmap} {ρ : Rho} {σ : St} {s : Shared} {A : Around} {E : Value → Shared → Prop}
theorem pre_nil (f : Fmap) : Pre [] f := fun n a e => nomatch e
theorem rel_int {f : Fmap} {h : Heap} {i : Int} {t : Tok} : Rel f h (.int i) (.int i t) := ⟨t, rfl⟩
theorem rel_str {f : Fmap} {h : Heap} {x : Str} {t : Tok} : Rel f h (.str x) (.str x t) := ⟨t, rfl⟩
theorem rel_bool {f : Fmap} {h : Heap} {b : Bool} : Rel f h (.bool b) (.bool b) := rfl
theorem rel_none {f : Fmap} {h : Heap} : Rel f h .none .none := rfl
theorem rel_loc {f : Fmap} {h : Heap} {n : Nat} {D : Addr} (e : f[n]? = some D) : Rel f h (.loc n) (.ref D) := ⟨D, rfl, e⟩
theorem Rel.int {f : Fmap} {h : Heap} {i : Int} {v : Value} {M : Value → Prop} (r : Rel f h (.int i) v) (k : ∀ t, M (.int i t)) : M v := Exists.elim r fun t e => e ▸ k t
theorem Rel.str {f : Fmap} {h : Heap} {i : Str} {v : Value} {M : Value → Prop} (r : Rel f h (.str i) v) (k : ∀ t, M (.str i t)) : M v := Exists.elim r fun t e => e ▸ k t
theorem Rel.loc {f : Fmap} {h : Heap} {n : Nat} {v : Value} {M : Value → Prop} (r : Rel f h (.loc n) v) (k : ∀ D, f[n]? = some D → M (.ref D)) : M v := Exists.elim r fun D e => e.1 ▸ k D e.2
theorem Rel.tup {f : Fmap} {h : Heap} {l : List V} {v : Value} {M : Value → Prop} (r : Rel f h (.tup l) v) (k : ∀ D its, IsTup h D its → RelL f h l its.toList → M (.ref D)) : M v := Exists.elim r fun D e => Exists.elim e fun its e => e.1 ▸ k D its e.2.1 e.2.2
theorem ListAt.mk {h : Heap} (k : Ok C.prog C.w C.base f σ h) {n : Nat} {l : List V} {D : Addr} (hD : f[n]? = some D) (e : σ[n]? = some (.list l)) {G : Prop} (q : ∀ its c, h.get? D = some (listOf its c) → RelL f h l its.toList → its.size = l.length → G) : G :=
  Exists.elim (k.at_ n D _ hD e) fun its x => Exists.elim x fun c x => q its c x.1 x.2 ((Array.length_toList ..).symm.trans x.2.len)
theorem Rel.list {h : Heap} (k : Ok C.prog C.w C.base f σ h) {n : Nat} {l : List V} {v : Value} {M : Value → Prop} (r : Rel f h (.loc n) v) (e : σ[n]? = some (.list l)) (q : ∀ D its c, f[n]? = some D → h.get? D = some (listOf its c) → RelL f h l its.toList → its.size = l.length → M (.ref D)) : M v :=
  r.loc fun D hD => ListAt.mk k hD e fun its c h1 h2 h3 => q D its c hD h1 h2 h3
theorem Rel.listE {h : Heap} (k : Ok C.prog C.w C.base f σ h) {n : Nat} {l : List V} {v : Value} (r : Rel f h (.loc n) v) (e : σ[n]? = some (.list l)) : ∃ D its c, v = .ref D ∧ f[n]? = some D ∧ h.get? D = some (listOf its c) ∧ RelL f h l its.toList :=
  r.list (M := fun v => ∃ D its c, v = .ref D ∧ f[n]? = some D ∧ h.get? D = some (listOf its c) ∧ RelL f h l its.toList) k e fun D its c h1 h2 h3 _ => ⟨D, its, c, rfl, h1, h2, h3⟩
theorem isList_of {h : Heap} {D : Addr} {its : Array Value} {c : Nat} (e : h.get? D = some (listOf its c)) : h.IsList D its := ⟨_, e, rfl, c, rfl⟩
theorem objAt_list {prog : Program} {w : World} {f : Fmap} {h : Heap} {D : Addr} {its : Array Value} {c : Nat} {l : List V} (e : h.get? D = some (listOf its c)) (r : RelL f h l its.toList) : ObjAt prog w f h D (.list l) := ⟨its, c, e, r⟩
theorem at_end (f : Fmap) (D : Addr) : (f ++ [D])[f.length]? = some D := by rw [List.getElem?_append_right (Nat.le_refl _), Nat.sub_self]; rfl
theorem rel_new {h : Heap} {f : Fmap} {σ : St} {D : Addr} (e : f.length = σ.length) : Rel (f ++ [D]) h (.loc σ.length) (.ref D) := rel_loc (e ▸ at_end f D)
theorem hereT {α β : Type} {Rl : Fmap → Heap → β → α → Prop} {v : β} {val : α} {ex : List Addr} (S : Sp C a f ρ σ s) (r : Rl f s.heap v val) {tk : Nat} : PV C ex f s Rl (.ok v σ) val { s with toks := tk } := ⟨f, ⟨Nxt.refl _ _ _, S.ok, S.gens, S.os⟩, r⟩
theorem here {α β : Type} {Rl : Fmap → Heap → β → α → Prop} {v : β} {val : α} {ex : List Addr} (S : Sp C a f ρ σ s) (r : Rl f s.heap v val) : PV C ex f s Rl (.ok v σ) val s := hereT S r
theorem fits {n : Nat} (h : n ≤ 10000) : n ≤ sizeLine := Nat.le_trans h (by decide +kernel)
theorem int2_of {β : Type} {x y : V} {d : β} {k : Int → Int → β} {M : V → V → β → Prop} (m : ∀ a b, M (.int a) (.int b) (k a b)) (n : M x y d) : M x y (int2 x y d k) := by
  cases x with
  | int a => cases y with
    | int b => exact m a b
    | _ => exact n
  | _ => exact n
theorem op_int (S : Sp C a f ρ σ s) {op : Operator} {i j : Int} {t u : Tok} : Ne (fun r => wpAny (model C.prog C.w) A (binaryOp op (.int i t) (.int j u)) (PV C (lx a) f s Rel r) E s) (intBin op i j σ) := by
  cases op with
  | Add => exact fun _ => PyProof.Rows.add_int (hereT S rel_int)
  | Sub => exact fun _ => PyProof.Rows.sub_int (hereT S rel_int)
  | Mult => exact ne_dec fun h _ => PyProof.Rows.mul_int (hereT S rel_int) (IntMulOk.of_left (intBits_le_64 (by have := h.1; omega) (by have := h.1; omega)))
  | Mod => exact ne_dec fun h _ => PyProof.Rows.mod_int' h (hereT S rel_int)
  | FloorDiv => exact ne_dec fun h _ => PyProof.Rows.floordiv_int h.1 (hereT S rel_int) (.inl (PyProof.noPylong_small h.2))
  | Pow => exact ne_dec fun h _ => PyProof.Rows.pow_int_small h.1 (by have := h.2.1; omega) (by have := h.2.2; omega) (hereT S rel_int)
  | LShift => exact ne_dec fun h _ => PyProof.Rows.lshift_int_small h.1 (by have := h.2.1; omega) (by have := h.2.2; omega) (hereT S rel_int)
  | BitOr => exact fun _ => PyProof.Rows.or_int (hereT S rel_int)
  | BitAnd => exact fun _ => PyProof.Rows.and_int (hereT S rel_int)
  | _ => exact ne_no
theorem op_listAdd (S : Sp C a f ρ σ s) (ap : a.Apart C) {x y : V} {vx vy : Value} (rx : Rel f s.heap x vx) (ry : Rel f s.heap y vy) : Ne (fun r => wpAny (model C.prog C.w) A (binaryOp .Add vx vy) (PV C (lx a) f s Rel r) E s) (listAdd x y σ) :=
  ne_of fun l h1 => ne_of fun k h2 => ne_dec fun hz _ => by
    revert rx ry
    refine listIn_of (M := fun x => Rel f s.heap x vx → _) h1 fun n h1 rx => listIn_of (M := fun y => Rel f s.heap y vy → _) h2 fun m h2 ry => ?_
    refine rx.list (M := fun vx => wpAny _ _ (binaryOp .Add vx vy) _ _ _) S.ok h1 fun D its c hD hg rl hs => ry.list (M := fun vy => wpAny _ _ (binaryOp .Add _ vy) _ _ _) S.ok h2 fun D' its' c' hD' hg' rl' hs' => ?_
    refine S.ns.elim fun m hm => PyProof.Rows.add_lists (vs := its.toList) (ws := its'.toList) (frK hm) (newsK _ _) (isList_of hg) (isList_of hg') (fun h' F' N' => ?_) (by rw [rl.len, rl'.len]; exact fits hz)
    exact ⟨f ++ [s.heap.objs.size], postNew S ap (o := .list (l ++ k)) hm F' N' (fun _ h => h) (.inl rfl) (fun z e => objAt_list e ((rl.append rl').mono (Pre.app _ _) z)) s.toks, rel_new S.ok.len⟩
theorem mul_rep (k : Nat) {v : Value} {its : Array Value} (h : its.toList = [v]) : ∀ acc : Array Value, (List.foldl (fun (x1 x2 : Array Value) => x1 ++ x2) acc (List.replicate k its)).toList = acc.toList ++ List.replicate k v := by
  induction k with
  | zero => exact fun acc => (List.append_nil _).symm
  | succ k ih =>
    intro acc
    rw [List.replicate_succ, List.foldl_cons, ih, Array.toList_append, h, List.append_assoc]
    rfl
theorem op_listMul (S : Sp C a f ρ σ s) (ap : a.Apart C) {x y : V} {vx vy : Value} (rx : Rel f s.heap x vx) (ry : Rel f s.heap y vy) : Ne (fun r => wpAny (model C.prog C.w) A (binaryOp .Mult vx vy) (PV C (lx a) f s Rel r) E s) (listMul x y σ) :=
  ne_of fun l h1 => ne_of fun v hv => ne_of fun k h2 => ne_dec fun hz _ => by
    cases oneOf_of (M := fun l' => l' = [v]) hv rfl
    revert rx ry
    refine listIn_of (M := fun x => Rel f s.heap x vx → _) h1 fun n h1 rx => int?_of (M := fun y => Rel f s.heap y vy → _) h2 fun ry => ?_
    refine rx.list (M := fun vx => wpAny _ _ (binaryOp .Mult vx vy) _ _ _) S.ok h1 fun D its c hD hg rl hs => ry.int (M := fun vy => wpAny _ _ (binaryOp .Mult _ vy) _ _ _) fun t => ?_
    have hs : its.size = 1 := hs
    refine S.ns.elim fun m hm => PyProof.Rows.mul_list (k := c) (frK hm) (newsK _ _) hg (by omega) (by omega) (by rw [hs]; omega) fun h' F' N' => ?_
    refine ⟨f ++ [s.heap.objs.size], postNew S ap (o := .list (List.replicate k.toNat v)) hm F' N' (fun _ h => h) (.inl rfl) (fun z e => objAt_list e ?_) s.toks, rel_new S.ok.len⟩
    obtain ⟨w, r, e1, rw_, e2⟩ := id rl
    cases e2
    rw [if_neg (by simp [Array.isEmpty, hs]), mul_rep _ e1]
    exact RelL.replicate (rw_.mono (Pre.app _ _) z) _
theorem op_bin (S : Sp C a f ρ σ s) (ap : a.Apart C) {op : Operator} {x y : V} {vx vy : Value} (rx : Rel f s.heap x vx) (ry : Rel f s.heap y vy) (hn : binop op x y σ ≠ .stuck) :
    wpAny (model C.prog C.w) A (binaryOp op vx vy) (PV C (lx a) f s Rel (binop op x y σ)) E s := by
  revert rx ry hn
  refine int2_of (M := fun x y r => Rel f s.heap x vx → Rel f s.heap y vy → Ne (fun r => wpAny (model C.prog C.w) A (binaryOp op vx vy) (PV C (lx a) f s Rel r) E s) r) (fun i j rx ry => ?_) fun rx ry => ?_
  · exact rx.int (M := fun vx => Ne (fun r => wpAny _ _ (binaryOp op vx vy) (PV C (lx a) f s Rel r) _ _) _) fun t => ry.int (M := fun vy => Ne (fun r => wpAny _ _ (binaryOp op _ vy) (PV C (lx a) f s Rel r) _ _) _) fun u => op_int S
  · cases op with
    | Add => exact op_listAdd S ap rx ry
    | Mult => exact op_listMul S ap rx ry
    | _ => exact ne_no
theorem op_truthy (S : Sp C a f ρ σ s) {x : V} {v : Value} {b : Bool} (r : Rel f s.heap x v) (h : truth x = some b) {ex : List Addr} : wpAny (model C.prog C.w) A (truthy v) (PV C ex f s (fun _ _ (p q : Bool) => p = q) (.ok b σ)) E s := by
  cases x with
  | none => exact (show v = .none from r) ▸ wpAny_pure (here S (Option.some.inj h).symm)
  | bool => exact (show v = .bool _ from r) ▸ wpAny_truthy_bool (here S (Option.some.inj h).symm)
  | int => exact r.int (M := fun v => wpAny _ _ (truthy v) _ _ _) fun t => PyProof.Rows.truthy_int (here S (Option.some.inj h).symm)
  | _ => cases h
theorem op_neg (S : Sp C a f ρ σ s) {i : Int} {v : Value} (r : Rel f s.heap (.int i) v) {ex : List Addr} : wpAny (model C.prog C.w) A (unaryOp .USub v) (PV C ex f s Rel (.ok (.int (-i)) σ)) E s :=
  r.int (M := fun v => wpAny _ _ (unaryOp .USub v) _ _ _) fun t => PyProof.Rows.neg_int (hereT S rel_int)
end
end QZ
namespace QZ
open PySem PySem.W PySem.Calls PyProof.Rows
inductive Alike (h : Heap) (n : Nat) (va vb : Value) (r : Bool) : Prop
  | mk {da db as bs} (ra : Reads h va da as) (rb : Reads h vb db bs) (la : da.canLay0 = true) (lb : db.canLay0 = true) (ha : da.depth ≤ n) (hb : db.depth ≤ n) (e : PyData.eqv da db = r) : Alike h n va vb r
inductive AlikeL (h : Heap) (n : Nat) (va vb : List Value) (r : Bool) : Prop
  | mk {da db as bs} (ra : ReadsAll h va da as) (rb : ReadsAll h vb db bs) (la : PyData.canLayAll0 da = true) (lb : PyData.canLayAll0 db = true) (ha : PyData.depthAll da ≤ n) (hb : PyData.depthAll db ≤ n) (e : PyData.eqvAll da db = r) : AlikeL h n va vb r
theorem Alike.wide {h : Heap} {n m : Nat} {va vb : Value} {r : Bool} (x : Alike h n va vb r) (l : n ≤ m) : Alike h m va vb r := by
  cases x with
  | mk ra rb la lb ha hb e => exact .mk ra rb la lb (Nat.le_trans ha l) (Nat.le_trans hb l) e
theorem AlikeL.nil {h : Heap} {n : Nat} : AlikeL h n [] [] true := .mk .nil .nil rfl rfl (Nat.zero_le _) (Nat.zero_le _) rfl
theorem AlikeL.cons {h : Heap} {n : Nat} {v w : Value} {va vb : List Value} {r t : Bool} (x : Alike h n v w r) (y : AlikeL h n va vb t) : AlikeL h n (v :: va) (w :: vb) (r && t) := by
  cases x with
  | mk ra rb la lb ha hb e => cases y with
    | mk ra' rb' la' lb' ha' hb' e' =>
      exact .mk (.cons ra ra') (.cons rb rb') (by rw [PyData.canLayAll0, la, la']; rfl) (by rw [PyData.canLayAll0, lb, lb']; rfl) (Nat.max_le.mpr ⟨ha, ha'⟩) (Nat.max_le.mpr ⟨hb, hb'⟩) (by rw [PyData.eqvAll, e, e'])
theorem AlikeL.tup {h : Heap} {n : Nat} {D D' : Addr} {its its' : Array Value} {r : Bool} (i : IsTup h D its) (j : IsTup h D' its') (x : AlikeL h n its.toList its'.toList r) : Alike h (n + 1) (.ref D) (.ref D') r := by
  obtain ⟨o, ho, hc, c, hd⟩ := i
  obtain ⟨o', ho', hc', c', hd'⟩ := j
  cases x with
  | mk ra rb la lb ha hb e => exact .mk (.tuple ho hc hd ra) (.tuple ho' hc' hd' rb) la lb (Nat.succ_le_succ ha) (Nat.succ_le_succ hb) e
theorem AlikeL.lst {h : Heap} {n : Nat} {D D' : Addr} {its its' : Array Value} {c c' : Nat} {r : Bool} (i : h.get? D = some (listOf its c)) (j : h.get? D' = some (listOf its' c')) (x : AlikeL h n its.toList its'.toList r) : Alike h (n + 1) (.ref D) (.ref D') r := by
  cases x with
  | mk ra rb la lb ha hb e => exact .mk (.list i rfl rfl ra) (.list j rfl rfl rb) la lb (Nat.succ_le_succ ha) (Nat.succ_le_succ hb) e
theorem Alike.none {h : Heap} {n : Nat} : Alike h n .none .none true := .mk .none .none rfl rfl (Nat.zero_le _) (Nat.zero_le _) rfl
theorem Alike.int {h : Heap} {n : Nat} {i j : Int} {t u : Tok} : Alike h n (.int i t) (.int j u) (i == j) := .mk (.int i t) (.int j u) rfl rfl (Nat.zero_le _) (Nat.zero_le _) rfl
theorem Alike.str {h : Heap} {n : Nat} {i j : Str} {t u : Tok} (q : (PyData.strOk i && PyData.strOk j) = true) : Alike h n (.str i t) (.str j u) (i == j) := .mk (.str i t) (.str j u) (Bool.and_eq_true_iff.mp q).1 (Bool.and_eq_true_iff.mp q).2 (Nat.zero_le _) (Nat.zero_le _) rfl
theorem alikeL {f : Fmap} {h : Heap} {n : Nat} {e : V → V → Option Bool} (k : ∀ {x y va vb r}, e x y = some r → Rel f h x va → Rel f h y vb → Alike h n va vb r) : ∀ {x y : List V} {va vb : List Value} {r : Bool}, eqL e x y = some r → RelL f h x va → RelL f h y vb → AlikeL h n va vb r
  | [], m, va, vb, r, q, ra, rb => by
    refine cond_of q fun q1 q2 => ?_
    cases m with
    | nil =>
      cases (show va = [] from ra)
      cases (show vb = [] from rb)
      exact Option.some.inj q2 ▸ .nil
    | cons => cases q1
  | x :: l, m, va, vb, r, q, ra, rb => by
    cases m with
    | nil => cases q
    | cons y m =>
      refine bind_of q fun b q1 q => map_of q fun c q2 q => q ▸ ?_
      obtain ⟨v, va', rfl, rv, ra'⟩ := id ra
      obtain ⟨w, vb', rfl, rw_, rb'⟩ := id rb
      exact AlikeL.cons (k q1 rv rw_) (alikeL k q2 ra' rb')
theorem alike0 {f : Fmap} {h : Heap} {n : Nat} {L : List V → List V → Option Bool} (k : ∀ {x y va vb r}, L x y = some r → RelL f h x va → RelL f h y vb → AlikeL h n va vb r) {x y : V} {va vb : Value} {r : Bool} (q : eq0 L x y = some r) (ra : Rel f h x va) (rb : Rel f h y vb) : Alike h (n + 1) va vb r := by
  revert rb
  cases x with
  | none =>
    refine cond_of q fun q1 q2 => isNone_of (M := fun y => Rel f h y vb → _) q1 fun rb => ?_
    cases (show va = .none from ra)
    cases (show vb = .none from rb)
    exact Option.some.inj q2 ▸ .none
  | int i => exact map_of q fun j q1 q2 => int?_of (M := fun y => Rel f h y vb → _) q1 fun rb => ra.int (M := fun va => Alike h _ va vb r) fun t => rb.int (M := fun vb => Alike h _ _ vb r) fun u => q2 ▸ .int
  | str i => exact bind_of q fun j q1 q2 => cond_of q2 fun q2 q3 => str?_of (M := fun y => Rel f h y vb → _) q1 fun rb => ra.str (M := fun va => Alike h _ va vb r) fun t => rb.str (M := fun vb => Alike h _ _ vb r) fun u => Option.some.inj q3 ▸ .str q2
  | tup l => exact bind_of q fun m q1 q2 => tup?_of (M := fun y => Rel f h y vb → _) q1 fun rb => ra.tup (M := fun va => Alike h _ va vb r) fun D its ht rl => rb.tup (M := fun vb => Alike h _ _ vb r) fun D' its' ht' rl' => (k q2 rl rl').tup ht ht'
  | _ => cases q
theorem alike_V {f : Fmap} {h : Heap} (k : Nat) : ∀ {x y : V} {va vb : Value} {r : Bool}, eqV k x y = some r → Rel f h x va → Rel f h y vb → Alike h (k + 1) va vb r := by
  induction k with
  | zero => exact fun q ra rb => alike0 (n := 0) (L := fun _ _ => none) (fun q => nomatch q) q ra rb
  | succ k ih => exact fun q ra rb => alike0 (L := eqL (eqV k)) (alikeL ih) q ra rb
section
variable {C : Cx} {a : Act} {f : Fmap} {ρ : Rho} {σ : St} {s : Shared} {A : Around} {E : Value → Shared → Prop}
theorem alikeO {h : Heap} (k : Ok C.prog C.w C.base f σ h) {e : V → V → Option Bool} {n : Nat} (q : ∀ {x y va vb r}, e x y = some r → Rel f h x va → Rel f h y vb → Alike h n va vb r) (hn : 9 ≤ n) {x y : V} {va vb : Value} {r : Bool} (hq : ((loc? x).elim (eqV 8 x y) fun _ => (listIn σ x).bind fun l => (listIn σ y).bind fun k => eqL e l k) = some r) (ra : Rel f h x va) (rb : Rel f h y vb) : Alike h (n + 1) va vb r := by
  revert hq
  cases loc? x with
  | none => exact fun h => (alike_V 8 h ra rb).wide (Nat.le_succ_of_le hn)
  | some _ =>
    refine fun h => bind_of h fun l h1 h => bind_of h fun m h2 h => ?_
    revert ra rb
    refine listIn_of (M := fun x => Rel f _ x va → _) h1 fun i h1 ra => listIn_of (M := fun y => Rel f _ y vb → _) h2 fun j h2 rb => ?_
    refine ra.list (M := fun va => Alike _ _ va vb r) k h1 fun D its c hD hg rl _ => rb.list (M := fun vb => Alike _ _ _ vb r) k h2 fun D' its' c' hD' hg' rl' _ => ?_
    exact (alikeL q h rl rl').lst hg hg'
theorem alike_O {h : Heap} (k : Ok C.prog C.w C.base f σ h) {x y : V} {va vb : Value} {r : Bool} (e : eqO σ x y = some r) (ra : Rel f h x va) (rb : Rel f h y vb) : Alike h 11 va vb r := alikeO (n := 10) k (alikeO (n := 9) k (alike_V 8) (by decide)) (by decide) e ra rb
inductive Found {W : Type} (vl : W → Value) (f : Fmap) (h : Heap) : Option V → Option W → Prop
  | yes {v w} (e : Rel f h v (vl w)) : Found vl f h (some v) (some w)
  | no : Found vl f h none none
theorem pairs_find {K W : Type} [DecidableEq K] {mk : K → V} {vl : W → Value} (inj : ∀ a b, mk a = mk b → a = b) {f : Fmap} {h : Heap} {k : K} {l : List (V × V)} {kvs : List (K × W)} (r : PairsG mk vl f h l kvs) : Found vl f h (lookD (mk k) l) ((kvs.find? fun kv => decide (kv.1 = k)).map (·.2)) := by
  induction r with
  | nil => exact .no
  | @cons j x w l r e q ih =>
    rw [lookD, List.find?_cons]
    by_cases hk : j = k
    · rw [if_pos (congrArg mk hk), decide_eq_true hk]
      exact .yes e
    · rw [if_neg fun q => hk (inj _ _ q), decide_eq_false hk]
      exact ih
theorem V.int_inj (a b : Int) (h : V.int a = .int b) : a = b := V.int.inj h
theorem V.str_inj (a b : Str) (h : V.str a = .str b) : a = b := V.str.inj h
theorem V.tup_inj (a b : List V) (h : V.tup a = .tup b) : a = b := V.tup.inj h
theorem pairsI_find {f : Fmap} {h : Heap} {k : Int} {l : List (V × V)} {kvs : List (Int × Value)} (r : PairsI f h l kvs) : Found id f h (lookD (.int k) l) (valueAt kvs k) := pairs_find V.int_inj r
theorem pairsS_find {f : Fmap} {h : Heap} {k : Str} {l : List (V × V)} {kvs : List (Str × Value)} (r : PairsS f h l kvs) : Found id f h (lookD (.str k) l) (valueAt kvs k) := pairs_find V.str_inj r
theorem pairsT_find {f : Fmap} {h : Heap} {k : List V} {l : List (V × V)} {kvs : List (List V × Addr × Value)} (r : PairsT f h l kvs) : Found (·.2) f h (lookD (.tup k) l) (atKey kvs k) := pairs_find V.tup_inj r
theorem Found.some {W : Type} {vl : W → Value} {f : Fmap} {h : Heap} {o : Option V} {q : Option W} (x : Found vl f h o q) {v : V} (e : o = some v) {G : Prop} (k : ∀ w, q = .some w → Rel f h v (vl w) → G) : G := by
  cases x with
  | yes r => exact k _ rfl (Option.some.inj e ▸ r)
  | no => cases e
theorem Found.isSome {W : Type} {vl : W → Value} {f : Fmap} {h : Heap} {o : Option V} {q : Option W} (x : Found vl f h o q) : q.isSome = o.isSome := by cases x <;> rfl
theorem Ok.ne_sys (G : C.Good) {h : Heap} (k : Ok C.prog C.w C.base f σ h) {D : Addr} (hD : D ∈ f) : (D == sysModules) = false :=
  beq_eq_false_iff_ne.mpr fun e => by have := G.sysm; rw [← e, k.fresh _ hD] at this; cases this
theorem relL_any {f : Fmap} {h : Heap} {p : V → Bool} {q : Value → Bool} : ∀ {l : List V} {vs : List Value}, RelL f h l vs → (∀ x v, x ∈ l → Rel f h x v → p x = q v) → l.any p = vs.any q
  | [], vs, r, _ => (show vs = [] from r) ▸ rfl
  | x :: l, vs, r, k => by
    obtain ⟨v, w, rfl, rv, rr⟩ := id r
    rw [List.any_cons, List.any_cons, k x v (.head _) rv, relL_any rr fun y u hy => k y u (.tail _ hy)]
theorem relL_mem {f : Fmap} {h : Heap} : ∀ {l : List V} {vs : List Value}, RelL f h l vs → ∀ v ∈ vs, ∃ x ∈ l, Rel f h x v
  | [], vs, r, v, hv => by rw [show vs = [] from r] at hv; cases hv
  | x :: l, vs, r, v, hv => by
    obtain ⟨u, w, rfl, rv, rr⟩ := id r
    rcases List.mem_cons.mp hv with rfl | hv
    · exact ⟨x, .head _, rv⟩
    · exact (relL_mem rr v hv).elim fun y q => ⟨y, .tail _ q.1, q.2⟩
noncomputable def strOf? (s : Str) : Value → Bool | .str t _ => t == s | _ => false
noncomputable def intOf? (i : Int) : Value → Bool | .int j _ => j == i | _ => false
theorem isStrV_of {v : V} {M : V → Prop} (h : isStrV v = true) (k : ∀ x, PyData.strOk x = true → M (.str x)) : M v := by
  cases v with
  | str x => exact k x h
  | _ => cases h
theorem isInt_of {v : V} {M : V → Prop} (h : isInt v = true) (k : ∀ x, M (.int x)) : M v := by
  cases v with
  | int x => exact k x
  | _ => cases h
noncomputable def InOk (C : Cx) (A : Around) (E : Value → Shared → Prop) (ex : List Addr) (f : Fmap) (σ : St) (s : Shared) (vx vc : Value) (b : Bool) : Prop :=
  wpAny (model C.prog C.w) A (compareOp .In vx vc) (PV C ex f s Rel (.ok (.bool b) σ)) E s ∧ wpAny (model C.prog C.w) A (compareOp .NotIn vx vc) (PV C ex f s Rel (.ok (.bool (!b)) σ)) E s
theorem in_tup (S : Sp C a f ρ σ s) (hu : A.units + 100 < cLine) {x : Str} {t : Tok} {l : List V} {D : Addr} {its : Array Value} (hi : IsTup s.heap D its) (rl : RelL f s.heap l its.toList) (hs : (l.all isStrV && PyData.strOk x) = true) {ex : List Addr} :
    InOk C A E ex f σ s (.str x t) (.ref D) (l.any fun v => eqStrV v x) := by
  have hs := Bool.and_eq_true_iff.mp hs
  have h1 := List.all_eq_true.mp hs.1
  have he : ∀ y, y ∈ its → SeqAt.EqAt A.in1 s y (.str x t) (strOf? x y) := fun y hy => by
    obtain ⟨z, hz, rz⟩ := relL_mem rl y (Array.mem_toList_iff.mpr hy)
    revert rz
    refine isStrV_of (M := fun z => Rel f s.heap z y → _) (h1 z hz) fun u hu' rz => rz.str (M := fun y => SeqAt.EqAt A.in1 s y _ (strOf? x y)) fun tu => ?_
    exact SeqAt.eqAt_reads _ _ A.in1 s _ _ _ _ (.str u tu) (.str x t) hu' hs.2 (by show A.units + _ + _ < _; simp only [PyData.depth]; omega)
  have ea : its.any (strOf? x) = l.any fun v => eqStrV v x := by
    rw [← Array.any_toList]
    exact (relL_any rl fun z v hz rz => isStrV_of (M := fun z => Rel f s.heap z v → eqStrV z x = strOf? x v) (h1 z hz) (fun u _ rz => rz.str (M := fun v => eqStrV _ x = strOf? x v) fun _ => rfl) rz).symm
  exact ⟨SeqAt.in_tupleAt (strOf? x) hi he (ea ▸ here S rel_bool), SeqAt.notIn_tupleAt (strOf? x) hi he (ea ▸ here S rel_bool)⟩
theorem in_list' (S : Sp C a f ρ σ s) (hu : A.units + 100 < cLine) {i : Int} {t : Tok} {l : List V} {D : Addr} {its : Array Value} (hi : s.heap.IsList D its) (rl : RelL f s.heap l its.toList) (hs : l.all isInt = true) {ex : List Addr} :
    InOk C A E ex f σ s (.int i t) (.ref D) (l.any fun v => intOf v == i) := by
  have h1 := List.all_eq_true.mp hs
  have he : ∀ y, y ∈ its → SeqAt.EqAt A.in1 s y (.int i t) (intOf? i y) := fun y hy => by
    obtain ⟨z, hz, rz⟩ := relL_mem rl y (Array.mem_toList_iff.mpr hy)
    revert rz
    refine isInt_of (M := fun z => Rel f s.heap z y → _) (h1 z hz) fun u rz => rz.int (M := fun y => SeqAt.EqAt A.in1 s y _ (intOf? i y)) fun tu => ?_
    exact SeqAt.eqAt_reads _ _ A.in1 s _ _ _ _ (.int u tu) (.int i t) rfl rfl (by show A.units + _ + _ < _; simp only [PyData.depth]; omega)
  have ea : its.any (intOf? i) = l.any fun v => intOf v == i := by
    rw [← Array.any_toList]
    exact (relL_any rl fun z v hz rz => isInt_of (M := fun z => Rel f s.heap z v → (intOf z == i) = intOf? i v) (h1 z hz) (fun u rz => rz.int (M := fun v => (intOf _ == i) = intOf? i v) fun _ => rfl) rz).symm
  exact ⟨SeqAt.in_listAt (intOf? i) hi he (ea ▸ here S rel_bool), SeqAt.notIn_listAt (intOf? i) hi he (ea ▸ here S rel_bool)⟩
theorem in_dict' (G : C.Good) (S : Sp C a f ρ σ s) {i : Int} {t : Tok} {l : List (V × V)} {n : Nat} {D : Addr} (hD : f[n]? = some D) (hl : σ[n]? = some (.dict .i l)) {ex : List Addr} : InOk C A E ex f σ s (.int i t) (.ref D) (lookD (.int i) l).isSome := by
  obtain ⟨kvs, hd, hp⟩ := S.ok.at_ n D _ hD hl
  have e := (pairsI_find (k := i) hp).isSome
  have hk : (intKind C.prog C.w).is i (.int i t) = true := by simp [intKind, Value.isInt]
  exact ⟨wpAny_in_of (knd := intKind C.prog C.w) (k := i) hk (S.ok.ne_sys G (List.mem_of_getElem? hD)) hd.mapOf (e ▸ hereT S rel_bool), wpAny_notIn_of (knd := intKind C.prog C.w) (k := i) hk (S.ok.ne_sys G (List.mem_of_getElem? hD)) hd.mapOf (e ▸ hereT S rel_bool)⟩
theorem op_mem (G : C.Good) (S : Sp C a f ρ σ s) (hu : A.units + 100 < cLine) {x c : V} {vx vc : Value} {b : Bool} (rx : Rel f s.heap x vx) (rc : Rel f s.heap c vc) (h : memV σ x c = some b) {ex : List Addr} : InOk C A E ex f σ s vx vc b := by
  revert rx rc h
  refine V.sel_of (M := fun c r => Rel f s.heap x vx → Rel f s.heap c vc → r = some b → InOk C A E ex f σ s vx vc b) (fun _ _ _ h => nomatch h) (fun l rx rc h => ?_) fun n rx rc h => ?_
  · refine bind_of h fun u h1 h => cond_of h fun hs h => Option.some.inj h ▸ ?_
    revert rx
    exact str?_of (M := fun x => Rel f s.heap x vx → _) h1 fun rx => rx.str (M := fun vx => InOk C A E ex f σ s vx vc _) fun t => rc.tup (M := fun vc => InOk C A E ex f σ s _ vc _) fun D its hi rl => in_tup S hu hi rl hs
  · refine rc.loc (M := fun vc => InOk C A E ex f σ s vx vc b) fun D hD => bind_of h fun o ho h => ?_
    revert ho h
    refine O.sel_of (M := fun o r => σ[n]? = some o → r = some b → InOk C A E ex f σ s vx (.ref D) b) (fun _ _ h => nomatch h) (fun l ho h => ?_) fun k l ho h => ?_
    · refine bind_of h fun i h1 h => cond_of h fun hs h => Option.some.inj h ▸ ?_
      revert rx
      exact int?_of (M := fun x => Rel f s.heap x vx → _) h1 fun rx => rx.int (M := fun vx => InOk C A E ex f σ s vx _ _) fun t => ListAt.mk S.ok hD ho fun its c hg rl _ => in_list' S hu (isList_of hg) rl hs
    · cases k with
      | i =>
        refine map_of h fun i h1 h => h ▸ ?_
        revert rx
        exact int?_of (M := fun x => Rel f s.heap x vx → InOk C A E ex f σ s vx _ (lookD x l).isSome) h1 fun rx => rx.int (M := fun vx => InOk C A E ex f σ s vx _ _) fun t => in_dict' G S hD ho
      | _ => cases h
theorem op_ord (S : Sp C a f ρ σ s) {op : CmpOp} {p : Int → Int → Bool} (k : ∀ i j t u, wpAny (model C.prog C.w) A (compareOp op (.int i t) (.int j u)) (fun v s' => v = .bool (p i j) ∧ s' = s) E s) {x y : V} {vx vy : Value} {b : Bool} (rx : Rel f s.heap x vx) (ry : Rel f s.heap y vy) (h : (int2 x y none fun i j => some (p i j)) = some b) {ex : List Addr} :
    wpAny (model C.prog C.w) A (compareOp op vx vy) (PV C ex f s Rel (.ok (.bool b) σ)) E s := by
  revert rx ry h
  refine int2_of (M := fun x y r => Rel f s.heap x vx → Rel f s.heap y vy → r = some b → _) (fun i j rx ry h => ?_) fun _ _ h => nomatch h
  refine rx.int (M := fun vx => wpAny _ _ (compareOp op vx vy) _ _ _) fun t => ry.int (M := fun vy => wpAny _ _ (compareOp op _ vy) _ _ _) fun u => wpAny_mono (k i j t u) (fun v s' q => ?_) fun _ _ x => x
  obtain ⟨rfl, rfl⟩ := q
  exact Option.some.inj h ▸ here S rel_bool
theorem op_cmp (G : C.Good) (S : Sp C a f ρ σ s) (hu : A.units + 100 < cLine) {op : CmpOp} {x y : V} {vx vy : Value} {b : Bool} (rx : Rel f s.heap x vx) (ry : Rel f s.heap y vy) (h : cmpop op x y σ = some b) {ex : List Addr} :
    wpAny (model C.prog C.w) A (compareOp op vx vy) (PV C ex f s Rel (.ok (.bool b) σ)) E s := by
  cases op with
  | Eq =>
    cases alike_O S.ok h rx ry with
    | mk h1 h2 h3 h4 h5 h6 h7 => exact SeqAt.compareEq_reads h1 h2 h3 h4 (by omega) (h7 ▸ here S rel_bool)
  | NotEq =>
    refine map_of h fun r h e => e ▸ ?_
    cases alike_O S.ok h rx ry with
    | mk h1 h2 h3 h4 h5 h6 h7 => exact SeqAt.compareNe_reads h1 h2 h3 h4 (by omega) (h7 ▸ here S rel_bool)
  | Lt => exact op_ord S (p := fun i j => decide (i < j)) (fun i j t u => PyProof.Rows.lt_int ⟨rfl, rfl⟩) rx ry h
  | LtE => exact op_ord S (p := fun i j => decide (i ≤ j)) (fun i j t u => PyProof.Rows.le_int ⟨rfl, rfl⟩) rx ry h
  | Gt => exact op_ord S (p := fun i j => decide (j < i)) (fun i j t u => PyProof.Rows.gt_int ⟨rfl, rfl⟩) rx ry h
  | GtE => exact op_ord S (p := fun i j => decide (j ≤ i)) (fun i j t u => PyProof.Rows.ge_int ⟨rfl, rfl⟩) rx ry h
  | IsNot =>
    refine cond_of h fun q h => ?_
    revert ry
    refine isNone_of (M := fun y => Rel f s.heap y vy → _) q fun ry => ?_
    cases (show vy = .none from ry)
    cases x with
    | none =>
      cases (show vx = .none from rx)
      exact Option.some.inj h ▸ wpAny_isNot_self rfl (here S rel_bool)
    | tup => exact Option.some.inj h ▸ rx.tup (M := fun vx => wpAny _ _ (compareOp .IsNot vx .none) _ _ _) fun D its _ _ => wpAny_isNot_other rfl (fun q => nomatch q) (here S rel_bool)
    | _ => cases h
  | Is =>
    refine cond_of h fun q h => ?_
    revert ry
    refine isNone_of (M := fun y => Rel f s.heap y vy → _) q fun ry => ?_
    cases (show vy = .none from ry)
    cases x with
    | none =>
      cases (show vx = .none from rx)
      exact Option.some.inj h ▸ wpAny_is_self rfl (here S rel_bool)
    | tup => exact Option.some.inj h ▸ rx.tup (M := fun vx => wpAny _ _ (compareOp .Is vx .none) _ _ _) fun D its _ _ => wpAny_is_other rfl (fun q => nomatch q) (here S rel_bool)
    | _ => cases h
  | In => exact (op_mem G S hu rx ry h).1
  | NotIn => exact map_of h fun r h e => e ▸ (op_mem G S hu rx ry h).2
end
end QZ
namespace QZ
open PySem PySem.W PySem.Calls PyProof.Rows
theorem attr_nodup : (((List.range 51).map attrStr).Nodup) := by decide +kernel
theorem attrTab_len : attrTab.length = 51 := rfl
theorem attr_inj {m n : Nat} (hm : m < attrTab.length) (hn : n < attrTab.length) (e : attrStr m = attrStr n) : m = n := by
  rw [attrTab_len] at hm hn
  have h1 : ((List.range 51).map attrStr)[m]? = some (attrStr m) := by rw [List.getElem?_map, List.getElem?_range hm]; rfl
  have h2 : ((List.range 51).map attrStr)[n]? = some (attrStr n) := by rw [List.getElem?_map, List.getElem?_range hn]; rfl
  exact (List.getElem?_inj (by simpa using hm) attr_nodup).mp (h1.trans (by rw [h2, e]))
theorem refKey_str {es : List DictEntry} (h : ∀ e ∈ es, ∃ x t, e.key = .str x t) : es.any (·.refKey) = false := by
  rw [List.any_eq_false]
  intro e he
  obtain ⟨x, t, k⟩ := h e he
  unfold DictEntry.refKey
  rw [k]; simp
theorem getL_str {es : List DictEntry} (h : ∀ e ∈ es, ∃ x t, e.key = .str x t) (x : Str) : getL x es = some ((es.find? (·.key.isStr x)).map (·.val)) := by
  unfold getL
  cases es.find? (·.key.isStr x) with
  | some e => rfl
  | none => simp [refKey_str h]
theorem putL_keys {name : Str} {hsh : Int} {t : Tok} {v : Value} : ∀ {es : List DictEntry}, (∀ e ∈ es, ∃ x t, e.key = .str x t) → ∀ e ∈ putL name hsh (.str name t) v es, ∃ x t, e.key = .str x t
  | [], _, e, he => by simp only [putL, List.mem_singleton] at he; subst he; exact ⟨_, _, rfl⟩
  | d :: r, h, e, he => by
    unfold putL at he
    split at he
    · rcases List.mem_cons.mp he with rfl | he
      · exact h d (.head _)
      · exact h e (.tail _ he)
    · rcases List.mem_cons.mp he with rfl | he
      · exact h _ (.head _)
      · exact putL_keys (fun e he => h e (.tail _ he)) e he
theorem putL_get {name x : Str} {hsh : Int} {t : Tok} {v : Value} : ∀ {es : List DictEntry}, (∀ e ∈ es, ∃ x t, e.key = .str x t) →
    ((putL name hsh (.str name t) v es).find? (·.key.isStr x)).map (·.val) = if x = name then some v else (es.find? (·.key.isStr x)).map (·.val)
  | [], _ => by
    by_cases hx : x = name
    · subst hx; simp [putL, Value.isStr]
    · simp only [putL, if_neg hx]
      rw [List.find?_cons_of_neg (by simp [Value.isStr, Ne.symm hx])]
  | d :: r, h => by
    have ih := putL_get (name := name) (x := x) (hsh := hsh) (t := t) (v := v) (es := r) fun e he => h e (.tail _ he)
    obtain ⟨y, u, k⟩ := h d (.head _)
    unfold putL
    by_cases hd : d.key.isStr name = true
    · rw [if_pos hd]
      have hy : y = name := by rw [k] at hd; simpa [Value.isStr] using hd
      by_cases hx : x = name
      · subst hx
        rw [List.find?_cons_of_pos (by exact hd)]; simp
      · rw [if_neg hx, List.find?_cons_of_neg (by rw [k, hy]; simp [Value.isStr, Ne.symm hx]), List.find?_cons_of_neg (by rw [k, hy]; simp [Value.isStr, Ne.symm hx])]
    · rw [if_neg hd]
      have hy : ¬ y = name := by rw [k] at hd; simpa [Value.isStr] using hd
      by_cases hx : d.key.isStr x = true
      · have hxy : y = x := by rw [k] at hx; simpa [Value.isStr] using hx
        rw [List.find?_cons_of_pos (by exact hx), List.find?_cons_of_pos (by exact hx), if_neg (by rw [← hxy]; exact hy)]
      · rw [List.find?_cons_of_neg (by exact hx), List.find?_cons_of_neg (by exact hx), ih]
theorem putL_length {name : Str} {hsh : Int} {t : Tok} {v : Value} : ∀ {es : List DictEntry}, (putL name hsh (.str name t) v es).length = if es.any (·.key.isStr name) then es.length else es.length + 1
  | [] => rfl
  | d :: r => by
    have ih := putL_length (name := name) (hsh := hsh) (t := t) (v := v) (es := r)
    unfold putL
    by_cases hd : d.key.isStr name = true
    · rw [if_pos hd]; simp [hd]
    · rw [if_neg hd, List.length_cons, ih]
      have hd' : d.key.isStr name = false := by simpa using hd
      have e : (d :: r).any (·.key.isStr name) = r.any (·.key.isStr name) := by rw [List.any_cons, hd', Bool.false_or]
      rw [e]
      split <;> rfl
theorem lookA_putA {m n : Nat} {v : V} : ∀ {l : List (Nat × V)}, lookA m (putA n v l) = if m = n then some v else lookA m l
  | [] => by
    simp only [putA, lookA]
    by_cases h : n = m
    · rw [if_pos h, if_pos h.symm]
    · rw [if_neg h, if_neg (Ne.symm h)]
  | (a, u) :: l => by
    have ih := lookA_putA (m := m) (n := n) (v := v) (l := l)
    unfold putA
    by_cases h : a = n
    · rw [if_pos h]
      simp only [lookA]
      by_cases q : a = m
      · rw [if_pos q, if_pos (q.symm.trans h)]
      · rw [if_neg q, if_neg (by rw [← h]; exact Ne.symm q), if_neg q]
    · rw [if_neg h]
      simp only [lookA]
      by_cases q : a = m
      · rw [if_pos q, if_neg (by rw [← q]; exact h), if_pos q]
      · rw [if_neg q, if_neg q, ih]
theorem putA_length {n : Nat} {v : V} : ∀ {l : List (Nat × V)}, (putA n v l).length = if (lookA n l).isSome then l.length else l.length + 1
  | [] => rfl
  | (a, u) :: l => by
    have ih := putA_length (n := n) (v := v) (l := l)
    unfold putA lookA
    by_cases h : a = n
    · rw [if_pos h, if_pos h]; simp
    · rw [if_neg h, if_neg h, List.length_cons, ih]
      split <;> simp
theorem AttrsAt.put {f : Fmap} {h h' : Heap} {l : List (Nat × V)} {es : List DictEntry} (x : AttrsAt f h l es) {n : Nat} {v : V} {val : Value} (hn : n < attrTab.length) (r : Rel f h' v val) (z : Fz h h') (hsh : Int) (t : Tok) :
    AttrsAt f h' (putA n v l) (putL (attrStr n) hsh (.str (attrStr n) t) val es) := by
  have hk := putL_keys (name := attrStr n) (hsh := hsh) (t := t) (v := val) x.keys
  have hg : ∀ y, getL y (putL (attrStr n) hsh (.str (attrStr n) t) val es) = if y = attrStr n then some (some val) else getL y es := fun y => by
    rw [getL_str hk, putL_get x.keys, getL_str x.keys]
    split <;> rfl
  refine ⟨hk, fun m u hu => ?_, fun y hy => ?_, ?_⟩
  · rw [lookA_putA] at hu
    by_cases hm : m = n
    · subst hm
      rw [if_pos rfl] at hu; cases hu
      exact ⟨hn, val, by rw [hg, if_pos rfl], r⟩
    · rw [if_neg hm] at hu
      obtain ⟨h1, w, h2, h3⟩ := x.has m u hu
      exact ⟨h1, w, by rw [hg, if_neg fun q => hm (attr_inj h1 hn q)]; exact h2, h3.mono (Pre.refl _) z⟩
  · rw [hg]
    by_cases q : y = attrStr n
    · have := hy n hn q
      rw [lookA_putA, if_pos rfl] at this; cases this
    · rw [if_neg q]
      refine x.no y fun m hm e => ?_
      have := hy m hm e
      rw [lookA_putA] at this
      by_cases hmn : m = n
      · rw [if_pos hmn] at this; cases this
      · rw [if_neg hmn] at this; exact this
  · rw [putL_length, putA_length]
    have hf := x.few
    cases q : lookA n l with
    | some u =>
      obtain ⟨_, w, h2, _⟩ := x.has n u q
      rw [getL_str x.keys] at h2
      have : es.any (·.key.isStr (attrStr n)) = true := by
        cases k : es.find? (·.key.isStr (attrStr n)) with
        | none => rw [k] at h2; cases h2
        | some e => rw [List.any_eq_true]; exact ⟨e, List.mem_of_find?_eq_some k, by have := List.find?_some (p := fun (e : DictEntry) => e.key.isStr (attrStr n)) k; exact this⟩
      rw [this]; simpa using hf
    | none =>
      simp only [Option.isSome_none, Bool.false_eq_true, if_false]
      split <;> omega
section
variable {C : Cx} {a : Act} {f : Fmap} {ρ : Rho} {σ : St} {s : Shared} {A : Around} {E : Value → Shared → Prop}
theorem handed_rel {f : Fmap} {h : Heap} {x : V} {v : Value} (r : Rel f h x v) : handedIn v = true := by
  cases x with
  | none => exact (show v = .none from r) ▸ rfl
  | bool => exact (show v = .bool _ from r) ▸ rfl
  | int => exact r.int (M := fun v => handedIn v = true) fun _ => rfl
  | str => exact r.str (M := fun v => handedIn v = true) fun _ => rfl
  | tup => exact r.tup (M := fun v => handedIn v = true) fun _ _ _ _ => rfl
  | inst => exact Exists.elim r fun _ e => Exists.elim e fun _ e => e.1 ▸ rfl
  | loc => exact r.loc (M := fun v => handedIn v = true) fun _ _ => rfl
  | ext => exact (show v = .ref _ from r) ▸ rfl
theorem kinS (G : C.Good) (S : Sp C a f ρ σ s) : C.K.In s.heap := fun b o e => S.ok.stay b o (G.kin b o e)
structure Clsd (C : Cx) (c : Addr) : Prop where
  get : findIn C.K (.ref c) "__getattribute__" = some (some (.builtin "object.__getattribute__"))
  hook : findIn C.K (.ref c) "__getattr__" = some none
  dict : hasDictIn C.K c = true
  over : plainOver C.K c = true
  set : findIn C.K (.ref c) "__setattr__" = some (some (.builtin "object.__setattr__"))
  fields : ∀ n, isField n = true → findIn C.K (.ref c) (attrStr n) = some none ∧ takerIn C.K c (attrStr n) = some none
theorem Cx.Good.clsd {C : Cx} (G : C.Good) {c : Addr} (hc : c ∈ C.cls) : Clsd C c := by
  have h := G.cls c hc
  unfold clsOk at h
  simp only [Bool.and_eq_true, beq_iff_eq, List.all_eq_true, Bool.or_eq_true, Bool.not_eq_true'] at h
  obtain ⟨⟨⟨⟨h1, h2⟩, h3⟩, h4⟩, h5⟩ := h
  obtain ⟨g1, g2⟩ := plainGet_of h1
  refine ⟨g1, g2, h2, h3, h4, fun n hn => ?_⟩
  have hlt : n < 51 := by
    unfold isField at hn
    simp only [Bool.or_eq_true, Bool.and_eq_true, decide_eq_true_eq, beq_iff_eq] at hn
    omega
  rcases h5 n (List.mem_range.mpr hlt) with q | q
  · rw [hn] at q; cases q
  · exact q
structure InstIn (f : Fmap) (h : Heap) (l : List (Nat × V)) (n : Nat) (c x d : Addr) (es : List DictEntry) (t : Nat) : Prop where
  at_ : f[n]? = some d
  dict : h.get? d = some (dictOf es t)
  atts : AttrsAt f h l es
  inst : InstAt h x (instObj c d) c (some (dictOf es t))
theorem placeOf_of {v : V} {n : Nat} {M : V → Prop} (h : placeOf v = some n) (k : ∀ c, M (.inst c n)) : M v := by
  cases v with
  | inst => exact Option.some.inj h ▸ k _
  | _ => cases h
theorem atts_of {h : Heap} (k : Ok C.prog C.w C.base f σ h) {v : V} {val : Value} {l : List (Nat × V)} {M : V → Value → Prop} (e : attsOf v σ = some l) (r : Rel f h v val) (q : ∀ c n x d es t, σ[n]? = some (.attrs l) → InstIn f h l n c x d es t → M (.inst c n) (.ref x)) : M v val := by
  refine bind_of e fun n e1 e => bind_of e fun o e2 e => ?_
  revert r
  refine placeOf_of (M := fun v => Rel f h v val → M v val) e1 fun c r => ?_
  have e3 : σ[n]? = some (.attrs l) := e2.trans (congrArg some (att?_of (M := fun o => o = .attrs l) e rfl))
  obtain ⟨x, d, rfl, hd, hx⟩ := id r
  obtain ⟨es, t, h1, h2⟩ := k.at_ n d _ hd e3
  exact q c n x d es t e3 ⟨hd, h1, h2, ⟨hx, rfl, rfl, h1⟩⟩
theorem atts_ex {h : Heap} (k : Ok C.prog C.w C.base f σ h) {v : V} {val : Value} {l : List (Nat × V)} (e : attsOf v σ = some l) (r : Rel f h v val) : ∃ c n x d es t, v = .inst c n ∧ val = .ref x ∧ InstIn f h l n c x d es t := atts_of (M := fun v val => ∃ c n x d es t, v = .inst c n ∧ val = .ref x ∧ InstIn f h l n c x d es t) k e r fun c n x d es t _ I => ⟨c, n, x, d, es, t, rfl, rfl, I⟩
theorem op_getAttr (G : C.Good) (S : Sp C a f ρ σ s) {x v : V} {m : Nat} {vx : Value} (hm : isField m = true) (hc : ∀ c n, x = .inst c n → c ∈ C.cls) (rx : Rel f s.heap x vx) (h : QZ.getAttr x m σ = some v) {ex : List Addr} {expr : Bool} :
    wpAny (model C.prog C.w) A (PySem.getAttr vx (attrStr m) expr) (PV C ex f s Rel (.ok v σ)) E s := by
  refine bind_of h fun l hl h => ?_
  revert hc
  refine atts_of (M := fun x vx => (∀ c n, x = .inst c n → c ∈ C.cls) → wpAny _ _ (PySem.getAttr vx _ expr) _ _ _) S.ok hl rx fun c n x' d es t _ I hc => ?_
  have D := G.clsd (hc c n rfl)
  obtain ⟨_, val, h2, h3⟩ := I.atts.has m v h
  exact get_value (kinS G S) I.inst D.get (findObj_own D.dict (D.fields m hm).1 (by rfl) (by rw [lookIn_dict]; exact h2)) (handed_rel h3) (hereT S h3)
theorem op_setAttr (G : C.Good) (S : Sp C a f ρ σ s) (ap : a.Apart C) {x v : V} {m : Nat} {vx val : Value} {σ' : St} (hm : isField m = true) (hc : ∀ c n, x = .inst c n → c ∈ C.cls) (rx : Rel f s.heap x vx) (rv : Rel f s.heap v val) (h : QZ.setAttr x m v σ = some σ') :
    wpAny (model C.prog C.w) A (PySem.setAttr vx (attrStr m) val) (PV C (lx a) f s (fun _ _ (_ : Unit) (_ : Unit) => True) (.ok () σ')) E s := by
  refine bind_of h fun l hl h => bind_of h fun n hn h => cond_of h fun hz h => ?_
  revert hc hn
  refine atts_of (M := fun x vx => (∀ c n, x = .inst c n → c ∈ C.cls) → placeOf x = some n → wpAny _ _ (PySem.setAttr vx _ val) _ _ _) S.ok hl rx fun c n' x' d es t _ I hc hn => ?_
  cases Option.some.inj hn
  refine Option.some.inj h ▸ ?_
  have hz := of_decide_eq_true hz
  have D := G.clsd (hc c n rfl)
  obtain ⟨mm, hns⟩ := S.ns
  have hdL : d ≠ a.env.locals := fun q => S.fr.out (q ▸ List.mem_of_getElem? I.at_)
  have hlt : m < attrTab.length := by
    rw [attrTab_len]
    unfold isField at hm
    simp only [Bool.or_eq_true, Bool.and_eq_true, decide_eq_true_eq, beq_iff_eq] at hm
    omega
  have hl1 : ((putL (attrStr m) (PyData.keyHash C.w.params (attrStr m)) (.str (attrStr m) (s.toks + 1)) val es)).length ≤ 1000 := by
    rw [putL_length]; have := I.atts.few; split <;> omega
  refine set_plain (kinS G S) I.inst D.set (osa_dict (s := { s with toks := s.toks + 1 }) (pre := []) (od := dictOf es t) (dx := d) (frK hns) (newsD I.dict hdL) (show C.K.In s.heap from kinS G S) I.inst rfl D.over (D.fields m hm).2 D.dict
    (by rw [lookIn_dict, getL_str I.atts.keys]; rfl) (fun _ q => nomatch q) (fun p hp q => (mem_allBut (h := s.heap) (xs := [a.env.locals, d]) (b := p.1) (o := p.2) |>.mp hp).2 (by rw [q]; exact .tail _ (.head _)))
    (putName_dict _ _ _ _ _ _) rfl hl1 fun h' F' N' => ?_)
  exact ⟨f, postUpd S ap (o' := .attrs (putA m v l)) hns I.at_ F' N' (fun z e => ⟨_, _, e, I.atts.put hlt (rv.mono (Pre.refl _) z) z _ _⟩) _, trivial⟩
end
end QZ
namespace QZ
open PySem PySem.W PySem.Calls PyProof.Rows
section
variable {C : Cx} {a : Act} {f : Fmap} {ρ : Rho} {σ : St} {s : Shared} {A : Around} {E : Value → Shared → Prop}
theorem list_small : (10001 : Nat) ≤ sizeLine := by decide +kernel
noncomputable def ItemOk (C : Cx) (A : Around) (E : Value → Shared → Prop) (ex : List Addr) (f : Fmap) (σ : St) (s : Shared) (vx vi : Value) (v : V) : Prop :=
  (∃ T id, s.TypeIs vx T ∧ typeLookup (.type T) "__getitem__" = pure (some (.builtin id))) ∧ wpAny (model C.prog C.w) A (PySem.getItem vx vi) (PV C ex f s Rel (.ok v σ)) E s
theorem ixOf_of {l : List V} {k : Int} {v : V} {G : Prop} (h : ixOf l k = some v) (q : 0 ≤ k → k < 2 ^ 63 → l[k.toNat]? = some v → G) : G :=
  by unfold ixOf at h; exact cond_of h fun h1 h => have h1 := of_decide_eq_true h1; q h1.1 (by omega) h
theorem relL_ix {f : Fmap} {h : Heap} {l : List V} {its : Array Value} (r : RelL f h l its.toList) {n : Nat} {v : V} (e : l[n]? = some v) {G : Prop} (k : ∀ val, its[n]? = some val → Rel f h v val → G) : G :=
  (r.get e).elim fun val q => k val ((Array.getElem?_toList ..).symm.trans q.1) q.2
theorem keyI {h : Heap} {v : V} {u : Value} {M : V → Value → Prop} (q : keyOk .i v = true) (r : Rel f h v u) (k : ∀ i t, M (.int i) (.int i t)) : M v u := by
  cases v with
  | int i => exact r.int fun t => k i t
  | _ => cases q
theorem keyS {h : Heap} {v : V} {u : Value} {M : V → Value → Prop} (q : keyOk .s v = true) (r : Rel f h v u) (k : ∀ i t, M (.str i) (.str i t)) : M v u := by
  cases v with
  | str i => exact r.str fun t => k i t
  | _ => cases q
theorem isInt_int {i : Int} {t : Tok} : (intKind C.prog C.w).is i (.int i t) = true := by simp [intKind, Value.isInt]
theorem op_getItem (S : Sp C a f ρ σ s) {x i v : V} {vx vi : Value} (rx : Rel f s.heap x vx) (ri : Rel f s.heap i vi) (h : QZ.getItem x i σ = some v) {ex : List Addr} : ItemOk C A E ex f σ s vx vi v := by
  revert rx h
  refine V.sel_of (M := fun x r => Rel f s.heap x vx → r = some v → ItemOk C A E ex f σ s vx vi v) (fun _ _ h => nomatch h) (fun l rx h => ?_) fun n rx h => ?_
  · refine bind_of h fun k h1 h => ixOf_of h fun k0 k1 h => ?_
    revert ri
    refine int?_of (M := fun i => Rel f s.heap i vi → _) h1 fun ri => ri.int (M := fun vi => ItemOk C A E ex f σ s vx vi v) fun t => rx.tup (M := fun vx => ItemOk C A E ex f σ s vx _ v) fun D its ht rl => relL_ix rl h fun val h1 h2 => ?_
    have hlt : k.toNat < its.size := (Array.getElem?_eq_some_iff.mp h1).1
    refine ⟨⟨"tuple", _, ht.typeIs, slot_tuple_getitem.lookup⟩, PyProof.Rows.getItem_tuple (j := k.toNat) ht (by omega) k1 ?_ h1 (here S h2)⟩
    unfold seqIndex?
    simp only [if_neg (Int.not_lt.mpr k0)]
    rw [if_pos (by simp only [Bool.and_eq_true, decide_eq_true_eq]; omega)]
  · refine rx.loc (M := fun vx => ItemOk C A E ex f σ s vx vi v) fun D hD => bind_of h fun o ho h => ?_
    revert ho h
    refine O.sel_of (M := fun o r => σ[n]? = some o → r = some v → ItemOk C A E ex f σ s (.ref D) vi v) (fun _ _ h => nomatch h) (fun l ho h => ?_) fun k l ho h => ?_
    · refine bind_of h fun k h1 h => ixOf_of h fun k0 k1 h => ?_
      revert ri
      refine int?_of (M := fun i => Rel f s.heap i vi → _) h1 fun ri => ri.int (M := fun vi => ItemOk C A E ex f σ s _ vi v) fun t => ListAt.mk S.ok hD ho fun its c hg rl _ => relL_ix rl h fun val h1 h2 => ?_
      exact ⟨⟨"list", _, (isList_of hg).typeIs, slot_list_getitem.lookup⟩, wpAny_getItem_list (isList_of hg) k0 k1 h1 (here S h2)⟩
    · refine cond_of h fun hk hl => ?_
      have hk := Bool.and_eq_true_iff.mp hk
      have O := S.ok.at_ n D _ hD ho
      clear h
      cases k with
      | i =>
        revert hl
        refine keyI (M := fun i vi => lookD i l = some v → ItemOk C A E ex f σ s _ vi v) hk.1 ri fun j t h => ?_
        obtain ⟨kvs, hd, hp⟩ := O
        exact (pairsI_find hp).some h fun val h1 h2 => ⟨⟨"dict", _, hd.typeIs, slot_dict_getitem.lookup⟩, wpAny_getItem_of (knd := intKind C.prog C.w) (k := j) isInt_int hd.mapOf h1 (hereT S h2)⟩
      | s =>
        revert hl
        refine keyS (M := fun i vi => lookD i l = some v → ItemOk C A E ex f σ s _ vi v) hk.1 ri fun j t h => ?_
        obtain ⟨kvs, hd, hp⟩ := O
        exact (pairsS_find hp).some h fun val h1 h2 => ⟨⟨"dict", _, hd.typeIs, slot_dict_getitem.lookup⟩, wpAny_getItem_of (knd := strKind C.prog C.w) (k := j) (strKind_is C.prog C.w j t) hd.mapOf h1 (hereT S h2)⟩
      | t => cases hk.2
theorem stored_cons {K : Type} [DecidableEq K] (k : K) (v : Value) (p : K × Value) (kvs : List (K × Value)) (hn : ((p :: kvs).map (·.1)).Nodup) : stored (p :: kvs) k v = if p.1 = k then (p.1, v) :: kvs else p :: stored kvs k v := by
  rw [List.map_cons, List.nodup_cons] at hn
  unfold stored
  by_cases h : p.1 = k
  · simp only [h, List.any_cons, decide_true, Bool.true_or, if_true, List.map_cons]
    rw [map_store_of_not_mem kvs k v (h ▸ hn.1)]
  · simp only [List.any_cons, h, decide_false, Bool.false_or, if_false, List.map_cons, List.cons_append]
    split <;> rfl
theorem storedH_cons (k : List V) (b : Addr) (v : Value) (p : List V × Addr × Value) (kvs : List (List V × Addr × Value)) (hn : ((p :: kvs).map (·.1)).Nodup) : storedH (p :: kvs) k b v = if p.1 = k then (p.1, p.2.1, v) :: kvs else p :: storedH kvs k b v := by
  rw [List.map_cons, List.nodup_cons] at hn
  unfold storedH
  by_cases h : p.1 = k
  · have e : (atKey (p :: kvs) k).isSome = true := by simp [atKey, List.find?_cons, h]
    rw [if_pos e, if_pos h, List.map_cons, map_putAt_of_not_mem kvs k v (h ▸ hn.1), putAt, if_pos h]
  · have e : atKey (p :: kvs) k = atKey kvs k := by simp [atKey, List.find?_cons, h]
    rw [e, if_neg h]
    split
    · rw [List.map_cons, putAt, if_neg h]
    · rfl
theorem pairs_put {K W : Type} [DecidableEq K] {mk : K → V} {vl : W → Value} {up : W → W} (inj : ∀ a b, mk a = mk b → a = b) {f : Fmap} {h : Heap} {k : K} {v : V} {w0 : W} {st : List (K × W) → List (K × W)} (h0 : st [] = [(k, w0)])
    (h1 : ∀ p kvs, ((p :: kvs).map (·.1)).Nodup → st (p :: kvs) = if p.1 = k then (p.1, up p.2) :: kvs else p :: st kvs) (r0 : Rel f h v (vl w0)) (ru : ∀ w, Rel f h v (vl (up w))) {l : List (V × V)} {kvs : List (K × W)} (r : PairsG mk vl f h l kvs) :
    (kvs.map (·.1)).Nodup → PairsG mk vl f h (putD (mk k) v l) (st kvs) := by
  induction r with
  | nil => exact fun _ => h0 ▸ .cons r0 .nil
  | @cons j x w l r e q ih =>
    intro hn
    rw [h1 _ _ hn, putD]
    by_cases hk : j = k
    · rw [if_pos (congrArg mk hk), if_pos hk]
      exact .cons (ru w) q
    · rw [if_neg fun q => hk (inj _ _ q), if_neg hk]
      exact .cons e (ih (List.nodup_cons.mp (List.map_cons .. ▸ hn)).2)
theorem pairsI_put {f : Fmap} {h : Heap} {k : Int} {v : V} {val : Value} (r : Rel f h v val) {l : List (V × V)} {kvs : List (Int × Value)} (p : PairsI f h l kvs) (hn : (kvs.map (·.1)).Nodup) : PairsI f h (putD (.int k) v l) (stored kvs k val) := pairs_put (st := fun kvs => stored kvs k val) (up := fun _ => val) V.int_inj rfl (stored_cons k val) r (fun _ => r) p hn
theorem pairsS_put {f : Fmap} {h : Heap} {k : Str} {v : V} {val : Value} (r : Rel f h v val) {l : List (V × V)} {kvs : List (Str × Value)} (p : PairsS f h l kvs) (hn : (kvs.map (·.1)).Nodup) : PairsS f h (putD (.str k) v l) (stored kvs k val) := pairs_put (st := fun kvs => stored kvs k val) (up := fun _ => val) V.str_inj rfl (stored_cons k val) r (fun _ => r) p hn
theorem pairsT_put {f : Fmap} {h : Heap} {k : List V} {b : Addr} {v : V} {val : Value} (r : Rel f h v val) {l : List (V × V)} {kvs : List (List V × Addr × Value)} (p : PairsT f h l kvs) (hn : (kvs.map (·.1)).Nodup) : PairsT f h (putD (.tup k) v l) (storedH kvs k b val) := pairs_put (st := fun kvs => storedH kvs k b val) (up := fun w => (w.1, val)) V.tup_inj rfl (storedH_cons k b val) r (fun _ => r) p hn
theorem pairs_len {K W : Type} {mk : K → V} {vl : W → Value} {f : Fmap} {h : Heap} {l : List (V × V)} {kvs : List (K × W)} (p : PairsG mk vl f h l kvs) : kvs.length = l.length := by
  induction p with
  | nil => rfl
  | cons e q ih => exact congrArg (· + 1) ih
theorem hash1_of {x : V} {M : V → Prop} (h : hash1 x = true) (k : ∀ i, M (.int i)) : M x := by
  cases x with
  | int i => exact k i
  | _ => exact no_tt h
theorem ints_of {f : Fmap} {h : Heap} {prog : Program} {w : World} : ∀ {l : List V} {vs : List Value}, l.all hash1 = true → RelL f h l vs → ∃ is : List Int, l = is.map .int ∧ ItemsAre (intKind prog w) is vs
  | [], vs, _, r => ⟨[], rfl, (show vs = [] from r) ▸ .nil⟩
  | x :: l, vs, q, r => by
    obtain ⟨v, k, rfl, rv, rk⟩ := id r
    have q := Bool.and_eq_true_iff.mp q
    obtain ⟨is, rfl, hi⟩ := ints_of (prog := prog) (w := w) q.2 rk
    revert rv
    exact hash1_of (M := fun x => Rel f h x v → ∃ js : List Int, x :: is.map V.int = js.map .int ∧ ItemsAre (intKind prog w) js (v :: k)) q.1 fun i rv => rv.int (M := fun v => ∃ js : List Int, _ = js.map V.int ∧ ItemsAre (intKind prog w) js (v :: k)) fun t => ⟨i :: is, rfl, .cons (by simp [intKind, Value.isInt]) hi⟩
theorem keyE_of {f : Fmap} {h : Heap} {prog : Program} {w : World} {x : V} {v : Value} (hx : hash2 x = true) (r : Rel f h x v) : KeyE prog w h x v := by
  cases x with
  | int => exact r.int (M := fun v => KeyE prog w h _ v) fun t => .int _ t
  | str => exact r.str (M := fun v => KeyE prog w h _ v) fun t => .str _ t hx
  | tup l => exact r.tup (M := fun v => KeyE prog w h (.tup l) v) fun b i ⟨o, ho, hc, n, hd⟩ ri => (ints_of (prog := prog) (w := w) hx ri).elim fun is q => q.1 ▸ .tup is b ⟨o, i, n, ho, hc, hd, q.2⟩
  | _ => exact no_tt hx
theorem keyL_of {f : Fmap} {h : Heap} {prog : Program} {w : World} : ∀ {l : List V} {vs : List Value}, l.all hash2 = true → RelL f h l vs → KeyL prog w h l vs
  | [], vs, _, r => (show vs = [] from r) ▸ .nil
  | x :: l, vs, q, r => by
    obtain ⟨v, k, rfl, rv, rk⟩ := id r
    have q := Bool.and_eq_true_iff.mp q
    exact .cons (keyE_of q.1 rv) (keyL_of q.2 rk)
theorem isKey_of {f : Fmap} {h : Heap} {prog : Program} {w : World} {v : V} {u : Value} {M : V → Value → Prop} (q : keyOk .t v = true) (r : Rel f h v u) (k : ∀ l b, Keyed prog w h l b → M (.tup l) (.ref b)) : M v u := by
  cases v with
  | tup l => exact r.tup (M := fun u => M (.tup l) u) fun b i hi ri => k l b ⟨i, hi, keyL_of q ri⟩
  | _ => exact no_tt q
noncomputable abbrev Un : Fmap → Heap → Unit → Unit → Prop := fun _ _ _ _ => True
noncomputable def SetOk (C : Cx) (A : Around) (E : Value → Shared → Prop) (a : Act) (f : Fmap) (s : Shared) (vx vi val : Value) (σ' : St) : Prop := wpAny (model C.prog C.w) A (PySem.setItem vx vi val) (PV C (lx a) f s Un (.ok () σ')) E s
theorem op_setItem (S : Sp C a f ρ σ s) (hu : A.units + 100 < cLine) {x i v : V} {vx vi val : Value} {σ' : St} (rx : Rel f s.heap x vx) (ri : Rel f s.heap i vi) (rv : Rel f s.heap v val) (h : QZ.setItem x i v σ = some σ') : SetOk C A E a f s vx vi val σ' := by
  refine bind_of h fun n hx h => ?_
  revert rx
  refine loc?_of (M := fun x => Rel f s.heap x vx → _) hx fun rx => rx.loc (M := fun vx => SetOk C A E a f s vx vi val σ') fun D hD => bind_of h fun o ho h => ?_
  revert ho h
  refine O.sel_of (M := fun o r => σ[n]? = some o → r = some σ' → SetOk C A E a f s _ vi val σ') (fun _ _ h => nomatch h) (fun l ho h => ?_) fun k l ho h => ?_
  · refine bind_of h fun k h1 h => cond_of h fun hk h => Option.some.inj h ▸ ?_
    have hk := of_decide_eq_true hk
    revert ri
    refine int?_of (M := fun i => Rel f s.heap i vi → _) h1 fun ri => ri.int (M := fun vi => SetOk C A E a f s _ vi val _) fun t => ListAt.mk S.ok hD ho fun its c hg rl hsz => ?_
    refine ki_setAt hg hk.1 (by omega) (by omega) ⟨f, postSet S (o' := .list (l.set k.toNat v)) hD (fun b o e q => (Heap.get?_update_ne _ _ _ _ q).trans e) (fun z => ⟨its.setIfInBounds k.toNat val, _, PySem.IsL.update hg (·.setIfInBounds k.toNat val), ?_⟩) _, trivial⟩
    rw [Array.toList_setIfInBounds]
    exact RelL.set (rv.mono (Pre.refl _) z) (RelL.mono (Pre.refl _) z rl) _
  · refine cond_of h fun hk h => Option.some.inj h ▸ ?_
    have hk := Bool.and_eq_true_iff.mp hk
    have hs : l.length ≤ sizeLine := fits (of_decide_eq_true hk.2)
    have O := S.ok.at_ n D _ hD ho
    cases k with
    | i =>
      refine keyI (M := fun i vi => SetOk C A E a f s _ vi val (σ.set n (.dict .i (putD i v l)))) hk.1 ri fun j t => ?_
      obtain ⟨kvs, hd, hp⟩ := O
      have hnd : (kvs.map (·.1)).Nodup := hd.elim fun _ q => q.elim fun _ q => q.elim fun _ q => q.2.2.2.2.2
      exact wpAny_setItem_pairs (knd := intKind C.prog C.w) (k := j) (hsz := pairs_len hp ▸ hs) isInt_int hd fun h' hd' hsb => ⟨f, postSet S (o' := .dict .i (putD (.int j) v l)) hD (fun b o e q => (hsb.2 b q).trans e) (fun z => ⟨_, hd', pairsI_put (rv.mono (Pre.refl _) z) (hp.mono (Pre.refl _) z) hnd⟩) _, trivial⟩
    | s =>
      refine keyS (M := fun i vi => SetOk C A E a f s _ vi val (σ.set n (.dict .s (putD i v l)))) hk.1 ri fun j t => ?_
      obtain ⟨kvs, hd, hp⟩ := O
      have hnd : (kvs.map (·.1)).Nodup := hd.elim fun _ q => q.elim fun _ q => q.elim fun _ q => q.2.2.2.2.2
      exact wpAny_setItem_pairs (knd := strKind C.prog C.w) (k := j) (hsz := pairs_len hp ▸ hs) (strKind_is C.prog C.w j t) hd fun h' hd' hsb => ⟨f, postSet S (o' := .dict .s (putD (.str j) v l)) hD (fun b o e q => (hsb.2 b q).trans e) (fun z => ⟨_, hd', pairsS_put (rv.mono (Pre.refl _) z) (hp.mono (Pre.refl _) z) hnd⟩) _, trivial⟩
    | t =>
      refine isKey_of (prog := C.prog) (w := C.w) (M := fun i vi => SetOk C A E a f s _ vi val (σ.set n (.dict .t (putD i v l)))) hk.1 ri fun j b hkey => ?_
      obtain ⟨kvs, hd, hp⟩ := O
      have hnd : (kvs.map (·.1)).Nodup := hd.elim fun _ q => q.elim fun _ q => q.elim fun _ q => q.2.2.2.2.2
      exact wpAny_setItem_heap (knd := vKind C.prog C.w) (k := j) (hsz := pairs_len hp ▸ hs) (by show A.units + 1 + 64 < cLine; omega) hkey hd fun h' hd' hsb => ⟨f, postSet S (o' := .dict .t (putD (.tup j) v l)) hD (fun b o e q => (hsb.2 b q).trans e) (fun z => ⟨_, hd', pairsT_put (rv.mono (Pre.refl _) z) (hp.mono (Pre.refl _) z) hnd⟩) _, trivial⟩
inductive CutAt (n d : Nat) (val : Value) : Nat → Prop
  | mk (k : Option Int) (p : IsPart val k) : CutAt n d val (k.elim d (clipAt n))
theorem cut1_clip {n d c : Nat} {v : V} {val : Value} {f : Fmap} {h : Heap} (e : cut1 n d v = some c) (r : Rel f h v val) : CutAt n d val c := by
  cases v with
  | none => exact Option.some.inj e ▸ (show val = .none from r) ▸ .mk none .none
  | int i =>
    exact r.int (M := fun val => CutAt n d val c) fun t => Option.some.inj e ▸ .mk (some i) (.int i t)
  | _ => cases e
theorem list_at (S : Sp C a f ρ σ s) {xt : Addr → Option (List V)} (hxt : ExtOk C xt) {x : V} {vx : Value} {l : List V} {M : Value → Prop} (h : listAt xt x σ = some l) (rx : Rel f s.heap x vx) (k : ∀ D its, s.heap.IsList D its → RelL f s.heap l its.toList → its.size = l.length → M (.ref D)) : M vx := by
  cases x with
  | loc n => exact rx.list S.ok (lstAt_of h) fun D its c _ hg rl hs => k D its (isList_of hg) rl hs
  | ext b =>
    obtain ⟨its, ⟨o, e1, e2⟩, h2⟩ := hxt b l h
    have r2 : RelL f s.heap l its.toList := h2.mono (pre_nil f) fun b o e _ => S.ok.stay b o e
    exact (show vx = .ref b from rx) ▸ k b its ⟨o, S.ok.stay _ _ e1, e2⟩ r2 ((Array.length_toList ..).symm.trans r2.len)
  | _ => cases h
theorem op_slice (S : Sp C a f ρ σ s) {x lo hi : V} {vx vl vh : Value} (rx : Rel f s.heap x vx) (rl : Rel f s.heap lo vl) (rh : Rel f s.heap hi vh) {xt : Addr → Option (List V)} (hxt : ExtOk C xt) (hn : slice xt x lo hi σ ≠ .stuck) {ex : List Addr} {value : Expr} {l u : Option Expr} {p : Pos} :
    wpAny (model C.prog C.w) A (subscriptTail value (.Slice l u none p) vx (.ref s.heap.objs.size)) (PV C ex f s Rel (slice xt x lo hi σ)) E { s with heap := s.heap.push { cls := .type "slice", data := .fields #[vl, vh, .none] } } := by
  revert hn
  refine ne_of (P := fun r => wpAny (model C.prog C.w) A (subscriptTail value (.Slice l u none p) vx (.ref s.heap.objs.size)) (PV C ex f s Rel r) E { s with heap := s.heap.push { cls := .type "slice", data := .fields #[vl, vh, .none] } }) fun l' hl => ne_of fun c0 h1 => ne_of fun d0 h2 => ne_dec fun hz _ => ?_
  refine list_at (M := fun vx => wpAny _ _ (subscriptTail value _ vx _) _ _ _) S hxt hl rx fun D its hg rr hsz => ?_
  cases cut1_clip h1 rl with
  | mk k1 p1 => cases cut1_clip h2 rh with
    | mk k2 p2 =>
      have hl' : Heap.IsList (s.heap.push { cls := .type "slice", data := .fields #[vl, vh, .none] }) D its := hg.push _
      refine tail_any hl'.typeIs slot_list_getitem.lookup (wpAny_getItem_list_slice hl' (Heap.IsSliceOf.new ..) p1 p2 .none (by simp) ?_ (by rw [hsz]; exact fits hz)) rfl
      have hn1 : s.heap.get? (s.heap.objs.size + 1) = none := Heap.get?_none_of_le (Nat.le_succ _)
      rw [Heap.size_push]
      have keep : ∀ b o, s.heap.get? b = some o → ((s.heap.push { cls := .type "slice", data := .fields #[vl, vh, .none] }).push { cls := .type "list", data := .seq (slicePick its k1 k2 none) }).get? b = some o := fun b o e => Heap.get?_push_of_some _ (Heap.get?_push_of_some _ e)
      have hat : ((s.heap.push { cls := .type "slice", data := .fields #[vl, vh, .none] }).push { cls := .type "list", data := .seq (slicePick its k1 k2 none) }).get? (s.heap.objs.size + 1) = some (listOf (slicePick its k1 k2 none) 0) := by heap_get
      have r2 := ((RelL.mono (Pre.app f [s.heap.objs.size + 1]) (fun b o e _ => keep b o e) rr).drop (k1.elim 0 (clipAt l'.length))).take (k2.elim l'.length (clipAt l'.length) - k1.elim 0 (clipAt l'.length))
      refine ⟨f ++ [s.heap.objs.size + 1], ⟨Nxt.of_push keep hn1, S.ok.push keep hn1 ⟨_, 0, hat, ?_⟩, S.gens, S.os⟩, rel_new S.ok.len⟩
      have e3 : (slicePick its k1 k2 none).toList = (its.toList.drop (k1.elim 0 (clipAt l'.length))).take (k2.elim l'.length (clipAt l'.length) - k1.elim 0 (clipAt l'.length)) := by rw [slicePick_plain, hsz]
      rw [e3, List.drop_take]
      exact r2
end
end QZ
namespace QZ
open PySem PySem.W PySem.Calls PyProof.Rows
theorem small_63 {n : Nat} (h : n ≤ 10000) : ((n : Nat) : Int) < 2 ^ 63 := by omega
theorem relL_one' {f : Fmap} {h : Heap} {x : V} {vals : List Value} {M : List Value → Prop} (r : RelL f h [x] vals) (k : ∀ v, Rel f h x v → M [v]) : M vals :=
  Exists.elim r fun v e => Exists.elim e fun w e => e.1 ▸ (show w = [] from e.2.2) ▸ k v e.2.1
theorem relL_two' {f : Fmap} {h : Heap} {x y : V} {vals : List Value} {M : List Value → Prop} (r : RelL f h [x, y] vals) (k : ∀ v w, Rel f h x v → Rel f h y w → M [v, w]) : M vals :=
  Exists.elim r fun v e => Exists.elim e fun w e => e.1 ▸ relL_one' (M := fun w => M (v :: w)) e.2.2 fun u q => k v u e.2.1 q
theorem relL_one {f : Fmap} {h : Heap} {x : V} {vals : List Value} (r : RelL f h [x] vals) : ∃ v, vals = [v] ∧ Rel f h x v := relL_one' (M := fun vals => ∃ v, vals = [v] ∧ Rel f h x v) r fun v q => ⟨v, rfl, q⟩
theorem intsAre_of {f : Fmap} {h : Heap} : ∀ {l : List V} {vs : List Value}, l.all isInt = true → RelL f h l vs → IntsAre vs (l.map intOf)
  | [], vs, _, r => (show vs = [] from r) ▸ .nil
  | x :: l, vs, q, r => by
    obtain ⟨v, k, rfl, rv, rk⟩ := id r
    have q := Bool.and_eq_true_iff.mp q
    revert rv
    exact isInt_of (M := fun x => Rel f h x v → IntsAre (v :: k) (intOf x :: l.map intOf)) q.1 fun i rv => rv.int (M := fun v => IntsAre (v :: k) _) fun t => .cons _ _ (intsAre_of q.2 rk)
section
variable {C : Cx} {a : Act} {f : Fmap} {ρ : Rho} {σ : St} {s : Shared} {A : Around} {E : Value → Shared → Prop}
theorem post_list (S : Sp C a f ρ σ s) {h' : Heap} {D : Addr} {its : Array Value} {c : Nat} {l : List V} {ex : List Addr} (k : ∀ b o, s.heap.get? b = some o → h'.get? b = some o) (hD : s.heap.get? D = none) (e : h'.get? D = some (listOf its c)) (r : RelL f s.heap l its.toList) (tk : Nat) :
    PV C ex f s Rel (.ok (.loc σ.length) (σ ++ [.list l])) (.ref D) { s with heap := h', toks := tk } :=
  ⟨f ++ [D], ⟨Nxt.of_push k hD, S.ok.push k hD ⟨its, c, e, r.mono (Pre.app _ _) fun b o e _ => k b o e⟩, S.gens, S.os⟩, rel_new S.ok.len⟩
theorem itemsOf_seq (S : Sp C a f ρ σ s) {x : V} {v : Value} {l : List V} {M : Value → Prop} (h : itemsOf x σ = some l) (r : Rel f s.heap x v) (k : ∀ D o T its n, (T = "list" ∨ T = "tuple") → s.heap.get? D = some o → o.cls = .type T → o.data = .seq its n → RelL f s.heap l its.toList → its.size = l.length → M (.ref D)) : M v := by
  revert r h
  refine V.sel_of (M := fun x r => r = some l → Rel f s.heap x v → M v) (fun _ h => nomatch h) (fun l' h r => ?_) fun n h r => ?_
  · cases h
    exact r.tup fun D its ⟨o, ho, hc, n, hd⟩ rl => k D o "tuple" its n (.inr rfl) ho hc hd rl ((Array.length_toList ..).symm.trans rl.len)
  · exact r.list S.ok (lstAt_of h) fun D its c _ hg rl hs => k D _ "list" its c (.inl rfl) hg rfl rfl rl hs
noncomputable def HardB (C : Cx) (b : BI) : Prop := ∀ (a : Act) (f : Fmap) (ρ : Rho) (σ : St) (s : Shared) (A : Around) (E : Value → Shared → Prop) (args : List V) (vals : List Value), a.Apart C → Sp C a f ρ σ s → A.units + 100 < cLine → A.handled = none → RelL f s.heap args vals → callB b args σ ≠ .stuck →
  wpAny (model C.prog C.w) A (call (biVal b) vals) (PV C (lx a) f s Rel (callB b args σ)) E s
theorem one_arg {b : BI} {args : List V} {vals : List Value} (ra : RelL f s.heap args vals) {g : V → Res V} (k : ∀ x v, Rel f s.heap x v → Ne (fun r => wpAny (model C.prog C.w) A (call (biVal b) [v]) (PV C (lx a) f s Rel r) E s) (g x)) :
    Ne (fun r => wpAny (model C.prog C.w) A (call (biVal b) vals) (PV C (lx a) f s Rel r) E s) (ofO (oneOf args) g) :=
  ne_of fun x hx => by
    revert ra
    exact oneOf_of (M := fun args => RelL f s.heap args vals → _) hx fun ra => relL_one' (M := fun vals => Ne (fun r => wpAny _ _ (call (biVal b) vals) (PV C (lx a) f s Rel r) _ _) _) ra fun v r => k x v r
theorem op_len (G : C.Good) (S : Sp C a f ρ σ s) {x : V} {v : Value} (r : Rel f s.heap x v) : Ne (fun r => wpAny (model C.prog C.w) A (call (biVal .len) [v]) (PV C (lx a) f s Rel r) E s) (ofO (lenOf σ x) fun n => .ok (.int n) σ) := by
  refine ne_of fun n h _ => ?_
  revert r h
  refine V.sel_of (M := fun x r => Rel f s.heap x v → r = some n → wpAny _ _ (call (biVal .len) [v]) _ _ _) (fun _ _ h => nomatch h) (fun l r h => ?_) fun m r h => ?_
  · refine cond_of h fun hz h => Option.some.inj h ▸ r.tup (M := fun v => wpAny _ _ (call (biVal .len) [v]) _ _ _) fun D its ht rl => ?_
    have hs : its.size = l.length := (Array.length_toList ..).symm.trans rl.len
    exact PyProof.Rows.len_tuple ht (hs ▸ small_63 (of_decide_eq_true hz)) (hs ▸ hereT S rel_int)
  · refine r.loc (M := fun v => wpAny _ _ (call (biVal .len) [v]) _ _ _) fun D hD => bind_of h fun o ho h => ?_
    revert ho h
    refine O.sel_of (M := fun o r => σ[m]? = some o → r = some n → wpAny _ _ (call (biVal .len) [.ref D]) _ _ _) (fun _ _ h => nomatch h) (fun l ho h => ?_) fun k l ho h => ?_
    · exact cond_of h fun hz h => Option.some.inj h ▸ ListAt.mk S.ok hD ho fun its c hg rl hs => PyProof.Rows.len_list (isList_of hg) (hs ▸ small_63 (of_decide_eq_true hz)) (hs ▸ hereT S rel_int)
    · cases k with
      | i =>
        refine cond_of h fun hz h => Option.some.inj h ▸ ?_
        obtain ⟨kvs, hd, hp⟩ := S.ok.at_ m D _ hD ho
        have hs := pairs_len hp
        exact call_len_dict (S.ok.ne_sys G (List.mem_of_getElem? hD)) hd (hs ▸ small_63 (of_decide_eq_true hz)) (hs ▸ hereT S rel_int)
      | _ => cases h
theorem op_tuple (S : Sp C a f ρ σ s) (ap : a.Apart C) {x : V} {v : Value} (r : Rel f s.heap x v) : Ne (fun r => wpAny (model C.prog C.w) A (call (biVal .tuple) [v]) (PV C (lx a) f s Rel r) E s) (x.sel .stuck (fun l => .ok (.tup l) σ) fun n => ofO (σ[n]?.bind lst?) fun l => cond (decide (l.length ≤ 10000)) (.ok (.tup l) σ) .stuck) := by
  revert r
  refine V.sel_of (M := fun x r => Rel f s.heap x v → Ne (fun r => wpAny _ _ (call (biVal .tuple) [v]) (PV C (lx a) f s Rel r) _ _) r) (fun _ _ => ne_no) (fun l r _ => ?_) fun n r => ne_of fun l hl => ne_dec fun hz _ => ?_
  · have r' := r
    revert r'
    exact r.tup (M := fun v => Rel f s.heap (.tup l) v → wpAny _ _ (call (biVal .tuple) [v]) _ _ _) fun D its ht rl r' => call_tuple_tup ht (here S r')
  · refine r.list (M := fun v => wpAny _ _ (call (biVal .tuple) [v]) _ _ _) S.ok (lstAt_of hl) fun D its c hD hg rl hs => S.ns.elim fun m hm => ?_
    refine kde_tupleOf (zs := its.toList) (frK hm) (newsK _ _) (isList_of hg) (by rw [hs]; omega) rfl fun D' h' F' N' l1 => ?_
    have hs' : ∀ p ∈ allBut s.heap [a.env.locals], p ∈ (D', ({ cls := .type "tuple", data := .seq its.toList.toArray } : Obj)) :: allBut s.heap [a.env.locals] := fun p hp => .tail _ hp
    refine ⟨f, postK S ap hm F' N' hs' s.toks, ⟨D', its.toList.toArray, rfl, ⟨_, (N' _ (.head _)).1, rfl, _, rfl⟩, ?_⟩⟩
    rw [List.toList_toArray]
    exact rl.mono (Pre.refl _) (fzK hm N' hs')
theorem op_callB (G : C.Good) (ap : a.Apart C) (S : Sp C a f ρ σ s) (hu : A.units + 100 < cLine) {b : BI} (hh : A.handled = none ∨ calmB b = true) {args : List V} {vals : List Value} (ra : RelL f s.heap args vals) (hard : b = .sorted ∨ b = .dict → HardB C b) (hn : callB b args σ ≠ .stuck) :
    wpAny (model C.prog C.w) A (call (biVal b) vals) (PV C (lx a) f s Rel (callB b args σ)) E s := by
  revert hn
  show Ne (fun r => wpAny (model C.prog C.w) A (call (biVal b) vals) (PV C (lx a) f s Rel r) E s) (callB b args σ)
  cases b with
  | len => exact one_arg ra fun x v r => op_len G S r
  | abs =>
    refine one_arg ra fun x v r => ne_of fun i hi _ => ?_
    revert r
    refine int?_of (M := fun x => Rel f s.heap x v → _) hi fun r => r.int (M := fun v => wpAny _ _ (call (biVal .abs) [v]) _ _ _) fun t => PyProof.Rows.call_abs_int fun u tk => ?_
    have : (if i < 0 then -i else i) = ((i.natAbs : Nat) : Int) := by split <;> omega
    rw [this]
    exact hereT S rel_int
  | min =>
    have hh' : A.handled = none := hh.elim id fun q => nomatch q
    refine ne_of fun p hp => ne_of fun i hi => ne_of fun j hj _ => ?_
    revert ra
    refine twoOf_of (M := fun args => RelL f s.heap args vals → _) hp fun ra => relL_two' (M := fun vals => wpAny _ _ (call (biVal .min) vals) _ _ _) ra fun v w r1 r2 => ?_
    revert r1 r2
    refine int?_of (M := fun x => Rel f s.heap x v → _) hi fun r1 => int?_of (M := fun x => Rel f s.heap x w → _) hj fun r2 => ?_
    exact r1.int (M := fun v => wpAny _ _ (call (biVal .min) [v, w]) _ _ _) fun t => r2.int (M := fun w => wpAny _ _ (call (biVal .min) [_, w]) _ _ _) fun u => S.ns.elim fun m hm => PyProof.Rows.min_two_N hh' (frK hm) (newsK _ _) fun h' tk F' N' => ⟨f, postK S ap hm F' N' (fun _ h => h) tk, rel_int⟩
  | sum =>
    have hh' : A.handled = none := hh.elim id fun q => nomatch q
    refine one_arg ra fun x v r => ne_of fun l hl => ne_of fun is hi _ => cond_of hi fun hq hi => Option.some.inj hi ▸ ?_
    revert r
    refine listIn_of (M := fun x => Rel f s.heap x v → _) hl fun n hl r => r.list (M := fun v => wpAny _ _ (call (biVal .sum) [v]) _ _ _) S.ok hl fun D its c hD hg rl hs => ?_
    exact S.ns.elim fun m hm => sumK (vs := its.toList) hh' (frK hm) (newsK _ _) (isList_of hg) (intsAre_of hq rl) fun h' tk t' F' N' => ⟨f, postK S ap hm F' N' (fun _ h => h) tk, rel_int⟩
  | sorted => exact hard (.inl rfl) a f ρ σ s A E args vals ap S hu (hh.elim id fun q => nomatch q) ra
  | int =>
    refine one_arg ra fun x v r => ne_of fun b hb _ => ?_
    revert r
    exact bool?_of (M := fun x => Rel f s.heap x v → _) hb fun r => (show v = .bool b from r) ▸ call_int_bool (hereT S rel_int)
  | tuple => exact one_arg ra fun x v r => op_tuple S ap r
  | list =>
    refine one_arg ra fun x v r => ne_of fun l hl => ne_dec fun hz _ => ?_
    exact itemsOf_seq (M := fun v => wpAny _ _ (call (biVal .list) [v]) _ _ _) S hl r fun D o T its n hT ho hc hd rl hs => call_list_seq D hT ho hc hd (fun h' c' hk hD => post_list S hk (none_at _) hD rl s.toks) (hs ▸ fits hz)
  | dict => exact hard (.inr rfl) a f ρ σ s A E args vals ap S hu (hh.elim id fun q => nomatch q) ra
end
end QZ
namespace QZ
open PySem PySem.W PySem.Calls PyProof.Rows
noncomputable def mid : Nat → String
  | 0 => "list.append"
  | 1 => "list.extend"
  | _ => "dict.get"
section
variable {C : Cx} {a : Act} {f : Fmap} {ρ : Rho} {σ : St} {s : Shared} {A : Around} {E : Value → Shared → Prop}
theorem ObjAt.dictLike {prog : Program} {w : World} {f : Fmap} {h : Heap} {D : Addr} {k : DK} {l : List (V × V)} (x : ObjAt prog w f h D (.dict k l)) : ∃ o, h.get? D = some o ∧ o.cls = .type "dict" ∧ o.dict = none := by
  cases k with
  | i => obtain ⟨kvs, ⟨o, es, ep, e, hc, _⟩, _⟩ := x; exact ⟨o, e, hc.1, hc.2.1⟩
  | s => obtain ⟨kvs, ⟨o, es, ep, e, hc, _⟩, _⟩ := x; exact ⟨o, e, hc.1, hc.2.1⟩
  | t => obtain ⟨kvs, ⟨o, es, ep, e, hc, _⟩, _⟩ := x; exact ⟨o, e, hc.1, hc.2.1⟩
theorem any_of {α : Type} {o : Option α} {p : α → Bool} {G : Prop} (h : o.any p = true) (k : ∀ a, o = some a → p a = true → G) : G := by
  cases o with
  | none => cases h
  | some a => exact k a rfl h
theorem op_getMethod (S : Sp C a f ρ σ s) {x : V} {v : Value} {m : Nat} (r : Rel f s.heap x v) (hm : methOk x m σ = true) {pl : Sem Bool} {Q : Value × List Value → Shared → Prop} (h : Q (.builtin (mid m), [v]) s) :
    wpAny (model C.prog C.w) A (getMethod v (attrStr m) pl) Q E s := by
  refine any_of hm fun n hn hm => any_of hm fun o ho hm => ?_
  revert r h
  refine loc?_of (M := fun x => Rel f s.heap x v → _) hn fun r => r.loc (M := fun v => Q (.builtin (mid m), [v]) s → wpAny _ _ (getMethod v _ pl) _ _ _) fun D hD h => ?_
  revert ho hm
  refine O.sel_of (M := fun o (r : Bool) => σ[n]? = some o → r = true → wpAny _ _ (getMethod (.ref D) _ pl) _ _ _) (fun _ _ h => nomatch h) (fun l ho hm => ?_) fun k l ho hm => ?_
  · refine ListAt.mk S.ok hD ho fun its c hg _ _ => ?_
    rcases Bool.or_eq_true_iff.mp hm with hm | hm
    · cases eq_of_beq hm
      exact getMethod_list_append hg rfl rfl h
    · cases eq_of_beq hm
      exact getMethod_builtin (isList_of hg).typeIs F.plainAttrs_list F.slot_list_extend F.type_list_extend (fun b e => by cases e; exact ⟨_, hg, rfl⟩) h
  · cases eq_of_beq hm
    obtain ⟨o, ho, hc, hd⟩ := (S.ok.at_ n D _ hD ho).dictLike
    exact getMethod_builtin ⟨o, ho, hc⟩ F.plainAttrs_dict F.slot_dict_get F.type_dict_get (fun b e => by cases e; exact ⟨_, ho, hd⟩) h
noncomputable abbrev MethOk (C : Cx) (A : Around) (E : Value → Shared → Prop) (a : Act) (f : Fmap) (s : Shared) (D : Addr) (m : Nat) (vals : List Value) (r : Res V) : Prop := wpAny (model C.prog C.w) A (call (.builtin (mid m)) ([.ref D] ++ vals)) (PV C (lx a) f s Rel r) E s
theorem op_append (S : Sp C a f ρ σ s) {n : Nat} {l : List V} {D : Addr} (hD : f[n]? = some D) (hl : σ[n]? = some (.list l)) {y : V} {v : Value} (r : Rel f s.heap y v) (hz : l.length ≤ 10000) : MethOk C A E a f s D 0 [v] (.ok .none (σ.set n (.list (l ++ [y])))) :=
  ListAt.mk S.ok hD hl fun its c hg rl hs => by
    refine append_at hg (fun h' sb e => ⟨f, postSet S hD (fun b o e q => (sb.2 b q).trans e) (fun z => objAt_list e ?_) s.toks, rel_none⟩) (hs ▸ fits hz)
    rw [Array.toList_push]
    exact (rl.append (RelL.cons r RelL.nil)).mono (Pre.refl _) z
theorem op_extend (S : Sp C a f ρ σ s) {n j : Nat} {l k : List V} {D : Addr} (hD : f[n]? = some D) (hl : σ[n]? = some (.list l)) (hk : σ[j]? = some (.list k)) {v : Value} (r : Rel f s.heap (.loc j) v) (hz : l.length + k.length ≤ 10000 ∧ j ≠ n) : MethOk C A E a f s D 1 [v] (.ok .none (σ.set n (.list (l ++ k)))) :=
  ListAt.mk S.ok hD hl fun its c hg rl hs => r.list (M := fun v => MethOk C A E a f s D 1 [v] _) S.ok hk fun D2 its2 c2 hD2 hg2 rl2 hs2 => by
    have hsm := list_small
    have hlong : ¬ (!its.isEmpty && Builtin.List.listTooLong (its.size + its2.size)) = true := by
      rw [Bool.and_eq_true, not_and]
      intro _
      unfold Builtin.List.listTooLong
      simp only [decide_eq_true_eq]
      omega
    have q := PySem.IsL.update hg (· ++ its2)
    refine call_meets PySem.F.slot_list_extend ⟨_, hg, rfl⟩ PySem.F.entry_list_extend (PySem.F.args_list_extend_2 _ _) (PySem.AutoSeq1.list_extend_list_list_0 D its c D2 its2 c2 hlong (by omega) (by omega)) ⟨hg, hg2, ⟨f, postSet S hD (fun b o e q => (Heap.get?_update_ne _ _ _ _ q).trans e) (fun z => objAt_list q ?_) s.toks, rel_none⟩⟩
    rw [Array.toList_append]
    exact (rl.append rl2).mono (Pre.refl _) z
theorem op_get (G : C.Good) (S : Sp C a f ρ σ s) (hu : A.units + 100 < cLine) {n : Nat} {k : DK} {l : List (V × V)} {D : Addr} (hD : f[n]? = some D) (hl : σ[n]? = some (.dict k l)) {x d : V} {vk vd : Value} (rk : Rel f s.heap x vk) (rd : Rel f s.heap d vd) (hk : keyOk k x = true) : MethOk C A E a f s D 2 [vk, vd] (.ok ((lookD x l).getD d) σ) := by
  have O := S.ok.at_ n D _ hD hl
  have hsys := S.ok.ne_sys G (List.mem_of_getElem? hD)
  obtain ⟨o, ho, hc, hd⟩ := O.dictLike
  cases k with
  | i =>
    refine keyI (M := fun x vk => MethOk C A E a f s D 2 [vk, vd] (.ok ((lookD x l).getD d) σ)) hk rk fun j t => ?_
    obtain ⟨kvs, hdd, hp⟩ := O
    refine call_meetsIn F.slot_dict_get ⟨o, ho, hc⟩ F.entry_dict_get (F.args_dict_get_3 _ _ _) (meets_dict_get_default (intKind C.prog C.w) D (k := j) isInt_int hsys vd) ⟨_, hdd.mapOf, ?_⟩
    have q := pairsI_find (k := j) hp
    revert q
    generalize lookD (.int j) l = p, valueAt kvs j = w
    intro q
    cases q with
    | yes e => exact hereT S e
    | no => exact hereT S rd
  | s =>
    refine keyS (M := fun x vk => MethOk C A E a f s D 2 [vk, vd] (.ok ((lookD x l).getD d) σ)) hk rk fun j t => ?_
    obtain ⟨kvs, hdd, hp⟩ := O
    refine call_meetsIn F.slot_dict_get ⟨o, ho, hc⟩ F.entry_dict_get (F.args_dict_get_3 _ _ _) (meets_dict_get_default (strKind C.prog C.w) D (k := j) (strKind_is C.prog C.w j t) hsys vd) ⟨_, hdd.mapOf, ?_⟩
    have q := pairsS_find (k := j) hp
    revert q
    generalize lookD (.str j) l = p, valueAt kvs j = w
    intro q
    cases q with
    | yes e => exact hereT S e
    | no => exact hereT S rd
  | t =>
    refine isKey_of (prog := C.prog) (w := C.w) (M := fun x vk => MethOk C A E a f s D 2 [vk, vd] (.ok ((lookD x l).getD d) σ)) hk rk fun j b hkey => ?_
    obtain ⟨kvs, hdd, hp⟩ := O
    refine call_meetsIn F.slot_dict_get ⟨o, ho, hc⟩ F.entry_dict_get (F.args_dict_get_3 _ _ _) (meetsH_dict_get_default (vKind C.prog C.w) D b hsys vd) ⟨(by show A.units + 1 + 64 < cLine; omega), j, _, hkey, hdd, ?_⟩
    have q := pairsT_find (k := j) hp
    revert q
    generalize lookD (.tup j) l = p, atKey kvs j = w
    intro q
    cases q with
    | yes e => exact hereT S e
    | no => exact hereT S rd
theorem op_methB (G : C.Good) (S : Sp C a f ρ σ s) (hu : A.units + 100 < cLine) {x : V} {v : Value} {m : Nat} {args : List V} {vals : List Value} (r : Rel f s.heap x v) (ra : RelL f s.heap args vals) (hn : methB x m args σ ≠ .stuck) :
    wpAny (model C.prog C.w) A (call (.builtin (mid m)) ([v] ++ vals)) (PV C (lx a) f s Rel (methB x m args σ)) E s := by
  revert hn r
  refine fun r => (ne_of fun n hx => ?_ : Ne (fun r => wpAny (model C.prog C.w) A (call (.builtin (mid m)) ([v] ++ vals)) (PV C (lx a) f s Rel r) E s) (methB x m args σ))
  revert r
  refine loc?_of (M := fun x => Rel f s.heap x v → _) hx fun r => r.loc (M := fun v => Ne (fun r => wpAny _ _ (call (.builtin (mid m)) ([v] ++ vals)) (PV C (lx a) f s Rel r) _ _) _) fun D hD => ne_of fun o ho => ?_
  revert ho
  refine O.sel_of (M := fun o r => σ[n]? = some o → Ne (MethOk C A E a f s D m vals) r) (fun _ _ => ne_no) (fun l ho => ?_) fun k l ho => ?_
  · match m with
    | 0 =>
      refine ne_of fun y hy => ne_dec fun hz _ => ?_
      revert ra
      exact oneOf_of (M := fun args => RelL f s.heap args vals → _) hy fun ra => relL_one' (M := fun vals => MethOk C A E a f s D 0 vals _) ra fun v r => op_append S hD ho r hz
    | 1 =>
      refine ne_of fun y hy => ne_of fun j hj => ne_of fun k hk => ne_dec fun hz _ => ?_
      revert ra
      refine oneOf_of (M := fun args => RelL f s.heap args vals → _) hy fun ra => relL_one' (M := fun vals => MethOk C A E a f s D 1 vals _) ra fun v r => ?_
      revert r
      exact loc?_of (M := fun y => Rel f s.heap y v → _) hj fun r => op_extend S hD ho (lstAt_of hk) r hz
    | _ + 2 => exact ne_no
  · match m with
    | 2 =>
      refine ne_of fun p hp => ne_if fun hk _ => ?_
      revert ra
      exact twoOf_of (M := fun args => RelL f s.heap args vals → _) hp fun ra => relL_two' (M := fun vals => MethOk C A E a f s D 2 vals _) ra fun v w r1 r2 => op_get G S hu hD ho r1 r2 hk
    | 0 => exact ne_no
    | 1 => exact ne_no
    | _ + 3 => exact ne_no
end
end QZ
namespace QZ
open PySem PySem.W PySem.Calls PyProof.Rows
structure In (C : Cx) (d : Nat) (a : Act) (f : Fmap) (ρ : Rho) (σ : St) (s : Shared) : Prop where
  S : Sp C a f ρ σ s
  g : a.Good d
  ap : a.Apart C
structure Cont (C : Cx) (a : Act) (f : Fmap) (s : Shared) {α β : Type} (Rl : Fmap → Heap → β → α → Prop) (r : Res β) (Q : α → Shared → Prop) (E : Value → Shared → Prop) : Prop where
  ne : r ≠ .stuck
  ok : ∀ val s', PV C (lx a) f s Rl r val s' → Q val s'
  err : ∀ e s', PE C (lx a) a.envs f s r e s' → E e s'
noncomputable def W (C : Cx) (a : Act) (f : Fmap) (s : Shared) {α β : Type} (Rl : Fmap → Heap → β → α → Prop) (t : Sem α) (r : Res β) : Prop := ∀ Q E, Cont C a f s Rl r Q E → wpAny (model C.prog C.w) a.A t Q E s
section
variable {C : Cx} {d : Nat} {a : Act} {f f' : Fmap} {ρ : Rho} {σ σ' : St} {s s' : Shared}
theorem Post.fz (S : Sp C a f ρ σ s) (p : Post C (lx a) f s f' σ' s') : Fz s.heap s'.heap := p.nxt.fz S.fr.ex S.ok
theorem Post.rel (S : Sp C a f ρ σ s) (p : Post C (lx a) f s f' σ' s') {x : V} {v : Value} (r : Rel f s.heap x v) : Rel f' s'.heap x v := r.mono p.nxt.pre (p.fz S)
theorem In.next (I : In C d a f ρ σ s) (p : Post C (lx a) f s f' σ' s') : In C d a f' ρ σ' s' := ⟨I.S.next p, I.g, I.ap⟩
variable {α β β' γ : Type} {Rl : Fmap → Heap → β' → γ → Prop} {R1 : Fmap → Heap → β → α → Prop} {Q : γ → Shared → Prop} {E : Value → Shared → Prop} {K : α → Shared → Prop} {r r' : Res β'}
theorem Cont.before (h : Cont C a f s Rl r Q E) (S : Sp C a f ρ σ s) (p : Post C (lx a) f s f' σ' s') : Cont C a f' s' Rl r Q E := ⟨h.ne, fun _ _ x => h.ok _ _ (x.before p), fun _ _ x => h.err _ _ (x.before S p)⟩
theorem Cont.fin {t : Sem γ} (h : Cont C a f s Rl r Q E) (k : wpAny (model C.prog C.w) a.A t (PV C (lx a) f s Rl r) E s) : wpAny (model C.prog C.w) a.A t Q E s := wpAny_mono k h.ok fun _ _ x => x
theorem Cont.ret {v : β'} {val : γ} (h : Cont C a f s Rl (.ok v σ') Q E) (p : Post C (lx a) f s f' σ' s') (r : Rl f' s'.heap v val) : Q val s' := h.ok _ _ ⟨f', p, r⟩
theorem Cont.here {v : β'} {val : γ} (h : Cont C a f s Rl (.ok v σ) Q E) (S : Sp C a f ρ σ s) (r : Rl f s.heap v val) : Q val s := h.ret S.post r
theorem Cont.hereT {v : β'} {val : γ} (h : Cont C a f s Rl (.ok v σ) Q E) (S : Sp C a f ρ σ s) (r : Rl f s.heap v val) {tk : Nat} : Q val { s with toks := tk } := h.ok _ _ (QZ.hereT S r)
theorem Cont.no {G : Prop} (h : Cont C a f s Rl .stuck Q E) : G := absurd rfl h.ne
theorem Cont.of {x : Option β} {g : β → Res β'} {G : Prop} (h : Cont C a f s Rl (ofO x g) Q E) (k : ∀ v, x = some v → Cont C a f s Rl (g v) Q E → G) : G := by
  cases x with
  | none => exact h.no
  | some v => exact k v rfl h
theorem Cont.when {b : Bool} {G : Prop} (h : Cont C a f s Rl (cond b r .stuck) Q E) (k : b = true → Cont C a f s Rl r Q E → G) : G := by
  cases b with
  | false => exact h.no
  | true => exact k rfl h
theorem W.eq {t : Sem γ} (e : r = r') (h : W C a f s Rl t r') : W C a f s Rl t r := e ▸ h
theorem bindA {r : Res α} {g : α → St → Res β} {k : β → St → Res β'} : (r.bind g).bind k = r.bind fun v σ => (g v σ).bind k := by cases r <;> rfl
theorem bindE {r : Res α} {g k : α → St → Res β} (h : ∀ v σ, g v σ = k v σ) : r.bind g = r.bind k := congrArg r.bind (funext fun v => funext fun σ => h v σ)
theorem Cont.bindC {f₀ : Fmap} {σ₀ : St} {s₀ : Shared} {r : Res β} {k : β → St → Res β'} (S : Sp C a f ρ σ s) (p₀ : Post C (lx a) f s f₀ σ₀ s₀) (h : Cont C a f s Rl (r.bind k) Q E)
    (h2 : ∀ v σ' val f' s', r = .ok v σ' → Post C (lx a) f₀ s₀ f' σ' s' → R1 f' s'.heap v val → Cont C a f s Rl (k v σ') Q E → K val s') : Cont C a f₀ s₀ R1 r K E := by
  refine ⟨bind_ne h.ne, fun val s' pv => ?_, fun e s' he => ?_⟩
  · cases r with
    | ok v σ' => exact pv.elim fun f' q => h2 v σ' val f' s' rfl q.1 q.2 h
    | exc => exact pv.elim
    | stuck => exact pv.elim
  · cases r with
    | ok => exact he.elim
    | exc => exact h.err e s' (PE.before (r := .exc ..) S p₀ he)
    | stuck => exact he.elim
theorem Cont.bind {r : Res β} {k : β → St → Res β'} (I : In C d a f ρ σ s) (h : Cont C a f s Rl (r.bind k) Q E)
    (h2 : ∀ v σ' val f' s', In C d a f' ρ σ' s' → Post C (lx a) f s f' σ' s' → R1 f' s'.heap v val → Cont C a f' s' Rl (k v σ') Q E → K val s') : Cont C a f s R1 r K E :=
  h.bindC I.S I.S.post fun v σ' val f' s' _ p r h => h2 v σ' val f' s' (I.next p) p r (h.before I.S p)
theorem seqC {f₀ : Fmap} {σ₀ : St} {s₀ : Shared} {t : Sem α} {r : Res β} {k : β → St → Res β'} (S : Sp C a f ρ σ s) (p₀ : Post C (lx a) f s f₀ σ₀ s₀) (h1 : W C a f₀ s₀ R1 t r) (h : Cont C a f s Rl (r.bind k) Q E)
    (h2 : ∀ v σ' val f' s', r = .ok v σ' → Post C (lx a) f₀ s₀ f' σ' s' → R1 f' s'.heap v val → Cont C a f s Rl (k v σ') Q E → K val s') : wpAny (model C.prog C.w) a.A t K E s₀ := h1 K E (h.bindC S p₀ h2)
theorem seqB {t : Sem α} {r : Res β} {k : β → St → Res β'} (I : In C d a f ρ σ s) (h1 : W C a f s R1 t r) (h : Cont C a f s Rl (r.bind k) Q E)
    (h2 : ∀ v σ' val f' s', In C d a f' ρ σ' s' → Post C (lx a) f s f' σ' s' → R1 f' s'.heap v val → Cont C a f' s' Rl (k v σ') Q E → K val s') : wpAny (model C.prog C.w) a.A t K E s := h1 K E (h.bind I h2)
theorem seqO {t : Sem α} {v : β} (I : In C d a f ρ σ s) (h1 : wpAny (model C.prog C.w) a.A t (PV C (lx a) f s R1 (.ok v σ')) E s) (h : Cont C a f s Rl r Q E)
    (h2 : ∀ val f' s', In C d a f' ρ σ' s' → Post C (lx a) f s f' σ' s' → R1 f' s'.heap v val → Cont C a f' s' Rl r Q E → K val s') : wpAny (model C.prog C.w) a.A t K E s :=
  wpAny_mono h1 (fun val s' pv => pv.elim fun f' q => h2 val f' s' (I.next q.1) q.1 q.2 (h.before I.S q.1)) fun _ _ x => x
theorem seqK {t : Sem α} {r : Res β} {R2 : Fmap → Heap → β → γ → Prop} (h1 : W C a f s R1 t r) (h : Cont C a f s R2 r Q E) (h2 : ∀ v val f' s', R1 f' s'.heap v val → (∀ w, R2 f' s'.heap v w → Q w s') → K val s') : wpAny (model C.prog C.w) a.A t K E s := by
  refine h1 K E ⟨h.ne, fun val s' pv => ?_, h.err⟩
  cases r with
  | ok v σ' => exact pv.elim fun f' q => h2 v val f' s' q.2 fun w rw => h.ok _ _ ⟨f', q.1, rw⟩
  | exc => exact pv.elim
  | stuck => exact pv.elim
end
noncomputable def CallOk (C : Cx) (co : Addr → List V → St → Res V) (d : Nat) : Prop := ∀ (a : Act) (f : Fmap) (ρ : Rho) (σ : St) (s : Shared) (fa : Addr) (args : List V) (vals : List Value), In C d a f ρ σ s → a.A.handled = none → RelL f s.heap args vals → W C a f s Rel (call (.ref fa) vals) (co fa args σ)
structure Go (C : Cx) (P : Prog) (co : Addr → List V → St → Res V) (d : Nat) : Prop where
  G : C.Good
  call : CallOk C co d
  hard : ∀ b, b = .sorted ∨ b = .dict → HardB C b
  ext : ExtOk C P.ext
  keep : ∀ x fa, C.T.F.lookup x = some fa → keepIn C.K (.ref fa) = true
  cls : ∀ c, (P.init c).isSome = true → c ∈ C.cls
  meth : ∀ c n fa, P.meth c n = some fa → findIn C.K (.ref c) (attrStr n) = some (some (.ref fa)) ∧ typeIn C.K (.ref fa) = some (.type "function") ∧ keepIn C.K (.ref fa) = true ∧
    findIn C.K (.ref c) "__getattribute__" = some (some (.builtin "object.__getattribute__")) ∧ findIn C.K (.ref c) "__getattr__" = some none
noncomputable def SimX (C : Cx) (P : Prog) (co : Addr → List V → St → Res V) (d : Nat) (x : X) : Prop := ∀ (a : Act) (e : Expr) (f : Fmap) (ρ : Rho) (σ : St) (s : Shared), In C d a f ρ σ s → (a.A.handled = none ∨ calmX x = true) → chkX C.T a.ns a.sl a.n x e = true → W C a f s Rel (eval e a.env) (evX P co x ρ σ)
noncomputable def RelN (n : Nat) (f : Fmap) (h : Heap) (l : List V) (vs : List Value) : Prop := RelL f h l vs ∧ vs.length = n
noncomputable def SimL (C : Cx) (P : Prog) (co : Addr → List V → St → Res V) (d : Nat) (l : XL) : Prop := ∀ (a : Act) (es : List Expr) (p : Pos) (f : Fmap) (ρ : Rho) (σ : St) (s : Shared), In C d a f ρ σ s → (a.A.handled = none ∨ calmL l = true) → chkL C.T a.ns a.sl a.n l es = true → W C a f s (RelN es.length) (spliced (backTo p (starEach es a.env))) (evL P co l ρ σ)
section
variable {C : Cx} {P : Prog} {co : Addr → List V → St → Res V} {d : Nat} {a : Act} {f : Fmap} {ρ : Rho} {σ : St} {s : Shared}
theorem Act.Good.unitsLt (g : a.Good d) : a.A.units + 100 < cLine := Nat.lt_of_lt_of_le (Nat.add_lt_add_left (by decide : 100 < 300) _) (Nat.le_trans (Nat.add_le_add_right (Nat.le_add_right _ (40 * d)) _) g.units)
theorem Sp.nsG (G : C.Good) (S : Sp C a f ρ σ s) : s.heap.Ns mainGlobals C.mg := ns_of G.nsG fun o e => S.ok.stay _ o e
theorem Sp.nsB (G : C.Good) (S : Sp C a f ρ σ s) : s.heap.Ns builtinsNs C.mb := ns_of G.nsB fun o e => S.ok.stay _ o e
theorem Sp.kin (G : C.Good) (S : Sp C a f ρ σ s) : C.K.In s.heap := fun b o e => S.ok.stay b o (G.kin b o e)
theorem not_false' {b : Bool} (h : (!b) = true) : b = false := by cases b <;> first | rfl | cases h
theorem sim_lit {v : V} : SimX C P co d (.lit v) := by
  intro a e f ρ σ s I _ hc
  apply eConstant_of hc
  intro c k p hc Q E h
  replace hc := of_decide_eq_true hc
  cases v with
  | none => exact Option.some.inj hc ▸ wpAny_Constant_none (h.here I.S rel_none)
  | bool => exact Option.some.inj hc ▸ wpAny_Constant_bool (h.here I.S rel_bool)
  | int => exact Option.some.inj hc ▸ wpAny_Constant_int (h.hereT I.S rel_int)
  | str => exact Option.some.inj hc ▸ wpAny_Constant_str (h.hereT I.S rel_str)
  | _ => exact nomatch hc
theorem SlotOk.load {x : Str} {m : Str → Option Value} {v : V} {E : Value → Shared → Prop} {Q : Value → Shared → Prop} (g : a.Good d) (hm : s.heap.Ns a.env.locals m) (h : SlotOk a.env m f s.heap x (some v)) (hd : (x != Str.ofString "__classdict__") = true) (k : ∀ val, Rel f s.heap v val → Q val s) : wpAny (model C.prog C.w) a.A (loadName a.env x) Q E s := by
  cases h with
  | loc hk o => exact OR.some o fun val e r => wpAny_loadName_local g.kind hk hm e (k val r)
  | cell hk o => exact OR.some o.rel fun val e r => wpAny_loadName_cell g.kind hk o.at_ (e ▸ o.cell) (k val r)
  | free hk o => exact OR.some o.rel fun val e r => wpAny_loadName_free g.kind hk o.at_ (e ▸ o.cell) (k val r) (not_false' hd)
theorem sim_var {i : Nat} : SimX C P co d (.var i) := by
  intro a e f ρ σ s I _ hc
  apply eName_of hc
  refine fun x p hc => b3 hc fun hs hdb hcd Q E h => ?_
  refine I.S.fr.ns.elim fun m hm => (hm.2 x i (eq_of_beq hs)).elim fun q h1 => ?_
  exact h.of fun v e h => wpAny_Name ((show SlotOk _ _ _ _ _ (some v) from e ▸ slot_of h1.1 ▸ h1.2).load I.g hm.1 hcd fun val r => h.here I.S r) (not_false' hdb)
theorem glo_facts {x : Str} (g : a.Good d) (h : glo a.ns x = true) : a.env.kindOf x = some .globalImplicit ∧ (x == ("__debug__" : Str)) = false :=
  b2 h fun h1 h2 => ⟨(congrArg (·.lookup x) g.names).trans (eq_of_beq h1), not_false' h2⟩
theorem sim_glob (O : Go C P co d) {v : V} : SimX C P co d (.glob v) := by
  intro a e f ρ σ s I _ hc
  apply eName_of hc
  refine fun x p hc => b2 hc fun h1 h2 Q E h => ?_
  obtain ⟨val, e1, e2⟩ := O.G.glob x v (eq_of_beq h2)
  have k := glo_facts I.g h1
  exact Name_function_global I.g.kind k.1 (loadGlobal_global (I.g.globals ▸ I.S.nsG O.G) e1 (h.here I.S (e2.mono (pre_nil f) fun b o e _ => I.S.ok.stay b o e))) k.2
theorem fnName (O : Go C P co d) (I : In C d a f ρ σ s) {E : Value → Shared → Prop} {x : Str} {p : Pos} {fa : Addr} {Q : Value → Shared → Prop} (h1 : glo a.ns x = true) (h2 : C.T.F.lookup x = some fa) (h : Q (.ref fa) s) : wpAny (model C.prog C.w) a.A (eval (.Name x p) a.env) Q E s :=
  have k := glo_facts I.g h1
  Name_function_global I.g.kind k.1 (loadGlobal_global (I.g.globals ▸ I.S.nsG O.G) (O.G.fns x fa h2) h) k.2
theorem gloB (O : Go C P co d) (I : In C d a f ρ σ s) {E : Value → Shared → Prop} {x y : Str} {p : Pos} {v : Value} {Q : Value → Shared → Prop} (h1 : glo a.ns x = true) (h2 : (x == y) = true) (b : C.mg y = none ∧ C.mb y = some v) (h : Q v s) : wpAny (model C.prog C.w) a.A (eval (.Name x p) a.env) Q E s :=
  have k := glo_facts I.g h1
  Name_function_global I.g.kind k.1 (loadGlobal_builtin (I.g.globals ▸ I.S.nsG O.G) (eq_of_beq h2 ▸ b.1) (I.g.builtins ▸ I.S.nsB O.G) (eq_of_beq h2 ▸ b.2) h) k.2
theorem sim_bin {op : Operator} {x y : X} (hx : SimX C P co d x) (hy : SimX C P co d y) : SimX C P co d (.bin op x y) := by
  intro a e f ρ σ s I hh hc
  apply eBinOp_of hc
  refine fun l o r p hc => b3 hc fun c0 c1 c2 => eq_of_beq c0 ▸ fun Q E h => ?_
  exact wpAny_BinOp <| seqB I (hx a l f ρ σ s I (hh2 hh).1 c1) h fun v σ1 val f1 s1 I1 q1 r1 h => seqB I1 (hy a r f1 ρ σ1 s1 I1 (hh2 hh).2 c2) h fun w σ2 wal f2 s2 I2 q2 r2 h => h.fin (op_bin I2.S I2.ap (q2.rel I1.S r1) r2 h.ne)
end
end QZ
namespace QZ
open PySem PySem.W PySem.Calls PyProof.Rows
noncomputable abbrev Tr : Fmap → Heap → Bool → Bool → Prop := fun _ _ p q => p = q
noncomputable def SimB (C : Cx) (P : Prog) (co : Addr → List V → St → Res V) (d : Nat) (x : X) : Prop := ∀ (a : Act) (e : Expr) (f : Fmap) (ρ : Rho) (σ : St) (s : Shared), In C d a f ρ σ s → (a.A.handled = none ∨ calmX x = true) → tst x e = true → chkX C.T a.ns a.sl a.n x e = true → W C a f s Tr (isTrue e a.env (eval e a.env)) (QZ.test P co x ρ σ)
theorem isTrue_plain {e : Expr} {env : Env} {whole : Sem Value} (h : isSpecial e = false) : isTrue e env whole = (do let v ← whole; standAt e.pos; holding [v] (truthy v)) := by
  cases e <;> first | rfl | cases h | skip
  rename_i op x p
  cases op <;> first | rfl | cases h
section
variable {C : Cx} {P : Prog} {co : Addr → List V → St → Res V} {d : Nat} {a : Act} {f : Fmap} {ρ : Rho} {σ : St} {s : Shared}
theorem op_truth {R : Bool → Shared → Prop} {E : Value → Shared → Prop} {v : V} {val : Value} (I : In C d a f ρ σ s) (r : Rel f s.heap v val) (h : Cont C a f s Tr (truthR v σ) R E) : wpAny (model C.prog C.w) a.A (truthy val) R E s :=
  h.of fun b e h => h.fin (op_truthy I.S r e)
theorem simB_plain {x : X} (hx : SimX C P co d x) (hp : isSpecX x = false) : SimB C P co d x := fun a e f ρ σ s I hh ht hc Q E h =>
  wpAny_isTrue_value (seqB I (hx a e f ρ σ s I hh hc) h fun v σ1 val f1 s1 I1 q1 r1 h => op_truth I1 r1 h) (isTrue_plain (not_false' (by rw [tst, hp] at ht; exact ht)))
theorem sim_neg {x : X} (hx : SimX C P co d x) : SimX C P co d (.neg x) := by
  intro a e f ρ σ s I hh hc
  apply eUnaryOp_of hc
  refine fun op y p hc => b2 hc fun c0 c1 => eq_of_beq c0 ▸ fun Q E h => wpAny_UnaryOp ?_
  refine seqB I (hx a y f ρ σ s I hh c1) h fun v σ1 val f1 s1 I1 q1 r1 h => h.of fun i e h => h.fin (op_neg I1.S ?_)
  cases v with
  | int => exact Option.some.inj e ▸ r1
  | _ => exact nomatch e
theorem op_not {v : V} {val : Value} {Q : Value → Shared → Prop} {E : Value → Shared → Prop} (I : In C d a f ρ σ s) (r : Rel f s.heap v val) (h : Cont C a f s Rel (ofO (truth v) fun b => .ok (.bool (!b)) σ) Q E) : wpAny (model C.prog C.w) a.A (unaryOp .Not val) Q E s := by
  refine h.of fun b e h => ?_
  unfold unaryOp
  refine wpAny_holding (show wpAny _ _ (truthy val >>= fun b => pure (Value.bool (!b))) _ _ _ from wpAny_bind ?_)
  exact seqO I (op_truthy (ex := lx a) I.S r e) h fun t f' s' I p e h => e ▸ wpAny_pure (h.here I.S rel_bool)
theorem sim_not {x : X} (hx : SimX C P co d x) : SimX C P co d (.not x) := by
  intro a e f ρ σ s I hh hc
  apply eUnaryOp_of hc
  exact fun op y p hc => b3 hc fun c0 _ c1 => eq_of_beq c0 ▸ fun Q E h => wpAny_UnaryOp (seqB I (hx a y f ρ σ s I hh c1) h fun v σ1 val f1 s1 I1 q1 r1 h => op_not I1 r1 h)
theorem test_not {x : X} : QZ.test P co (.not x) ρ σ = (QZ.test P co x ρ σ).bind fun b σ => .ok (!b) σ :=
  (bindA (r := evX P co x ρ σ)).trans ((bindE fun v σ => by unfold truthR; cases truth v <;> rfl).trans bindA.symm)
theorem simB_not {x : X} (hx : SimB C P co d x) : SimB C P co d (.not x) := by
  intro a e f ρ σ s I hh _ hc
  apply eUnaryOp_of hc
  exact fun op y p hc => b3 hc fun c0 t1 c1 => eq_of_beq c0 ▸ W.eq test_not fun Q E h => wpAny_isTrue_Not (seqB I (hx a y f ρ σ s I hh t1 c1) h fun v σ1 val f1 s1 I1 q1 r1 h => h.here I1.S (congrArg (!·) r1))
theorem sim_ite {c x y : X} (hb : SimB C P co d c) (hx : SimX C P co d x) (hy : SimX C P co d y) : SimX C P co d (.ite c x y) := by
  intro a e f ρ σ s I hh hc
  apply eIfExp_of hc
  refine fun t u v p hc => b6 hc fun t1 t2 t3 c1 c2 c3 Q E h => wpAny_IfExp ?_
  refine seqB I (hb a t f ρ σ s I (hh2 hh).1 t1 c1) h fun b σ1 bal f1 s1 I1 q1 r1 h => ?_
  cases r1
  cases b with
  | false => exact hy a v f1 ρ σ1 s1 I1 (hh2 (hh2 hh).2).2 c3 _ _ h
  | true => exact hx a u f1 ρ σ1 s1 I1 (hh2 (hh2 hh).2).1 c2 _ _ h
theorem test_ite {c x y : X} : QZ.test P co (.ite c x y) ρ σ = (QZ.test P co c ρ σ).bind fun b σ => cond b (QZ.test P co x ρ σ) (QZ.test P co y ρ σ) :=
  (bindA (r := QZ.test P co c ρ σ)).trans (bindE fun b σ => by cases b <;> rfl)
theorem simB_ite {c x y : X} (hb : SimB C P co d c) (hx : SimB C P co d x) (hy : SimB C P co d y) : SimB C P co d (.ite c x y) := by
  intro a e f ρ σ s I hh _ hc
  apply eIfExp_of hc
  refine fun t u v p hc => b6 hc fun t1 t2 t3 c1 c2 c3 => W.eq test_ite fun Q E h => arm_isTrue_IfExp .. ▸ wpAny_bind ?_
  refine seqB I (hb a t f ρ σ s I (hh2 hh).1 t1 c1) h fun b σ1 bal f1 s1 I1 q1 r1 h => ?_
  cases r1
  cases b with
  | false => exact hy a v f1 ρ σ1 s1 I1 (hh2 (hh2 hh).2).2 t3 c3 _ _ h
  | true => exact hx a u f1 ρ σ1 s1 I1 (hh2 (hh2 hh).2).1 t2 c2 _ _ h
inductive AllS (Q : X → Prop) : XL → Prop where
  | nil : AllS Q .nil
  | cons {x l} (h : Q x) (k : AllS Q l) : AllS Q (.cons x l)
theorem chk_one {T : Tab} {ns : Names} {sl : Slots} {n : Nat} {x : X} {es : List Expr} {M : List Expr → Prop} (h : chkL T ns sl n (.cons x .nil) es = true) (k : ∀ e, chkX T ns sl n x e = true → M [e]) : M es := by
  apply cons?_of h
  exact fun e es h => b3 h fun _ h1 h2 => nil?_of h2 ▸ k e h1
theorem chk_two {T : Tab} {ns : Names} {sl : Slots} {n : Nat} {x y : X} {l : XL} {es : List Expr} {M : List Expr → Prop} (h : chkL T ns sl n (.cons x (.cons y l)) es = true) (k : ∀ e e2 es, chkX T ns sl n x e = true → chkL T ns sl n (.cons y l) (e2 :: es) = true → M (e :: e2 :: es)) : M es := by
  apply cons?_of h
  refine fun e es h => b3 h fun _ h1 h2 => ?_
  cases es with
  | nil => exact nomatch h2
  | cons e2 es => exact k e e2 es h1 h2
theorem hhN {p : Prop} {a : Bool} (h : p ∨ (a && true) = true) : p ∨ a = true := (hh2 h).1
theorem sim_bop' {c : Bool} {op : BoolOp} (ho : (op == .And) = c) {p : Pos} {l : XL} (k : AllS (SimX C P co d) l) : ∀ (a : Act) (es : List Expr) (f : Fmap) (ρ : Rho) (σ : St) (s : Shared), In C d a f ρ σ s → (a.A.handled = none ∨ calmL l = true) → chkL C.T a.ns a.sl a.n l es = true → W C a f s Rel (boolOp p op (evalEach es a.env)) (evB P co c l ρ σ) := by
  induction k with
  | nil => exact fun a es f ρ σ s I hh hc Q E h => h.no
  | @cons x l hx k ih =>
  intro a es f ρ σ s I hh hc
  cases l with
  | nil =>
    apply chk_one hc
    exact fun e c1 => hx a e f ρ σ s I (hhN hh) c1
  | cons y l =>
    apply chk_two hc
    refine fun e e2 es c1 c2 Q E h => ?_
    show wpAny _ _ (eval e a.env >>= fun v => standAt p >>= fun _ => holding [v] (truthy v) >>= fun t => match op, t with
          | .And, false | .Or, true => pure v
          | _, _ => boolOp p op (evalEach (e2 :: es) a.env)) _ _ _
    refine wpAny_bind (seqB I (hx a e f ρ σ s I (hh2 hh).1 c1) h fun v σ1 val f1 s1 I1 q1 r1 h => wpAny_bind (wpAny_standAt (wpAny_bind (wpAny_holding (h.of fun b eb h => ?_)))))
    refine seqO I1 (op_truthy (ex := lx a) I1.S r1 eb) h fun t f2 s2 I2 p2 rt h => ?_
    cases rt
    have on : ∀ (h : Cont C a f2 s2 Rel (evB P co c (.cons y l) ρ σ1) Q E), wpAny (model C.prog C.w) a.A (boolOp p op (evalEach (e2 :: es) a.env)) Q E s2 := fun h => ih a (e2 :: es) f2 ρ σ1 s2 I2 (hh2 hh).2 c2 Q E h
    have off : ∀ (h : Cont C a f2 s2 Rel (.ok v σ1) Q E), wpAny (model C.prog C.w) a.A (pure val) Q E s2 := fun h => wpAny_pure (h.here I2.S (p2.rel I1.S r1))
    subst ho
    cases op with
    | And => cases b with
      | true => exact on h
      | false => exact off h
    | Or => cases b with
      | true => exact off h
      | false => exact on h
theorem sim_bop {c : Bool} {l : XL} (k : AllS (SimX C P co d) l) : SimX C P co d (.bop c l) := by
  intro a e f ρ σ s I hh hc
  apply eBoolOp_of hc
  exact fun op vs p hc => b3 hc fun c0 _ c1 => arm_eval_BoolOp .. ▸ sim_bop' (eq_of_beq c0) k a vs f ρ σ s I hh c1
noncomputable def tB (P : Prog) (co : Addr → List V → St → Res V) (c : Bool) (l : XL) (ρ : Rho) (σ : St) : Res Bool := (evB P co c l ρ σ).bind truthR
theorem tB_two {c : Bool} {x y : X} {l : XL} : tB P co c (.cons x (.cons y l)) ρ σ = (QZ.test P co x ρ σ).bind fun b σ => cond (b == c) (tB P co c (.cons y l) ρ σ) (.ok b σ) :=
  (bindA (r := evX P co x ρ σ)).trans ((bindE fun v σ => by
    unfold truthR
    cases h : truth v with
    | none => rfl
    | some b =>
      show (cond (b == c) _ (Res.ok v σ)).bind _ = cond (b == c) _ _
      cases b == c with
      | true => rfl
      | false => exact congrArg (fun o => ofO o fun b => Res.ok b σ) h).trans bindA.symm)
theorem simB_bop' {c : Bool} {op : BoolOp} (ho : (op == .And) = c) {l : XL} (k : AllS (SimB C P co d) l) : ∀ (a : Act) (es : List Expr) (f : Fmap) (ρ : Rho) (σ : St) (s : Shared), In C d a f ρ σ s → (a.A.handled = none ∨ calmL l = true) → tstL l es = true → chkL C.T a.ns a.sl a.n l es = true → W C a f s Tr (allTrue op es a.env) (tB P co c l ρ σ) := by
  induction k with
  | nil => exact fun a es f ρ σ s I hh ht hc Q E h => h.no
  | @cons x l hx k ih =>
  intro a es f ρ σ s I hh ht hc
  revert ht
  cases l with
  | nil =>
    apply chk_one hc
    refine fun e c1 ht => b2 ht fun t1 _ Q E h => ?_
    show wpAny _ _ (isTrue e a.env (eval e a.env) >>= fun t => match op, t with
          | .And, false => pure false
          | .Or, true => pure true
          | _, _ => allTrue op [] a.env) _ _ _
    refine wpAny_bind (seqK (hx a e f ρ σ s I (hhN hh) t1 c1) h fun b bal f1 s1 r1 k => ?_)
    have off : wpAny (model C.prog C.w) a.A (pure b) Q E s1 := wpAny_pure (k b rfl)
    cases r1
    cases op <;> cases b <;> exact off
  | cons y l =>
    apply chk_two hc
    refine fun e e2 es c1 c2 ht => b2 ht fun t1 t2 => W.eq tB_two fun Q E h => ?_
    show wpAny _ _ (isTrue e a.env (eval e a.env) >>= fun t => match op, t with
          | .And, false => pure false
          | .Or, true => pure true
          | _, _ => allTrue op (e2 :: es) a.env) _ _ _
    refine wpAny_bind (seqB I (hx a e f ρ σ s I (hh2 hh).1 t1 c1) h fun b σ1 bal f1 s1 I1 q1 r1 h => ?_)
    cases r1
    have on : ∀ (h : Cont C a f1 s1 Tr (tB P co c (.cons y l) ρ σ1) Q E), wpAny (model C.prog C.w) a.A (allTrue op (e2 :: es) a.env) Q E s1 := fun h => ih a (e2 :: es) f1 ρ σ1 s1 I1 (hh2 hh).2 t2 c2 Q E h
    have off : ∀ (h : Cont C a f1 s1 Tr (.ok b σ1) Q E), wpAny (model C.prog C.w) a.A (pure b) Q E s1 := fun h => wpAny_pure (h.here I1.S rfl)
    subst ho
    cases op with
    | And => cases b with
      | true => exact on h
      | false => exact off h
    | Or => cases b with
      | true => exact off h
      | false => exact on h
theorem simB_bop {c : Bool} {l : XL} (k : AllS (SimB C P co d) l) : SimB C P co d (.bop c l) := by
  intro a e f ρ σ s I hh _ hc
  apply eBoolOp_of hc
  exact fun op vs p hc => b3 hc fun c0 t1 c1 => simB_bop' (eq_of_beq c0) k a vs f ρ σ s I hh t1 c1
end
end QZ
namespace QZ
open PySem PySem.W PySem.Calls PyProof.Rows
theorem marks_even {op : CmpOp} {e : Expr} (h : even e = true) : lastMarks [op] [e] = false := by cases e <;> first | rfl | cases h
theorem star_even {e : Expr} {es : List Expr} {env : Env} (h : even e = true) : starEach (e :: es) env = (false, eval e env) :: starEach es env := by cases e <;> first | rfl | cases h
theorem sub_even {i : Expr} {o v : Value} (h : even i = true) : subscripted i false o v = operate [o, v] (PySem.getItem o v) := by cases i <;> first | rfl | cases h
section
variable {C : Cx} {P : Prog} {co : Addr → List V → St → Res V} {d : Nat} {a : Act} {f : Fmap} {ρ : Rho} {σ : St} {s : Shared}
theorem chkC_of {T : Tab} {ns : Names} {sl : Slots} {n : Nat} {op : CmpOp} {x : X} {l : CL} {os : List CmpOp} {es : List Expr} {M : List CmpOp → List Expr → Prop} (h : chkC T ns sl n (.cons op x l) os es = true)
    (k : ∀ os e es, even e = true → chkX T ns sl n x e = true → chkC T ns sl n l os es = true → M (op :: os) (e :: es)) : M os es := by
  apply cons?_of h
  intro o os h
  apply cons?_of h
  exact fun e es h => b4 h fun h1 h2 h3 h4 => eq_of_beq h1 ▸ k os e es h2 h3 h4
theorem chkC_nil {T : Tab} {ns : Names} {sl : Slots} {n : Nat} {os : List CmpOp} {es : List Expr} {M : List CmpOp → List Expr → Prop} (h : chkC T ns sl n .nil os es = true) (k : M [] []) : M os es := b2 h fun h1 h2 => nil?_of h1 ▸ nil?_of h2 ▸ k
theorem chkC_two {T : Tab} {ns : Names} {sl : Slots} {n : Nat} {op op' : CmpOp} {x y : X} {l : CL} {os : List CmpOp} {es : List Expr} {M : List CmpOp → List Expr → Prop} (h : chkC T ns sl n (.cons op x (.cons op' y l)) os es = true)
    (k : ∀ e o2 os e2 es, chkX T ns sl n x e = true → chkC T ns sl n (.cons op' y l) (o2 :: os) (e2 :: es) = true → M (op :: o2 :: os) (e :: e2 :: es)) : M os es := by
  apply chkC_of h
  intro os e es _ h1 h2
  cases os with
  | nil => exact nomatch h2
  | cons o2 os =>
    cases es with
    | nil => exact nomatch h2
    | cons e2 es => exact k e o2 os e2 es h1 h2
theorem marks_none {T : Tab} {ns : Names} {sl : Slots} {n : Nat} : ∀ {l : CL} {ops : List CmpOp} {es : List Expr}, chkC T ns sl n l ops es = true → lastMarks ops es = false
  | .nil, ops, es, h => by apply chkC_nil h; rfl
  | .cons op x .nil, ops, es, h => by
    apply chkC_of h
    intro os e es h1 _ h2
    apply chkC_nil h2
    exact marks_even h1
  | .cons op x (.cons op' y l), ops, es, h => by
    apply chkC_two h
    exact fun e o2 os e2 es h1 h2 => show lastMarks (o2 :: os) (e2 :: es) = false from marks_none h2
inductive AllC (Q : X → Prop) : CL → Prop where
  | nil : AllC Q .nil
  | cons {op x l} (h : Q x) (k : AllC Q l) : AllC Q (.cons op x l)
theorem op_cmpR {Q : Value → Shared → Prop} {E : Value → Shared → Prop} (O : Go C P co d) (I : In C d a f ρ σ s) {op : CmpOp} {x y : V} {vx vy : Value} {β : Type} {r : Res β} {b : Bool} {γ : Type} {Rl : Fmap → Heap → β → γ → Prop} {Q' : γ → Shared → Prop} (rx : Rel f s.heap x vx) (ry : Rel f s.heap y vy) (e : cmpop op x y σ = some b) (h : Cont C a f s Rl r Q' E)
    (k : ∀ val f' s', In C d a f' ρ σ s' → Post C (lx a) f s f' σ s' → Rel f' s'.heap (.bool b) val → Cont C a f' s' Rl r Q' E → Q val s') : wpAny (model C.prog C.w) a.A (compareOp op vx vy) Q E s := seqO I (op_cmp O.G (ex := lx a) I.S I.g.unitsLt rx ry e) h k
theorem sim_chain (O : Go C P co d) {p : Pos} {l : CL} (k : AllC (SimX C P co d) l) : ∀ (a : Act) (ops : List CmpOp) (es : List Expr) (f : Fmap) (ρ : Rho) (σ : St) (s : Shared) (v : V) (val : Value), In C d a f ρ σ s → (a.A.handled = none ∨ calmC l = true) → chkC C.T a.ns a.sl a.n l ops es = true → Rel f s.heap v val → W C a f s Rel (compareChain p val ops (evalEach es a.env)) (evC P co v l ρ σ) := by
  induction k with
  | nil => exact fun a ops es f ρ σ s v val I hh hc r Q E h => h.no
  | @cons op x l hx k ih =>
    intro a ops es f ρ σ s v val I hh hc r
    cases l with
    | nil =>
      apply chkC_of hc
      intro os e es _ c1 c2
      apply chkC_nil c2
      intro Q E h
      show wpAny _ _ (holding [val] (eval e a.env) >>= fun rv => standAt p >>= fun _ => operate [val, rv] (compareOp op val rv)) _ _ _
      refine wpAny_bind (wpAny_holding (seqB I (hx a e f ρ σ s I (hhN hh) c1) h fun w σ1 wal f1 s1 I1 q1 r1 h => wpAny_bind (wpAny_standAt (wpAny_operating (h.of fun b eb h => ?_)))))
      exact op_cmpR O I1 (q1.rel I.S r) r1 eb h fun val f' s' I2 p2 rb h => h.here I2.S rb
    | cons op' y l =>
      apply chkC_two hc
      intro e o2 os e2 es c1 c2 Q E h
      show wpAny _ _ (holding [val] (eval e a.env) >>= fun rv => standAt p >>= fun _ => holding [val, rv] (compareOp op val rv) >>= fun c => release [val, rv] [c] >>= fun _ => holding [c, rv] (truthy c) >>= fun t => if t then compareChain p rv (o2 :: os) (evalEach (e2 :: es) a.env) else pure c) _ _ _
      refine wpAny_bind (wpAny_holding (seqB I (hx a e f ρ σ s I (hh2 hh).1 c1) h fun w σ1 wal f1 s1 I1 q1 r1 h => wpAny_bind (wpAny_standAt (wpAny_bind (wpAny_holding (h.of fun b eb h => ?_))))))
      refine op_cmpR O I1 (q1.rel I.S r) r1 eb h fun c f2 s2 I2 p2 rb h => wpAny_bind (wpAny_release (wpAny_bind (wpAny_holding ?_)))
      refine seqO I2 (op_truthy (ex := lx a) I2.S rb (b := b) rfl) h fun t f3 s3 I3 p3 rt h => ?_
      cases rt
      cases b with
      | false => exact wpAny_pure (h.here I3.S (p3.rel I2.S rb))
      | true => exact ih a (o2 :: os) (e2 :: es) f3 ρ σ1 s3 w wal I3 (hh2 hh).2 c2 (p3.rel I2.S (p2.rel I1.S r1)) _ _ h
theorem sim_cmp (O : Go C P co d) {x : X} {l : CL} (hx : SimX C P co d x) (k : AllC (SimX C P co d) l) : SimX C P co d (.cmp x l) := by
  intro a e f ρ σ s I hh hc
  apply eCompare_of hc
  refine fun left ops rs p hc => b2 hc fun c1 c2 Q E h => ?_
  show wpAny _ _ (eval left a.env >>= fun v => compareChain p v ops (markedEach ops rs (evalEach rs a.env))) _ _ _
  rw [markedEach_of_false _ _ _ (marks_none c2)]
  exact wpAny_bind (seqB I (hx a left f ρ σ s I (hh2 hh).1 c1) h fun w σ1 wal f1 s1 I1 q1 r1 h => sim_chain O k a ops rs f1 ρ σ1 s1 w wal I1 (hh2 hh).2 c2 r1 _ _ h)
noncomputable def tC (P : Prog) (co : Addr → List V → St → Res V) (v : V) (l : CL) (ρ : Rho) (σ : St) : Res Bool := (evC P co v l ρ σ).bind truthR
theorem ofO_bind {α β γ : Type} {o : Option α} {g : α → Res β} {k : β → St → Res γ} : (ofO o g).bind k = ofO o fun x => (g x).bind k := by cases o <;> rfl
theorem ofOE {α β : Type} {o : Option α} {g k : α → Res β} (h : ∀ v, g v = k v) : ofO o g = ofO o k := congrArg (ofO o) (funext h)
theorem tC_one {v : V} {op : CmpOp} {x : X} : tC P co v (.cons op x .nil) ρ σ = (evX P co x ρ σ).bind fun w σ => ofO (cmpop op v w σ) fun b => .ok b σ := (bindA (r := evX P co x ρ σ)).trans (bindE fun w σ => ofO_bind)
theorem tC_two {v : V} {op op' : CmpOp} {x y : X} {l : CL} : tC P co v (.cons op x (.cons op' y l)) ρ σ = (evX P co x ρ σ).bind fun w σ => ofO (cmpop op v w σ) fun b => cond b (tC P co w (.cons op' y l) ρ σ) (.ok false σ) :=
  (bindA (r := evX P co x ρ σ)).trans (bindE fun w σ => ofO_bind.trans (ofOE fun b => by cases b <;> rfl))
theorem simB_chain (O : Go C P co d) {p : Pos} {l : CL} (k : AllC (SimX C P co d) l) : ∀ (a : Act) (ops : List CmpOp) (es : List Expr) (f : Fmap) (ρ : Rho) (σ : St) (s : Shared) (v : V) (val : Value), In C d a f ρ σ s → (a.A.handled = none ∨ calmC l = true) → chkC C.T a.ns a.sl a.n l ops es = true → Rel f s.heap v val → W C a f s Tr (testChain p val ops (evalEach es a.env)) (tC P co v l ρ σ) := by
  induction k with
  | nil => exact fun a ops es f ρ σ s v val I hh hc r Q E h => h.no
  | @cons op x l hx k ih =>
    intro a ops es f ρ σ s v val I hh hc r
    cases l with
    | nil =>
      apply chkC_of hc
      intro os e es _ c1 c2
      apply chkC_nil c2
      refine W.eq tC_one fun Q E h => ?_
      show wpAny _ _ (holding [val] (eval e a.env) >>= fun rv => standAt p >>= fun _ => operate [val, rv] (compareOp op val rv) >>= fun c => holding [c] (truthy c)) _ _ _
      refine wpAny_bind (wpAny_holding (seqB I (hx a e f ρ σ s I (hhN hh) c1) h fun w σ1 wal f1 s1 I1 q1 r1 h => wpAny_bind (wpAny_standAt (wpAny_bind (wpAny_operating (h.of fun b eb h => ?_))))))
      exact op_cmpR O I1 (q1.rel I.S r) r1 eb h fun val f' s' I2 p2 rb h => wpAny_holding (h.fin (op_truthy I2.S rb rfl))
    | cons op' y l =>
      apply chkC_two hc
      refine fun e o2 os e2 es c1 c2 => W.eq tC_two fun Q E h => ?_
      show wpAny _ _ (holding [val] (eval e a.env) >>= fun rv => standAt p >>= fun _ => holding [val, rv] (compareOp op val rv) >>= fun c => release [val, rv] [c] >>= fun _ => holding [c, rv] (truthy c) >>= fun t => if t then testChain p rv (o2 :: os) (evalEach (e2 :: es) a.env) else pure false) _ _ _
      refine wpAny_bind (wpAny_holding (seqB I (hx a e f ρ σ s I (hh2 hh).1 c1) h fun w σ1 wal f1 s1 I1 q1 r1 h => wpAny_bind (wpAny_standAt (wpAny_bind (wpAny_holding (h.of fun b eb h => ?_))))))
      refine op_cmpR O I1 (q1.rel I.S r) r1 eb h fun c f2 s2 I2 p2 rb h => wpAny_bind (wpAny_release (wpAny_bind (wpAny_holding ?_)))
      refine seqO I2 (op_truthy (ex := lx a) I2.S rb (b := b) rfl) h fun t f3 s3 I3 p3 rt h => ?_
      cases rt
      cases b with
      | false => exact wpAny_pure (h.here I3.S rfl)
      | true => exact ih a (o2 :: os) (e2 :: es) f3 ρ σ1 s3 w wal I3 (hh2 hh).2 c2 (p3.rel I2.S (p2.rel I1.S r1)) _ _ h
theorem simB_cmp (O : Go C P co d) {x : X} {l : CL} (hx : SimX C P co d x) (k : AllC (SimX C P co d) l) : SimB C P co d (.cmp x l) := by
  intro a e f ρ σ s I hh _ hc
  apply eCompare_of hc
  refine fun left ops rs p hc => b2 hc fun c1 c2 => W.eq (r' := (evX P co x ρ σ).bind fun v σ => tC P co v l ρ σ) bindA fun Q E h => ?_
  rw [arm_isTrue_Compare, markedEach_of_false _ _ _ (marks_none c2)]
  exact wpAny_bind (seqB I (hx a left f ρ σ s I (hh2 hh).1 c1) h fun w σ1 wal f1 s1 I1 q1 r1 h => simB_chain O k a ops rs f1 ρ σ1 s1 w wal I1 (hh2 hh).2 c2 r1 _ _ h)
theorem backTo_cons {p : Pos} {e : Expr} {es : List Expr} {env : Env} (h : even e = true) : backTo p (starEach (e :: es) env) = (false, eval e env) :: backTo p (starEach es env) := congrArg (backTo p) (star_even h)
theorem simL {l : XL} (k : AllS (SimX C P co d) l) : SimL C P co d l := by
  induction k with
  | nil =>
    intro a es p f ρ σ s I hh hc Q E h
    exact nil?_of hc ▸ spliced_nil (h.here I.S ⟨RelL.nil, congrArg List.length (nil?_of hc).symm⟩)
  | cons hx k ih =>
    intro a es p f ρ σ s I hh hc
    apply cons?_of hc
    refine fun e es hc => b3 hc fun c0 c1 c2 Q E h => ?_
    rw [backTo_cons c0]
    exact spliced_cons (seqB I (hx a e f ρ σ s I (hh2 hh).1 c1) h fun v σ1 val f1 s1 I1 q1 r1 h => seqB I1 (ih a es p f1 ρ σ1 s1 I1 (hh2 hh).2 c2) h fun vs σ2 vals f2 s2 I2 q2 r2 h => h.here I2.S ⟨RelL.cons (q2.rel I1.S r1) r2.1, congrArg (· + 1) r2.2⟩)
theorem endPush {vs : List V} {vals : List Value} {Q E} (I : In C d a f ρ σ s) (r : RelL f s.heap vs vals) (h : Cont C a f s Rel (.ok (.tup vs) σ) Q E) : Q (.ref s.heap.objs.size) { s with heap := s.heap.push { cls := .type "tuple", data := .seq vals.toArray } } := by
  have keep : ∀ b o, s.heap.get? b = some o → (s.heap.push { cls := .type "tuple", data := .seq vals.toArray }).get? b = some o := fun b o e => Heap.get?_push_of_some _ e
  refine h.ret (postGrow I.S keep s.toks) ?_
  rw [Rel]
  exact ⟨_, vals.toArray, rfl, ⟨_, Heap.get?_push_size _ rfl, rfl, _, rfl⟩, List.toList_toArray ▸ r.mono (Pre.refl _) fun b o e _ => keep b o e⟩
theorem thousand {n : Nat} (h : n ≤ 1000) : n ≤ sizeLine := Nat.le_trans h (by decide +kernel)
theorem sim_tup {l : XL} (k : AllS (SimX C P co d) l) : SimX C P co d (.tup l) := by
  intro a e f ρ σ s I hh hc
  apply eTuple_of hc
  exact fun es n p hc => b2 hc fun c1 c2 Q E h => Tuple_ (seqB I (simL k a es p f ρ σ s I hh c1) h fun vs σ1 vals f1 s1 I1 q1 r1 h => wpAny_newTuple (endPush I1 r1.1 h) (thousand (r1.2 ▸ of_decide_eq_true c2)))
theorem sim_lst {l : XL} (k : AllS (SimX C P co d) l) : SimX C P co d (.lst l) := by
  intro a e f ρ σ s I hh hc
  apply eList_of hc
  exact fun es p hc => b2 hc fun c1 c2 Q E h => List_ (seqB I (simL k a es p f ρ σ s I hh c1) h fun vs σ1 vals f1 s1 I1 q1 r1 h => PySem.wpAny_newList
    (h.ok _ _ (post_list I1.S (fun b o e => Heap.get?_push_of_some _ e) (none_at _) (Heap.get?_push_size _ rfl) (its := vals.toArray) (c := 0) (List.toList_toArray ▸ r1.1) s1.toks)) (thousand (r1.2 ▸ of_decide_eq_true c2)))
theorem cls_of (O : Go C P co d) {v : V} (h : okCls P v = true) : ∀ c n, v = .inst c n → c ∈ C.cls := fun c n e => O.cls c (by subst e; exact h)
theorem sim_attr (O : Go C P co d) {x : X} {m : Nat} (hx : SimX C P co d x) : SimX C P co d (.attr x m) := by
  intro a e f ρ σ s I hh hc
  apply eAttribute_of hc
  refine fun o y p hc => b4 hc fun c1 c2 c3 c4 => eq_of_beq c1 ▸ ?_
  revert c4
  apply eName_of c3
  exact fun z np _ c4 Q E h => Attribute_name (seqB I (hx a _ f ρ σ s I hh c4) h fun v σ1 val f1 s1 I1 q1 r1 h => h.when fun hk h => h.of fun w e h => h.fin (op_getAttr O.G I1.S c2 (cls_of O hk) r1 e))
theorem sim_item {x y : X} (hx : SimX C P co d x) (hy : SimX C P co d y) : SimX C P co d (.item x y) := by
  intro a e f ρ σ s I hh hc
  apply eSubscript_of hc
  refine fun o i p hc => b3 hc fun c0 c1 c2 Q E h => Subscript_ (seqB I (hx a o f ρ σ s I (hh2 hh).1 c1) h fun v σ1 val f1 s1 I1 q1 r1 h => seqB I1 (hy a i f1 ρ σ1 s1 I1 (hh2 hh).2 c2) h fun w σ2 wal f2 s2 I2 q2 r2 h => h.of fun u e h => ?_)
  obtain ⟨⟨T, id, hT, hl⟩, hg⟩ := op_getItem (A := a.A) (E := E) (ex := lx a) I2.S (q2.rel I1.S r1) r2 e
  exact h.fin (tail_any (ops := [val, wal]) hT hl hg (sub_even c0))
noncomputable def chkPart (T : Tab) (ns : Names) (sl : Slots) (n : Nat) (x : X) : Option Expr → Bool
  | none => isNoneX x
  | some e => chkX T ns sl n x e
theorem sim_part {x : X} (hx : SimX C P co d x) {e : Option Expr} (I : In C d a f ρ σ s) (hh : a.A.handled = none ∨ calmX x = true) (hc : chkPart C.T a.ns a.sl a.n x e = true) : W C a f s Rel (evalPart e a.env) (evX P co x ρ σ) := by
  cases e with
  | none => exact isNoneX_of hc ▸ fun Q E h => wpAny_pure (h.here I.S rel_none)
  | some e => exact hx a e f ρ σ s I hh hc
theorem sim_slc (O : Go C P co d) {x lo hi : X} (hx : SimX C P co d x) (hl : SimX C P co d lo) (hr : SimX C P co d hi) : SimX C P co d (.slc x lo hi) := by
  intro a e f ρ σ s I hh hc
  apply eSubscript_of hc
  intro o i p hc
  apply eSlice_of hc
  refine fun l u st ps hc => b4 hc fun c0 c1 c2 c3 => none?_of c0 ▸ fun Q E h => Subscript_ ?_
  refine seqB I (hx a o f ρ σ s I (hh2 hh).1 c1) h fun v σ1 val f1 s1 I1 q1 r1 h => wpAny_Slice ?_
  refine seqB I1 (sim_part hl I1 (hh2 (hh2 hh).2).1 c2) h fun vl σ2 lal f2 s2 I2 q2 r2 h => ?_
  refine seqB I2 (sim_part hr I2 (hh2 (hh2 hh).2).2 c3) h fun vh σ3 hal f3 s3 I3 q3 r3 h => wpAny_pure ?_
  exact wpAny_mono (op_slice (A := a.A) (E := E) (ex := lx a) (value := o) (l := l) (u := u) (p := ps) I3.S (q3.rel I2.S (q2.rel I1.S r1)) (q3.rel I2.S r2) r3 O.ext h.ne) h.ok fun _ _ x => x
end
end QZ
namespace QZ
open PySem PySem.W PySem.Calls PyProof.Rows
section
variable {C : Cx} {P : Prog} {co : Addr → List V → St → Res V} {d : Nat} {a : Act} {f : Fmap} {ρ : Rho} {σ : St} {s : Shared}
theorem args_of {M : Model} {A : Around} {E : Value → Shared → Prop} {fv : Value} {T : Tab} {ns : Names} {sl : Slots} {n : Nat} {l : XL} {es : List Expr} {p : Pos} {env : Env} {Q : Args → Shared → Prop} (hc : chkL T ns sl n l es = true)
    (h : wpAny M A (spliced (backTo p (starEach es env))) (fun vs s' => Q ⟨vs, []⟩ s') E s) : wpAny M A (evalArgs fv true (backTo p (starEach es env)) []) Q E s := by
  cases es with
  | nil =>
    unfold evalArgs
    show wpAny M A (spliced [] >>= _) Q E s
    exact wpAny_bind (wpAny_mono h (fun vs s' h' => wpAny_holding (wpAny_bind (wpAny_pure (wpAny_bind (wpAny_pure (wpAny_pure h')))))) fun _ _ x => x)
  | cons e es =>
    cases l with
    | nil => exact nomatch hc
    | cons x l =>
      have c0 := b3 hc fun c0 _ _ => c0
      rw [backTo_cons c0] at h ⊢
      exact evalArgs_plain h
structure NoStar (l : List (Bool × Sem Value)) : Prop where
  any : l.any (·.1) = false
  all : l.all (!·.1) = true
theorem plain_of {T : Tab} {ns : Names} {sl : Slots} {n : Nat} {p : Pos} {env : Env} {l : XL} : ∀ {es : List Expr}, chkL T ns sl n l es = true → NoStar (backTo p (starEach es env)) := by
  refine XL.ind (M := fun l => ∀ {es : List Expr}, chkL T ns sl n l es = true → NoStar (backTo p (starEach es env))) (fun h => nil?_of h ▸ ⟨rfl, rfl⟩) (fun x l ih es h => ?_) l
  apply cons?_of h
  exact fun e es h => b3 h fun h0 h1 h2 => backTo_cons h0 ▸ ⟨(ih h2).any, (ih h2).all⟩
theorem callWith_sim {l : XL} {es : List Expr} {p : Pos} {fv : Value} {first : List Value} {K : Value → Shared → Prop} {E : Value → Shared → Prop} {T : Tab} {ns : Names} {sl : Slots} {n : Nat} {Pd : Heap → Prop} {M : Model} {A : Around} {env : Env} (hc : chkL T ns sl n l es = true)
    (hk : ∀ h, Pd h → ∃ k, (k = Keeper.frame ∨ k = Keeper.machine ∨ k = Keeper.boundFrame) ∧ Looks M h (keeperOf fv) k)
    (h : wpAny M A (spliced (backTo p (starEach es env))) (fun vs s' => Pd s'.heap ∧ wpAny M A (call fv (first ++ vs)) K E s') E s) :
    wpAny M A (callWith p fv first (backTo p (starEach es env)) []) K E s := callWith_of ((congrArg (· || _) (plain_of hc).any).trans rfl) hk (args_of hc h)
theorem keeps_m {M : Model} {fv : Value} (k : ∀ h, Looks M h (keeperOf fv) .machine) (h : Heap) (_ : True) : ∃ k, (k = Keeper.frame ∨ k = Keeper.machine ∨ k = Keeper.boundFrame) ∧ Looks M h (keeperOf fv) k := ⟨.machine, .inr (.inl rfl), k h⟩
theorem looks_bi {M : Model} {b : BI} (h : Heap) : Looks M h (keeperOf (biVal b)) .machine := by cases b <;> exact Looks.now
theorem sim_bi (O : Go C P co d) {b : BI} {l : XL} (k : AllS (SimX C P co d) l) : SimX C P co d (.bi b l) := by
  intro a e f ρ σ s I hh hc
  apply eCall_of hc
  refine fun fn es kws p hc => b2 hc fun c0 hc => nil?_of c0 ▸ ?_
  apply eName_of hc
  refine fun x np hc => b3 hc fun c1 c2 c3 Q E h => ?_
  show wpAny _ _ (eval (.Name x np) a.env >>= fun fv => callWith p fv [] (backTo p (starEach es a.env)) []) _ _ _
  refine wpAny_bind (gloB O I c1 c2 (O.G.bis b) (callWith_sim c3 (keeps_m looks_bi) ?_))
  exact seqB I (simL k a es p f ρ σ s I (hh2 hh).2 c3) h fun vs σ1 vals f1 s1 I1 q1 r1 h => ⟨trivial, h.fin (op_callB O.G I1.ap I1.S I1.g.unitsLt (hh2 hh).1 r1.1 (O.hard b) h.ne)⟩
theorem noCalm {p : Prop} (h : p ∨ false = true) : p := h.elim id fun q => nomatch q
theorem sim_call (O : Go C P co d) {fa : Addr} {l : XL} (k : AllS (SimX C P co d) l) : SimX C P co d (.call fa l) := by
  intro a e f ρ σ s I hh hc
  apply eCall_of hc
  refine fun fn es kws p hc => b2 hc fun c0 hc => nil?_of c0 ▸ ?_
  apply eName_of hc
  refine fun x np hc => b3 hc fun c1 c2 c3 Q E h => ?_
  show wpAny _ _ (eval (.Name x np) a.env >>= fun fv => callWith p fv [] (backTo p (starEach es a.env)) []) _ _ _
  refine wpAny_bind (fnName O I c1 (eq_of_beq c2) (callWith_sim c3 (keeps_K (O.keep x fa (eq_of_beq c2))) ?_))
  exact seqB I (simL k a es p f ρ σ s I (.inl (noCalm hh)) c3) h fun vs σ1 vals f1 s1 I1 q1 r1 h => ⟨I1.S.kin O.G, O.call a f1 ρ σ1 s1 fa vs vals I1 (noCalm hh) r1.1 _ _ h⟩
theorem attr_base {o' : Expr} {y : Str} {env : Env} {t : Sem Value} (hna : isNA o' = true) : attributeBase o' y env t = t := by cases o' <;> first | rfl | cases hna
theorem meth_eval {o' : Expr} {y : Str} {apos cp : Pos} {args : List Expr} {env : Env} (hna : isNA o' = true) (hs : (backTo cp (starEach args env)).all (!·.1) = true) (hlen : decide (args.length < 30) = true) (hline : (apos.endLine == cp.line) = true) :
    eval (.Call (.Attribute o' y apos) args [] cp) env = (do
      let ov ← eval o' env
      standAt apos.atName
      let (f, first) ← holding [ov] (getMethod ov y (do return (← importBound o' env).getD true))
      callWith cp f first (backTo cp (starEach args env)) (backToKw cp (keywordEach [] env))) := by
  have hform : methodCallForm args.length (backTo cp (starEach args env)) [] = true := by
    unfold methodCallForm
    rw [hs]
    exact hlen
  show (do
    let ov ← attributeBase o' y env (eval o' env)
    standAt apos.atName
    methodCall o' y apos cp env ov (args.length + 0) (backTo cp (starEach args env)) []) = _
  rw [attr_base hna]
  unfold methodCall calleeOf methodCallPos
  rw [Nat.add_zero, hform, hline]
  rfl
theorem sim_meth (O : Go C P co d) {o : X} {m : Nat} {l : XL} (ho : SimX C P co d o) (k : AllS (SimX C P co d) l) : SimX C P co d (.meth o m l) := by
  intro a e f ρ σ s I hh hc
  have hh' := noCalm hh
  apply eCall_of hc
  refine fun fn es kws cp hc => b2 hc fun c0 hc => nil?_of c0 ▸ ?_
  apply eAttribute_of hc
  refine fun o' y apos hc => b7 hc fun c1 c2 c3 c4 c5 c6 c7 => eq_of_beq c2 ▸ fun Q E h => ?_
  refine methodCall_KW ?_ (meth_eval c4 (plain_of c6).all c7 c1)
  refine seqB I (ho a o' f ρ σ s I (.inl hh') c5) h fun ov σ1 oval f1 s1 I1 q1 r1 h => ?_
  cases hi : instOf ov with
  | none =>
    rw [hi] at h
    refine Cont.when h fun hm h => op_getMethod I1.S r1 hm (callWith_sim (Pd := fun _ => True) c6 (keeps_m fun _ => Looks.now) ?_)
    exact seqB I1 (simL k a es cp f1 ρ σ1 s1 I1 (.inl hh') c6) h fun vs σ2 vals f2 s2 I2 q2 r2 h => ⟨trivial, h.fin (op_methB O.G I2.S I2.g.unitsLt (q2.rel I1.S r1) r2.1 h.ne)⟩
  | some c =>
    rw [hi] at h
    refine Cont.of h fun fa hf h => h.when fun hfr h => ?_
    refine any_of hfr fun al hal hno => ?_
    obtain ⟨c', n, x', dd, es', t, rfl, rfl, J⟩ := atts_ex I1.S.ok hal r1
    cases Option.some.inj hi
    obtain ⟨m1, m2, m3, m4, m5⟩ := O.meth _ m fa hf
    have hno' : getL (attrStr m) es' = some none := J.atts.no _ fun n' hn' e' => attr_inj (of_decide_eq_true c3) hn' e' ▸ Option.isNone_iff_eq_none.mp hno
    refine method_fn (I1.S.kin O.G) J.inst m4 m5 m1 m2 (show (lookIn _ (dictOf es' t)).map _ = _ by rw [lookIn_dict, hno']; rfl) (callWith_sim c6 (keeps_K m3) ?_)
    exact seqB I1 (simL k a es cp f1 ρ σ1 s1 I1 (.inl hh') c6) h fun vs σ2 vals f2 s2 I2 q2 r2 h => ⟨I2.S.kin O.G, O.call a f2 ρ σ2 s2 fa _ _ I2 hh' (RelL.cons (q2.rel I1.S r1) r2.1) _ _ h⟩
end
end QZ
namespace QZ
open PySem PySem.W PySem.Calls PyProof.Rows
inductive RelP (f : Fmap) (h : Heap) : List (V × V) → List (Value × Value) → Prop
  | nil : RelP f h [] []
  | cons {k x u v l r} (rk : Rel f h k u) (rx : Rel f h x v) (rl : RelP f h l r) : RelP f h ((k, x) :: l) ((u, v) :: r)
theorem Post.adopt {C : Cx} {a : Act} {f f1 : Fmap} {ρ : Rho} {σ σ1 : St} {s s1 : Shared} (S : Sp C a f ρ σ s) (p : Post C (lx a) f s f1 σ1 s1) {D : Addr} {o1 : Obj} {o : O} {h' : Heap} (hD : s.heap.get? D = none) (h1 : s1.heap.get? D = some o1) (hf : D ∉ f1) (hb : C.base.get? D = none)
    (hs : ∀ b o, s1.heap.get? b = some o → b ≠ D → h'.get? b = some o) (e : Fz s1.heap h' → ObjAt C.prog C.w (f1 ++ [D]) h' D o) (ho : ¬ Frozen o1) (tk : Nat) : Post C (lx a) f s (f1 ++ [D]) (σ1 ++ [o]) { s1 with heap := h', toks := tk } := by
  have z : Fz s1.heap h' := fun b ob eb k => hs b ob eb fun q => by subst q; rw [h1] at eb; cases eb; exact ho k
  have hne : ∀ b o, s.heap.get? b = some o → b ≠ D := fun b o e q => by rw [q, hD] at e; cases e
  obtain ⟨g, rfl, hg⟩ := p.nxt.app
  have eo := e z
  refine ⟨⟨⟨g ++ [D], by rw [List.append_assoc], fun b hb' => ?_⟩, fun b o eb hx => hs b o (p.nxt.ext b o eb hx) (hne b o eb), fun L hL m n => ?_, fun b o eb => ?_⟩, ?_, p.gens, p.os⟩
  · rcases List.mem_append.mp hb' with q | q
    · exact hg b q
    · simp only [List.mem_singleton] at q; subst q; exact hD
  · obtain ⟨o', es, ep, e', r⟩ := id n
    have n' := p.nxt.ns L hL m n
    exact ns_of n' fun o q => hs L o q (hne L o' e')
  · obtain ⟨o', e'⟩ := p.nxt.live b o eb
    exact ⟨o', hs b o' e' (hne b o eb)⟩
  · refine ⟨(List.length_append (as := f ++ g)).trans (by rw [p.ok.len, List.length_append]; rfl), ?_, fun j b o' e1 e2 => ?_, fun b hb' => ?_, fun b o' k => hs b o' (p.ok.stay b o' k) fun q => by rw [q, hb] at k; cases k⟩
    · rw [List.nodup_append]
      exact ⟨p.ok.nodup, by simp, fun y hy z hz => by simp only [List.mem_singleton] at hz; subst hz; exact fun q => hf (q ▸ hy)⟩
    · by_cases hj : j < (f ++ g).length
      · rw [List.getElem?_append_left hj] at e1
        rw [List.getElem?_append_left (by rw [← p.ok.len]; exact hj)] at e2
        have hbf : b ∈ f ++ g := List.mem_of_getElem? e1
        exact (p.ok.at_ j b o' e1 e2).mono _ _ (Pre.app _ _) z fun ob q => hs b ob q fun q => hf (q ▸ hbf)
      · rw [List.getElem?_append_right (Nat.not_lt.mp hj)] at e1
        rw [List.getElem?_append_right (by rw [← p.ok.len]; exact Nat.not_lt.mp hj), ← p.ok.len] at e2
        have hj0 : j - (f ++ g).length = 0 := by
          have := (List.getElem?_eq_some_iff.mp e1).1
          simp at this ⊢; omega
        rw [hj0] at e1 e2
        simp only [List.getElem?_cons_zero, Option.some.injEq] at e1 e2
        subst e1; subst e2; exact eo
    · rcases List.mem_append.mp hb' with q | q
      · exact p.ok.fresh b q
      · simp only [List.mem_singleton] at q; subst q; exact hb
theorem dict_live {C : Cx} {f : Fmap} {ρ : Rho} {σ : St} {s : Shared} {a : Act} (S : Sp C a f ρ σ s) : C.base.get? s.heap.objs.size = none := by
  cases q : C.base.get? s.heap.objs.size with
  | none => rfl
  | some o => have := S.ok.stay _ _ q; rw [none_at] at this; cases this
section
variable {C : Cx} {P : Prog} {co : Addr → List V → St → Res V} {d : Nat} {a : Act} {f : Fmap} {ρ : Rho} {σ : St} {s : Shared}
inductive AllP (Q : X → Prop) : PL → Prop where
  | nil : AllP Q .nil
  | cons {k x l} (hk : Q k) (h : Q x) (r : AllP Q l) : AllP Q (.cons k x l)
noncomputable def dPairs (p : Pos) (env : Env) : List (Option Expr) → List Expr → List (Sem Value × Sem Value)
  | some k :: ks, v :: vs => (eval k env, do let x ← eval v env; standAt p; pure x) :: dPairs p env ks vs
  | _, _ => []
theorem chkP_of {T : Tab} {ns : Names} {sl : Slots} {n : Nat} {k v : X} {l : PL} {ks : List (Option Expr)} {vs : List Expr} {M : List (Option Expr) → List Expr → Prop} (h : chkP T ns sl n (.cons k v l) ks vs = true)
    (g : ∀ ke ks ve vs, chkX T ns sl n k ke = true → chkX T ns sl n v ve = true → chkP T ns sl n l ks vs = true → M (some ke :: ks) (ve :: vs)) : M ks vs := by
  apply cons?_of h
  intro ko ks h
  apply some?_of h
  intro ke h
  apply cons?_of h
  exact fun ve vs h => b3 h fun h1 h2 h3 => g ke ks ve vs h1 h2 h3
theorem chkP_nil {T : Tab} {ns : Names} {sl : Slots} {n : Nat} {ks : List (Option Expr)} {vs : List Expr} {M : List (Option Expr) → List Expr → Prop} (h : chkP T ns sl n .nil ks vs = true) (g : M [] []) : M ks vs := b2 h fun h1 h2 => nil?_of h1 ▸ nil?_of h2 ▸ g
structure Shape (p : Pos) (env : Env) (ks : List (Option Expr)) (vs : List Expr) : Prop where
  eq : (evalEachOpt ks env).zip ((evalEach vs env).map fun v => do let x ← v; standAt p; pure x) = (dPairs p env ks vs).map (fun q => (some q.1, q.2))
  len : (dPairs p env ks vs).length = ks.length
theorem PL.ind {M : PL → Prop} (h0 : M .nil) (h1 : ∀ k x l, M l → M (.cons k x l)) : ∀ l, M l
  | .nil => h0
  | .cons k x l => h1 k x l (PL.ind h0 h1 l)
theorem dPairs_shape {T : Tab} {ns : Names} {sl : Slots} {n : Nat} {p : Pos} {env : Env} {l : PL} : ∀ {ks : List (Option Expr)} {vs : List Expr}, chkP T ns sl n l ks vs = true → Shape p env ks vs := by
  refine PL.ind (M := fun l => ∀ {ks : List (Option Expr)} {vs : List Expr}, chkP T ns sl n l ks vs = true → Shape p env ks vs) (fun h => ?_) (fun k v l ih ks vs h => ?_) l
  · apply chkP_nil h
    exact ⟨rfl, rfl⟩
  · apply chkP_of h
    exact fun ke ks ve vs _ _ h => ⟨congrArg ((some (eval ke env), _) :: ·) (ih h).eq, congrArg (· + 1) (ih h).len⟩
theorem simP {p : Pos} {l : PL} (k : AllP (SimX C P co d) l) : ∀ (a : Act) (ks : List (Option Expr)) (vs : List Expr) (f : Fmap) (ρ : Rho) (σ : St) (s : Shared), In C d a f ρ σ s → a.A.handled = none → chkP C.T a.ns a.sl a.n l ks vs = true → W C a f s RelP (evalPairs (dPairs p a.env ks vs)) (evP P co l ρ σ) := by
  induction k with
  | nil =>
    intro a ks vs f ρ σ s I hh hc
    apply chkP_nil hc
    exact fun Q E h => evalPairs_nil (h.here I.S .nil)
  | cons hk hv r ih =>
    intro a ks vs f ρ σ s I hh hc
    apply chkP_of hc
    refine fun ke ks ve vs c1 c2 c3 Q E h => evalPairs_cons ?_
    refine seqB I (hk a ke f ρ σ s I (.inl hh) c1) h fun kv σ1 kal f1 s1 I1 q1 r1 h => wpAny_bind ?_
    refine seqB I1 (hv a ve f1 ρ σ1 s1 I1 (.inl hh) c2) h fun vv σ2 val f2 s2 I2 q2 r2 h => wpAny_bind (wpAny_standAt (wpAny_pure ?_))
    exact seqB I2 (ih a ks vs f2 ρ σ2 s2 I2 hh c3) h fun ps σ3 pal f3 s3 I3 q3 r3 h => h.here I3.S (.cons (q3.rel I2.S (q2.rel I1.S r1)) (q3.rel I2.S r2) r3)
theorem nodup_stored {K : Type} [DecidableEq K] {k : K} {v : Value} : ∀ {kvs : List (K × Value)}, (kvs.map (·.1)).Nodup → ((stored kvs k v).map (·.1)).Nodup := by
  intro kvs h
  unfold stored
  split
  · have : (kvs.map fun kv => if kv.1 = k then (kv.1, v) else kv).map (·.1) = kvs.map (·.1) := by
      rw [List.map_map]; congr 1; funext x; simp only [Function.comp]; split <;> rfl
    rw [this]; exact h
  · rename_i q
    rw [List.map_append, List.nodup_append]
    refine ⟨h, by simp, fun x hx y hy => ?_⟩
    simp only [List.map_cons, List.map_nil, List.mem_singleton] at hy
    subst hy
    rintro rfl
    obtain ⟨kv, h1, h2⟩ := List.mem_map.mp hx
    exact q (List.any_eq_true.mpr ⟨kv, h1, decide_eq_true h2⟩)
structure DKind (C : Cx) {K : Type} [DecidableEq K] (knd : KeyKind C.prog C.w K) (k : DK) (mk : K → V) (PR : Fmap → Heap → List (V × V) → List (K × Value) → Prop) : Prop where
  key : ∀ {f h v u}, keyOk k v = true → Rel f h v u → ∃ i, v = mk i ∧ knd.is i u = true
  put : ∀ {f h l kvs i x v}, Rel f h x v → PR f h l kvs → (kvs.map (·.1)).Nodup → PR f h (putD (mk i) x l) (stored kvs i v)
  nil : ∀ {f h}, PR f h [] []
  mono : ∀ {f f' h h' l kvs}, Pre f f' → Fz h h' → PR f h l kvs → PR f' h' l kvs
  obj : ∀ {f h D l kvs}, h.DictOf knd D kvs → PR f h l kvs → ObjAt C.prog C.w f h D (.dict k l)
variable {K : Type} [DecidableEq K] {knd : KeyKind C.prog C.w K} {k : DK} {mk : K → V} {PR : Fmap → Heap → List (V × V) → List (K × Value) → Prop}
theorem carries (D : DKind C knd k mk PR) {h : Heap} {ps : List (V × V)} {vs : List (Value × Value)} (r : RelP f h ps vs) (q : ps.all (fun p => keyOk k p.1) = true) : ∃ kvs : List (K × Value), Carries knd vs kvs ∧ ∀ acc l, PR f h l acc → (acc.map (·.1)).Nodup → PR f h (ps.foldl (fun d p => putD p.1 p.2 d) l) (merged acc kvs) := by
  induction r with
  | nil => exact ⟨[], trivial, fun acc l h _ => h⟩
  | @cons k x u v l r rk rx rl ih =>
    rw [List.all_cons] at q
    obtain ⟨kvs, h1, h2⟩ := ih (b2 q fun _ q => q)
    obtain ⟨i, rfl, e⟩ := D.key (b2 q fun q _ => q) rk
    exact ⟨(i, v) :: kvs, ⟨e, rfl, h1⟩, fun acc l ha hn => h2 (stored acc i v) (putD (mk i) x l) (D.put rx ha hn) (nodup_stored hn)⟩
theorem dict_notFrozen {ep : Nat} : ¬ Frozen { cls := .type "dict", data := .dict #[] ep } := by
  rintro (⟨q, _⟩ | ⟨c, d, e⟩)
  · injection q with q; revert q; decide
  · injection e with e; cases e
theorem sim_pairs (D : DKind C knd k mk PR) {l : PL} (al : AllP (SimX C P co d) l) (I : In C d a f ρ σ s) (hh : a.A.handled = none) {ks : List (Option Expr)} {vs : List Expr} {p : Pos} (c1 : chkP C.T a.ns a.sl a.n l ks vs = true) (c2 : ks.length ≤ 15) (c3 : ks ≠ []) : W C a f s Rel (eval (.Dict ks vs p) a.env) (evX P co (.dct k l) ρ σ) := by
  intro Q E h
  have sh := dPairs_shape (p := p) (env := a.env) c1
  have keep : ∀ b o, s.heap.get? b = some o → (s.heap.push { cls := .type "dict", data := .dict #[] }).get? b = some o := fun b o e => Heap.get?_push_of_some _ e
  have p0 : Post C (lx a) f s f σ { s with heap := s.heap.push { cls := .type "dict", data := .dict #[] } } := postGrow I.S keep s.toks
  refine wpAny_Dict_pairs (knd := knd) sh.eq (fun q => c3 (List.length_eq_zero_iff.mp (sh.len.symm.trans (congrArg List.length q)))) (Nat.le_trans (Nat.le_of_eq sh.len) c2) ?_
  refine seqC I.S p0 (simP al a ks vs f ρ σ _ (I.next p0) hh c1) h fun ps σ1 pal f1 s1 e1 q1 r1 h => h.when fun hk h => ?_
  obtain ⟨h1, h2⟩ := q1.nxt.out (Heap.get?_push_size _ rfl) (fun q => by
    obtain ⟨m, o, _, _, e, _⟩ := I.S.fr.ex _ q
    rw [none_at] at e; cases e) fun q => by obtain ⟨ob, e, _⟩ := I.S.ok.notFrozen q; rw [none_at] at e; cases e
  obtain ⟨kvs, k1, k2⟩ := carries D r1 hk
  have p1 := p0.trans q1
  exact ⟨kvs, k1, ⟨_, #[], 0, h1, ⟨rfl, rfl, rfl⟩, rfl, (fun i he => by simp at he), .nil, by simp⟩, fun h' hd hs => h.ret (p1.adopt I.S (o := .dict k (ps.foldl (fun d p => putD p.1 p.2 d) [])) (h' := h') (none_at _) h1 h2 (dict_live I.S) (fun b o e q => (hs.2 b q).trans e) (fun z => D.obj hd (D.mono (Pre.app _ _) z (k2 [] [] D.nil (by simp)))) dict_notFrozen (s1.toks + pal.length)) (rel_new p1.ok.len)⟩
theorem dkI : DKind C (intKind C.prog C.w) .i .int PairsI where
  key := fun {f h v u} q r => keyI (M := fun v u => ∃ i, v = .int i ∧ (intKind C.prog C.w).is i u = true) q r fun i t => ⟨i, rfl, isInt_int⟩
  put := fun r h n => pairsI_put r h n
  nil := .nil
  mono := fun p z r => r.mono p z
  obj := fun h1 h2 => ⟨_, h1, h2⟩
theorem dkS : DKind C (strKind C.prog C.w) .s .str PairsS where
  key := fun {f h v u} q r => keyS (M := fun v u => ∃ i, v = .str i ∧ (strKind C.prog C.w).is i u = true) q r fun i t => ⟨i, rfl, strKind_is C.prog C.w i t⟩
  put := fun r h n => pairsS_put r h n
  nil := .nil
  mono := fun p z r => r.mono p z
  obj := fun h1 h2 => ⟨_, h1, h2⟩
theorem sim_dct {k : DK} {l : PL} (al : AllP (SimX C P co d) l) : SimX C P co d (.dct k l) := by
  intro a e f ρ σ s I hh hc
  apply eDict_of hc
  intro ks vs p hc
  refine b3 hc fun c1 c2 c3 => ?_
  cases l with
  | nil =>
    apply chkP_nil c1
    refine fun Q E h => wpAny_Dict_empty (h.ok _ _ ⟨f ++ [s.heap.objs.size], postPush I.S ?_ s.toks, rel_new I.S.ok.len⟩)
    cases k with
    | i => exact ⟨[], Heap.DictOf.new _, .nil⟩
    | s => exact ⟨[], Heap.DictOf.new _, .nil⟩
    | t => exact ⟨[], Heap.DictOfH.new _, .nil⟩
  | cons k0 v0 l0 =>
    have hne : ks ≠ [] := fun q => by subst q; cases c1
    cases k with
    | i => exact sim_pairs dkI al I (noCalm hh) c1 (of_decide_eq_true c2) hne
    | s => exact sim_pairs dkS al I (noCalm hh) c1 (of_decide_eq_true c2) hne
    | t => exact absurd (nil?_of c3) hne
end
end QZ
namespace QZ
open PySem PySem.W PySem.Calls PyProof.Rows
section
variable {C : Cx} {P : Prog} {co : Addr → List V → St → Res V} {d : Nat} {a : Act} {f : Fmap} {ρ : Rho} {σ : St} {s : Shared}
theorem log2_60 {n : Nat} (h : n < 2 ^ 60) : n.log2 < 1920 := by
  by_cases h0 : n = 0
  · subst h0; decide
  · exact Nat.lt_trans ((Nat.log2_lt h0).mpr h) (by decide)
theorem strOf_str {x y : Str} (h : strOf (.str x) = some y) : x = y ∧ x.length ≤ 1000 := by
  simp only [strOf] at h
  split at h
  · next q => exact ⟨Option.some.inj h, q⟩
  · cases h
theorem op_field {v : V} {val : Value} {y : Str} (I : In C d a f ρ σ s) (r : Rel f s.heap v val) (e : strOf v = some y) {Q E : Value → Shared → Prop} {γ β : Type} {Rl : Fmap → Heap → β → γ → Prop} {r' : Res β} {Q' : γ → Shared → Prop} (h : Cont C a f s Rl r' Q' E)
    (k : ∀ t s', y.length ≤ 1000 → In C d a f ρ σ s' → Cont C a f s' Rl r' Q' E → Q (.str y t) s') : wpAny (model C.prog C.w) a.A (formatField val Str.empty) Q E s := by
  have go : ∀ tk, Post C (lx a) f s f σ { s with toks := tk } := fun tk => postGrow I.S (fun _ _ e => e) tk
  have on := fun t tk (hy : y.length ≤ 1000) => k t { s with toks := tk } hy (I.next (go tk)) (h.before I.S (go tk))
  cases v with
  | int i =>
    rw [Rel] at r; obtain ⟨t, rfl⟩ := r
    simp only [strOf] at e
    split at e
    · next q => cases e; exact wpAny_formatField_int (log2_60 q.1) (on _ _ q.2)
    · cases e
  | str x =>
    rw [Rel] at r; obtain ⟨t, rfl⟩ := r
    obtain ⟨rfl, q⟩ := strOf_str e
    exact wpAny_formatField_str (on t s.toks q) (on _ _ q) (Nat.le_trans q (by decide +kernel))
  | _ => cases e
theorem text_of {x : X} {e : Expr} {M : X → Expr → Prop} (h : isText x e = true) (k : ∀ z i p, M (.lit (.str z)) (.Constant (.str z) i p)) : M x e := by
  apply xlit_of h
  intro v h
  apply eConstant_of h
  intro c i p h
  cases c with
  | str z => exact of_decide_eq_true h ▸ k z i p
  | _ => cases h
theorem joins_len {acc y : Str} {n : Nat} (h : acc.length + 1000 * (n + 1) ≤ 100000) (hy : y.length ≤ 1000) : (acc ++ y).length ≤ sizeLine ∧ (acc ++ y).length + 1000 * n ≤ 100000 := by
  rw [Str.length_append]
  exact ⟨Nat.le_trans (by omega : _ ≤ 100000) (by decide +kernel), by omega⟩
theorem sim_joins (hh : a.A.handled = none) {l : XL} (k : AllS (SimX C P co d) l) {Q E : Value → Shared → Prop} : ∀ (es : List Expr) (f : Fmap) (σ : St) (s : Shared) (acc : Str), In C d a f ρ σ s → chkF C.T a.ns a.sl a.n l es = true → acc.length + 1000 * es.length ≤ 100000 → Cont C a f s Rel (evF P co l acc ρ σ) Q E →
    Joins (model C.prog C.w) a.A E (evalEach es a.env) acc (fun out s₁ => out.length ≤ sizeLine ∧ Q (.str out s₁.toks) { s₁ with toks := s₁.toks + 1 }) s := by
  induction k with
  | nil =>
    intro es f σ s acc I hc hl h
    exact nil?_of hc ▸ ⟨Nat.le_trans (Nat.le_of_add_right_le hl) (by decide +kernel), h.hereT I.S rel_str⟩
  | @cons x l sx k ih =>
    intro es f σ s acc I hc
    apply cons?_of hc
    refine fun e es hc => b2 hc fun hc hf hl h => ?_
    have on : ∀ {f1 σ1 s1 y t}, y.length ≤ 1000 → In C d a f1 ρ σ1 s1 → Cont C a f1 s1 Rel (evF P co l (acc ++ y) ρ σ1) Q E → ∃ y' t', Value.str y t = .str y' t' ∧ (acc ++ y').length ≤ sizeLine ∧ Joins (model C.prog C.w) a.A E (evalEach es a.env) (acc ++ y') (fun out s₁ => out.length ≤ sizeLine ∧ Q (.str out s₁.toks) { s₁ with toks := s₁.toks + 1 }) s1 :=
      fun hy I1 h => ⟨_, _, rfl, (joins_len hl hy).1, ih es _ _ _ _ I1 hf (joins_len hl hy).2 h⟩
    revert h
    rcases Bool.or_eq_true_iff.mp hc with hc | hc
    · apply text_of (M := fun x e => Cont C a f s Rel (evF P co (.cons x l) acc ρ σ) Q E → Joins _ _ _ (evalEach (e :: es) a.env) _ _ _) hc
      refine fun z i p h => wpAny_Constant_str ?_
      refine Cont.of h fun y ey h => ?_
      obtain ⟨rfl, hy⟩ := strOf_str ey
      have p := postGrow I.S (ex := lx a) (fun _ _ e => e) (s.toks + 1)
      exact on hy (I.next p) (h.before I.S p)
    · apply eFormattedValue_of (M := fun e => _ → Joins _ _ _ (evalEach (e :: es) a.env) _ _ _) hc
      refine fun e' c fs p hc => b3 hc fun c1 c2 c3 h => eq_of_beq c1 ▸ none?_of c2 ▸ wpAny_FormattedValue_plain ?_
      exact seqB I (sx a e' f ρ σ s I (.inl hh) c3) h fun v σ1 val f1 s1 I1 q1 r1 h => h.of fun y ey h => op_field I1 r1 ey h fun t s' hy I' h => on hy I' h
theorem sim_fstr {l : XL} (k : AllS (SimX C P co d) l) : SimX C P co d (.fstr l) := by
  intro a e f ρ σ s I hh hc
  apply eJoinedStr_of hc
  refine fun vs p hc => b3 hc fun c1 c2 c3 Q E h => ?_
  have J := sim_joins (noCalm hh) k vs f σ s Str.empty I c1 (by have : Str.empty.length = 0 := rfl; have := of_decide_eq_true c3; omega) h
  cases vs with
  | nil => cases c2
  | cons v1 vs =>
    cases vs with
    | nil => cases c2
    | cons v2 vs => exact wpAny_JoinedStr J
end
end QZ
namespace QZ
open PySem PySem.W PySem.Calls PyProof.Rows
inductive ItAt (f : Fmap) (h : Heap) : SV → Nat → Value → List Addr → Prop
  | tup {l i I ax items} (h1 : h.IsTupleIter I ax i) (h2 : h.IsTuple ax items) (h3 : RelL f h l items.toList) : ItAt f h (.tup l) i (.ref I) [I]
  | lst {n i I D} (h1 : f[n]? = some D) (h2 : h.IsListIter I D i) : ItAt f h (.lst n) i (.ref I) [I]
  | rng {a b i I} (h1 : IsRangeIter h I (a + Int.ofNat i) (((b - a).toNat : Int) - Int.ofNat i) 1) : ItAt f h (.rng a b) i (.ref I) [I]
  | enl {n i e t D old} (h0 : e ≠ t) (h1 : f[n]? = some D) (h2 : IsEnum h e t (Int.ofNat i) old) (h3 : h.IsListIter t D i) : ItAt f h (.enl n) i (.ref e) [e, t]
structure Typed (h : Heap) (b : Addr) (o : Obj) (T : String) : Prop where
  at_ : h.get? b = some o
  cls : o.cls = .type T
  ne : T ≠ "tuple"
theorem Typed.nofz {h : Heap} {b : Addr} {o : Obj} {T : String} (x : Typed h b o T) {o' : Obj} (e : h.get? b = some o') : ¬ Frozen o' := by
  cases (e.symm.trans x.at_)
  rintro (⟨q, _⟩ | ⟨c, d, rfl⟩)
  · exact x.ne (Value.type.inj (x.cls.symm.trans q))
  · cases x.cls
theorem one_mem {b I : Addr} (h : b ∈ [I]) : b = I := List.mem_singleton.mp h
theorem tuple_frozen {h h' : Heap} {ax : Addr} {items : Array Value} (z : Fz h h') (x : h.IsTuple ax items) : h'.IsTuple ax items := x.elim fun o q => ⟨o, z ax o q.1 (.inl ⟨q.2.1, q.2.2.elim fun n q => ⟨_, _, q⟩⟩), q.2⟩
section
variable {f f' : Fmap} {h h' : Heap} {sv : SV} {i : Nat} {it : Value} {own : List Addr}
theorem ItAt.typed (x : ItAt f h sv i it own) : ∀ b ∈ own, ∃ o T, Typed h b o T := by
  cases x with
  | tup h1 => exact fun b hb => one_mem hb ▸ h1.elim fun o q => ⟨o, _, q.1, q.2.1, by decide⟩
  | lst _ h2 => exact fun b hb => one_mem hb ▸ h2.elim fun o q => ⟨o, _, q.1, q.2.1, by decide⟩
  | rng h1 => exact fun b hb => one_mem hb ▸ ⟨_, "range_iterator", h1, rfl, by decide⟩
  | enl _ _ h2 h3 => exact fun b hb => (List.mem_cons.mp hb).elim (fun e => e ▸ ⟨_, "enumerate", h2, rfl, by decide⟩) fun hb => one_mem hb ▸ h3.elim fun o q => ⟨o, _, q.1, q.2.1, by decide⟩
theorem ItAt.move (p : Pre f f') (z : Fz h h') (k : ∀ b ∈ own, ∀ o, h.get? b = some o → h'.get? b = some o) (x : ItAt f h sv i it own) : ItAt f' h' sv i it own := by
  cases x with
  | tup h1 h2 h3 => exact .tup (h1.at fun o e => k _ (.head _) o e) (tuple_frozen z h2) (h3.mono p z)
  | lst h1 h2 => exact .lst (p _ _ h1) (h2.at fun o e => k _ (.head _) o e)
  | rng h1 => exact .rng (k _ (.head _) _ h1)
  | enl h0 h1 h2 h3 => exact .enl h0 (p _ _ h1) (k _ (.head _) _ h2) (h3.at fun o q => k _ (.tail _ (.head _)) o q)
theorem ItAt.there (x : ItAt f h sv i it own) : ∀ b ∈ own, ∃ o, h.get? b = some o := fun b hb => (x.typed b hb).elim fun o q => ⟨o, q.elim fun _ q => q.at_⟩
theorem ItAt.nofz (x : ItAt f h sv i it own) : ∀ b ∈ own, ∀ o, h.get? b = some o → ¬ Frozen o := fun b hb o e => (x.typed b hb).elim fun _ q => q.elim fun _ q => q.nofz e
theorem ItAt.next {ex : List Addr} (n : Nxt ex f h f' h') (z : Fz h h') (hx : ∀ b ∈ own, b ∉ ex) (hf : ∀ b ∈ own, b ∉ f) (x : ItAt f h sv i it own) : ItAt f' h' sv i it own ∧ ∀ b ∈ own, b ∉ f' :=
  ⟨x.move n.pre z fun b hb o e => (n.out e (hx b hb) (hf b hb)).1, fun b hb => (x.there b hb).elim fun o e => (n.out e (hx b hb) (hf b hb)).2⟩
end
inductive Turn (own : List Addr) (s : Shared) : Shared → Prop
  | mk (h' : Heap) (tk : Nat) (k : ∀ b o, b ∉ own → s.heap.get? b = some o → h'.get? b = some o) : Turn own s { s with heap := h', toks := tk }
theorem Turn.keep {own : List Addr} {s s' : Shared} (t : Turn own s s') : ∀ b o, b ∉ own → s.heap.get? b = some o → s'.heap.get? b = some o := by
  cases t with
  | mk h' tk k => exact k
theorem Turn.fz {own : List Addr} {s s' : Shared} (t : Turn own s s') (hf : ∀ b ∈ own, ∀ o, s.heap.get? b = some o → ¬ Frozen o) : Fz s.heap s'.heap := fun b o e fz => t.keep b o (fun hb => hf b hb o e fz) e
theorem Turn.trans {own : List Addr} {s s' s'' : Shared} (x : Turn own s s') (y : Turn own s' s'') : Turn own s s'' := by
  cases x with
  | mk h' tk k => cases y with
    | mk h'' tk' k' => exact .mk h'' tk' fun b o hb e => k' b o hb (k b o hb e)
theorem Turn.one {I : Addr} {s : Shared} {h' : Heap} (k : Heap.SameBut I s.heap h') (tk : Nat) : Turn [I] s { s with heap := h', toks := tk } := .mk h' tk fun b o hb e => (k.2 b fun q => hb (q ▸ .head _)).trans e
theorem Turn.ext {I : Addr} {s : Shared} {h' : Heap} {own : List Addr} (hI : I ∈ own) (k : Heap.ExtBut I s.heap h') : Turn own s { s with heap := h' } := .mk h' s.toks fun b o hb e => k b o (fun q => hb (q ▸ hI)) e
theorem Turn.gens {own : List Addr} {s s' : Shared} (t : Turn own s s') : s'.gens = s.gens := by cases t; rfl
theorem Turn.os {own : List Addr} {s s' : Shared} (t : Turn own s s') : s'.os = s.os := by cases t; rfl
theorem Post.turn {C : Cx} {ex : List Addr} {f f1 : Fmap} {σ σ1 : St} {s s1 s2 : Shared} (kb : ∀ b o, C.base.get? b = some o → s.heap.get? b = some o) (p : Post C ex f s f1 σ1 s1) {own : List Addr} (hD : ∀ b ∈ own, s.heap.get? b = none) (hf : ∀ b ∈ own, b ∉ f1) (ho : ∀ b ∈ own, ∀ o, s1.heap.get? b = some o → ¬ Frozen o) (t : Turn own s1 s2) : Post C ex f s f1 σ1 s2 := by
  have z := t.fz ho
  have hs := t.keep
  have hne : ∀ b o, s.heap.get? b = some o → b ∉ own := fun b o e q => by rw [hD b q] at e; cases e
  refine ⟨⟨p.nxt.app, fun b o eb hx => hs b o (hne b o eb) (p.nxt.ext b o eb hx), fun L hL m n => ?_, fun b o eb => ?_⟩, ?_, t.gens.trans p.gens, t.os.trans p.os⟩
  · obtain ⟨o', es, ep, e', r⟩ := id n
    exact ns_of (p.nxt.ns L hL m n) fun o q => hs L o (hne L o' e') q
  · obtain ⟨o', e'⟩ := p.nxt.live b o eb
    exact ⟨o', hs b o' (hne b o eb) e'⟩
  · refine ⟨p.ok.len, p.ok.nodup, fun j b o' e1 e2 => ?_, p.ok.fresh, fun b o' k => hs b o' (hne b o' (kb b o' k)) (p.ok.stay b o' k)⟩
    exact (p.ok.at_ j b o' e1 e2).mono _ _ (Pre.refl _) z fun ob q => hs b ob (fun q => hf b q (List.mem_of_getElem? e1)) q
section
variable {C : Cx} {P : Prog} {co : Addr → List V → St → Res V} {d : Nat} {a : Act} {f : Fmap} {ρ : Rho} {σ : St} {s : Shared} {A : Around} {E : Value → Shared → Prop}
noncomputable def goes : List String := ["enumerate", "zip", "dict_itemiterator", "dict_reverseitemiterator", "odict_iterator", "itertools.zip_longest", "itertools.pairwise"]
theorem letGo_go {I : Addr} {val : Value} {o : Obj} {T : String} {Q : Unit → Shared → Prop} {p : Pos} (ho : s.heap.get? I = some o) (hc : o.cls = .type T) (hT : goes.contains T = false) (hQ : Q () s) : wpAny (model C.prog C.w) A (letOwnedTupleGo (.Tuple [] 0 p) (.ref I) val) Q E s := by
  cases val <;> first | exact wpAny_pure hQ | skip
  unfold letOwnedTupleGo
  refine wpAny_bind (wpAny_load ho ?_)
  rw [hc]
  cases o.data <;> first | exact wpAny_pure hQ | skip
  dsimp only
  unfold goes at hT
  rw [hT, Bool.false_and, if_neg Bool.false_ne_true]
  exact wpAny_pure hQ
theorem letGo_plain {tg : Expr} {I : Addr} {val : Value} {o : Obj} {T : String} {Q : Unit → Shared → Prop} (ho : s.heap.get? I = some o) (hc : o.cls = .type T) (hT : goes.contains T = false) (hQ : Q () s) :
    wpAny (model C.prog C.w) A (letOwnedTupleGo tg (.ref I) val) Q E s := by
  cases tg <;> first | exact wpAny_pure hQ | exact letGo_go (p := by assumption) ho hc hT hQ
theorem at_lst {n i : Nat} {o : Option V} (e : (SV.lst n).at σ i = some o) : ∃ l, σ[n]? = some (.list l) ∧ l[i]? = o := by
  simp only [SV.at] at e
  split at e
  · next l hl => exact ⟨l, hl, Option.some.inj e⟩
  · cases e
theorem at_enl {n i : Nat} {o : Option V} (e : (SV.enl n).at σ i = some o) : ∃ l, σ[n]? = some (.list l) ∧ (l[i]?).map (fun v => .tup [.int i, v]) = o := by
  simp only [SV.at] at e
  split at e
  · next l hl => exact ⟨l, hl, Option.some.inj e⟩
  · cases e
theorem relL_end {h : Heap} {l : List V} {its : Array Value} {i : Nat} (r : RelL f h l its.toList) (e : l[i]? = none) : its[i]? = none :=
  Array.getElem?_toList.symm.trans (List.getElem?_eq_none (Nat.le_trans (Nat.le_of_eq r.len) (List.getElem?_eq_none_iff.mp e)))
theorem relL_at {h : Heap} {l : List V} {its : Array Value} {i : Nat} {v : V} (r : RelL f h l its.toList) (e : l[i]? = some v) : ∃ val, its[i]? = some val ∧ Rel f h v val := (r.get e).imp fun val q => ⟨Array.getElem?_toList.symm.trans q.1, q.2⟩
theorem next_end (hh : A.handled = none) (k : Ok C.prog C.w C.base f σ s.heap) {sv : SV} {i : Nat} {it : Value} {own : List Addr} (x : ItAt f s.heap sv i it own) (e : sv.at σ i = some none) {Q : Option Value → Shared → Prop} (hQ : ∀ s', Turn own s s' → Q none s') :
    wpAny (model C.prog C.w) A (pyNext it) Q E s := by
  cases x with
  | tup h1 h2 h3 => exact wpAny_pyNext_tuple_end hh h1 h2 (relL_end h3 (Option.some.inj e)) fun h' he => hQ _ (.ext (.head _) he)
  | lst h1 h2 =>
    obtain ⟨l, hl, e⟩ := at_lst e
    obtain ⟨its, c, hg, rl⟩ := k.at_ _ _ _ h1 hl
    exact wpAny_pyNext_list_end hh h2 (isList_of hg) (relL_end rl e) fun h' he => hQ _ (.ext (.head _) he)
  | rng h1 =>
    replace e := Option.some.inj e
    split at e
    · cases e
    · exact wpAny_pyNext_range_end hh h1 (by show _ - (i : Int) ≤ 0; omega) fun h' he => hQ _ (.ext (.head _) he)
  | enl h0 h1 h2 h3 =>
    obtain ⟨l, hl, e⟩ := at_enl e
    obtain ⟨its, c, hg, rl⟩ := k.at_ _ _ _ h1 hl
    exact wpAny_pyNext_enum_end hh h2 h3 (isList_of hg) (relL_end rl (Option.map_eq_none_iff.mp e)) fun h' he => hQ _ (.ext (by simp) he)
noncomputable def isTup (e : Expr) : Bool := eTuple e fun _ _ _ => true
inductive TupTg (tg : Expr) : SV → Prop
  | tup {l} : TupTg tg (.tup l)
  | lst {n} : TupTg tg (.lst n)
  | rng {a b} : TupTg tg (.rng a b)
  | enl {n} (h : isTup tg = true) : TupTg tg (.enl n)
theorem next_item (k : Ok C.prog C.w C.base f σ s.heap) {sv : SV} {i : Nat} {it : Value} {own : List Addr} (x : ItAt f s.heap sv i it own) {v : V} (e : sv.at σ i = some (some v)) {tg : Expr} (htg : TupTg tg sv) {Q : Option Value → Shared → Prop} {E2 : Value → Shared → Prop}
    (hQ : ∀ val s1, wpAny (model C.prog C.w) A (letOwnedTupleGo tg it val) (fun _ s2 => Turn own s s2 ∧ Rel f s2.heap v val ∧ ItAt f s2.heap sv (i + 1) it own) E2 s1 → Q (some val) s1) :
    wpAny (model C.prog C.w) A (pyNext it) Q E s := by
  have nz := x.nofz
  cases x with
  | tup h1 h2 h3 =>
    obtain ⟨val, e1, r1⟩ := relL_at h3 (Option.some.inj e)
    refine wpAny_pyNext_tuple_item h1 h2 e1 fun h' hit hs => hQ _ _ ?_
    have t := Turn.one hs s.toks
    have z := t.fz nz
    exact hit.elim fun o q => letGo_plain q.1 q.2.1 rfl ⟨t, r1.mono (Pre.refl _) z, .tup hit (tuple_frozen z h2) (h3.mono (Pre.refl _) z)⟩
  | lst h1 h2 =>
    obtain ⟨l, hl, e⟩ := at_lst e
    obtain ⟨its, c, hg, rl⟩ := k.at_ _ _ _ h1 hl
    obtain ⟨val, e1, r1⟩ := relL_at rl e
    refine wpAny_pyNext_list_item h2 (isList_of hg) e1 fun h' hit hs => hQ _ _ ?_
    have t := Turn.one hs s.toks
    exact hit.elim fun o q => letGo_plain q.1 q.2.1 rfl ⟨t, r1.mono (Pre.refl _) (t.fz nz), .lst h1 hit⟩
  | @rng a b i I h1 =>
    replace e := Option.some.inj e
    split at e
    · cases e
      refine wpAny_pyNext_range_item h1 (by show 0 < _ - (i : Int); omega) fun h' hit hs => hQ _ _ (letGo_plain (T := "range_iterator") hit rfl rfl ⟨.one hs _, rel_int, .rng ?_⟩)
      have e1 : a + Int.ofNat (i + 1) = a + Int.ofNat i + 1 := (Int.add_assoc a (Int.ofNat i) 1).symm
      have e2 : ((b - a).toNat : Int) - Int.ofNat (i + 1) = ((b - a).toNat : Int) - Int.ofNat i - 1 := (Int.sub_sub ((b - a).toNat : Int) (Int.ofNat i) 1).symm
      rw [e1, e2]
      exact hit
    · cases e
  | @enl n i e' t D old h0 h1 h2 h3 =>
    cases htg with
    | enl htg =>
      obtain ⟨l, hl, e⟩ := at_enl e
      obtain ⟨w, hw, rfl⟩ := Option.map_eq_some_iff.mp e
      obtain ⟨its, c, hg, rl⟩ := k.at_ _ _ _ h1 hl
      obtain ⟨val, e1, r1⟩ := relL_at rl hw
      refine wpAny_pyNext_enum_item h2 h3 (isList_of hg) e1 h0 fun h' ho hit hT hsz hk => hQ _ _ ?_
      apply eTuple_of htg
      intro es kk p _
      refine wpAny_letOwnedTupleGo_enum ho fun h'' he hs => ?_
      have ne : ∀ {b}, b ∉ [e', t] → b ≠ e' ∧ b ≠ t := fun hb => ⟨fun q => hb (q ▸ .head _), fun q => hb (q ▸ .tail _ (.head _))⟩
      have tn : Turn [e', t] s { s with heap := h'', toks := s.toks + 1 } := .mk h'' _ fun b o hb eb => (hs.2 b (ne hb).1).trans (hk b o (ne hb).1 (ne hb).2 eb)
      refine ⟨tn, ?_, .enl h0 h1 he (hit.at fun o q => (hs.2 t h0.symm).trans q)⟩
      rw [Rel]
      exact ⟨_, _, rfl, ⟨_, (hs.2 _ (Nat.ne_of_gt (Heap.lt_size h2))).trans hT, rfl, _, rfl⟩, RelL.cons rel_int (RelL.cons (r1.mono (Pre.refl _) (tn.fz nz)) RelL.nil)⟩
end
end QZ
namespace QZ
open PySem PySem.W PySem.Calls PyProof.Rows
inductive AllSrc (Q : X → Prop) : Src → Prop where
  | expr {x} (h : Q x) : AllSrc Q (.expr x)
  | range {l} (h : AllS Q l) : AllSrc Q (.range l)
  | enum {x} (h : Q x) : AllSrc Q (.enum x)
structure ItNew (h₀ : Heap) (f : Fmap) (h : Heap) (sv : SV) (it : Value) (own : List Addr) : Prop where
  it : ItAt f h sv 0 it own
  out : ∀ b ∈ own, b ∉ f
  new : ∀ b ∈ own, h₀.get? b = none
noncomputable abbrev ItR (h₀ : Heap) : Fmap → Heap → SV → Value → Prop := fun f h sv it => ∃ own, ItNew h₀ f h sv it own
section
variable {C : Cx} {P : Prog} {co : Addr → List V → St → Res V} {d : Nat} {a : Act} {f f' : Fmap} {ρ : Rho} {σ σ' : St} {s s' : Shared} {A : Around} {K E : Value → Shared → Prop}
theorem rangeSize_one (b : Int) : Builtin.Range.rangeSize 0 b 1 = ((b - 0).toNat : Int) := by
  unfold Builtin.Range.rangeSize
  rw [if_pos (by decide), Int.ediv_one]
  split <;> omega
theorem post_keep (S : Sp C a f ρ σ s) (p : Post C (lx a) f s f' σ' s') {h' : Heap} (k : ∀ b o, s'.heap.get? b = some o → h'.get? b = some o) (tk : Nat) : Post C (lx a) f s f' σ' { s' with heap := h', toks := tk } :=
  p.trans ⟨Nxt.of_keeps k, p.ok.keeps k, p.gens, p.os⟩
theorem none_of {h h' : Heap} {b : Addr} (l : ∀ o, h.get? b = some o → ∃ o', h'.get? b = some o') (hb : h'.get? b = none) : h.get? b = none := by
  cases q : h.get? b with
  | none => rfl
  | some o => exact (l o q).elim fun o' e => by rw [hb] at e; cases e
theorem fresh_of (p : Post C (lx a) f s f' σ' s') {b : Addr} (hb : s'.heap.get? b = none) : s.heap.get? b = none := none_of (fun o q => p.nxt.live b o q) hb
theorem Ok.notin {prog : Program} {w : World} {base h : Heap} (k : Ok prog w base f σ h) {b : Addr} (hb : h.get? b = none) : b ∉ f := fun q => by
  obtain ⟨ob, e, _⟩ := k.notFrozen q; rw [hb] at e; cases e
theorem new_notin (p : Post C (lx a) f s f' σ' s') {b : Addr} (hb : s'.heap.get? b = none) : b ∉ f' := p.ok.notin hb
theorem none_ge {h : Heap} {b : Addr} (q : h.objs.size ≤ b) : h.get? b = none := by
  cases e : h.get? b with
  | none => rfl
  | some o => exact absurd (Heap.lt_size e) (Nat.not_lt.mpr q)
theorem new_one {h₀ h : Heap} (fr : ∀ b, s.heap.get? b = none → h₀.get? b = none) (S : Sp C a f ρ σ s) {sv : SV} (it : ItAt f h sv 0 (.ref s.heap.objs.size) [s.heap.objs.size]) : ItR h₀ f h sv (.ref s.heap.objs.size) :=
  ⟨_, it, fun b hb => one_mem hb ▸ S.ok.notin (none_at _), fun b hb => one_mem hb ▸ fr _ (none_at _)⟩
theorem isList_at' {n : Nat} (h : isList σ n = true) : ∃ l, σ[n]? = some (.list l) := by
  unfold isList at h
  split at h
  · next l hl => exact ⟨l, hl⟩
  · cases h
theorem enum_at {n : Nat} {v : V} (h : enumVal σ v = some n) : ∃ l, v = .loc n ∧ σ[n]? = some (.list l) := by
  cases v with
  | loc m =>
    change cond (isList σ m) (some m) none = some n at h
    cases hl : isList σ m with
    | false => rw [hl] at h; cases h
    | true => rw [hl] at h; cases h; exact (isList_at' hl).imp fun l hl => ⟨rfl, hl⟩
  | _ => cases h
theorem oneOf_eq {vs : List V} {v : V} (h : oneOf vs = some v) : vs = [v] := oneOf_of (M := fun vs => vs = [v]) h rfl
theorem rangeOf_of {vs : List V} {b : Int} (h : rangeOf vs = some b) : vs = [.int b] ∧ b.natAbs < 2 ^ 30 := by
  unfold rangeOf at h
  split at h
  · next c =>
    cases q : decide (c.natAbs < 2 ^ 30) with
    | false => rw [q] at h; cases h
    | true => rw [q] at h; cases h; exact ⟨rfl, of_decide_eq_true q⟩
  · cases h
theorem Cont.eq {α β : Type} {Rl : Fmap → Heap → β → α → Prop} {r r' : Res β} {Q : α → Shared → Prop} (e : r = r') (h : Cont C a f s Rl r Q E) : Cont C a f s Rl r' Q E := e ▸ h
theorem iter_of {h₀ : Heap} (fr : ∀ b, s.heap.get? b = none → h₀.get? b = none) (I : In C d a f ρ σ s) {v : V} {val : Value} {sv : SV} (e : srcVal σ v = some sv) (r : Rel f s.heap v val) (h : Cont C a f s (ItR h₀) (.ok sv σ) K E) : wpAny (model C.prog C.w) a.A (pyIter val) K E s := by
  have on : ∀ ob, sv = sv → ItAt f (s.heap.push ob) sv 0 (.ref s.heap.objs.size) [s.heap.objs.size] → K (.ref s.heap.objs.size) { s with heap := s.heap.push ob } := fun ob _ it => h.ret (postGrow I.S (fun b o e => Heap.get?_push_of_some _ e) s.toks) (new_one fr I.S it)
  have keep : ∀ ob, Fz s.heap (s.heap.push ob) := fun ob b o e _ => Heap.get?_push_of_some _ e
  cases v with
  | tup l =>
    cases e
    rw [Rel] at r
    obtain ⟨D, items, rfl, ht, rl⟩ := r
    exact wpAny_pyIter_tuple ht (on _ rfl (.tup ⟨_, Heap.get?_push_size _ rfl, rfl, rfl⟩ (tuple_frozen (keep _) ht) (rl.mono (Pre.refl _) (keep _))))
  | loc n =>
    change cond (isList σ n) (some (SV.lst n)) none = some sv at e
    cases hl : isList σ n with
    | false => rw [hl] at e; cases e
    | true =>
      rw [hl] at e; cases e
      obtain ⟨l, hl⟩ := isList_at' hl
      obtain ⟨D, its, c, rfl, hD, hg, rl⟩ := r.listE I.S.ok hl
      exact PySem.wpAny_pyIter_list (isList_of hg) (on _ rfl (.lst hD ⟨_, Heap.get?_push_size _ rfl, rfl, rfl⟩))
  | _ => cases e
theorem sim_src (O : Go C P co d) (hh : a.A.handled = none) {src : Src} (k : AllSrc (SimX C P co d) src) {e : Expr} (hc : chkSrc C.T a.ns a.sl a.n src e = true) (I : In C d a f ρ σ s) (h : Cont C a f s (ItR s.heap) (evS P co src ρ σ) K E) :
    wpAny (model C.prog C.w) a.A (eval e a.env) (fun x s1 => wpAny (model C.prog C.w) a.A (pyIter x) K E s1) E s := by
  cases k with
  | @expr x hx => exact seqB I (hx a e f ρ σ s I (.inl hh) hc) h fun v σ1 val f1 s1 I1 q1 r1 h => h.of fun sv e h => iter_of (fun b => fresh_of q1) I1 e r1 h
  | @range l hl =>
    apply eCall_of hc
    refine fun fn es kws p hc => b2 hc fun c0 hc => nil?_of c0 ▸ ?_
    apply eName_of hc
    refine fun x np hc => b3 hc fun c1 c2 c3 => ?_
    show wpAny _ _ (eval (.Name x np) a.env >>= fun fv => callWith p fv [] (backTo p (starEach es a.env)) []) _ _ _
    refine wpAny_bind (gloB O I c1 c2 O.G.rng (callWith_sim c3 (keeps_m fun _ => Looks.now) ?_))
    refine seqB I (simL hl a es p f ρ σ s I (.inl hh) c3) h fun vs σ1 vals f1 s1 I1 q1 r1 h => ⟨trivial, h.of fun b eb h1 => ?_⟩
    obtain ⟨rfl, hb⟩ := rangeOf_of eb
    obtain ⟨v, rfl, r⟩ := relL_one r1.1
    rw [Rel] at r; obtain ⟨t, rfl⟩ := r
    have p2 : Post C (lx a) f1 s1 f1 σ1 { s1 with heap := s1.heap.push { cls := .type "range", data := .fields #[.int 0 s1.toks, .int b t, .int 1 (s1.toks + 1)] }, toks := s1.toks + 1 + 1 } := postGrow I1.S (fun b o e => Heap.get?_push_of_some _ e) _
    have I2 := I1.next p2
    refine call_range_1 (wpAny_pyIter_range (Heap.get?_push_size _ rfl) (small_one (by decide) (by decide) (by omega) (by omega)) ?_)
    exact (h1.before I1.S p2).ret (postGrow I2.S (fun b o e => Heap.get?_push_of_some _ e) _) (new_one (fun b hb => fresh_of q1 (fresh_of p2 hb)) I2.S (.rng (by
      rw [rangeSize_one]
      exact (Heap.get?_push_size _ rfl).trans (by rw [show (0 : Int) + Int.ofNat 0 = 0 from rfl, show ((b - 0).toNat : Int) - Int.ofNat 0 = ((b - 0).toNat : Int) from Int.sub_zero _]))))
  | @enum y hx =>
    apply eCall_of hc
    refine fun fn es kws p hc => b2 hc fun c0 hc => nil?_of c0 ▸ ?_
    apply eName_of hc
    refine fun x np hc => b3 hc fun c1 c2 c3 => ?_
    apply one?_of c3
    refine fun e1 c3 => b2 c3 fun c3 c4 => ?_
    have cl : chkL C.T a.ns a.sl a.n (.cons y .nil) [e1] = true := (congrArg (· && (_ && true)) c3).trans (congrArg (· && true) c4)
    show wpAny _ _ (eval (.Name x np) a.env >>= fun fv => callWith p fv [] (backTo p (starEach [e1] a.env)) []) _ _ _
    refine wpAny_bind (gloB O I c1 c2 O.G.enm (callWith_sim cl (keeps_m fun _ => Looks.now) ?_))
    refine seqB I (simL (.cons hx .nil) a [e1] p f ρ σ s I (.inl hh) cl) (h.eq (r' := (evL P co (.cons y .nil) ρ σ).bind fun vs σ => ofO ((oneOf vs).bind (enumVal σ)) fun n => Res.ok (SV.enl n) σ) (bindA (r := evX P co y ρ σ)).symm) fun vs σ1 vals f1 s1 I1 q1 r1 h => ⟨trivial, h.of fun n en h1 => ?_⟩
    obtain ⟨v, hv, en⟩ := Option.bind_eq_some_iff.mp en
    obtain ⟨l, rfl, hl⟩ := enum_at en
    obtain rfl := oneOf_eq hv
    obtain ⟨val, rfl, r⟩ := relL_one r1.1
    obtain ⟨D, its, c, rfl, hD, hg, rl⟩ := r.listE I1.S.ok hl
    refine call_enumerate_1 hg fun h' he hit hsz hkeep => wpAny_pyIter_enum he ?_
    have fr : ∀ b ∈ [s1.heap.objs.size + 1, s1.heap.objs.size], s1.heap.get? b = none := fun b hb => (List.mem_cons.mp hb).elim (fun e => e ▸ none_ge (Nat.le_succ _)) fun hb => one_mem hb ▸ none_at _
    exact h1.ret (postGrow I1.S hkeep s1.toks) ⟨_, .enl (Nat.succ_ne_self _) hD he hit, fun b hb => I1.S.ok.notin (fr b hb), fun b hb => fresh_of q1 (fr b hb)⟩
end
end QZ
namespace QZ
open PySem PySem.W PySem.Calls PyProof.Rows
section
variable {C : Cx} {P : Prog} {co : Addr → List V → St → Res V} {d : Nat} {a : Act} {f : Fmap} {ρ ρ' : Rho} {σ : St} {s : Shared} {A : Around} {E : Value → Shared → Prop}
inductive Soft : Data → Prop
  | dict {es ep} : Soft (.dict es ep)
  | cell {v} : Soft (.cell v)
theorem Soft.nofz {o : Obj} (x : Soft o.data) : ¬ Frozen o := by
  rintro (⟨_, xs, n, fz⟩ | ⟨c, d, rfl⟩)
  · rw [fz] at x; cases x
  · cases x
theorem Soft.nf {o : Obj} (x : Soft o.data) : ∀ vs, o.data ≠ .fields vs := fun vs q => by rw [q] at x; cases x
theorem ns_soft {h : Heap} {L : Addr} {m : Str → Option Value} (n : h.Ns L m) : ∃ o, h.get? L = some o ∧ Soft o.data := n.elim fun o q => q.elim fun es q => q.elim fun ep q => ⟨o, q.1, q.2.1 ▸ .dict⟩
theorem cell_soft {h : Heap} {c : Addr} {v : Option Value} (n : h.IsCell c v) : ∃ o, h.get? c = some o ∧ Soft o.data := n.elim fun o q => ⟨o, q.1, q.2 ▸ .cell⟩
theorem soft_nofz {h : Heap} {b : Addr} (x : ∃ o, h.get? b = some o ∧ Soft o.data) {o : Obj} (e : h.get? b = some o) : ¬ Frozen o := x.elim fun o' q => Option.some.inj (q.1.symm.trans e) ▸ q.2.nofz
theorem ns_notFrozen {h : Heap} {L : Addr} {m : Str → Option Value} (n : h.Ns L m) {o : Obj} (e : h.get? L = some o) : ¬ Frozen o := soft_nofz (ns_soft n) e
theorem ns_ne_cell {h : Heap} {L c : Addr} {m : Str → Option Value} {v : Option Value} (n : h.Ns L m) (k : h.IsCell c v) : L ≠ c := by
  rintro rfl
  obtain ⟨o', es, ep, e', hd, _⟩ := n
  obtain ⟨o, e, hd'⟩ := k
  rw [e] at e'; cases e'; rw [hd] at hd'; cases hd'
theorem Ok.turn {prog : Program} {w : World} {base h h' : Heap} (k : Ok prog w base f σ h) {own : List Addr} (hf : ∀ b ∈ own, b ∉ f) (ho : ∀ b ∈ own, ∀ o, h.get? b = some o → ¬ Frozen o) (hb : ∀ b ∈ own, base.get? b = none) (hs : ∀ b o, b ∉ own → h.get? b = some o → h'.get? b = some o) : Ok prog w base f σ h' where
  len := k.len
  nodup := k.nodup
  at_ := fun j b o' e1 e2 => (k.at_ j b o' e1 e2).mono _ _ (Pre.refl _) (fun b o e fz => hs b o (fun hb => ho b hb o e fz) e) fun ob q => hs b ob (fun q => hf b q (List.mem_of_getElem? e1)) q
  fresh := k.fresh
  stay := fun b o e => hs b o (fun q => by rw [hb b q] at e; cases e) (k.stay b o e)
theorem funFrames_turn {base h h' : Heap} : ∀ {l : List Env}, h.FunFrames base l → (∀ b o, h.get? b = some o → (∀ vs, o.data ≠ .fields vs) → ∃ o', h'.get? b = some o' ∧ ∀ vs, o'.data ≠ .fields vs) → h'.FunFrames base l
  | [], _, _ => trivial
  | env :: l, ⟨hk, ⟨L, o, hf, hb, ho, hd⟩, hr⟩, k => by
    obtain ⟨o', e1, e2⟩ := k L o ho hd
    exact ⟨hk, ⟨L, o', hf, hb, e1, e2⟩, funFrames_turn hr k⟩
theorem own_turn (S : Sp C a f ρ σ s) {own : Addr} (hf : own ∉ f) (ho : ∃ o, s.heap.get? own = some o ∧ Soft o.data) (hb : C.base.get? own = none) {h' : Heap} (sb : Heap.SameBut own s.heap h') (tk : Nat) {m' : Str → Option Value} (hn : h'.Ns a.env.locals m') (hd : ∃ o, h'.get? own = some o ∧ Soft o.data)
    (hL : ∀ L m, s.heap.Ns L m → L = own → L = a.env.locals) (hlen : ρ'.length = ρ.length) (hsl : Fz s.heap h' → ∀ x i, a.sl.lookup x = some i → ∃ q, ρ'[i]? = some q ∧ SlotOk a.env m' f h' x q) : Sp C a f ρ' σ { s with heap := h', toks := tk } := by
  have keep : ∀ b o, b ∉ [own] → s.heap.get? b = some o → h'.get? b = some o := fun b o hb e => (sb.2 b fun q => hb (q ▸ .head _)).trans e
  have nz : ∀ b ∈ [own], ∀ o, s.heap.get? b = some o → ¬ Frozen o := fun b hb o e => soft_nofz ho (one_mem hb ▸ e)
  refine ⟨S.ok.turn (fun b hb => one_mem hb ▸ hf) nz (fun b q => one_mem q ▸ hb) keep, ⟨hlen.trans S.fr.len, ⟨m', hn, hsl fun b o e fz => keep b o (fun hb => nz b hb o e fz) e⟩, S.fr.out, funFrames_turn S.fr.ff fun b o e q => ?_, S.fr.fout, fun e he L q => (S.fr.fns e he L q).elim fun m hm => ?_⟩, S.gens, S.os⟩
  · by_cases z : b = own
    · exact z ▸ hd.imp fun o q => ⟨q.1, q.2.nf⟩
    · exact ⟨o, keep b o (fun q => z (one_mem q)) e, q⟩
  · by_cases z : L = own
    · exact ⟨m', hL L m hm z ▸ hn⟩
    · exact ⟨m, hm.sameBut sb z⟩
theorem Celled.other {x : Str} {q : Option V} {c own : Addr} {ov : Option Value} {h' : Heap} (o : Celled a.env f s.heap x q c ov) (z : Fz s.heap h') (sb : Heap.SameBut own s.heap h') (hc : c ≠ own) : Celled a.env f h' x q c ov := ⟨o.at_, o.out, isCell_of o.cell fun o e => (sb.2 c hc).trans e, o.rel.mono (Pre.refl _) z⟩
theorem SlotOk.other {x : Str} {q : Option V} {own : Addr} {m m' : Str → Option Value} {h' : Heap} (k : SlotOk a.env m f s.heap x q) (z : Fz s.heap h') (sb : Heap.SameBut own s.heap h') (hm : m' x = m x) (hc : ∀ c ov, a.env.cells.lookup x = some c → s.heap.IsCell c ov → c ≠ own) : SlotOk a.env m' f h' x q := by
  cases k with
  | loc k o => exact .loc k (hm ▸ o.mono (Pre.refl _) z)
  | cell k o => exact .cell k (o.other z sb (hc _ _ o.at_ o.cell))
  | free k o => exact .free k (o.other z sb (hc _ _ o.at_ o.cell))
noncomputable def wsOk (a : Act) (ws : List Addr) (x : Str) : Prop := a.ns.lookup x = some .local ∧ a.env.locals ∈ ws ∨ a.ns.lookup x = some .cell ∧ ∀ c, a.env.cells.lookup x = some c → c ∈ ws
theorem Act.Good.kindOf (g : a.Good d) {x : Str} {k : NameKind} (h : a.ns.lookup x = some k) : a.env.kindOf x = some k := (congrArg (·.lookup x) g.names).trans h
theorem SlotOk.celled (g : a.Good d) {m : Str → Option Value} {x : Str} {q : Option V} {h : Heap} {k : NameKind} (hk : a.ns.lookup x = some k) (hl : k = .cell ∨ k = .free) (o : SlotOk a.env m f h x q) : ∃ c ov, Celled a.env f h x q c ov := by
  cases o with
  | loc k' o => rw [g.kindOf hk] at k'; cases k'; rcases hl with hl | hl <;> cases hl
  | cell _ o => exact ⟨_, _, o⟩
  | free _ o => exact ⟨_, _, o⟩
theorem store1 (g : a.Good d) (ap : a.Apart C) (S : Sp C a f ρ σ s) {x : Str} {i : Nat} {v : V} {val : Value} {ws : List Addr} (hs : a.sl.lookup x = some i) (hw : wsOk a ws x) (r : Rel f s.heap v val) {Q : Unit → Shared → Prop} (hQ : ∀ s', Sp C a f (ρ.set i (some v)) σ s' → Turn ws s s' → Q () s') :
    wpAny (model C.prog C.w) A (storeName a.env x val) Q E s := by
  obtain ⟨m, hm, hsl⟩ := S.fr.ns
  obtain ⟨q, h1, h2⟩ := hsl x i hs
  have hset : (ρ.set i (some v))[i]? = some (some v) := List.getElem?_set_self (List.getElem?_eq_some_iff.mp h1).1
  have hne : ∀ {y j}, a.sl.lookup y = some j → y ≠ x → (ρ.set i (some v))[j]? = ρ[j]? := fun {y j} e q => List.getElem?_set_ne fun (z : i = j) => q (g.slinj y x i (z ▸ e) hs)
  rcases hw with ⟨hl, hw⟩ | ⟨hl, hw⟩
  · refine PySem.wpAny_storeName_local (g.kindOf hl) hm (fun h' hn sb => ?_) (by rw [g.kind]; rfl)
    refine hQ _ (own_turn S S.fr.out (ns_soft hm) ap.base sb _ hn (ns_soft hn) (fun _ _ _ q => q) List.length_set fun z y j e => ?_) (.mk h' _ fun b o hb e => (sb.2 b fun q => hb (q ▸ hw)).trans e)
    by_cases hy : y = x
    · subst hy
      cases hs.symm.trans e
      exact ⟨_, hset, .loc (g.kindOf hl) (by rw [if_pos rfl]; exact r.mono (Pre.refl _) z)⟩
    · obtain ⟨q, h1, h2⟩ := hsl y j e
      exact ⟨q, (hne e hy).trans h1, h2.other z sb (if_neg hy) fun c ov _ k => (ns_ne_cell hm k).symm⟩
  · obtain ⟨c, ov, o⟩ := h2.celled g hl (.inl rfl)
    refine PySem.wpAny_storeName_cell g.kind (g.kindOf hl) o.at_ o.cell fun h' hn sb => ?_
    have hLc := ns_ne_cell hm o.cell
    refine hQ _ (own_turn S o.out (cell_soft o.cell) (ap.cells x i c hs o.at_) sb s.toks (hm.sameBut sb hLc) (cell_soft hn) (fun L m hL q => absurd q (ns_ne_cell hL o.cell)) List.length_set fun z y j e => ?_) (.mk h' _ fun b ob hb e => (sb.2 b fun q => hb (q ▸ hw c o.at_)).trans e)
    by_cases hy : y = x
    · subst hy
      cases hs.symm.trans e
      exact ⟨_, hset, .cell (g.kindOf hl) ⟨o.at_, o.out, hn, r.mono (Pre.refl _) z⟩⟩
    · obtain ⟨q, h1, h2⟩ := hsl y j e
      exact ⟨q, (hne e hy).trans h1, h2.other z sb rfl fun c' ov e' _ q => hy (g.inj y x c (q ▸ e') o.at_)⟩
theorem Turn.refl (own : List Addr) (s : Shared) : Turn own s s := .mk s.heap s.toks fun _ _ _ e => e
noncomputable def wsIn (a : Act) (ws : List Addr) : Prop := ∀ b ∈ ws, b = a.env.locals ∨ ∃ x i, a.sl.lookup x = some i ∧ a.ns.lookup x = some .cell ∧ a.env.cells.lookup x = some b
theorem wsIn.fz (g : a.Good d) {ws : List Addr} (h : wsIn a ws) (S : Sp C a f ρ σ s) : ∀ b ∈ ws, (∀ o, s.heap.get? b = some o → ¬ Frozen o) ∧ b ∉ f := by
  obtain ⟨m, hm, hsl⟩ := S.fr.ns
  intro b hb
  rcases h b hb with rfl | ⟨x, i, h1, h2, h3⟩
  · exact ⟨fun o e => ns_notFrozen hm e, S.fr.out⟩
  · obtain ⟨q, q1, q2⟩ := hsl x i h1
    obtain ⟨c, ov, o⟩ := q2.celled g h2 (.inl rfl)
    cases o.at_.symm.trans h3
    exact ⟨fun ob e => soft_nofz (cell_soft o.cell) e, o.out⟩
theorem chkN_of {ns : Names} {sl : Slots} {i : Nat} {is : List Nat} {es : List Expr} {M : List Expr → Prop} (h : chkN ns sl (i :: is) es = true) (k : ∀ x p es, sl.lookup x = some i → storable ns x = true → chkN ns sl is es = true → M (.Name x p :: es)) : M es := by
  apply cons?_of h
  intro e es h
  apply eName_of h
  exact fun x p h => b3 h fun h1 h2 h3 => k x p es (eq_of_beq h1) h2 h3
theorem setAll_of {i : Nat} {is : List Nat} {vs : List V} {G : Prop} (h : setAll (i :: is) vs ρ = some ρ') (k : ∀ v ws, vs = v :: ws → setAll is ws (ρ.set i (some v)) = some ρ' → G) : G := by
  cases vs with
  | nil => cases h
  | cons v ws => exact k v ws rfl h
theorem setAll_nil {vs : List V} (h : setAll [] vs ρ = some ρ') : vs = [] ∧ ρ = ρ' := by
  cases vs with
  | nil => exact ⟨rfl, Option.some.inj h⟩
  | cons => cases h
theorem setAll_sim (g : a.Good d) (ap : a.Apart C) {ws : List Addr} (hz : wsIn a ws) {s₀ : Shared} {Q : Unit → Shared → Prop} {is : List Nat} : ∀ {es : List Expr} {vs : List V} {vals : List Value} {ρ : Rho} {s : Shared}, chkN a.ns a.sl is es = true → (∀ x ∈ namesOf es, wsOk a ws x) → setAll is vs ρ = some ρ' → RelL f s.heap vs vals → Sp C a f ρ σ s → Turn ws s₀ s → (∀ s', Sp C a f ρ' σ s' → Turn ws s₀ s' → Q () s') →
    wpAny (model C.prog C.w) A (assignInOrder ((assignEach es a.env).map (·.2)) vals) Q E s := by
  induction is with
  | nil =>
    intro es vs vals ρ s hc hw he r S t hQ
    obtain ⟨rfl, rfl⟩ := setAll_nil he
    exact nil?_of hc ▸ wpAny_pure (hQ s S t)
  | cons i is ih =>
    intro es vs vals ρ s hc
    apply chkN_of hc
    refine fun x p es h1 _ h3 hw he r S t hQ => setAll_of he fun v vs' e he => ?_
    subst e
    obtain ⟨val, vals', rfl, rv, rl⟩ := r
    show wpAny _ _ (holding vals' (assign (.Name x p) a.env val) >>= fun _ => assignInOrder ((assignEach es a.env).map (·.2)) vals') _ _ _
    exact wpAny_bind (wpAny_holding (wpAny_assign_Name (store1 g ap S h1 (hw x (.head _)) rv fun s1 S1 t1 => ih h3 (fun y hy => hw y (.tail _ hy)) he (rl.mono (Pre.refl _) (t1.fz fun b hb => (hz.fz g S b hb).1)) S1 (t.trans t1) hQ)))
structure Each (env : Env) (is : List Nat) (es : List Expr) : Prop where
  len : (assignEach es env).length = is.length
  star : (assignEach es env).findIdx? (·.1) = none
theorem assignEach_len {ns : Names} {sl : Slots} {env : Env} {is : List Nat} : ∀ {es : List Expr}, chkN ns sl is es = true → Each env is es := by
  induction is with
  | nil => exact fun h => nil?_of h ▸ ⟨rfl, rfl⟩
  | cons i is ih =>
    intro es h
    apply chkN_of h
    refine fun x p es _ _ h3 => ⟨congrArg (· + 1) (ih h3).len, ?_⟩
    show List.findIdx? _ (_ :: assignEach es env) = _
    rw [List.findIdx?_cons, (ih h3).star]
    rfl
theorem setAll_len {is : List Nat} : ∀ {vs : List V} {ρ ρ' : Rho}, setAll is vs ρ = some ρ' → is.length = vs.length := by
  induction is with
  | nil => exact fun h => (setAll_nil h).1 ▸ rfl
  | cons i is ih => exact fun h => setAll_of h fun v ws e h => e ▸ congrArg (· + 1) (ih h)
noncomputable def tgNames : Expr → List Str
  | .Name x _ => [x]
  | .Tuple es _ _ => namesOf es
  | _ => []
theorem setT_sim (g : a.Good d) (ap : a.Apart C) (hh : A.handled = none) {ws : List Addr} (hz : wsIn a ws) {t : T} {tg : Expr} (hc : chkTS a.ns a.sl t tg = true) (hw : ∀ x ∈ tgNames tg, wsOk a ws x) {v : V} {val : Value} (he : setT t v ρ = some ρ') (r : Rel f s.heap v val) (S : Sp C a f ρ σ s) {Q : Unit → Shared → Prop} (hQ : ∀ s', Sp C a f ρ' σ s' → Turn ws s s' → Q () s') :
    wpAny (model C.prog C.w) A (assign tg a.env val) Q E s := by
  revert hw
  cases t with
  | var i =>
    apply eName_of hc
    exact fun x p hc hw => b2 hc fun c1 _ => wpAny_assign_Name (store1 g ap S (eq_of_beq c1) (hw x (.head _)) r (Option.some.inj he ▸ hQ))
  | tup is =>
    apply eTuple_of hc
    refine fun es k p hc hw => b2 hc fun c1 _ => ?_
    cases v with
    | tup vs =>
      rw [Rel] at r
      obtain ⟨D, items, rfl, ht, rl⟩ := r
      have ea := assignEach_len (env := a.env) c1
      have hsz : items.size = is.length := by rw [← Array.length_toList, rl.len, setAll_len he]
      refine wpAny_assign_Tuple hh ht (by rw [ea.len, hsz]) ea.star fun h' hx => ?_
      have keep : ∀ b o, s.heap.get? b = some o → h'.get? b = some o := fun b o e => hx b o (Nat.ne_of_lt (Heap.lt_size e)) e
      exact setAll_sim g ap hz c1 hw he (rl.mono (Pre.refl _) fun b o e _ => keep b o e) (S.next (postGrow S keep s.toks)) (.mk h' s.toks fun b o _ e => keep b o e) hQ
    | _ => cases he
end
end QZ
namespace QZ
open PySem PySem.W PySem.Calls PyProof.Rows
noncomputable def closeAcc (cells : List (Str × Addr)) : List (Str × NameKind) → List (Str × Addr) → List (Str × Addr)
  | [], acc => acc
  | (n, k) :: r, acc => closeAcc cells r (if k == .free then (n, (cells.lookup n).getD 0) :: acc else acc)
theorem closeAcc_lookup {cells : List (Str × Addr)} {x : Str} : ∀ {names : List (Str × NameKind)} {acc : List (Str × Addr)}, (closeAcc cells names acc).lookup x = if (x, NameKind.free) ∈ names then some ((cells.lookup x).getD 0) else acc.lookup x
  | [], acc => by simp [closeAcc]
  | (n, k) :: r, acc => by
    rw [closeAcc, closeAcc_lookup]
    by_cases h1 : (x, NameKind.free) ∈ r
    · rw [if_pos h1, if_pos (.tail _ h1)]
    · rw [if_neg h1]
      by_cases hk : k = .free
      · subst hk
        simp only [beq_self_eq_true, if_true]
        by_cases hn : x = n
        · subst hn; rw [if_pos (.head _), List.lookup_cons, beq_self_eq_true]
        · rw [if_neg (by intro q; rcases List.mem_cons.mp q with q | q; exact hn (Prod.mk.inj q).1; exact h1 q), List.lookup_cons, beq_eq_false_iff_ne.mpr hn]
      · have : (k == NameKind.free) = false := by simpa using hk
        rw [this]
        simp only [Bool.false_eq_true, if_false]
        rw [if_neg (by intro q; rcases List.mem_cons.mp q with q | q; exact hk (Prod.mk.inj q).2.symm; exact h1 q)]
theorem closureFor_acc {scope : Scope} {env : Env} (h : ∀ x, (x, NameKind.free) ∈ scope.names → ∃ c, env.cells.lookup x = some c) : closureFor scope env = pure (closeAcc env.cells scope.names []) := by
  have go : ∀ (names : List (Str × NameKind)) (acc : List (Str × Addr)), (∀ x, (x, NameKind.free) ∈ names → ∃ c, env.cells.lookup x = some c) →
      (forIn names acc fun x cs => if x.2 == NameKind.free then do let c ← cellOf env x.1; pure (ForInStep.yield ((x.1, c) :: cs)) else pure (ForInStep.yield cs) : Sem _) = pure (closeAcc env.cells names acc) := by
    intro names
    induction names with
    | nil => intro acc _; rfl
    | cons p r ih =>
      intro acc hp
      obtain ⟨n, k⟩ := p
      rw [List.forIn_cons, closeAcc]
      by_cases hk : k = .free
      · subst hk
        obtain ⟨c, hc⟩ := hp n (.head _)
        simp only [beq_self_eq_true, if_true]
        have e : cellOf env n = pure c := by unfold cellOf; rw [hc]
        rw [e, hc]
        simp only [pure_bind, Option.getD_some]
        exact ih _ fun x hx => hp x (.tail _ hx)
      · have : (k == NameKind.free) = false := by simpa using hk
        simp only [this, Bool.false_eq_true, if_false, pure_bind]
        exact ih _ fun x hx => hp x (.tail _ hx)
  have := go scope.names [] h
  unfold closureFor
  simp only [bind_pure]
  exact this
theorem mem_of_lookup {α β : Type} [BEq α] [LawfulBEq α] {x : α} {y : β} : ∀ {l : List (α × β)}, l.lookup x = some y → (x, y) ∈ l
  | [], h => by simp at h
  | (a, b) :: l, h => by
    rw [List.lookup_cons] at h
    split at h
    · rename_i q; cases h; rw [beq_iff_eq] at q; subst q; exact .head _
    · exact .tail _ (mem_of_lookup h)
theorem lookup_of_mem {α β : Type} [BEq α] [LawfulBEq α] {x : α} {y : β} : ∀ {l : List (α × β)}, (l.map (·.1)).Nodup → (x, y) ∈ l → l.lookup x = some y
  | [], _, h => by simp at h
  | (a, b) :: l, hn, h => by
    rw [List.map_cons, List.nodup_cons] at hn
    rw [List.lookup_cons]
    rcases List.mem_cons.mp h with q | q
    · cases q; simp
    · have : x ≠ a := by rintro rfl; exact hn.1 (List.mem_map.mpr ⟨_, q, rfl⟩)
      rw [beq_eq_false_iff_ne.mpr this]
      exact lookup_of_mem hn.2 q
theorem lookup_mapv {α β γ : Type} [BEq α] [LawfulBEq α] (φ : α → β → γ) {x : α} : ∀ {l : List (α × β)}, (l.map fun p => (p.1, φ p.1 p.2)).lookup x = (l.lookup x).map (φ x)
  | [] => rfl
  | (n, k) :: r => by
    rw [List.map_cons, List.lookup_cons, List.lookup_cons]
    by_cases hx : x = n
    · subst hx; simp
    · rw [beq_eq_false_iff_ne.mpr hx]; exact lookup_mapv φ
theorem compNames_lookup {ns own : Names} {x : Str} : (compNames ns own).lookup x = (own.lookup x).map fun k => if k == .free && ns.lookup x == some .cell then .cell else k := by
  have e : compNames ns own = own.map fun p => (p.1, if p.2 == .free && ns.lookup p.1 == some .cell then NameKind.cell else p.2) := by
    unfold compNames
    congr 1
    funext ⟨n, k⟩
    simp only
    split <;> rfl
  rw [e]
  exact lookup_mapv (fun y k => if k == .free && ns.lookup y == some .cell then NameKind.cell else k)
theorem compSlots_lookup {sl : Slots} {n : Nat} {own : Names} {x : Str} {i : Nat} (h : (compSlots sl n own).lookup x = some i) : (∃ j, (ownNames own)[j]? = some x ∧ i = n + j) ∨ ((x, NameKind.free) ∈ own ∧ sl.lookup x = some i) := by
  have m := mem_of_lookup h
  unfold compSlots at m
  rcases List.mem_append.mp m with m | m
  · left
    rw [List.mk_mem_zipIdx_iff_le_and_getElem?_sub] at m
    exact ⟨i - n, m.2, by omega⟩
  · right
    rw [List.mem_filterMap] at m
    obtain ⟨⟨y, k⟩, h1, h2⟩ := m
    rw [List.mem_filter] at h1
    rw [Option.map_eq_some_iff] at h2
    obtain ⟨j, h3, h4⟩ := h2
    cases h4
    have : k = .free := by simpa using h1.2
    subst this
    exact ⟨h1.1, h3⟩
section
variable {C : Cx} {P : Prog} {co : Addr → List V → St → Res V} {d : Nat} {a : Act} {f : Fmap} {ρ : Rho} {σ : St} {s : Shared}
noncomputable def compAct (a : Act) (scope : Scope) (C0 : Addr) : Act :=
  { A := a.A, env := compEnvC scope (closeAcc a.env.cells scope.names []) C0 a.env, envs := a.envs, ns := compNames a.ns scope.names, sl := compSlots a.sl a.n scope.names, n := a.n + (ownNames scope.names).length }
structure CompOk (a : Act) (scope : Scope) : Prop where
  nocell : ∀ y ∈ scope.names, y.2 ≠ .cell
  free : ∀ x, (x, NameKind.free) ∈ scope.names → (∃ i, a.sl.lookup x = some i) ∧ (a.ns.lookup x = some .cell ∨ a.ns.lookup x = some .free)
  nodup : (scope.names.map (·.1)).Nodup
  kind : scope.kind = .function
theorem compOk_of {scope : Scope} (h : compOk a.ns a.sl scope.names = true) (hk : (scope.kind == .function) = true) : CompOk a scope := by
  refine b3 h fun h1 h2 h3 => ⟨fun y hy => ?_, fun x hx => ?_, of_decide_eq_true h3, eq_of_beq hk⟩
  · exact b2 (List.all_eq_true.mp h1 y hy) fun h _ => bne_iff_ne.mp h
  · have := List.all_eq_true.mp h2 _ hx
    exact b2 this fun h1 h2 => ⟨Option.isSome_iff_exists.mp h1, (Bool.or_eq_true_iff.mp h2).imp eq_of_beq eq_of_beq⟩
theorem free_cell (g : a.Good d) (S : Sp C a f ρ σ s) {x : Str} {i : Nat} (h1 : a.sl.lookup x = some i) (h2 : a.ns.lookup x = some .cell ∨ a.ns.lookup x = some .free) : ∃ q, ρ[i]? = some q ∧ ∃ c ov, Celled a.env f s.heap x q c ov := by
  obtain ⟨m, hm, hsl⟩ := S.fr.ns
  exact (hsl x i h1).imp fun q k => ⟨k.1, h2.elim (fun h => k.2.celled g h (.inl rfl)) fun h => k.2.celled g h (.inr rfl)⟩
theorem slot_lt (S : Sp C a f ρ σ s) {x : Str} {i : Nat} (h1 : a.sl.lookup x = some i) : i < a.n := by
  obtain ⟨m, hm, hsl⟩ := S.fr.ns
  obtain ⟨q, q1, q2⟩ := hsl x i h1
  rw [← S.fr.len]; exact (List.getElem?_eq_some_iff.mp q1).1
theorem relabel_names (g : a.Good d) {scope : Scope} : (relabel scope a.env).names = compNames a.ns scope.names := by
  unfold relabel compNames
  simp only
  congr 1
  funext ⟨n, k⟩
  unfold Env.kindOf
  rw [g.kind, g.names]
  simp
theorem cells_of (O : CompOk a scope) {x : Str} {c : Addr} (h : (closeAcc a.env.cells scope.names []).lookup x = some c) (hc : ∀ x, (x, NameKind.free) ∈ scope.names → ∃ c, a.env.cells.lookup x = some c) : (x, NameKind.free) ∈ scope.names ∧ a.env.cells.lookup x = some c := by
  rw [closeAcc_lookup] at h
  split at h
  · rename_i q
    obtain ⟨c', hc'⟩ := hc x q
    rw [hc'] at h; cases h; exact ⟨q, hc'⟩
  · simp at h
theorem compAct_good (g : a.Good d) (S : Sp C a f ρ σ s) {scope : Scope} (K : CompOk a scope) {C0 : Addr} : (compAct a scope C0).Good d := by
  have hc : ∀ x, (x, NameKind.free) ∈ scope.names → ∃ c, a.env.cells.lookup x = some c := fun x hx => by
    obtain ⟨⟨i, h1⟩, h2⟩ := K.free x hx
    obtain ⟨_, _, c, _, o⟩ := free_cell g S h1 h2
    exact ⟨c, o.at_⟩
  refine ⟨relabel_names g, K.kind, g.globals, g.builtins, fun x y c h1 h2 => ?_, g.frames, g.depth, g.units, fun x y i h1 h2 => ?_⟩
  · exact g.inj x y c (cells_of K h1 hc).2 (cells_of K h2 hc).2
  · rcases compSlots_lookup h1 with ⟨j, j1, rfl⟩ | ⟨m1, l1⟩ <;> rcases compSlots_lookup h2 with ⟨j', j2, e2⟩ | ⟨m2, l2⟩
    · have : j = j' := by omega
      subst this; rw [j1] at j2; exact Option.some.inj j2
    · have := slot_lt S l2; omega
    · have := slot_lt S l1; omega
    · exact g.slinj x y i l1 l2
theorem compAct_apart (ap : a.Apart C) (g : a.Good d) (S : Sp C a f ρ σ s) {scope : Scope} (K : CompOk a scope) {C0 : Addr} (h0 : C.base.get? C0 = none) : (compAct a scope C0).Apart C := by
  refine ⟨h0, fun x _ c _ h => ?_⟩
  have hh : ∀ x, (x, NameKind.free) ∈ scope.names → ∃ c, a.env.cells.lookup x = some c := fun x hx => ?_
  · obtain ⟨q1, q2⟩ := cells_of K h hh
    obtain ⟨⟨i, h1⟩, _⟩ := K.free x q1
    exact ap.cells x i c h1 q2
  obtain ⟨⟨i, h1⟩, h2⟩ := K.free x hx
  obtain ⟨_, _, c, _, o⟩ := free_cell g S h1 h2
  exact ⟨c, o.at_⟩
theorem compAct_sp (g : a.Good d) (S : Sp C a f ρ σ s) {scope : Scope} (K : CompOk a scope) {C0 : Addr} {m : Str → Option Value} (hn : s.heap.Ns C0 m) (hf : C0 ∉ f) : Sp C (compAct a scope C0) f (ρ ++ List.replicate (ownNames scope.names).length none) σ s := by
  refine ⟨S.ok, ⟨by rw [List.length_append, S.fr.len, List.length_replicate]; rfl, ⟨m, hn, fun x i h => ?_⟩, hf, S.fr.ff, S.fr.fout, S.fr.fns⟩, S.gens, S.os⟩
  rcases compSlots_lookup h with ⟨j, j1, rfl⟩ | ⟨m1, l1⟩
  · have hj : j < (ownNames scope.names).length := (List.getElem?_eq_some_iff.mp j1).1
    refine ⟨none, ?_, ?_⟩
    · rw [List.getElem?_append_right (by rw [S.fr.len]; exact Nat.le_add_right _ _), S.fr.len, Nat.add_sub_cancel_left, List.getElem?_replicate, if_pos hj]
    · have hx : x ∈ ownNames scope.names := List.mem_of_getElem? j1
      unfold ownNames at hx
      obtain ⟨⟨y, k⟩, h1, h2⟩ := List.mem_map.mp hx
      simp only at h2; subst h2
      rw [List.mem_filter, Bool.and_eq_true] at h1
      have hk : k = .local := by simpa using h1.2.1
      subst hk
      have : (compAct a scope C0).env.kindOf y = some .local := by
        show (relabel scope a.env).names.lookup y = _
        rw [relabel_names g, compNames_lookup, lookup_of_mem K.nodup h1.1]; rfl
      exact .loc this trivial
  · obtain ⟨_, h2⟩ := K.free x m1
    obtain ⟨q, c4, c, ov, o⟩ := free_cell g S l1 h2
    refine ⟨q, by rw [List.getElem?_append_left (by rw [S.fr.len]; exact slot_lt S l1)]; exact c4, ?_⟩
    have hcl : (compAct a scope C0).env.cells.lookup x = some c := by
      show (closeAcc a.env.cells scope.names []).lookup x = _
      rw [closeAcc_lookup, if_pos m1, o.at_]; rfl
    have e : (compAct a scope C0).env.kindOf x = (compNames a.ns scope.names).lookup x := by
      show (relabel scope a.env).names.lookup x = _
      rw [relabel_names g]
    rw [compNames_lookup, lookup_of_mem K.nodup m1] at e
    rcases h2 with h2 | h2
    · exact .cell (by rw [e, h2]; rfl) ⟨hcl, o.out, o.cell, o.rel⟩
    · exact .free (by rw [e, h2]; rfl) ⟨hcl, o.out, o.cell, o.rel⟩
end
end QZ
namespace QZ
open PySem PySem.W PySem.Calls PyProof.Rows
section
variable {C : Cx} {P : Prog} {co : Addr → List V → St → Res V} {d : Nat} {a : Act} {f : Fmap} {ρ : Rho} {σ : St} {s : Shared}
theorem W.ok {α β : Type} {Rl : Fmap → Heap → β → α → Prop} {t : Sem α} {r : Res β} {v : β} {σ' : St} (w : W C a f s Rl t r) (e : r = .ok v σ') {Q : α → Shared → Prop} {E : Value → Shared → Prop} (k : ∀ val f' s', Post C (lx a) f s f' σ' s' → Rl f' s'.heap v val → Q val s') : wpAny (model C.prog C.w) a.A t Q E s := by
  subst e
  exact w Q E ⟨nofun, fun val s' pv => pv.elim fun f' q => k val f' s' q.1 q.2, fun _ _ x => x.elim⟩
theorem base_none (S : Sp C a f ρ σ s) {b : Addr} (h : s.heap.get? b = none) : C.base.get? b = none := by
  cases q : C.base.get? b with
  | none => rfl
  | some o => have := S.ok.stay b o q; rw [h] at this; cases this
theorem Post.conv (S : Sp C a f ρ σ s) {f1 f2 : Fmap} {σ1 σ2 : St} {s1 s2 : Shared} {C0 : Addr} (p : Post C (lx a) f s f1 σ1 s1) (q : Post C (C0 :: frs a.envs) f1 s1 f2 σ2 s2) (hC : s.heap.get? C0 = none) : Post C (lx a) f s f2 σ2 s2 := by
  have S1 := S.next p
  have hne : ∀ b o, s.heap.get? b = some o → b ≠ C0 := fun b o e q => by subst q; rw [hC] at e; cases e
  refine ⟨⟨?_, fun b o e hb => ?_, fun L hL m n => ?_, fun b o e => ?_⟩, q.ok, q.gens, q.os⟩
  · obtain ⟨g1, rfl, h1⟩ := p.nxt.app
    obtain ⟨g2, rfl, h2⟩ := q.nxt.app
    refine ⟨g1 ++ g2, by rw [List.append_assoc], fun b hb => ?_⟩
    rcases List.mem_append.mp hb with z | z
    · exact h1 b z
    · exact fresh_of p (h2 b z)
  · rw [List.mem_append, not_or] at hb
    obtain ⟨e1, n1⟩ := p.nxt.out e hb.1 hb.2
    exact (q.nxt.out e1 (fun z => (List.mem_cons.mp z).elim (hne b o e) fun z => hb.1 (.tail _ z)) n1).1
  · obtain ⟨o, es, ep, e, r⟩ := id n
    have n1 := p.nxt.ns L hL m n
    by_cases z : L ∈ C0 :: frs a.envs
    · exact q.nxt.ns L z m n1
    · exact ns_of n1 fun o' e' => (q.nxt.out e' z (S1.fr.lxout L hL)).1
  · obtain ⟨o', e'⟩ := p.nxt.live b o e
    exact q.nxt.live b o' e'
structure CStat (s : Shared) (D C0 : Addr) (own : List Addr) : Prop where
  Dn : s.heap.get? D = none
  Cn : s.heap.get? C0 = none
  on : ∀ b ∈ own, s.heap.get? b = none
  DC : D ≠ C0
  Do : D ∉ own
  Co : C0 ∉ own
noncomputable def AccAt (f : Fmap) (h : Heap) (D : Addr) (acc : List V) : Prop := ∃ its c, h.get? D = some (listOf its c) ∧ RelL f h acc its.toList
theorem AccAt.move {f f' : Fmap} {h h' : Heap} {D : Addr} {acc : List V} (x : AccAt f h D acc) (p : Pre f f') (z : Fz h h') (k : ∀ o, h.get? D = some o → h'.get? D = some o) : AccAt f' h' D acc := x.elim fun its q => q.elim fun c q => ⟨its, c, k _ q.1, q.2.mono p z⟩
structure CInv (C : Cx) (a : Act) (f : Fmap) (s : Shared) (D C0 : Addr) (own : List Addr) (sv : SV) (it : Value) (f1 : Fmap) (σ1 : St) (i : Nat) (acc : List V) (s1 : Shared) : Prop where
  post : Post C (lx a) f s f1 σ1 s1
  acc : AccAt f1 s1.heap D acc
  Df : D ∉ f1
  ns : ∃ m, s1.heap.Ns C0 m
  Cf : C0 ∉ f1
  it : ItAt f1 s1.heap sv i it own
  of : ∀ b ∈ own, b ∉ f1
theorem list_notFrozen {its : Array Value} {c : Nat} : ¬ Frozen (listOf its c) := by
  rintro (⟨q, _⟩ | ⟨c, d, e⟩)
  · injection q with q; revert q; decide
  · injection e with e; cases e
variable {D C0 : Addr} {own : List Addr} {sv : SV} {it : Value} {f1 : Fmap} {σ1 : St} {i j : Nat} {acc acc' : List V} {s1 s2 : Shared}
theorem CInv.turn (S : Sp C a f ρ σ s) (I : CInv C a f s D C0 own sv it f1 σ1 i acc s1) {ws : List Addr} (t : Turn ws s1 s2) (hw : ∀ b ∈ ws, s.heap.get? b = none) (hf : ∀ b ∈ ws, b ∉ f1) (nz : ∀ b ∈ ws, ∀ o, s1.heap.get? b = some o → ¬ Frozen o) (h1 : Fz s1.heap s2.heap → AccAt f1 s2.heap D acc') (h2 : ∃ m, s2.heap.Ns C0 m) (h3 : Fz s1.heap s2.heap → ItAt f1 s2.heap sv j it own) : CInv C a f s D C0 own sv it f1 σ1 j acc' s2 :=
  have z := t.fz nz
  ⟨Post.turn (σ := σ) (fun b o e => S.ok.stay b o e) I.post hw hf nz t, h1 z, I.Df, h2, I.Cf, h3 z, I.of⟩
theorem CInv.ownT (S : Sp C a f ρ σ s) (T : CStat s D C0 own) (I : CInv C a f s D C0 own sv it f1 σ1 i acc s1) (t : Turn own s1 s2) (h : ItAt f1 s2.heap sv j it own) : CInv C a f s D C0 own sv it f1 σ1 j acc s2 :=
  I.turn S t T.on I.of I.it.nofz (fun z => I.acc.move (Pre.refl _) z fun o e => t.keep D o T.Do e) (I.ns.imp fun m hm => ns_of hm fun o e => t.keep C0 o T.Co e) fun _ => h
theorem CInv.locT (S : Sp C a f ρ σ s) (T : CStat s D C0 own) (I : CInv C a f s D C0 own sv it f1 σ1 i acc s1) (t : Turn [C0] s1 s2) (hn : ∃ m, s2.heap.Ns C0 m) : CInv C a f s D C0 own sv it f1 σ1 i acc s2 :=
  I.turn S t (fun b hb => one_mem hb ▸ T.Cn) (fun b hb => one_mem hb ▸ I.Cf) (fun b hb o e => I.ns.elim fun m hm => ns_notFrozen hm (one_mem hb ▸ e)) (fun z => I.acc.move (Pre.refl _) z fun o e => t.keep D o (fun q => T.DC (one_mem q)) e) hn fun z => I.it.move (Pre.refl _) z fun b hb o e => t.keep b o (fun q => T.Co (one_mem q ▸ hb)) e
theorem CInv.app (S : Sp C a f ρ σ s) (T : CStat s D C0 own) (I : CInv C a f s D C0 own sv it f1 σ1 i acc s1) {h' : Heap} (sb : Heap.SameBut D s1.heap h') {its : Array Value} {c : Nat} (e : h'.get? D = some (listOf its c)) (r : RelL f1 s1.heap acc' its.toList) : CInv C a f s D C0 own sv it f1 σ1 i acc' { s1 with heap := h' } :=
  I.turn S (Turn.one sb s1.toks) (fun b hb => one_mem hb ▸ T.Dn) (fun b hb => one_mem hb ▸ I.Df) (fun b hb o eo => I.acc.elim fun its q => q.elim fun c q => by rw [one_mem hb, q.1] at eo; cases eo; exact list_notFrozen) (fun z => ⟨its, c, e, r.mono (Pre.refl _) z⟩) (I.ns.imp fun m hm => ns_of hm fun o e => (sb.2 C0 T.DC.symm).trans e) fun z => I.it.move (Pre.refl _) z fun b hb o e => (sb.2 b fun q => T.Do (q ▸ hb)).trans e
theorem CInv.inner (S : Sp C a f ρ σ s) (T : CStat s D C0 own) (I : CInv C a f s D C0 own sv it f1 σ1 i acc s1) {f2 : Fmap} {σ2 : St} (q : Post C (C0 :: frs a.envs) f1 s1 f2 σ2 s2) : CInv C a f s D C0 own sv it f2 σ2 i acc s2 := by
  obtain ⟨m, hm⟩ := I.ns
  have S1 := S.next I.post
  have hex : ExOk (C0 :: frs a.envs) s1.heap := fun b hb => (List.mem_cons.mp hb).elim (fun e => e ▸ ⟨m, hm⟩) fun hb => S1.fr.ex b (.tail _ hb)
  have hfr : ∀ b ∈ frs a.envs, s.heap.get? b ≠ none := fun b hb e => by obtain ⟨o, eo⟩ := frs_there S.fr.ff hb; rw [e] at eo; cases eo
  have z : Fz s1.heap s2.heap := q.nxt.fz hex I.post.ok
  obtain ⟨its, c, e1, e2⟩ := I.acc
  have n := q.nxt.out e1 (fun z => (List.mem_cons.mp z).elim T.DC fun z => hfr _ z T.Dn) I.Df
  have i := I.it.next q.nxt z (fun b hb z => (List.mem_cons.mp z).elim (fun e => T.Co (e ▸ hb)) fun z => hfr _ z (T.on b hb)) I.of
  exact ⟨I.post.conv S q T.Cn, ⟨its, c, n.1, e2.mono q.nxt.pre z⟩, n.2, ⟨m, q.nxt.ns C0 (.head _) m hm⟩, hm.elim fun o h => h.elim fun _ h => h.elim fun _ h => q.nxt.notin h.1 I.Cf, i.1, i.2⟩
theorem iter_self {A : Around} {E : Value → Shared → Prop} (h : ItAt f1 s1.heap sv i it own) {Q : Value → Shared → Prop} (hq : Q it s1) : wpAny (model C.prog C.w) A (pyIter it) Q E s1 := by
  cases h with
  | tup h1 => exact wpAny_pyIter_tupleiter h1 hq
  | lst _ h2 => exact wpAny_pyIter_listiter h2 hq
  | rng h1 => exact wpAny_pyIter_rangeiter h1 hq
  | enl _ _ h2 => exact wpAny_pyIter_enum h2 hq
noncomputable abbrev tests (env : Env) (ifs : List Expr) (b : Bool) : Sem Bool := forIn ifs b fun c r => if r = true then do let ok ← isTrue c env (eval c env); pure (ForInStep.yield ok) else pure (ForInStep.yield r)
theorem tests_cons {env : Env} {c : Expr} {ifs : List Expr} : tests env (c :: ifs) true = isTrue c env (eval c env) >>= fun ok => tests env ifs ok := by
  unfold tests
  rw [List.forIn_cons]
  simp only [if_true, bind_assoc, pure_bind]
theorem tests_false {env : Env} {ifs : List Expr} : tests env ifs false = pure false := by
  induction ifs with
  | nil => rfl
  | cons c ifs ih =>
    unfold tests
    rw [List.forIn_cons]
    simp only [Bool.false_eq_true, if_false, pure_bind]
    exact ih
theorem sim_tests (hh : a.A.handled = none) {l : XL} (k : AllS (SimB C P co d) l) : ∀ {ifs : List Expr} {f : Fmap} {ρ : Rho} {σ : St} {s : Shared}, tstL l ifs = true → chkL C.T a.ns a.sl a.n l ifs = true → In C d a f ρ σ s → W C a f s Tr (tests a.env ifs true) (evT P co l ρ σ) := by
  induction k with
  | nil => exact fun _ hc I Q E h => nil?_of hc ▸ wpAny_pure (h.here I.S rfl)
  | cons hx k ih =>
    intro ifs f ρ σ s ht hc I
    revert ht
    apply cons?_of hc
    refine fun c ifs hc ht => b3 hc fun _ c1 c2 => b2 ht fun t1 t2 Q E h => tests_cons ▸ wpAny_bind ?_
    refine seqB I (hx a c f ρ σ s I (.inl hh) t1 c1) h fun b σ1 bal f1 s1 I1 q1 r1 h => ?_
    cases r1
    cases b with
    | false => exact tests_false ▸ wpAny_pure (h.here I1.S rfl)
    | true => exact ih t2 c2 I1 _ _ h
noncomputable abbrev cBody (P : Prog) (co : Addr → List V → St → Res V) (e : X) (t : T) (c : XL) (k : Nat) (ρ : Rho) : V → List V → St → R (List V) := cturn t k (fun ρ σ => evX P co e ρ σ) (fun ρ σ => evT P co c ρ σ) ρ
section
variable {β γ : Type} {G : Prop} {b' : β} {σ' : St}
theorem ofOR_next {o : Option γ} {g : γ → R β} (h : ofOR o g = .next b' σ') (k : ∀ v, o = some v → g v = .next b' σ' → G) : G := by
  cases o with
  | none => cases h
  | some v => exact k v rfl h
theorem thenN_next {r : Res γ} {g : γ → St → R β} (h : r.thenN g = .next b' σ') (k : ∀ v σ, r = .ok v σ → g v σ = .next b' σ' → G) : G := by
  cases r with
  | ok v σ => exact k v σ rfl h
  | _ => cases h
theorem thenL_next {r : R β} {g : β → St → R β} (h : r.thenL g = .next b' σ') (k : ∀ v σ, r = .next v σ → g v σ = .next b' σ' → G) : G := by
  cases r with
  | next v σ => exact k v σ rfl h
  | _ => cases h
theorem cond_next {b : Bool} {r : R β} (h : cond b r .stuck = .next b' σ') (k : b = true → r = .next b' σ' → G) : G := by
  cases b with
  | false => cases h
  | true => exact k rfl h
end
theorem loc_all {x : Str} {ns : Names} {tg : Expr} (h : allLoc ns tg = true) (hx : x ∈ tgNames tg) : ns.lookup x = some .local := by
  revert hx
  rcases Bool.or_eq_true_iff.mp h with h | h
  · apply eName_of h
    exact fun y p h hx => List.mem_singleton.mp hx ▸ eq_of_beq h
  · apply eTuple_of h
    exact fun es k p h hx => eq_of_beq (List.all_eq_true.mp h x hx)
structure CompChk (C : Cx) (a : Act) (scope : Scope) (e : X) (t : T) (cond : XL) (elt tg : Expr) (ifs : List Expr) : Prop where
  c1 : chkX C.T (compNames a.ns scope.names) (compSlots a.sl a.n scope.names) (a.n + (ownNames scope.names).length) e elt = true
  c2 : chkT (compNames a.ns scope.names) (compSlots a.sl a.n scope.names) t tg = true
  c3 : chkL C.T (compNames a.ns scope.names) (compSlots a.sl a.n scope.names) (a.n + (ownNames scope.names).length) cond ifs = true
  ts : tstL cond ifs = true
theorem comp_turn (I0 : In C d a f ρ σ s) (hh : a.A.handled = none) {scope : Scope} (K : CompOk a scope) (TT : CStat s D C0 own) {e : X} {t : T} {cond : XL} (he : SimX C P co d e) (hcd : AllS (SimB C P co d) cond)
    {elt tg iter : Expr} {ifs : List Expr} {pos : Pos} (ck : CompChk C a scope e t cond elt tg ifs) (htg : TupTg tg sv) {accF : List V} {σF : St} {n : Nat}
    (I : CInv C a f s D C0 own sv it f1 σ1 i acc s1) (hl : loopN sv (cBody P co e t cond (ownNames scope.names).length ρ) (n + 1) i acc σ1 = .next accF σF) {Q : Fin → Shared → Prop} {E : Value → Shared → Prop}
    (hd : ∀ f2 i2 s2, CInv C a f s D C0 own sv it f2 σF i2 accF s2 → ∀ s3, Turn own s2 s3 → Q (.done .next) s3)
    (ha : ∀ i acc f1 σ1 s1, CInv C a f s D C0 own sv it f1 σ1 i acc s1 → loopN sv (cBody P co e t cond (ownNames scope.names).length ρ) n i acc σ1 = .next accF σF → Q (.again (.compLoop (.ListComp elt [⟨tg, iter, ifs, 0⟩] scope pos) 0 it (.ref D) (compAct a scope C0).env)) s1) :
    wpAny (model C.prog C.w) a.A (compTurn (.ListComp elt [⟨tg, iter, ifs, 0⟩] scope pos) 0 it (.ref D) (compAct a scope C0).env) Q E s1 := by
  have S := I0.S
  have ga := compAct_good (C0 := C0) I0.g S K
  have apa := compAct_apart (C0 := C0) I0.ap I0.g S K (base_none S TT.Cn)
  rw [compTurn_list]
  refine wpAny_bind (wpAny_standAt (wpAny_bind ?_))
  refine ofOR_next hl fun o hv hl => ?_
  cases o with
  | none => cases hl; exact next_end hh I.post.ok I.it hv fun s2 t2 => wpAny_pure (hd f1 i s1 I s2 t2)
  | some v =>
    refine thenL_next hl fun acc2 σ4 hb hl => ofOR_next hb fun ρ' hs hb => thenN_next hb fun b σ2 ht hb => ?_
    refine next_item I.post.ok I.it hv htg fun val s2 h2 => wpAny_bind (wpAny_mono h2 (fun _ s3 h3 => ?_) fun _ _ x => x)
    have I3 := I.ownT S TT h3.1 h3.2.2
    obtain ⟨m3, hm3⟩ := I3.ns
    have S3 := compAct_sp I0.g (S.next I3.post) K hm3 I3.Cf
    refine b2 ck.c2 fun d1 d2 => ?_
    refine wpAny_bind (setT_sim ga apa hh (ws := [C0]) (fun b hb => .inl (one_mem hb)) d1 (fun x hx => .inl ⟨loc_all d2 hx, .head _⟩) hs h3.2.1 S3 fun s4 S4 t4 => ?_)
    have I4 := I3.locT S TT t4 (S4.fr.ns.imp fun _ q => q.1)
    refine wpAny_bind ((sim_tests (a := compAct a scope C0) hh hcd ck.ts ck.c3 ⟨S4, ga, apa⟩).ok ht fun ok f5 s5 p5 rb => ?_)
    cases rb
    have I5 := I4.inner S TT p5
    have S5 := S4.next p5
    cases b with
    | false => cases hb; exact wpAny_pure (ha _ _ f5 _ _ I5 hl)
    | true =>
      refine thenN_next hb fun x σ3 hx hb => cond_next hb fun hz hb => ?_
      cases hb
      refine wpAny_bind (wpAny_bind ((he (compAct a scope C0) elt f5 ρ' σ2 s5 ⟨S5, ga, apa⟩ (.inl hh) ck.c1).ok hx fun xv f6 s6 p6 r6 => ?_))
      have I6 := I5.inner S TT p6
      obtain ⟨its, c, e1, e2⟩ := I6.acc
      have hlen := e2.len
      rw [Array.length_toList] at hlen
      refine wpAny_bind (append_at e1 (fun h' sb e => ?_) (by rw [hlen]; exact Nat.le_trans (Nat.le_succ_of_le (of_decide_eq_true hz)) list_small))
      have I7 := I6.app S TT sb e (acc' := acc ++ [x]) (by rw [Array.toList_push]; exact e2.append (RelL.cons r6 RelL.nil))
      exact wpAny_pure (wpAny_pure (ha _ _ f6 _ _ I7 hl))
theorem comp_loop (I0 : In C d a f ρ σ s) (hh : a.A.handled = none) {scope : Scope} (K : CompOk a scope) (TT : CStat s D C0 own) {e : X} {t : T} {cond : XL} (he : SimX C P co d e) (hcd : AllS (SimB C P co d) cond)
    {elt tg iter : Expr} {ifs : List Expr} {pos : Pos} (ck : CompChk C a scope e t cond elt tg ifs) (htg : TupTg tg sv) {accF : List V} {σF : St} {Rr : Result → Shared → Prop} (hR : ∀ f2 i2 s2, CInv C a f s D C0 own sv it f2 σF i2 accF s2 → ∀ s3, Turn own s2 s3 → Rr (.ok .next) s3) {N : Nat}
    (I : CInv C a f s D C0 own sv it f1 σ1 i acc s1) (hl : loopN sv (cBody P co e t cond (ownNames scope.names).length ρ) N i acc σ1 = .next accF σF) :
    codeAny (model C.prog C.w) a.A (.compLoop (.ListComp elt [⟨tg, iter, ifs, 0⟩] scope pos) 0 it (.ref D) (compAct a scope C0).env) Rr s1 := by
  refine codeAny_loop rfl (fun n s1 => ∃ i acc f1 σ1, CInv C a f s D C0 own sv it f1 σ1 i acc s1 ∧ loopN sv (cBody P co e t cond (ownNames scope.names).length ρ) n i acc σ1 = .next accF σF) (fun n s1 hI => ?_) N ⟨i, acc, f1, σ1, I, hl⟩
  clear hl I
  obtain ⟨i, acc, f1, σ1, I, hl⟩ := hI
  cases n with
  | zero => cases hl
  | succ n =>
    show wpAny _ a.A ((compTurn (.ListComp elt [⟨tg, iter, ifs, 0⟩] scope pos) 0 it (.ref D) (compAct a scope C0).env).onRaise (fun x => do noteFrame x (compAct a scope C0).env; theTreesLotGoes x)) _ _ s1
    exact wpAny_noted (comp_turn I0 hh K TT he hcd ck htg I hl hR fun i acc f1 σ1 s1 I hl => ⟨rfl, n, Nat.lt_succ_self n, i, acc, f1, σ1, I, hl⟩)
end
end QZ
namespace QZ
open PySem PySem.W PySem.Calls PyProof.Rows
section
variable {C : Cx} {P : Prog} {co : Addr → List V → St → Res V} {d : Nat} {a : Act} {f : Fmap} {ρ : Rho} {σ : St} {s : Shared}
variable {D C0 : Addr} {own : List Addr} {sv : SV} {it : Value} {f1 : Fmap} {σ1 : St} {i : Nat} {acc : List V} {s1 s2 : Shared}
structure CEnd (C : Cx) (a : Act) (f : Fmap) (s : Shared) (D C0 : Addr) (f2 : Fmap) (σF : St) (acc : List V) (s2 : Shared) : Prop where
  post : Post C (lx a) f s f2 σF s2
  acc : AccAt f2 s2.heap D acc
  Df : D ∉ f2
  Dn : s.heap.get? D = none
  ns : ∃ m, s2.heap.Ns C0 m
  Cf : C0 ∉ f2
  Cn : s.heap.get? C0 = none
  DC : D ≠ C0
theorem CInv.done (S : Sp C a f ρ σ s) (TT : CStat s D C0 own) (I : CInv C a f s D C0 own sv it f1 σ1 i acc s1) (t : Turn own s1 s2) : CEnd C a f s D C0 f1 σ1 acc s2 :=
  ⟨Post.turn (σ := σ) (fun b o e => S.ok.stay b o e) I.post TT.on I.of I.it.nofz t, I.acc.move (Pre.refl _) (t.fz I.it.nofz) fun o e => t.keep D o TT.Do e, I.Df, TT.Dn, I.ns.imp fun m hm => ns_of hm fun o e => t.keep C0 o TT.Co e, I.Cf, TT.Cn, TT.DC⟩
noncomputable def compR (P : Prog) (co : Addr → List V → St → Res V) (e : X) (t : T) (src : Src) (c : XL) (k : Nat) (ρ : Rho) (σ : St) : Res (List V) := (evS P co src ρ σ).bind fun sv σ => (loop sv (cBody P co e t c k ρ) [] σ).thenX .ok
theorem thenX_bind {α β γ : Type} {r : R α} {g : α → St → Res β} {k : β → St → Res γ} : (r.thenX g).bind k = r.thenX fun v σ => (g v σ).bind k := by cases r <;> rfl
theorem evX_comp {e : X} {t : T} {src : Src} {c : XL} {k : Nat} : evX P co (.comp e t src c k) ρ σ = (compR P co e t src c k ρ σ).bind fun acc σ => .ok (.loc σ.length) (σ ++ [.list acc]) :=
  ((bindA (r := evS P co src ρ σ) (g := fun sv σ => (loop sv (cBody P co e t c k ρ) [] σ).thenX .ok)).trans (bindE fun _ _ => thenX_bind)).symm
theorem PE.bind {α β : Type} {ex : List Addr} {envs : List Env} {r : Res α} {g : α → St → Res β} {e : Value} (h : PE C ex envs f s r e s1) : PE C ex envs f s (r.bind g) e s1 := by
  cases r with
  | exc => exact h
  | _ => exact h.elim
theorem closure_of (g : a.Good d) (S : Sp C a f ρ σ s) {scope : Scope} (K : CompOk a scope) : closureFor scope a.env = pure (closeAcc a.env.cells scope.names []) :=
  closureFor_acc fun x hx => by
    obtain ⟨⟨i, h1⟩, h2⟩ := K.free x hx
    obtain ⟨_, _, c, _, o⟩ := free_cell g S h1 h2
    exact ⟨c, o.at_⟩
theorem folded_none {env : Env} {e : Expr} (h : even e = true) (x : Value) : foldedSetIterable e env x = pure x := by cases e <;> first | rfl | cases h
section
variable {α β : Type} {G : Prop} {b' : β} {σ' : St}
theorem bind_ok {r : Res α} {g : α → St → Res β} (h : r.bind g = .ok b' σ') (k : ∀ v σ, r = .ok v σ → g v σ = .ok b' σ' → G) : G := by
  cases r with
  | ok v σ => exact k v σ rfl h
  | _ => cases h
theorem ofO_ok {o : Option α} {g : α → Res β} (h : ofO o g = .ok b' σ') (k : ∀ v, o = some v → g v = .ok b' σ' → G) : G := by
  cases o with
  | none => cases h
  | some v => exact k v rfl h
end
theorem tupTg_of {src : Src} {tg : Expr} (h : enumOk src tg = true) {σ' : St} (e : evS P co src ρ σ = .ok sv σ') : TupTg tg sv := by
  cases src with
  | expr x =>
    refine bind_ok e fun v σ1 _ e => ofO_ok e fun sv ev e => ?_
    cases e
    cases v with
    | tup l => cases ev; exact .tup
    | loc n =>
      change cond _ (some (SV.lst n)) none = some sv at ev
      cases q : isList σ' n with
      | false => rw [q] at ev; cases ev
      | true => rw [q] at ev; cases ev; exact .lst
    | _ => cases ev
  | range l => exact bind_ok e fun v σ1 _ e => ofO_ok e fun b _ e => by cases e; exact .rng
  | enum y => exact bind_ok e fun v σ1 _ e => ofO_ok e fun n _ e => by cases e; exact .enl h
theorem comp_core (O : Go C P co d) (I : In C d a f ρ σ s) (hh : a.A.handled = none) {scope : Scope} {e : X} {t : T} {src : Src} {cond : XL} (hs : AllSrc (SimX C P co d) src) (he : SimX C P co d e) (hcd : AllS (SimB C P co d) cond)
    {elt tg iter : Expr} {ifs : List Expr} {pos pos' : Pos} (hck : compOk a.ns a.sl scope.names = true) (hkd : (scope.kind == .function) = true) (ck : CompChk C a scope e t cond elt tg ifs) (c4 : chkSrc C.T a.ns a.sl a.n src iter = true) (c5 : enumOk src tg = true) (c6 : even iter = true) {use : Option (Value → Sem Unit)} {Q : Value → Shared → Prop} {E : Value → Shared → Prop}
    (ne : compR P co e t src cond (ownNames scope.names).length ρ σ ≠ .stuck) (err : ∀ x s', PE C (lx a) a.envs f s (compR P co e t src cond (ownNames scope.names).length ρ σ) x s' → E x s')
    (hQ : ∀ D C0 acc σF f2 s2, compR P co e t src cond (ownNames scope.names).length ρ σ = .ok acc σF → CEnd C a f s D C0 f2 σF acc s2 → compPost (model C.prog C.w) a.A E use Q (.ref D) C0 (.ok .next) s2) :
    wpAny (model C.prog C.w) a.A (comprehension (.ListComp elt [⟨tg, iter, ifs, 0⟩] scope pos) scope a.env pos' (newList []) false (eval iter a.env) use) Q E s := by
  have K := compOk_of hck hkd
  have S := I.S
  refine wpAny_comprehension_free (cl := closeAcc a.env.cells scope.names []) rfl (folded_none c6) (closure_of I.g S K) K.kind (fun x hx hl => by
    obtain ⟨y, k⟩ := x; simp only at hl; subst hl; exact lookup_of_mem K.nodup hx) ?_
  refine sim_src O hh hs c4 I ⟨bind_ne ne, fun it s2 pv => ?_, fun x s' he => err x s' he.bind⟩
  cases e1 : evS P co src ρ σ with
  | exc => rw [e1] at pv; exact pv.elim
  | stuck => rw [e1] at pv; exact pv.elim
  | ok sv σ1 =>
    rw [e1] at pv
    obtain ⟨f1, p2, own, N⟩ := pv
    have hc : compR P co e t src cond (ownNames scope.names).length ρ σ = (loop sv (cBody P co e t cond (ownNames scope.names).length ρ) [] σ1).thenX .ok := congrArg (Res.bind · _) e1
    rw [hc] at ne hQ
    clear err hc
    cases hl : loop sv (cBody P co e t cond (ownNames scope.names).length ρ) [] σ1 with
    | ret => rw [hl] at ne; exact absurd rfl ne
    | exc => rw [hl] at ne; exact absurd rfl ne
    | stuck => rw [hl] at ne; exact absurd rfl ne
    | next accF σF =>
      rw [hl] at hQ
      refine PySem.wpAny_newList ?_ (Nat.zero_le _)
      refine wpAny_newFunctionEnv K.nocell (by intro y hy; simp at hy) (fun h' hn1 sb => ?_) K.kind
      dsimp only at hn1 sb ⊢
      generalize hH : s2.heap.push { cls := .type "list", data := .seq ([] : List Value).toArray } = H at hn1 sb ⊢
      have hsz : H.objs.size = s2.heap.objs.size + 1 := by rw [← hH, Heap.size_push]
      have hlt : ∀ {b}, b ≤ s2.heap.objs.size → b ≠ H.objs.size := fun hb => hsz ▸ Nat.ne_of_lt (Nat.lt_succ_of_le hb)
      have keep : ∀ b o, s2.heap.get? b = some o → h'.get? b = some o := fun b o e => (sb.2 b (hlt (Nat.le_of_lt (Heap.lt_size e)))).trans (Heap.get?_push_of_some _ (hH ▸ Heap.get?_push_of_some _ e))
      have hD : h'.get? s2.heap.objs.size = some (listOf #[] 0) := (sb.2 _ (hlt (Nat.le_refl _))).trans (Heap.get?_push_of_some _ (hH ▸ Heap.get?_push_size _ rfl))
      have hDn : s2.heap.get? s2.heap.objs.size = none := none_at _
      have hC0 : s2.heap.get? H.objs.size = none := none_ge (by rw [hsz]; exact Nat.le_succ _)
      have no : ∀ {b}, s2.heap.get? b = none → b ∉ own := fun hb q => by obtain ⟨o, e⟩ := N.it.there _ q; rw [hb] at e; cases e
      have TT : CStat s s2.heap.objs.size H.objs.size own := ⟨fresh_of p2 hDn, fresh_of p2 hC0, N.new, hlt (Nat.le_refl _), no hDn, no hC0⟩
      have J : CInv C a f s s2.heap.objs.size H.objs.size own sv it f1 σ1 0 [] { s2 with heap := h', toks := s2.toks + ([] : List (Str × Value)).length } := ⟨post_keep S p2 keep _, ⟨#[], 0, hD, RelL.nil⟩, new_notin p2 hDn, ⟨_, hn1⟩, new_notin p2 hC0, N.it.move (Pre.refl _) (fun b o e _ => keep b o e) fun b hb o e => keep b o e, N.out⟩
      have lp : codeAny (model C.prog C.w) a.A (.compLoop (.ListComp elt [⟨tg, iter, ifs, 0⟩] scope pos) 0 it (.ref s2.heap.objs.size) (compAct a scope H.objs.size).env) (compPost (model C.prog C.w) a.A E use Q (.ref s2.heap.objs.size) H.objs.size) { s2 with heap := h', toks := s2.toks + ([] : List (Str × Value)).length } :=
        comp_loop I hh K TT he hcd ck (tupTg_of c5 e1) (fun f2 i2 s3 I3 s4 t4 => hQ _ _ accF σF f2 s4 rfl (I3.done S TT t4)) J hl
      exact codeAny_compStart_list lp (iter_self J.it lp)
theorem CEnd.lay (S : Sp C a f ρ σ s) {f2 : Fmap} {σF : St} (x : CEnd C a f s D C0 f2 σF acc s2) {h' : Heap} (sb : Heap.SameBut C0 s2.heap h') : ∃ f3, Post C (lx a) f s f3 (σF ++ [.list acc]) { s2 with heap := h' } ∧ Rel f3 h' (.loc σF.length) (.ref D) := by
  obtain ⟨its, c, d1, d2⟩ := x.acc
  obtain ⟨m, hns⟩ := x.ns
  have t := Turn.one sb s2.toks
  have nz : ∀ b ∈ [C0], ∀ o, s2.heap.get? b = some o → ¬ Frozen o := fun b hb o e => ns_notFrozen hns (one_mem hb ▸ e)
  have p3 := Post.turn (σ := σ) (fun b o e => S.ok.stay b o e) x.post (fun b hb => one_mem hb ▸ x.Cn) (fun b hb => one_mem hb ▸ x.Cf) nz t
  have dD : h'.get? D = some (listOf its c) := (sb.2 D x.DC).trans d1
  exact ⟨f2 ++ [D], p3.adopt S (o := .list acc) x.Dn dD x.Df (base_none S x.Dn) (fun b o e _ => e) (fun z2 => ⟨its, c, dD, (d2.mono (Pre.refl _) (t.fz nz)).mono (Pre.app _ _) z2⟩) list_notFrozen s2.toks, rel_new x.post.ok.len⟩
structure CompAll (C : Cx) (a : Act) (e : X) (t : T) (src : Src) (cond : XL) (elt tg iter : Expr) (ifs : List Expr) (scope : Scope) : Prop where
  ok : compOk a.ns a.sl scope.names = true
  kind : (scope.kind == .function) = true
  ck : CompChk C a scope e t cond elt tg ifs
  itr : chkSrc C.T a.ns a.sl a.n src iter = true
  enm : enumOk src tg = true
  evn : even iter = true
theorem chk_comp {e : X} {t : T} {src : Src} {cond : XL} {k : Nat} {ex : Expr} {M : Nat → Expr → Prop} (h : chkX C.T a.ns a.sl a.n (.comp e t src cond k) ex = true) (g : ∀ elt tg iter ifs scope pos, CompAll C a e t src cond elt tg iter ifs scope → M (ownNames scope.names).length (.ListComp elt [⟨tg, iter, ifs, 0⟩] scope pos)) : M k ex := by
  apply eListComp_of h
  intro elt gs scope pos h
  apply one?_of h
  refine fun gn h => b4 h fun h0 h1 h2 hx => b7 hx fun h3 h4 h5 h6 h7 h8 hy => b2 hy fun h9 h10 => ?_
  cases eq_of_beq h2
  cases gn with
  | mk tg iter ifs async =>
    cases of_decide_eq_true h0
    exact g elt tg iter ifs scope pos ⟨h1, h3, ⟨h4, h5, h10, h8⟩, h7, h6, h9⟩
theorem sim_comp (O : Go C P co d) {e : X} {t : T} {src : Src} {cond : XL} {k : Nat} (hs : AllSrc (SimX C P co d) src) (he : SimX C P co d e) (hcd : AllS (SimB C P co d) cond) : SimX C P co d (.comp e t src cond k) := by
  intro a ex f ρ σ s I hh hc
  apply chk_comp (M := fun k ex => W C a f s Rel (eval ex a.env) (evX P co (.comp e t src cond k) ρ σ)) hc
  refine fun elt tg iter ifs scope pos c => W.eq evX_comp fun Q E h => eval_ListComp .. ▸ ?_
  refine comp_core O I (noCalm hh) hs he hcd c.ok c.kind c.ck c.itr c.enm c.evn (bind_ne h.ne) (fun x s' k => h.err x s' k.bind) fun D C0 acc σF f2 s2 e1 x => ?_
  rw [e1] at h
  exact x.ns.elim fun m hns => ⟨m, hns, fun h' sb => (x.lay I.S sb).elim fun f3 q => h.ret q.1 q.2⟩
end
end QZ
namespace QZ
open PySem PySem.W PySem.Calls PyProof.Rows
noncomputable def SpreadOk (C : Cx) (P : Prog) (co : Addr → List V → St → Res V) (d : Nat) : Prop := ∀ x k v, SimX C P co d x → SimX C P co d k → SimX C P co d v → SimX C P co d (.spread x k v)
section
variable {C : Cx} {P : Prog} {co : Addr → List V → St → Res V} {d : Nat}
theorem sim_sup {fa : Addr} {l : XL} : SimX C P co d (.sup fa l) := fun a e f ρ σ s I hh hc => nomatch hc
theorem plainB {x : X} (h : isSpecX x = false) (hx : SimX C P co d x) : SimX C P co d x ∧ SimB C P co d x := ⟨hx, simB_plain hx h⟩
mutual
theorem simXB (O : Go C P co d) (Z : SpreadOk C P co d) : ∀ x : X, SimX C P co d x ∧ SimB C P co d x
  | .lit v => plainB rfl sim_lit
  | .var i => plainB rfl sim_var
  | .glob v => plainB rfl (sim_glob O)
  | .bop c l => ⟨sim_bop (simXBL O Z l).1, simB_bop (simXBL O Z l).2⟩
  | .bin op a b => plainB rfl (sim_bin (simXB O Z a).1 (simXB O Z b).1)
  | .neg a => plainB rfl (sim_neg (simXB O Z a).1)
  | .not a => ⟨sim_not (simXB O Z a).1, simB_not (simXB O Z a).2⟩
  | .ite c a b => ⟨sim_ite (simXB O Z c).2 (simXB O Z a).1 (simXB O Z b).1, simB_ite (simXB O Z c).2 (simXB O Z a).2 (simXB O Z b).2⟩
  | .cmp a l => ⟨sim_cmp O (simXB O Z a).1 (simXBC O Z l), simB_cmp O (simXB O Z a).1 (simXBC O Z l)⟩
  | .tup l => plainB rfl (sim_tup (simXBL O Z l).1)
  | .lst l => plainB rfl (sim_lst (simXBL O Z l).1)
  | .dct k l => plainB rfl (sim_dct (simXBP O Z l))
  | .spread a k v => plainB rfl (Z a k v (simXB O Z a).1 (simXB O Z k).1 (simXB O Z v).1)
  | .attr a n => plainB rfl (sim_attr O (simXB O Z a).1)
  | .item a i => plainB rfl (sim_item (simXB O Z a).1 (simXB O Z i).1)
  | .slc a lo hi => plainB rfl (sim_slc O (simXB O Z a).1 (simXB O Z lo).1 (simXB O Z hi).1)
  | .call f l => plainB rfl (sim_call O (simXBL O Z l).1)
  | .bi f l => plainB rfl (sim_bi O (simXBL O Z l).1)
  | .meth o n l => plainB rfl (sim_meth O (simXB O Z o).1 (simXBL O Z l).1)
  | .sup f l => plainB rfl sim_sup
  | .comp e t s c k => plainB rfl (sim_comp O (simXBS O Z s) (simXB O Z e).1 (simXBL O Z c).2)
  | .fstr l => plainB rfl (sim_fstr (simXBL O Z l).1)
theorem simXBL (O : Go C P co d) (Z : SpreadOk C P co d) : ∀ l : XL, AllS (SimX C P co d) l ∧ AllS (SimB C P co d) l
  | .nil => ⟨.nil, .nil⟩
  | .cons x l => ⟨.cons (simXB O Z x).1 (simXBL O Z l).1, .cons (simXB O Z x).2 (simXBL O Z l).2⟩
theorem simXBC (O : Go C P co d) (Z : SpreadOk C P co d) : ∀ l : CL, AllC (SimX C P co d) l
  | .nil => .nil
  | .cons op x l => .cons (simXB O Z x).1 (simXBC O Z l)
theorem simXBP (O : Go C P co d) (Z : SpreadOk C P co d) : ∀ l : PL, AllP (SimX C P co d) l
  | .nil => .nil
  | .cons k x l => .cons (simXB O Z k).1 (simXB O Z x).1 (simXBP O Z l)
theorem simXBS (O : Go C P co d) (Z : SpreadOk C P co d) : ∀ s : Src, AllSrc (SimX C P co d) s
  | .expr x => .expr (simXB O Z x).1
  | .range l => .range (simXBL O Z l).1
  | .enum x => .enum (simXB O Z x).1
end
end
end QZ
namespace QZ
open PySem PySem.W PySem.Calls PyProof.Rows
noncomputable def frA (a : Act) : List Addr := a.env.locals :: a.sl.filterMap fun p => if a.ns.lookup p.1 == some .cell then a.env.cells.lookup p.1 else none
section
variable {C : Cx} {P : Prog} {co : Addr → List V → St → Res V} {d : Nat} {a : Act} {f f1 f2 : Fmap} {ρ ρ1 ρ2 : Rho} {σ σ1 σ2 : St} {s s1 s2 : Shared}
theorem mem_lookup {α β : Type} [BEq α] [LawfulBEq α] {x : α} {y : β} : ∀ {l : List (α × β)}, (x, y) ∈ l → ∃ z, l.lookup x = some z
  | (a, b) :: l, h => by
    rw [List.lookup_cons]
    by_cases q : x = a
    · subst q; simp
    · rw [beq_eq_false_iff_ne.mpr q]
      rcases List.mem_cons.mp h with e | e
      · cases e; exact absurd rfl q
      · exact mem_lookup e
theorem frA_in : wsIn a (frA a) := fun b hb => by
  rcases List.mem_cons.mp hb with rfl | hb
  · exact .inl rfl
  · right
    rw [List.mem_filterMap] at hb
    obtain ⟨⟨x, i⟩, h1, h2⟩ := hb
    split at h2
    · rename_i q
      obtain ⟨j, hj⟩ := mem_lookup h1
      exact ⟨x, j, hj, by simpa using q, h2⟩
    · cases h2
theorem frA_ok {x : Str} {i : Nat} (h1 : a.sl.lookup x = some i) (h2 : storable a.ns x = true) : wsOk a (frA a) x := by
  rcases Bool.or_eq_true_iff.mp h2 with h2 | h2
  · exact .inl ⟨eq_of_beq h2, .head _⟩
  · exact .inr ⟨eq_of_beq h2, fun c hc => .tail _ (List.mem_filterMap.mpr ⟨(x, i), mem_of_lookup h1, (if_pos h2).trans hc⟩)⟩
structure Stp (a : Act) (f : Fmap) (s : Shared) (f' : Fmap) (s' : Shared) : Prop where
  app : ∃ g, f' = f ++ g ∧ ∀ b ∈ g, s.heap.get? b = none
  ext : Ext (frA a ++ frs a.envs ++ f) s.heap s'.heap
  ns : ∀ L ∈ frs a.envs, L ∉ frA a → ∀ m, s.heap.Ns L m → s'.heap.Ns L m
  live : ∀ b o, s.heap.get? b = some o → ∃ o', s'.heap.get? b = some o'
theorem Stp.refl : Stp a f s f s := ⟨⟨[], by simp, by simp⟩, fun _ _ e _ => e, fun _ _ _ _ n => n, fun _ o e => ⟨o, e⟩⟩
theorem Stp.toks {tk : Nat} : Stp a f s f { s with toks := tk } := ⟨⟨[], by simp, by simp⟩, fun _ _ e _ => e, fun _ _ _ _ n => n, fun _ o e => ⟨o, e⟩⟩
theorem Stp.notin (x : Stp a f s f1 s1) {b : Addr} {o : Obj} (e : s.heap.get? b = some o) (n : b ∉ f) : b ∉ f1 := by
  obtain ⟨⟨g, rfl, hg⟩, _, _⟩ := x
  intro q
  rcases List.mem_append.mp q with q | q
  · exact n q
  · rw [hg b q] at e; cases e
theorem Stp.out (x : Stp a f s f1 s1) {b : Addr} {o : Obj} (e : s.heap.get? b = some o) (h1 : b ∉ frA a) (h2 : b ∉ frs a.envs) (h3 : b ∉ f) : s1.heap.get? b = some o :=
  x.ext b o e (by rw [List.mem_append, List.mem_append, not_or, not_or]; exact ⟨⟨h1, h2⟩, h3⟩)
theorem Stp.trans (x : Stp a f s f1 s1) (y : Stp a f1 s1 f2 s2) : Stp a f s f2 s2 where
  app := by
    obtain ⟨g, rfl, hg⟩ := x.app
    obtain ⟨g', rfl, hg'⟩ := y.app
    exact ⟨g ++ g', List.append_assoc .., fun b hb => (List.mem_append.mp hb).elim (hg b) fun q => none_of (fun o e => x.live b o e) (hg' b q)⟩
  ext := fun b o e hb => have n := fun q => hb (List.mem_append.mpr q)
    y.ext b o (x.ext b o e hb) fun q => (List.mem_append.mp q).elim (fun q => n (.inl q)) (x.notin e fun q => n (.inr q))
  ns := fun L hL hA m n => y.ns L hL hA m (x.ns L hL hA m n)
  live := fun b o e => (x.live b o e).elim fun o' e' => y.live b o' e'
theorem Stp.of_post {σ' : St} (p : Post C (lx a) f s f1 σ' s1) : Stp a f s f1 s1 := ⟨p.nxt.app, fun b o e hb => p.nxt.ext b o e fun q => hb (by
  rcases List.mem_append.mp q with q | q
  · rcases List.mem_cons.mp q with rfl | q
    · exact List.mem_append.mpr (.inl (List.mem_append.mpr (.inl (.head _))))
    · exact List.mem_append.mpr (.inl (List.mem_append.mpr (.inr q)))
  · exact List.mem_append.mpr (.inr q)), fun L hL _ m n => p.nxt.ns L (.tail _ hL) m n, p.nxt.live⟩
theorem own_live (g : a.Good d) (S : Sp C a f ρ σ s) : ∀ b ∈ frA a, ∃ o, s.heap.get? b = some o := fun b hb => by
  obtain ⟨m, hm, hsl⟩ := S.fr.ns
  rcases frA_in b hb with rfl | ⟨x, i, h1, h2, h3⟩
  · exact (ns_soft hm).imp fun o q => q.1
  · obtain ⟨_, _, c, _, o⟩ := free_cell g S h1 (.inl h2)
    cases o.at_.symm.trans h3
    exact (cell_soft o.cell).imp fun o q => q.1
theorem Stp.of_turn (g : a.Good d) (S1 : Sp C a f ρ1 σ1 s1) (t : Turn (frA a) s s1) : Stp a f s f s1 := by
  refine ⟨⟨[], by simp, by simp⟩, fun b o e hb => t.keep b o (fun q => hb (List.mem_append.mpr (.inl (List.mem_append.mpr (.inl q))))) e, fun L hL hA m n => ns_of n fun o e => t.keep L o hA e, fun b o e => ?_⟩
  by_cases q : b ∈ frA a
  · exact own_live g S1 b q
  · exact ⟨o, t.keep b o q e⟩
noncomputable def PS (C : Cx) (a : Act) (f : Fmap) (s : Shared) (r : R Rho) (fl : Flow) (s' : Shared) : Prop := match r with
  | .next ρ' σ' => fl = .next ∧ ∃ f', Sp C a f' ρ' σ' s' ∧ Stp a f s f' s'
  | .ret v ρ' σ' => ∃ val f', fl = .ret val ∧ Rel f' s'.heap v val ∧ Sp C a f' ρ' σ' s' ∧ Stp a f s f' s'
  | .exc _ _ _ _ => False
  | .stuck => False
noncomputable def keptA (a : Act) (f : Fmap) (s : Shared) : Heap := hideAll s.heap (frA a ++ frs a.envs ++ f)
noncomputable def FreshW (base : Heap) (l : List Env) (e : Addr) (cls a0 : Value) (h : Heap) : Prop :=
  base.StaysIn h ∧ base.get? e = none ∧ h.FunFrames base l ∧ ∃ oe vs, h.get? e = some oe ∧ oe.cls = cls ∧ oe.data = .fields vs ∧ vs[1]? = some .none ∧ vs[0]? = some a0
theorem freshW_base {base B h : Heap} {l : List Env} {e : Addr} {cls a0 : Value} (k : base.StaysIn B) (x : FreshW B l e cls a0 h) : FreshW base l e cls a0 h :=
  ⟨fun b o q => x.1 b o (k b o q), fresh_of_stays k x.2.1, funFrames_base k x.2.2.1, x.2.2.2⟩
structure FliesS (C : Cx) (a : Act) (f : Fmap) (s : Shared) (c : Addr) (f' : Fmap) (ρ' : Rho) (σ' : St) (e : Addr) (s' : Shared) : Prop where
  app : ∃ g, f' = f ++ g ∧ ∀ b ∈ g, s.heap.get? b = none
  fly : ∃ a0, Heap.FlyingW (keptA a f s) a.envs e (.ref c) a0 s'.heap ∨ (∃ L, a.env.frame = some L ∧ Heap.HeldW (keptA a f s) a.envs e (.ref c) a0 L s'.heap) ∨ FreshW (keptA a f s) a.envs e (.ref c) a0 s'.heap
  ns : ∀ L ∈ frs a.envs, L ∉ frA a → ∀ m, s.heap.Ns L m → s'.heap.Ns L m
  live : ∀ b o, s.heap.get? b = some o → ∃ o', s'.heap.get? b = some o'
  fr : Frm C.base a f' ρ' s'.heap
  ok : Ok C.prog C.w C.base f' σ' s'.heap
  gens : s'.gens = #[]
  os : s'.os = C.os
noncomputable def PSE (C : Cx) (a : Act) (f : Fmap) (s : Shared) (r : R Rho) (e : Value) (s' : Shared) : Prop := match r with
  | .exc c _ ρ' σ' => ∃ f' ea, e = .ref ea ∧ FliesS C a f s c f' ρ' σ' ea s'
  | _ => False
structure ContS (C : Cx) (a : Act) (f : Fmap) (s : Shared) (r : R Rho) (Q : Flow → Shared → Prop) (E : Value → Shared → Prop) : Prop where
  ne : r ≠ .stuck
  ok : ∀ fl s', PS C a f s r fl s' → Q fl s'
  err : ∀ e s', PSE C a f s r e s' → E e s'
noncomputable def WS (C : Cx) (a : Act) (f : Fmap) (s : Shared) (t : Sem Flow) (r : R Rho) : Prop := ∀ Q E, ContS C a f s r Q E → wpAny (model C.prog C.w) a.A t Q E s
theorem PS.before (p : Stp a f s f1 s1) {r : R Rho} {fl : Flow} {s' : Shared} (x : PS C a f1 s1 r fl s') : PS C a f s r fl s' := by
  cases r with
  | next ρ' σ' => obtain ⟨h, f', h1, h2⟩ := x; exact ⟨h, f', h1, p.trans h2⟩
  | ret v ρ' σ' => obtain ⟨val, f', h, h0, h1, h2⟩ := x; exact ⟨val, f', h, h0, h1, p.trans h2⟩
  | exc => exact x
  | stuck => exact x
theorem keptA_stays (n : Stp a f s f1 s1) : (keptA a f s).StaysIn (keptA a f1 s1) := fun b o e => by
  have e' := of_hideAll _ e
  have hb : b ∉ frA a ++ frs a.envs ++ f := fun q => by rw [keptA, hideAll_none _ q] at e; cases e
  have h1 := n.ext b o e' hb
  rw [List.mem_append, List.mem_append, not_or, not_or] at hb
  exact hideAll_get _ h1 (by rw [List.mem_append, List.mem_append, not_or, not_or]; exact ⟨hb.1, n.notin e' hb.2⟩)
theorem FliesS.before (p : Stp a f s f1 s1) {c : Addr} {f' : Fmap} {ρ' : Rho} {σ' : St} {e : Addr} {s' : Shared} (x : FliesS C a f1 s1 c f' ρ' σ' e s') : FliesS C a f s c f' ρ' σ' e s' where
  app := by
    obtain ⟨g, rfl, hg⟩ := p.app
    obtain ⟨g', e2, hg'⟩ := x.app
    exact ⟨g ++ g', e2.trans (List.append_assoc ..), fun b hb => (List.mem_append.mp hb).elim (hg b) fun q => none_of (fun o e => p.live b o e) (hg' b q)⟩
  fly := x.fly.imp fun a0 k => k.imp (flyingW_base (keptA_stays p)) fun q => q.imp (fun ⟨L, h, q⟩ => ⟨L, h, heldW_base (keptA_stays p) q⟩) (freshW_base (keptA_stays p))
  ns := fun L hL hx m n => x.ns L hL hx m (p.ns L hL hx m n)
  live := fun b o e => (p.live b o e).elim fun o' e' => x.live b o' e'
  fr := x.fr
  ok := x.ok
  gens := x.gens
  os := x.os
theorem PSE.before (p : Stp a f s f1 s1) {r : R Rho} {e : Value} {s' : Shared} (x : PSE C a f1 s1 r e s') : PSE C a f s r e s' := by
  cases r with
  | exc c m ρ' σ' => obtain ⟨f', ea, he, k⟩ := x; exact ⟨f', ea, he, k.before p⟩
  | _ => exact x
theorem funFrames_join {base B h h' : Heap} : ∀ {l : List Env}, h.FunFrames base l → h'.FunFrames B l → h'.FunFrames base l
  | [], _, _ => trivial
  | env :: l, ⟨hk, ⟨L, o, hf, hb, ho, hd⟩, hr⟩, ⟨_, ⟨L', o', hf', _, ho', hd'⟩, hr'⟩ => by
    rw [hf] at hf'; cases hf'
    exact ⟨hk, ⟨L, o', hf, hb, ho', hd'⟩, funFrames_join hr hr'⟩
theorem Pre.of_app {f f' : Fmap} (h : ∃ g, f' = f ++ g ∧ ∀ b ∈ g, s.heap.get? b = none) : Pre f f' := by
  obtain ⟨g, rfl, _⟩ := h; exact Pre.app f g
theorem flies_keeps {c : Addr} {f' : Fmap} {σ' : St} {e : Addr} {s' : Shared} (x : Flies C (lx a) a.envs f s c f' σ' e s') {b : Addr} {o : Obj} (h : s.heap.get? b = some o) (hx : b ∉ lx a) (hf : b ∉ f) : s'.heap.get? b = some o := by
  obtain ⟨a0, k, _⟩ := x.fly
  refine k b o (hideAll_get _ h ?_)
  rw [List.mem_append, List.mem_append, not_or, not_or]
  exact ⟨⟨hx, fun q => hx (.tail _ q)⟩, hf⟩
theorem lx_notFrozen (S : Sp C a f ρ σ s) {b : Addr} {o : Obj} (h : s.heap.get? b = some o) (fz : Frozen o) : b ∉ lx a := fun q => by
  obtain ⟨m, hm⟩ := S.fr.ex b q
  exact ns_notFrozen hm h fz
theorem flies_fz {c : Addr} {f' : Fmap} {σ' : St} {e : Addr} {s' : Shared} (S : Sp C a f ρ σ s) (x : Flies C (lx a) a.envs f s c f' σ' e s') : Fz s.heap s'.heap := fun b o h fz =>
  flies_keeps x h (lx_notFrozen S h fz) fun q => by obtain ⟨ob, e, k⟩ := S.ok.notFrozen q; rw [h] at e; cases e; exact k fz
theorem ns_slots {h h' : Heap} {L : Addr} {m : Str → Option Value} (n : h.Ns L m) (k : ∀ o, h.get? L = some o → ∃ sl, h'.get? L = some { o with slots := sl }) : h'.Ns L m := by
  obtain ⟨o, es, ep, e, hd, r⟩ := n
  obtain ⟨sl, e'⟩ := k o e
  exact ⟨_, es, ep, e', hd, r⟩
theorem cell_slots {h h' : Heap} {c : Addr} {v : Option Value} (n : h.IsCell c v) (k : ∀ o, h.get? c = some o → ∃ sl, h'.get? c = some { o with slots := sl }) : h'.IsCell c v := by
  obtain ⟨o, e, hd⟩ := n
  obtain ⟨sl, e'⟩ := k o e
  exact ⟨_, e', hd⟩
theorem flies_notin {c : Addr} {f' : Fmap} {σ' : St} {e : Addr} {s' : Shared} (x : Flies C (lx a) a.envs f s c f' σ' e s') {b : Addr} {o : Obj} (h : s.heap.get? b = some o) (n : b ∉ f) : b ∉ f' := by
  obtain ⟨g, rfl, hg⟩ := x.app
  intro q
  rcases List.mem_append.mp q with q | q
  · exact n q
  · rw [hg b q] at h; cases h
theorem cell_notin {h : Heap} {ex : List Addr} (hx : ExOk ex h) {c : Addr} {v : Option Value} (n : h.IsCell c v) : c ∉ ex := fun q => by
  obtain ⟨m, hm⟩ := hx c q
  exact ns_ne_cell hm n rfl
theorem flies_frm (S : Sp C a f ρ σ s) {c : Addr} {f' : Fmap} {σ' : St} {e : Addr} {s' : Shared} (x : Flies C (lx a) a.envs f s c f' σ' e s') : Frm C.base a f' ρ s'.heap := by
  obtain ⟨m, hm, hsl⟩ := S.fr.ns
  have z := flies_fz S x
  have pre : Pre f f' := Pre.of_app x.app
  obtain ⟨o, _, _, ho, _⟩ := id hm
  have cell : ∀ {c ov}, s.heap.IsCell c ov → c ∉ f → s'.heap.IsCell c ov ∧ c ∉ f' := fun {c ov} hc hf => by
    obtain ⟨o, e, hd⟩ := id hc
    exact ⟨⟨o, flies_keeps x e (cell_notin S.fr.ex hc) hf, hd⟩, flies_notin x e hf⟩
  refine ⟨S.fr.len, ⟨m, x.ns _ (.head _) m hm, fun y i h => ?_⟩, flies_notin x ho S.fr.out, ?_, fun e he L hL => ?_, fun e he L hL => ?_⟩
  · obtain ⟨q, h1, h2⟩ := hsl y i h
    refine ⟨q, h1, ?_⟩
    cases h2 with
    | loc k o => exact .loc k (o.mono pre z)
    | cell k o => exact .cell k ⟨o.at_, (cell o.cell o.out).2, (cell o.cell o.out).1, o.rel.mono pre z⟩
    | free k o => exact .free k ⟨o.at_, (cell o.cell o.out).2, (cell o.cell o.out).1, o.rel.mono pre z⟩
  · obtain ⟨a0, _, _, k, _⟩ := x.fly
    exact funFrames_join S.fr.ff k
  · obtain ⟨m', o', _, _, ho', _⟩ := S.fr.fns e he L hL
    exact flies_notin x ho' (S.fr.fout e he L hL)
  · obtain ⟨m', hm'⟩ := S.fr.fns e he L hL
    exact ⟨m', x.ns L (.tail _ (List.mem_filterMap.mpr ⟨e, he, hL⟩)) m' hm'⟩
theorem kept_sub : (keptA a f s).StaysIn (kept (lx a) a.envs f s) := fun b o e => by
  have e' := of_hideAll _ e
  have hb : b ∉ frA a ++ frs a.envs ++ f := fun q => by rw [keptA, hideAll_none _ q] at e; cases e
  rw [List.mem_append, List.mem_append, not_or, not_or] at hb
  refine hideAll_get _ e' ?_
  rw [List.mem_append, List.mem_append, not_or, not_or]
  exact ⟨⟨fun q => (List.mem_cons.mp q).elim (fun q => hb.1.1 (q ▸ .head _)) hb.1.2, hb.1.2⟩, hb.2⟩
theorem Flies.toS (S : Sp C a f ρ σ s) {c : Addr} {f' : Fmap} {σ' : St} {e : Addr} {s' : Shared} (x : Flies C (lx a) a.envs f s c f' σ' e s') : FliesS C a f s c f' ρ σ' e s' where
  app := x.app
  fly := let ⟨a0, k⟩ := x.fly; ⟨a0, .inl (flyingW_base kept_sub k)⟩
  ns := fun L hL _ m n => x.ns L (.tail _ hL) m n
  live := x.live
  fr := flies_frm S x
  ok := x.ok
  gens := x.gens
  os := x.os
section
variable {r : R Rho} {Q : Flow → Shared → Prop} {E : Value → Shared → Prop} {α β : Type} {K : α → Shared → Prop} {R1 : Fmap → Heap → β → α → Prop} {t : Sem α} {q : Res β}
theorem ContS.before (h : ContS C a f s r Q E) (p : Stp a f s f1 s1) : ContS C a f1 s1 r Q E := ⟨h.ne, fun _ _ x => h.ok _ _ (x.before p), fun _ _ x => h.err _ _ (x.before p)⟩
theorem ContS.no {G : Prop} (h : ContS C a f s .stuck Q E) : G := absurd rfl h.ne
theorem ContS.of {x : Option β} {g : β → R Rho} {G : Prop} (h : ContS C a f s (ofOR x g) Q E) (k : ∀ v, x = some v → ContS C a f s (g v) Q E → G) : G := by
  cases x with
  | none => exact h.no
  | some v => exact k v rfl h
theorem ContS.when {b : Bool} {G : Prop} (h : ContS C a f s (cond b r .stuck) Q E) (k : b = true → ContS C a f s r Q E → G) : G := by
  cases b with
  | false => exact h.no
  | true => exact k rfl h
theorem ContS.next (h : ContS C a f s (.next ρ1 σ1) Q E) (S1 : Sp C a f1 ρ1 σ1 s1) (p : Stp a f s f1 s1) : Q .next s1 := h.ok _ _ ⟨rfl, f1, S1, p⟩
theorem ContS.thenR {g : β → St → R Rho} (I : In C d a f ρ σ s) (h : ContS C a f s (q.thenR ρ g) Q E)
    (h2 : ∀ v σ' val f' s', In C d a f' ρ σ' s' → Post C (lx a) f s f' σ' s' → R1 f' s'.heap v val → ContS C a f' s' (g v σ') Q E → K val s') : Cont C a f s R1 q K E := by
  refine ⟨fun e => h.ne (by rw [e]; rfl), fun val s' pv => ?_, fun e s' he => ?_⟩
  · cases q with
    | ok v σ' => exact pv.elim fun f' q => h2 v σ' val f' s' (I.next q.1) q.1 q.2 (ContS.before h (.of_post q.1))
    | _ => exact pv.elim
  · cases q with
    | exc c m σ' => obtain ⟨f', ea, he, k⟩ := he; exact h.err e s' ⟨f', ea, he, k.toS I.S⟩
    | _ => exact he.elim
theorem seqTR {g : β → St → R Rho} (I : In C d a f ρ σ s) (h1 : W C a f s R1 t q) (h : ContS C a f s (q.thenR ρ g) Q E)
    (h2 : ∀ v σ' val f' s', In C d a f' ρ σ' s' → Post C (lx a) f s f' σ' s' → R1 f' s'.heap v val → ContS C a f' s' (g v σ') Q E → K val s') : wpAny (model C.prog C.w) a.A t K E s := h1 K E (h.thenR I h2)
theorem seqTN {g : β → St → R Rho} (I : In C d a f ρ σ s) (h1 : W C a f s R1 t q) (h : ContS C a f s (q.thenN g) Q E)
    (h2 : ∀ v σ' val f' s', In C d a f' ρ σ' s' → Post C (lx a) f s f' σ' s' → R1 f' s'.heap v val → ContS C a f' s' (g v σ') Q E → K val s') : wpAny (model C.prog C.w) a.A t K E s := by
  cases q with
  | ok v σ' => exact seqTR (g := g) I h1 h h2
  | _ => exact h.no
end
end
end QZ
namespace QZ
open PySem PySem.W PySem.Calls PyProof.Rows
structure Own (a : Act) : Prop where
  envs : ∃ outer, a.envs = a.env :: outer
  frame : a.env.frame = some a.env.locals
noncomputable def SimS (C : Cx) (P : Prog) (co : Addr → List V → St → Res V) (d : Nat) (x : QZ.S) : Prop := ∀ (a : Act) (st : Stmt) (f : Fmap) (ρ : Rho) (σ : St) (s : Shared), In C d a f ρ σ s → Own a → (a.A.handled = none ∨ calmS x = true) → chkS C.T a.ns a.sl a.n x st = true → WS C a f s (exec st a.env) (exS P co x ρ σ)
noncomputable def SimSL (C : Cx) (P : Prog) (co : Addr → List V → St → Res V) (d : Nat) (x : SL) : Prop := ∀ (a : Act) (st : List Stmt) (f : Fmap) (ρ : Rho) (σ : St) (s : Shared), In C d a f ρ σ s → Own a → (a.A.handled = none ∨ calmSL x = true) → chkSL C.T a.ns a.sl a.n x st = true → WS C a f s (execs st a.env) (exL P co x ρ σ)
section
variable {C : Cx} {P : Prog} {co : Addr → List V → St → Res V} {d : Nat} {a : Act} {f f1 f2 : Fmap} {ρ ρ1 ρ2 : Rho} {σ σ1 σ2 : St} {s s1 s2 : Shared} {r : R Rho} {Q : Flow → Shared → Prop} {E : Value → Shared → Prop}
theorem not_interactive (g : a.Good d) : interactive a.env = false := by unfold interactive; rw [g.kind]; rfl
theorem noswap {e : Expr} {n : Nat} {env : Env} {t : Option Expr} (h : (!isComp e) = true) : swapsWith e t n env = pure false := by cases e <;> first | rfl | cases h
theorem noswapS {e t : Expr} {n : Nat} {env : Env} (h : (!isComp e) = true) : swapsWithSole [t] e n env = pure false := noswap (t := some t) h
theorem st_exp {x : X} (hx : SimX C P co d x) : SimS C P co d (.exp x) := by
  intro a st f ρ σ s I w hh hc
  apply sExpr_of hc
  exact fun e p hc => b2 hc fun c1 c2 Q E h => wpAny_Expr_any (seqTR I (hx a e f ρ σ s I (.inl (noCalm hh)) c1) h fun v σ1 val f1 s1 I1 q1 r1 h => h.next I1.S .refl) (not_interactive I.g) (noswap c2)
theorem st_ret {x : X} (hx : SimX C P co d x) : SimS C P co d (.ret x) := by
  intro a st f ρ σ s I w hh hc
  apply sReturn_of hc
  intro v p hc
  apply some?_of hc
  intro e c1 Q E h
  show wpAny _ _ (standAt p >>= fun _ => eval e a.env >>= fun v => pure (Flow.ret v)) _ _ _
  exact wpAny_bind (wpAny_standAt (wpAny_bind (seqTR I (hx a e f ρ σ s I hh c1) h fun v σ1 val f1 s1 I1 q1 r1 h => wpAny_pure (h.ok _ _ ⟨val, f1, rfl, r1, I1.S, .refl⟩))))
theorem st_ifs {c : X} {x y : SL} (hb : SimB C P co d c) (hx : SimSL C P co d x) (hy : SimSL C P co d y) : SimS C P co d (.ifs c x y) := by
  intro a st f ρ σ s I w hh hc
  have hh' := noCalm hh
  apply sIf_of hc
  refine fun t b o p hc => b4 hc fun t1 c1 c2 c3 Q E h => ?_
  rw [arm_exec_If]
  refine wpAny_bind (wpAny_standAt (wpAny_bind (seqTN I (hb a t f ρ σ s I (.inl hh') t1 c1) h fun v σ1 val f1 s1 I1 q1 r1 h => ?_)))
  cases r1
  cases v with
  | false => exact hy a o f1 ρ σ1 s1 I1 w (.inl hh') c3 _ _ h
  | true => exact hx a b f1 ρ σ1 s1 I1 w (.inl hh') c2 _ _ h
theorem sl_nil : SimSL C P co d .nil := fun a st f ρ σ s I w hh hc Q E h => nil?_of hc ▸ wpAny_pure (h.next I.S .refl)
theorem seqTL {t : Sem Flow} {K : Flow → Shared → Prop} {g : Rho → St → R Rho} (I : In C d a f ρ σ s) (h1 : WS C a f s t r) (h : ContS C a f s (r.thenL g) Q E)
    (h2 : ∀ ρ' σ' f' s', In C d a f' ρ' σ' s' → Stp a f s f' s' → ContS C a f' s' (g ρ' σ') Q E → K .next s') (h3 : ∀ v s', Q (.ret v) s' → K (.ret v) s') : wpAny (model C.prog C.w) a.A t K E s := by
  refine h1 K E ⟨fun e => h.ne (by rw [e]; rfl), fun fl s' pv => ?_, fun e s' he => ?_⟩
  · cases r with
    | next ρ' σ' => obtain ⟨rfl, f', S', p⟩ := pv; exact h2 ρ' σ' f' s' ⟨S', I.g, I.ap⟩ p (ContS.before h p)
    | ret v ρ' σ' => obtain ⟨val, f', rfl, q⟩ := pv; exact h3 val s' (h.ok _ _ ⟨val, f', rfl, q⟩)
    | exc => exact pv.elim
    | stuck => exact pv.elim
  · cases r with
    | exc => exact h.err e s' he
    | _ => exact he.elim
theorem sl_cons {x : QZ.S} {l : SL} (hx : SimS C P co d x) (hl : SimSL C P co d l) : SimSL C P co d (.cons x l) := by
  intro a st f ρ σ s I w hh hc
  apply cons?_of hc
  refine fun t ts hc => b2 hc fun c1 c2 Q E h => ?_
  rw [execs_cons]
  exact wpAny_bind (seqTL I (hx a t f ρ σ s I w (hh2 hh).1 c1) h (fun ρ' σ' f' s' I' p h => hl a ts f' ρ' σ' s' I' w (hh2 hh).2 c2 _ _ h) fun v s' q => wpAny_pure q)
theorem ContS.done {α : Type} {t : Sem α} {β : Type} {v : β} {Rl : Fmap → Heap → β → α → Prop} {K : α → Shared → Prop} (h : ContS C a f s (.next ρ σ1) Q E) (I : In C d a f ρ σ s) (k : wpAny (model C.prog C.w) a.A t (PV C (lx a) f s Rl (.ok v σ1)) E s) (hK : ∀ x s', Q .next s' → K x s') : wpAny (model C.prog C.w) a.A t K E s :=
  wpAny_mono k (fun x s' pv => pv.elim fun f' q => hK x s' (h.next (I.S.next q.1) (.of_post q.1))) fun _ _ x => x
theorem st_attr (O : Go C P co d) {o x : X} {m : Nat} (ho : SimX C P co d o) (hx : SimX C P co d x) : SimS C P co d (.asg (.attr o m) x) := by
  intro a st f ρ σ s I w hh hc
  have hh' := noCalm hh
  apply sAssign_of hc
  intro ts ve p hc
  apply one?_of hc
  refine fun te hc => b2 hc fun c0 hc => ?_
  apply eAttribute_of hc
  refine fun oe y tp hc => b4 hc fun c1 c2 c3 c4 Q E h => eq_of_beq c1 ▸ wpAny_Assign_stores ?_ (noswapS c4) (by rfl)
  refine seqTR I (hx a ve f ρ σ s I (.inl hh') c0) h fun v σ1 val f1 s1 I1 q1 r1 h => ?_
  show wpAny _ _ (holding [val] (eval oe a.env) >>= fun ov => standAt tp.atName >>= fun _ => holding [val, ov] (PySem.setAttr ov (attrStr m) val) >>= fun _ => release [val, ov] []) _ _ _
  refine wpAny_bind (wpAny_holding (seqTN I1 (ho a oe f1 ρ σ1 s1 I1 (.inl hh') c3) h fun ov σ2 oval f2 s2 I2 q2 r2 h => h.when fun hk h => h.of fun σ3 hs h => ?_))
  exact wpAny_bind (wpAny_standAt (wpAny_bind (wpAny_holding (h.done I2 (op_setAttr O.G I2.S I2.ap c2 (cls_of O hk) r2 (q2.rel I1.S r1) hs) fun _ _ q => wpAny_release q))))
end
end QZ
namespace QZ
open PySem PySem.W PySem.Calls PyProof.Rows
section
variable {C : Cx} {P : Prog} {co : Addr → List V → St → Res V} {d : Nat} {a : Act} {f f1 f2 : Fmap} {ρ ρ1 ρ2 : Rho} {σ σ1 σ2 : St} {s s1 s2 : Shared} {Q : Flow → Shared → Prop} {E : Value → Shared → Prop}
theorem st_item (O : Go C P co d) {o i x : X} (ho : SimX C P co d o) (hi : SimX C P co d i) (hx : SimX C P co d x) : SimS C P co d (.asg (.item o i) x) := by
  intro a st f ρ σ s I w hh hc
  have hh' := noCalm hh
  apply sAssign_of hc
  intro ts ve p hc
  apply one?_of hc
  refine fun te hc => b2 hc fun c0 hc => ?_
  apply eSubscript_of hc
  refine fun oe ie tp hc => b3 hc fun c1 c2 c3 Q E h => wpAny_Assign_Subscript ?_ (noswap c3)
  refine seqTR I (hx a ve f ρ σ s I (.inl hh') c0) h fun v σ1 val f1 s1 I1 q1 r1 h => ?_
  refine seqTN I1 (ho a oe f1 ρ σ1 s1 I1 (.inl hh') c1) h fun ov σ2 oval f2 s2 I2 q2 r2 h => ?_
  refine seqTN I2 (hi a ie f2 ρ σ2 s2 I2 (.inl hh') c2) h fun iv σ3 ival f3 s3 I3 q3 r3 h => h.of fun σ4 hs h => ?_
  exact h.done I3 (op_setItem I3.S I3.g.unitsLt (q3.rel I2.S r2) r3 (q3.rel I2.S (q2.rel I1.S r1)) hs) fun _ _ q => q
theorem ContS.named (h : ContS C a f s (.next ρ1 σ) Q E) (I : In C d a f ρ σ s) {s' : Shared} (S' : Sp C a f ρ1 σ s') (t : Turn (frA a) s s') : Q .next s' := h.next S' (.of_turn I.g S' t)
theorem st_name0 {i : Nat} {x : X} (hx : SimX C P co d x) {y : Str} {tp : Pos} {ve : Expr} {p : Pos} (I : In C d a f ρ σ s) (hh' : a.A.handled = none) (c1 : a.sl.lookup y = some i) (c2 : storable a.ns y = true) (c3 : chkX C.T a.ns a.sl a.n x ve = true) (c4 : swapsWith ve (some (.Name y tp)) p.line a.env = pure false) :
    WS C a f s (exec (.Assign [.Name y tp] ve p) a.env) (exS P co (.asg (.name i) x) ρ σ) := by
  refine fun Q E h => wpAny_Assign_stores (seqTR I (hx a ve f ρ σ s I (.inl hh') c3) h fun v σ1 val f1 s1 I1 q1 r1 h => ?_) c4 (by rfl)
  show wpAny _ _ (assign (.Name y tp) a.env val) _ _ _
  exact wpAny_assign_Name (store1 I1.g I1.ap I1.S c1 (frA_ok c1 c2) r1 fun s2 S2 t2 => h.named I1 S2 t2)
end
end QZ
namespace QZ
open PySem PySem.W PySem.Calls PyProof.Rows
section
variable {C : Cx} {P : Prog} {co : Addr → List V → St → Res V} {d : Nat} {a : Act} {f f1 f2 : Fmap} {ρ ρ1 ρ2 : Rho} {σ σ1 σ2 : St} {s s1 s2 : Shared}
theorem funFrames_at {base h h' : Heap} {l : List Env} (x : h.FunFrames base l) (k : ∀ b ∈ frs l, ∀ o, h.get? b = some o → h'.get? b = some o) : h'.FunFrames base l := by
  induction l with
  | nil => trivial
  | cons env l ih =>
    obtain ⟨hk, ⟨L, o, hf, hb, ho, hd⟩, hr⟩ := x
    have e : frs (env :: l) = L :: frs l := by unfold frs; rw [List.filterMap_cons, hf]
    rw [e] at k
    exact ⟨hk, ⟨L, o, hf, hb, k L (.head _) o ho, hd⟩, ih hr fun b hb => k b (.tail _ hb)⟩
theorem Celled.keep {x : Str} {q : Option V} {c : Addr} {ov : Option Value} {h h' : Heap} (o : Celled a.env f h x q c ov) (z : Fz h h') (k : ∀ o, h.get? c = some o → h'.get? c = some o) : Celled a.env f h' x q c ov := ⟨o.at_, o.out, isCell_of o.cell k, o.rel.mono (Pre.refl _) z⟩
theorem Sp.turn (S : Sp C a f ρ σ s) {own : List Addr} (hf : ∀ b ∈ own, b ∉ f) (nz : ∀ b ∈ own, ∀ o, s.heap.get? b = some o → ¬ Frozen o) (hb : ∀ b ∈ own, C.base.get? b = none) (hL : a.env.locals ∉ own) (hc : ∀ x i c, a.sl.lookup x = some i → a.env.kindOf x ≠ some .local → a.env.cells.lookup x = some c → c ∉ own)
    (hfr : ∀ b ∈ frs a.envs, b ∉ own) (t : Turn own s s1) : Sp C a f ρ σ s1 := by
  have z := t.fz nz
  have k := t.keep
  obtain ⟨m, hm, hsl⟩ := S.fr.ns
  refine ⟨S.ok.turn hf nz hb k, ⟨S.fr.len, ⟨m, ns_of hm fun o e => k _ o hL e, fun x i e => (hsl x i e).imp fun q h => ⟨h.1, ?_⟩⟩, S.fr.out, funFrames_at S.fr.ff fun b hb o e => k b o (hfr b hb) e, S.fr.fout, fun e he L hL => (S.fr.fns e he L hL).imp fun m' hm' => ns_of hm' fun o e' => k L o (hfr L (List.mem_filterMap.mpr ⟨e, he, hL⟩)) e'⟩, t.gens.trans S.gens, t.os.trans S.os⟩
  cases h.2 with
  | loc k' o => exact .loc k' (o.mono (Pre.refl _) z)
  | cell k' o => exact .cell k' (o.keep z fun ob e' => k _ ob (hc x i _ e (by rw [k']; nofun) o.at_) e')
  | free k' o => exact .free k' (o.keep z fun ob e' => k _ ob (hc x i _ e (by rw [k']; nofun) o.at_) e')
theorem own_new (g : a.Good d) (S : Sp C a f ρ σ s) {own : List Addr} (hn : ∀ b ∈ own, s.heap.get? b = none) : (∀ b ∈ frA a, b ∉ own) ∧ ∀ b ∈ frs a.envs, b ∉ own :=
  ⟨fun b hb q => (own_live g S b hb).elim fun o e => (by rw [hn b q] at e; cases e), fun b hb q => (frs_there S.fr.ff hb).elim fun o e => (by rw [hn b q] at e; cases e)⟩
theorem turn_out (g : a.Good d) (S : Sp C a f ρ σ s) (S1 : Sp C a f1 ρ1 σ1 s1) (p : Stp a f s f1 s1) {own : List Addr} (hn : ∀ b ∈ own, s.heap.get? b = none) (hf : ∀ b ∈ own, b ∉ f1) (nz : ∀ b ∈ own, ∀ o, s1.heap.get? b = some o → ¬ Frozen o) (t : Turn own s1 s2) : Sp C a f1 ρ1 σ1 s2 ∧ Stp a f s f1 s2 := by
  have nw := own_new g S hn
  have hb : ∀ b o, s.heap.get? b = some o → b ∉ own := fun b o e q => by rw [hn b q] at e; cases e
  refine ⟨S1.turn hf nz (fun b hb => base_none S (hn b hb)) (nw.1 _ (.head _)) (fun x i c h1 hk h2 z => ?_) nw.2 t, p.app, fun b o e hx => t.keep b o (hb b o e) (p.ext b o e hx), fun L hL hA m n => ?_, fun b o e => (p.live b o e).imp fun o' e' => t.keep b o' (hb b o e) e'⟩
  · obtain ⟨m0, hm0, hsl⟩ := S.fr.ns
    obtain ⟨q', q1, q2⟩ := hsl x i h1
    cases q2 with
    | loc k _ => exact hk k
    | cell _ o' => cases o'.at_.symm.trans h2; exact (cell_soft o'.cell).elim fun ob e => hb _ ob e.1 z
    | free _ o' => cases o'.at_.symm.trans h2; exact (cell_soft o'.cell).elim fun ob e => hb _ ob e.1 z
  · exact ns_of (p.ns L hL hA m n) fun o e => t.keep L o (n.elim fun o0 q => q.elim fun _ q => q.elim fun _ q => hb L o0 q.1) e
theorem swaps_of (g : a.Good d) {y : Str} {tp : Pos} {n : Nat} {elt : Expr} {gens : List Comprehension} {scope : Scope} {pos : Pos} (h : swaps a.ns y tp (.ListComp elt gens scope pos) = true) : swapsWith (.ListComp elt gens scope pos) (some (.Name y tp)) n a.env = pure true := by
  have e1 : a.env.blockKind = .function := by unfold Env.blockKind; rw [g.kind]; rfl
  have e2 : a.env.kindOf y = a.ns.lookup y := congrArg (·.lookup y) g.names
  refine b3 (show (a.ns.lookup y == some .local && (tp.line == pos.line && !(scope.names.any fun (n, k) => n == y && (k == .local || k == .cell)))) = true from h) fun h1 h2 h3 => ?_
  show (pure (a.env.blockKind == .function && a.env.kindOf y == some .local && tp.line == pos.line && !(scope.names.any fun (n, k) => n == y && (k == .local || k == .cell))) : Sem Bool) = pure true
  rw [e1, e2, h1, h2, h3]
  rfl
section
variable {α : Type} {q : Res α} {g : α → St → R Rho} {Q : Flow → Shared → Prop} {E : Value → Shared → Prop}
theorem ContS.errR (h : ContS C a f s (q.thenR ρ g) Q E) (S : Sp C a f ρ σ s) (e : Value) (s' : Shared) (he : PE C (lx a) a.envs f s q e s') : E e s' := by
  cases q with
  | exc c m σ' => obtain ⟨f', ea, he, k⟩ := he; exact h.err e s' ⟨f', ea, he, k.toS S⟩
  | _ => exact he.elim
end
theorem exS_comp {i : Nat} {e : X} {t : T} {src : Src} {c : XL} {k : Nat} : exS P co (.asg (.name i) (.comp e t src c k)) ρ σ = (compR P co e t src c k ρ σ).thenR ρ fun acc σ => .next (ρ.set i (some (.loc σ.length))) (σ ++ [.list acc]) := by
  refine (congrArg (fun r => r.thenR ρ fun v σ => evA P co (.name i) v ρ σ) evX_comp).trans ?_
  cases compR P co e t src c k ρ σ <;> rfl
theorem st_comp (O : Go C P co d) {i : Nat} {e : X} {t : T} {src : Src} {cond : XL} {k : Nat} (hs : AllSrc (SimX C P co d) src) (he : SimX C P co d e) (hcd : AllS (SimB C P co d) cond) (I : In C d a f ρ σ s) (hh : a.A.handled = none) {y : Str} {tp p : Pos} {ve : Expr} (c1 : a.sl.lookup y = some i) (c2 : storable a.ns y = true) (c3 : chkX C.T a.ns a.sl a.n (.comp e t src cond k) ve = true)
    (c4 : swaps a.ns y tp ve = true) : WS C a f s (exec (.Assign [.Name y tp] ve p) a.env) (exS P co (.asg (.name i) (.comp e t src cond k)) ρ σ) := by
  revert c4
  apply chk_comp (M := fun k ve => swaps a.ns y tp ve = true → WS C a f s (exec (.Assign [.Name y tp] ve p) a.env) (exS P co (.asg (.name i) (.comp e t src cond k)) ρ σ)) c3
  intro elt tg iter ifs scope pos c c4
  rw [exS_comp]
  intro Q E h
  have es : exec (.Assign [.Name y tp] (.ListComp elt [⟨tg, iter, ifs, 0⟩] scope pos) p) a.env = (do
      standAt p
      if ← swapsWith (.ListComp elt [⟨tg, iter, ifs, 0⟩] scope pos) (some (.Name y tp)) p.line a.env then do
        evalThenUse (.ListComp elt [⟨tg, iter, ifs, 0⟩] scope pos) a.env fun v => assign (.Name y tp) a.env v
        pure .next
      else do
        let v ← eval (.ListComp elt [⟨tg, iter, ifs, 0⟩] scope pos) a.env
        assignStores a.env v (← swappedStores [.Name y tp] (.ListComp elt [⟨tg, iter, ifs, 0⟩] scope pos) a.env) ((assignEach [.Name y tp] a.env).map (·.2))) := rfl
  rw [es, swaps_of I.g c4]
  refine wpAny_bind (wpAny_standAt (wpAny_bind (wpAny_pure ?_)))
  rw [if_pos rfl]
  show wpAny _ _ ((comprehension (.ListComp elt [⟨tg, iter, ifs, 0⟩] scope pos) scope a.env (firstIterPos [⟨tg, iter, ifs, 0⟩] pos) (newList []) false (eval iter a.env) (some (fun v => assign (.Name y tp) a.env v)) >>= fun _ => pure ()) >>= fun _ => pure Flow.next) _ _ _
  refine wpAny_bind (wpAny_bind ?_)
  refine comp_core O I hh hs he hcd c.ok c.kind c.ck c.itr c.enm c.evn (fun q => h.ne (by rw [q]; rfl)) (h.errR I.S) fun D C0 acc σF f2 s2 e1 x => ?_
  rw [e1] at h
  obtain ⟨its, cc, d1, d2⟩ := x.acc
  obtain ⟨m, hns⟩ := x.ns
  have p3 := x.post.adopt I.S (o := .list acc) x.Dn d1 x.Df (base_none I.S x.Dn) (fun b o e _ => e) (fun z2 => ⟨its, cc, d1, d2.mono (Pre.app _ _) z2⟩) list_notFrozen s2.toks
  refine wpAny_assign_Name (store1 I.g I.ap (I.S.next p3) c1 (frA_ok c1 c2) (rel_new x.post.ok.len) fun s4 S4 t4 => ?_)
  have on : ∀ b ∈ [C0], s.heap.get? b = none := fun b hb => one_mem hb ▸ x.Cn
  have hns4 : s4.heap.Ns C0 m := ns_of hns fun o e => t4.keep C0 o (fun q => (own_new I.g I.S on).1 C0 q (.head _)) e
  refine ⟨m, hns4, fun h' sb => wpAny_pure (wpAny_pure ?_)⟩
  have nf : ∀ b ∈ [C0], b ∉ f2 ++ [D] := fun b hb q => (List.mem_append.mp q).elim (fun q => x.Cf (one_mem hb ▸ q)) fun q => x.DC ((one_mem q).symm.trans (one_mem hb))
  have S5 := turn_out I.g I.S S4 ((Stp.of_post p3).trans (.of_turn I.g S4 t4)) on nf (fun b hb o e => ns_notFrozen hns4 (one_mem hb ▸ e)) (Turn.one sb s4.toks)
  exact h.next S5.1 S5.2
theorem st_name (O : Go C P co d) (Z : SpreadOk C P co d) {i : Nat} {x : X} (hx : SimX C P co d x) : SimS C P co d (.asg (.name i) x) := by
  intro a st f ρ σ s I w hh hc
  have hh' := noCalm hh
  apply sAssign_of hc
  intro ts ve p hc
  apply one?_of hc
  refine fun te hc => b2 hc fun c0 hc => ?_
  apply eName_of hc
  refine fun y tp hc => b4 hc fun c1 c2 c3 c4 => ?_
  cases hcm : isComp ve with
  | false => exact st_name0 hx I hh' (eq_of_beq c1) c2 c0 (noswap (by rw [hcm]; rfl))
  | true =>
    rw [hcm] at c4
    revert hx c0
    apply xcomp_of c4
    exact fun e t src cond k _ hx c0 => st_comp O (simXBS O Z src) (simXB O Z e).1 (simXBL O Z cond).2 I hh' (eq_of_beq c1) c2 c0 ((eq_of_beq c3).symm.trans hcm)
end
end QZ
namespace QZ
open PySem PySem.W PySem.Calls PyProof.Rows
structure AllNames (ns : Names) (φ : Expr → Option Str) (ts : List Expr) : Prop where
  eq : ts.filterMap φ = namesOf ts
  loc : ∀ x ∈ namesOf ts, ns.lookup x = some .local
theorem filterMap_all {ns : Names} {sl : Slots} {φ : Expr → Option Str} (hφ : ∀ y p x, φ (.Name y p) = some x → y = x ∧ ns.lookup x = some .local) {is : List Nat} : ∀ {ts : List Expr}, chkN ns sl is ts = true → (ts.filterMap φ).length = ts.length → AllNames ns φ ts := by
  induction is with
  | nil => exact fun h _ => nil?_of h ▸ ⟨rfl, fun _ q => nomatch q⟩
  | cons i is ih =>
    intro ts h
    apply chkN_of h
    intro x p ts _ _ h hl
    cases hq : φ (.Name x p) with
    | none =>
      rw [List.filterMap_cons, hq] at hl
      exact absurd hl (Nat.ne_of_lt (Nat.lt_succ_of_le (List.length_filterMap_le φ ts)))
    | some y =>
      rw [List.filterMap_cons, hq] at hl
      have r := ih h (Nat.succ.inj hl)
      obtain ⟨rfl, e⟩ := hφ _ _ _ hq
      exact ⟨by rw [List.filterMap_cons, hq, r.eq]; rfl, fun z hz => (List.mem_cons.mp hz).elim (fun q => q ▸ e) (r.loc z)⟩
section
variable {C : Cx} {P : Prog} {co : Addr → List V → St → Res V} {d : Nat} {a : Act} {f f1 f2 : Fmap} {ρ ρ1 ρ2 : Rho} {σ σ1 σ2 : St} {s s1 s2 : Shared} {A : Around} {E : Value → Shared → Prop}
theorem sw_eq (g : a.Good d) {ts vs : List Expr} {k k' : Nat} {p p' : Pos} (hst' : vs.any starred = false) {r : Option (List Str)} (h : swStat a.ns ts vs = some r) : swappedStores [.Tuple ts k p] (.Tuple vs k' p') a.env = pure r := by
  have e1 : a.env.blockKind = .function := by unfold Env.blockKind; rw [g.kind]; rfl
  have e2 : ∀ y, a.env.kindOf y = a.ns.lookup y := fun y => congrArg (·.lookup y) g.names
  have hst : vs.any (fun | .Starred .. => true | _ => false) = false := (congrArg vs.any (funext fun e => by cases e <;> rfl)).trans hst'
  unfold swStat at h
  unfold swappedStores
  simp only [e1, e2, hst, bne_self_eq_false, Bool.or_false, Bool.false_eq_true, if_false]
  split at h
  · rename_i q; cases h; rw [if_pos q]
  · rename_i q
    rw [if_neg q]
    simp only at h
    refine (if_neg fun q => Bool.false_ne_true (hst.symm.trans q)).trans ?_
    split at h
    · rename_i q2; cases h
      exact if_pos q2
    · rename_i q2
      refine (if_neg q2).trans ?_
      split at h
      · rename_i q3; cases h
        exact if_pos q3
      · rename_i q3
        refine (if_neg q3).trans ?_
        split at h
        · cases h
        · rename_i q4
          cases h
          exact if_neg q4
theorem seqStore (g : a.Good d) (ap : a.Apart C) {ws : List Addr} (hz : wsIn a ws) {s₀ : Shared} {Q : Unit → Shared → Prop} {L : List (Str × Nat × V × Value)} : ∀ {ρ : Rho} {s : Shared}, (∀ q ∈ L, a.sl.lookup q.1 = some q.2.1 ∧ wsOk a ws q.1 ∧ Rel f s.heap q.2.2.1 q.2.2.2) → Sp C a f ρ σ s → Turn ws s₀ s → (∀ s', Sp C a f (L.foldl (fun ρ q => ρ.set q.2.1 (some q.2.2.1)) ρ) σ s' → Turn ws s₀ s' → Q () s') →
    wpAny (model C.prog C.w) A (assignInOrder (L.map fun q => bindName a.env q.1) (L.map fun q => q.2.2.2)) Q E s := by
  induction L with
  | nil => exact fun _ S t hQ => wpAny_pure (hQ _ S t)
  | cons q L ih =>
    intro ρ s h S t hQ
    have k := h q (.head _)
    show wpAny _ _ (holding (L.map fun q => q.2.2.2) (bindName a.env q.1 q.2.2.2) >>= fun _ => assignInOrder (L.map fun q => bindName a.env q.1) (L.map fun q => q.2.2.2)) _ _ _
    exact wpAny_bind (wpAny_holding (wpAny_bindName (store1 g ap S k.1 k.2.1 k.2.2 fun s1 S1 t1 => ih (fun q' hq => have k := h q' (.tail _ hq); ⟨k.1, k.2.1, k.2.2.mono (Pre.refl _) (t1.fz fun b hb => (hz.fz g S b hb).1)⟩) S1 (t.trans t1) hQ)))
theorem addI_of {x y v : V} (h : addI x y = some v) : ∃ m n, x = .int m ∧ y = .int n ∧ v = .int (m + n) := by
  cases x with
  | int m =>
    cases y with
    | int n => exact ⟨m, n, rfl, rfl, (Option.some.inj h).symm⟩
    | _ => cases h
  | _ => cases h
theorem st_aug (O : Go C P co d) {o i x : X} {op : Operator} (ho : SimX C P co d o) (hi : SimX C P co d i) (hx : SimX C P co d x) : SimS C P co d (.aug o i op x) := by
  intro a st f ρ σ s I w hh hc
  have hh' := noCalm hh
  apply sAugAssign_of hc
  refine fun te o' ve p hc => b3 hc fun e1 e2 hc => eq_of_beq e1 ▸ ?_
  apply eSubscript_of hc
  refine fun oe ie tp hc => b4 hc fun c0 c1 c2 c3 Q E h => wpAny_AugAssign_SubscriptAny ?_ (by
    intro ov iv new
    cases ie <;> first | rfl | cases c0)
  refine seqTN I (ho a oe f ρ σ s I (.inl hh') c1) h fun ov σ1 oval f1 s1 I1 q1 r1 h => ?_
  refine seqTN I1 (hi a ie f1 ρ σ1 s1 I1 (.inl hh') c2) h fun iv σ2 ival f2 s2 I2 q2 r2 h => h.of fun old hg h => ?_
  refine wpAny_mono (op_getItem (ex := lx a) (E := E) I2.S (q2.rel I1.S r1) r2 hg).2 (fun oldv s3 h3 => h3.elim fun f3 h3 => ?_) fun _ _ x => x
  have I3 := I2.next h3.1
  refine seqTN I3 (hx a ve f3 ρ σ2 s3 I3 (.inl hh') c3) (h.before (.of_post h3.1)) fun v σ4 val f4 s4 I4 q4 r4 h => h.of fun nw ha h => ?_
  obtain ⟨m1, m2, rfl, rfl, rfl⟩ := addI_of ha
  have r3 := q4.rel I3.S h3.2
  rw [Rel] at r3 r4
  obtain ⟨tk1, rfl⟩ := r3
  obtain ⟨tk2, rfl⟩ := r4
  refine wpAny_iadd_int (h.of fun σ5 hs h => ?_)
  have p5 : Post C (lx a) f4 s4 f4 σ4 { s4 with toks := s4.toks + 1 } := postGrow I4.S (fun _ _ e => e) _
  have ro := q4.rel I3.S ((q2.rel I1.S r1).mono h3.1.nxt.pre (h3.1.fz I2.S))
  have ri := q4.rel I3.S (r2.mono h3.1.nxt.pre (h3.1.fz I2.S))
  exact (h.before (.of_post p5)).done (I4.next p5) (op_setItem (I4.S.next p5) I4.g.unitsLt ro ri rel_int hs) fun _ _ q => q
end
end QZ
namespace QZ
open PySem PySem.W PySem.Calls PyProof.Rows
noncomputable abbrev Q4 := Str × Nat × V × Value
noncomputable def setF (ρ : Rho) (q : Q4) : Rho := ρ.set q.2.1 (some q.2.2.1)
theorem set_comm2 {ρ : Rho} {p q : Q4} (h : p.2.1 ≠ q.2.1) : setF (setF ρ p) q = setF (setF ρ q) p := List.set_comm _ _ h
theorem mem_eq {x y : Nat} {l : List Nat} (e : x = y) (h : y ∈ l) : x ∈ l := e ▸ h
theorem fold_rev {L : List Q4} {ρ : Rho} (hl : L.length = 2 ∨ L.length = 3) (hn : (L.map fun q => q.2.1).Nodup) : L.reverse.foldl setF ρ = L.foldl setF ρ := by
  cases L with
  | nil => rfl
  | cons p L =>
    have n1 := List.nodup_cons.mp hn
    cases L with
    | nil => rfl
    | cons q L =>
      have n2 := List.nodup_cons.mp n1.2
      have pq : p.2.1 ≠ q.2.1 := fun e => n1.1 (mem_eq e (.head _))
      cases L with
      | nil => exact set_comm2 pq.symm
      | cons r L =>
        cases L with
        | cons => rcases hl with hl | hl <;> cases hl
        | nil =>
          have pr : p.2.1 ≠ r.2.1 := fun e => n1.1 (mem_eq e (.tail _ (.head _)))
          have qr : q.2.1 ≠ r.2.1 := fun e => n2.1 (mem_eq e (.head _))
          show setF (setF (setF ρ r) q) p = setF (setF (setF ρ p) q) r
          rw [set_comm2 (ρ := ρ) qr.symm, set_comm2 (ρ := setF ρ q) pr.symm, set_comm2 (ρ := ρ) pq.symm]
section
variable {C : Cx} {P : Prog} {co : Addr → List V → St → Res V} {d : Nat} {a : Act} {f f1 f2 : Fmap} {ρ ρ1 ρ2 : Rho} {σ σ1 σ2 : St} {s s1 s2 : Shared} {A : Around} {E : Value → Shared → Prop}
structure Zip (a : Act) (f : Fmap) (h : Heap) (es : List Expr) (is : List Nat) (vals : List Value) (ρ ρ' : Rho) (L : List Q4) : Prop where
  names : L.map (·.1) = namesOf es
  vals : L.map (fun q => q.2.2.2) = vals
  idx : L.map (fun q => q.2.1) = is
  fold : ρ' = L.foldl setF ρ
  all : ∀ q ∈ L, a.sl.lookup q.1 = some q.2.1 ∧ storable a.ns q.1 = true ∧ Rel f h q.2.2.1 q.2.2.2
  len : es.length = is.length
theorem zip_facts {h : Heap} {ρ' : Rho} {is : List Nat} : ∀ {es : List Expr} {vs : List V} {vals : List Value} {ρ : Rho}, chkN a.ns a.sl is es = true → setAll is vs ρ = some ρ' → RelL f h vs vals → ∃ L, Zip a f h es is vals ρ ρ' L := by
  induction is with
  | nil =>
    intro es vs vals ρ hc he r
    obtain ⟨rfl, rfl⟩ := setAll_nil he
    obtain rfl := nil?_of hc
    rw [RelL] at r
    exact ⟨[], rfl, r.symm, rfl, rfl, fun q hq => (nomatch hq), rfl⟩
  | cons i is ih =>
    intro es vs vals ρ hc
    apply chkN_of hc
    refine fun x p es h1 h2 h3 he r => setAll_of he fun v ws e he => ?_
    subst e
    obtain ⟨val, vals', rfl, rv, rl⟩ := r
    obtain ⟨L, z⟩ := ih h3 he rl
    exact ⟨(x, i, v, val) :: L, congrArg (x :: ·) z.names, congrArg (val :: ·) z.vals, congrArg (i :: ·) z.idx, z.fold, fun q hq => (List.mem_cons.mp hq).elim (fun e => e ▸ ⟨h1, h2, rv⟩) (z.all q), congrArg (· + 1) z.len⟩
theorem idx_mem (g : a.Good d) {i : Nat} {x : Str} (hx : a.sl.lookup x = some i) {is : List Nat} : ∀ {es : List Expr}, chkN a.ns a.sl is es = true → i ∈ is → x ∈ namesOf es := by
  induction is with
  | nil => exact fun _ h => nomatch h
  | cons j is ih =>
    intro es hc
    apply chkN_of hc
    exact fun y p es h1 _ h3 hi => (List.mem_cons.mp hi).elim (fun e => g.slinj x y j (e ▸ hx) h1 ▸ .head _) fun hi => .tail _ (ih h3 hi)
theorem idx_nodup (g : a.Good d) {is : List Nat} : ∀ {es : List Expr}, chkN a.ns a.sl is es = true → (namesOf es).Nodup → is.Nodup := by
  induction is with
  | nil => exact fun _ _ => List.nodup_nil
  | cons i is ih =>
    intro es hc
    apply chkN_of hc
    exact fun x p es h1 _ h3 hn => have hn := List.nodup_cons.mp hn
      List.nodup_cons.mpr ⟨fun q => hn.1 (idx_mem g h1 h3 q), ih h3 hn.2⟩
theorem names_in {x : Str} {is : List Nat} : ∀ {es : List Expr}, chkN a.ns a.sl is es = true → x ∈ namesOf es → wsOk a (frA a) x := by
  induction is with
  | nil => exact fun hc h => by rw [nil?_of hc] at h; cases h
  | cons j is ih =>
    intro es hc
    apply chkN_of hc
    exact fun y p es h1 h2 h3 h => (List.mem_cons.mp h).elim (fun e => e ▸ frA_ok h1 h2) (ih h3)
theorem tg_ok {t : QZ.T} {tg : Expr} (h : chkTS a.ns a.sl t tg = true) : ∀ x ∈ tgNames tg, wsOk a (frA a) x := by
  cases t with
  | var i =>
    apply eName_of h
    exact fun y p h x hx => b2 h fun h1 h2 => List.mem_singleton.mp hx ▸ frA_ok (eq_of_beq h1) h2
  | tup is =>
    apply eTuple_of h
    exact fun es k p h x hx => b2 h fun h1 _ => names_in h1 hx
structure Swap (ns : Names) (es : List Expr) (names : List Str) : Prop where
  eq : names = namesOf es
  len : es.length = 2 ∨ es.length = 3
theorem swap_of {ns : Names} {sl : Slots} {is : List Nat} {es vs : List Expr} {names : List Str} (c1 : chkN ns sl is es = true) (hr : swStat ns es vs = some (some names)) : Swap ns es names := by
  unfold swStat at hr
  split at hr
  · cases hr
  · next q =>
    simp only at hr
    split at hr
    · cases hr
    · next q2 =>
      split at hr
      · cases hr
      · split at hr
        · cases hr
        · cases hr
          simp only [Bool.or_eq_true, not_or, bne_iff_ne, ne_eq, Decidable.not_not] at q2
          refine ⟨(filterMap_all (fun y p x he => ?_) c1 q2.1).eq, ?_⟩
          · simp only at he
            split at he
            · next q3 => cases he; exact b2 q3 fun q3 _ => ⟨rfl, eq_of_beq q3⟩
            · cases he
          · simp only [Bool.or_eq_true, not_or, Bool.not_eq_true', Bool.not_eq_false, beq_iff_eq] at q
            exact q.1
theorem st_tup0 {is : List Nat} {x : X} (hx : SimX C P co d x) (I : In C d a f ρ σ s) (hh : a.A.handled = none) {es : List Expr} {k : Nat} {tp p : Pos} {ve : Expr} (c1 : chkN a.ns a.sl is es = true) (c2 : decide (namesOf es).Nodup = true) (c3 : chkX C.T a.ns a.sl a.n x ve = true) (c4 : (!isComp ve) = true) (hw : swappedStores [.Tuple es k tp] ve a.env = pure none) :
    WS C a f s (exec (.Assign [.Tuple es k tp] ve p) a.env) (exS P co (.asg (.tup is) x) ρ σ) := by
  have ct : chkTS a.ns a.sl (.tup is) (.Tuple es k tp) = true := Bool.and_eq_true_iff.mpr ⟨c1, c2⟩
  refine fun Q E h => wpAny_Assign_stores (seqTR I (hx a ve f ρ σ s I (.inl hh) c3) h fun v σ1 val f1 s1 I1 q1 r1 h => ?_) (noswapS c4) hw
  show wpAny _ _ (assign (.Tuple es k tp) a.env val) _ _ _
  cases v with
  | tup vs => exact ContS.of h fun ρ' hs h => setT_sim (t := .tup is) I1.g I1.ap hh frA_in ct (tg_ok ct) (v := .tup vs) hs r1 I1.S fun s2 S2 t2 => h.named I1 S2 t2
  | _ => exact h.no
theorem st_tup1 {is : List Nat} {x : X} (hx : SimX C P co d x) (I : In C d a f ρ σ s) (hh : a.A.handled = none) {es : List Expr} {k : Nat} {tp p : Pos} {ve : Expr} (c1 : chkN a.ns a.sl is es = true) (c2 : (namesOf es).Nodup) (c3 : chkX C.T a.ns a.sl a.n x ve = true) (c4 : (!isComp ve) = true) (hw : swappedStores [.Tuple es k tp] ve a.env = pure (some (namesOf es))) (hlen : es.length = 2 ∨ es.length = 3) :
    WS C a f s (exec (.Assign [.Tuple es k tp] ve p) a.env) (exS P co (.asg (.tup is) x) ρ σ) := by
  intro Q E h
  rw [exec_Assign_arm]
  refine wpAny_bind (wpAny_standAt ?_)
  rw [noswapS c4]
  refine wpAny_bind (wpAny_pure ?_)
  rw [if_neg (by decide)]
  refine wpAny_bind (seqTR I (hx a _ f ρ σ s I (.inl hh) c3) h fun v σ1 val f1 s1 I1 q1 r1 h => ?_)
  rw [hw]
  cases v with
  | tup vvs =>
    refine wpAny_bind (wpAny_pure (ContS.of h fun ρ' hs h => ?_))
    rw [Rel] at r1
    obtain ⟨D, items, rfl, ht, rl⟩ := r1
    obtain ⟨L, z⟩ := zip_facts c1 hs rl
    have hsz : items.size = (namesOf es).length := by rw [← Array.length_toList, ← z.vals, ← z.names, List.length_map, List.length_map]
    show wpAny _ _ (rule "assign.swapped-stores" >>= fun _ => unpackItems (.ref D) (namesOf es).length none >>= fun its => assignInOrder ((namesOf es).reverse.map fun n => bindName a.env n) its.reverse >>= fun _ => pure Flow.next) _ _ _
    refine wpAny_bind (wpAny_rule (wpAny_bind ?_))
    rw [← hsz]
    refine wpAny_unpackItems_tuple hh ht fun h' hxx => ?_
    have keep : ∀ b o, s1.heap.get? b = some o → h'.get? b = some o := fun b o e => hxx b o (Nat.ne_of_lt (Heap.lt_size e)) e
    have p2 : Post C (lx a) f1 s1 f1 σ1 { s1 with heap := h' } := postGrow I1.S keep s1.toks
    have I2 := I1.next p2
    have e1 : ((namesOf es).reverse.map fun n => bindName a.env n) = (L.reverse.map fun q => bindName a.env q.1) := by
      rw [← z.names, ← List.map_reverse, List.map_map]; rfl
    rw [e1, show items.toList.reverse = L.reverse.map fun q => q.2.2.2 by rw [List.map_reverse, z.vals]]
    refine wpAny_bind (seqStore I1.g I1.ap frA_in (fun q hq => have y := z.all q (List.mem_reverse.mp hq); ⟨y.1, frA_ok y.1 y.2.1, y.2.2.mono (Pre.refl _) fun b o e _ => keep b o e⟩) I2.S (Turn.refl _ _) fun s3 S3 t3 => wpAny_pure ?_)
    have hfold : L.reverse.foldl setF ρ = ρ' := (fold_rev (by rw [← List.length_map (f := fun q : Q4 => q.2.1), z.idx, ← z.len]; exact hlen) (z.idx ▸ idx_nodup I1.g c1 c2)).trans z.fold.symm
    exact (h.before (.of_post p2)).named I2 (hfold ▸ S3) t3
  | _ => exact h.no
theorem swapped_none {es : List Expr} {k : Nat} {tp : Pos} {ve : Expr} {env : Env} (h : (!(Nat.beq ve.ctorIdx 25)) = true) : swappedStores [.Tuple es k tp] ve env = pure none := by cases ve <;> first | rfl | cases h
theorem st_tup {is : List Nat} {x : X} (hx : SimX C P co d x) : SimS C P co d (.asg (.tup is) x) := by
  intro a st f ρ σ s I w hh hc
  have hh' := noCalm hh
  apply sAssign_of hc
  intro ts ve p hc
  apply one?_of hc
  refine fun te hc => b2 hc fun c3 hc => ?_
  apply eTuple_of hc
  refine fun es k tp hc => b4 hc fun c1 c2 c4 c5 => ?_
  rcases Bool.or_eq_true_iff.mp c5 with c5 | c5
  · exact st_tup0 hx I hh' c1 c2 c3 c4 (swapped_none c5)
  · revert c3 c4
    apply eTuple_of c5
    refine fun vs k' p' c5 c3 c4 => b2 c5 fun c6 c7 => ?_
    obtain ⟨r, hr⟩ := Option.isSome_iff_exists.mp c7
    have hw := sw_eq (k := k) (p := tp) (k' := k') (p' := p') I.g (not_false' c6) hr
    cases r with
    | none => exact st_tup0 hx I hh' c1 c2 c3 c4 hw
    | some names =>
      have sw := swap_of c1 hr
      exact st_tup1 hx I hh' c1 (of_decide_eq_true c2) c3 c4 (sw.eq ▸ hw) sw.len
end
end QZ
namespace QZ
open PySem PySem.W PySem.Calls PyProof.Rows
noncomputable def PassOk (C : Cx) (a : Act) : Prop := ∀ (f : Fmap) (ρ : Rho) (σ : St) (s : Shared) (r : R Rho) (E : Value → Shared → Prop), Sp C a f ρ σ s → (∀ e s', PSE C a f s r e s' → E e s') → ∀ e s', PSE C a f s r e s' → notedBy (model C.prog C.w) a.A a.env (fun e s' => cameBackBy (model C.prog C.w) a.A a.env E e s') e s'
section
variable {C : Cx} {P : Prog} {co : Addr → List V → St → Res V} {d : Nat} {a : Act} {f f1 f2 : Fmap} {ρ ρ1 ρ2 : Rho} {σ σ1 σ2 : St} {s s1 s2 : Shared} {Q : Flow → Shared → Prop} {E : Value → Shared → Prop}
theorem Stp.fz (g : a.Good d) (S : Sp C a f ρ σ s) (p : Stp a f s f1 s1) : Fz s.heap s1.heap := fun b o e fz => p.ext b o e fun q => (List.mem_append.mp q).elim
  (fun q => (List.mem_append.mp q).elim (fun q => (frA_in.fz g S b q).1 o e fz) fun q => lx_notFrozen S e fz (.tail _ q)) fun q => by obtain ⟨ob, e', k⟩ := S.ok.notFrozen q; rw [e] at e'; cases e'; exact k fz
noncomputable abbrev fBody (P : Prog) (co : Addr → List V → St → Res V) (t : QZ.T) (b : SL) : V → Rho → St → R Rho := sturn t fun ρ σ => exL P co b ρ σ
structure FInv (C : Cx) (a : Act) (f : Fmap) (s : Shared) (own : List Addr) (sv : SV) (it : Value) (body : V → Rho → St → R Rho) (Q : Flow → Shared → Prop) (E : Value → Shared → Prop) (n i : Nat) (f1 : Fmap) (ρ1 : Rho) (σ1 : St) (s1 : Shared) : Prop where
  S : Sp C a f1 ρ1 σ1 s1
  p : Stp a f s f1 s1
  it : ItAt f1 s1.heap sv i it own
  of : ∀ b ∈ own, b ∉ f1
  h : ContS C a f s (loopN sv body n i ρ1 σ1) Q E
noncomputable abbrev FAt (C : Cx) (a : Act) (f : Fmap) (s : Shared) (own : List Addr) (sv : SV) (it : Value) (body : V → Rho → St → R Rho) (Q : Flow → Shared → Prop) (E : Value → Shared → Prop) (n : Nat) (s1 : Shared) : Prop := ∃ i f1 ρ1 σ1, FInv C a f s own sv it body Q E n i f1 ρ1 σ1 s1
theorem for_turn (I : In C d a f ρ σ s) (w : Own a) (pass : PassOk C a) (hh : a.A.handled = none) {t : QZ.T} {b : SL} (hb : SimSL C P co d b) {tg : Expr} {body : List Stmt} (c1 : chkTS a.ns a.sl t tg = true) (c4 : chkSL C.T a.ns a.sl a.n b body = true) {sv : SV} {it : Value} {own : List Addr} (on : ∀ b ∈ own, s.heap.get? b = none) (htg : TupTg tg sv) {n i : Nat}
    (J : FInv C a f s own sv it (fBody P co t b) Q E (n + 1) i f1 ρ1 σ1 s1) {K : Option Value → Shared → Prop} {E1 : Value → Shared → Prop} (hE1 : E1 = notedBy (model C.prog C.w) a.A a.env fun e s' => cameBackBy (model C.prog C.w) a.A a.env E e s')
    (h0 : ∀ s', Q .next s' → K none s')
    (h1 : ∀ v s', wpAny (model C.prog C.w) a.A (letOwnedTupleGo tg it v) (fun _ s₁' => wpAny (model C.prog C.w) a.A (assign tg a.env v) (fun _ s₂ => wpAny (model C.prog C.w) a.A (execs body a.env) (fun fl s₃ => match fl with
            | .next | .cont => ∃ m, m < n + 1 ∧ FAt C a f s own sv it (fBody P co t b) Q E m s₃
            | .brk => Q .next s₃
            | .ret v => Q (.ret v) s₃) E1 s₂) E1 s₁') E1 s' → K (some v) s') :
    wpAny (model C.prog C.w) a.A (pyNext it) K E1 s1 := by
  have S := I.S
  have nw := own_new I.g S on
  refine ContS.of J.h fun o hv h => ?_
  cases o with
  | none => exact next_end hh J.S.ok J.it hv fun s3 t3 => h0 s3 (have k := turn_out I.g S J.S J.p on J.of J.it.nofz t3; ContS.next h k.1 k.2)
  | some v =>
    refine next_item J.S.ok J.it hv htg fun val s3 h3 => h1 val s3 (wpAny_mono h3 (fun _ s4 h4 => ?_) fun _ _ x => x)
    have k4 := turn_out I.g S J.S J.p on J.of J.it.nofz h4.1
    change ContS C a f s ((ofOR (setT t v ρ1) fun ρ => exL P co b ρ σ1).thenL _) Q E at h
    cases hs : setT t v ρ1 with
    | none => rw [hs] at h; exact h.no
    | some ρ' =>
      rw [hs] at h
      refine setT_sim I.g I.ap hh frA_in c1 (tg_ok c1) hs h4.2.1 k4.1 fun s5 S5 t5 => ?_
      have i5 : ItAt f1 s5.heap sv (i + 1) it own := h4.2.2.move (Pre.refl _) (t5.fz fun b hb => (frA_in.fz I.g k4.1 b hb).1) fun b hb o e => t5.keep b o (fun q => nw.1 b q hb) e
      have p5 := k4.2.trans (Stp.of_turn I.g S5 t5)
      have z5 : ∀ {f6 s6}, Stp a f1 s5 f6 s6 → Fz s5.heap s6.heap := fun p => p.fz I.g S5
      have wb := hb a body f1 ρ' σ1 s5 ⟨S5, I.g, I.ap⟩ w (.inl hh) c4
      change ContS C a f s ((exL P co b ρ' σ1).thenL _) Q E at h
      generalize exL P co b ρ' σ1 = r at wb h
      refine wb _ _ ⟨fun e => h.ne (by rw [e]; rfl), fun fl s6 pv => ?_, fun e s6 he => ?_⟩
      · cases r with
        | next ρ6 σ6 =>
          obtain ⟨rfl, f6, S6, p6⟩ := pv
          refine ⟨n, Nat.lt_succ_self n, i + 1, f6, ρ6, σ6, S6, p5.trans p6, i5.move (Pre.of_app p6.app) (z5 p6) fun b hb o e => p6.ext b o e fun q => ?_, fun b hb => (i5.there b hb).elim fun o e => p6.notin e (J.of b hb), h⟩
          exact (List.mem_append.mp q).elim (fun q => (List.mem_append.mp q).elim (fun q => nw.1 b q hb) fun q => nw.2 b q hb) (J.of b hb)
        | ret v ρ6 σ6 =>
          obtain ⟨val, f6, rfl, q⟩ := pv
          exact h.ok _ _ (PS.before p5 ⟨val, f6, rfl, q⟩)
        | exc => exact pv.elim
        | stuck => exact pv.elim
      · cases r with
        | exc c m ρ6 σ6 => exact hE1 ▸ pass f ρ σ s _ E S h.err e s6 (PSE.before p5 he)
        | _ => exact he.elim
theorem st_for (O : Go C P co d) (pass : ∀ a : Act, a.Good d → Own a → PassOk C a) {t : QZ.T} {sr : Src} {b : SL} (hs : AllSrc (SimX C P co d) sr) (hb : SimSL C P co d b) : SimS C P co d (.for t sr b) := by
  intro a st f ρ σ s I w hh hc
  have hh' := noCalm hh
  apply sFor_of hc
  refine fun tg it0 body el p hc => b6 hc fun c0 c1 c2 c3 c4 c5 Q E h => ?_
  obtain rfl := nil?_of c0
  refine wpAny_For (sim_src O hh' hs c4 I ⟨fun e => h.ne (show (evS P co sr ρ σ).thenN _ = _ by rw [e]; rfl), fun it s2 pv => ?_, fun e s' he => ?_⟩) (folded_none c3)
  · change ContS C a f s ((evS P co sr ρ σ).thenN _) Q E at h
    have ht := fun sv σ' => tupTg_of (σ' := σ') (sv := sv) (P := P) (co := co) (ρ := ρ) (σ := σ) c2
    generalize evS P co sr ρ σ = r at h pv ht
    cases r with
    | ok sv σ1 =>
      obtain ⟨f1, p2, own, N⟩ := pv
      exact codeAny_forLoop_any (fun n s1 => FAt C a f s own sv it (fBody P co t b) Q E n s1) (fun n s1 hI => by
        obtain ⟨i, f1, ρ1, σ1, J⟩ := hI
        cases n with
        | zero => exact J.h.no
        | succ n => exact for_turn I w (pass a I.g w) hh' hb c1 c5 N.new (ht _ _ rfl) J rfl (fun s' q => wpAny_pure q) fun v s' q => q) _ ⟨0, f1, ρ, σ1, I.S.next p2, .of_post p2, N.it, N.out, h⟩
    | _ => exact pv.elim
  · change ContS C a f s ((evS P co sr ρ σ).thenN _) Q E at h
    generalize evS P co sr ρ σ = r at h he
    cases r with
    | exc => exact h.no
    | _ => exact he.elim
end
end QZ
namespace QZ
open PySem PySem.W PySem.Calls PyProof.Rows
section
variable {C : Cx} {P : Prog} {co : Addr → List V → St → Res V} {d : Nat} {a : Act} {f f1 f2 : Fmap} {ρ ρ1 ρ2 : Rho} {σ σ1 σ2 : St} {s s1 s2 : Shared}
theorem st_whl (pass : ∀ a : Act, a.Good d → Own a → PassOk C a) {c : X} {b : SL} (hcx : SimB C P co d c) (hb : SimSL C P co d b) : SimS C P co d (.whl c b) := by
  intro a st f ρ σ s I w hh hc
  have hh' := noCalm hh
  apply sWhile_of hc
  refine fun t body el p hc => b4 hc fun c0 t1 c1 c2 Q E h => ?_
  obtain rfl := nil?_of c0
  refine wpAny_While ?_
  refine codeAny_whileLoop (fun n s1 => ∃ f1 ρ1 σ1, Sp C a f1 ρ1 σ1 s1 ∧ Stp a f s f1 s1 ∧ ContS C a f s (whileN (fun ρ σ => QZ.test P co c ρ σ) (fun ρ σ => exL P co b ρ σ) n ρ1 σ1) Q E) (fun n s1 hI => ?_) 40 ⟨f, ρ, σ, I.S, .refl, h⟩
  obtain ⟨f1, ρ1, σ1, S1, p1, h⟩ := hI
  cases n with
  | zero => exact h.no
  | succ n =>
    have wt := hcx a t f1 ρ1 σ1 s1 ⟨S1, I.g, I.ap⟩ (.inl hh') t1 c1
    change ContS C a f s ((QZ.test P co c ρ1 σ1).thenN _) Q E at h
    generalize QZ.test P co c ρ1 σ1 = r at wt h
    cases r with
    | exc => exact h.no
    | stuck => exact h.no
    | ok v σ2 =>
      refine wt.ok rfl fun bb f2 s2 p2 rb => ?_
      cases rb
      have S2 := S1.next p2
      have q2 := p1.trans (Stp.of_post p2)
      cases v with
      | false => rw [if_neg Bool.false_ne_true]; exact wpAny_pure (ContS.next h S2 q2)
      | true =>
        rw [if_pos rfl]
        have wb := hb a body f2 ρ1 σ2 s2 ⟨S2, I.g, I.ap⟩ w (.inl hh') c2
        change ContS C a f s ((exL P co b ρ1 σ2).thenL _) Q E at h
        generalize exL P co b ρ1 σ2 = r at wb h
        refine wb _ _ ⟨fun e => h.ne (by rw [e]; rfl), fun fl s6 pv => ?_, fun e s6 he => ?_⟩
        · cases r with
          | next ρ6 σ6 => obtain ⟨rfl, f6, S6, p6⟩ := pv; exact ⟨n, Nat.lt_succ_self n, f6, ρ6, σ6, S6, q2.trans p6, h⟩
          | ret v ρ6 σ6 => obtain ⟨val, f6, rfl, q⟩ := pv; exact h.ok _ _ (PS.before q2 ⟨val, f6, rfl, q⟩)
          | exc => exact pv.elim
          | stuck => exact pv.elim
        · cases r with
          | exc c m ρ6 σ6 => exact pass a I.g w f ρ σ s _ E I.S h.err e s6 (PSE.before q2 he)
          | _ => exact he.elim
end
end QZ
namespace QZ
open PySem PySem.W PySem.Calls PyProof.Rows
theorem rebaseF {base h : Heap} {l : List Env} {e : Addr} {cls a0 : Value} (x : Heap.FlyingW base l e cls a0 h) : ∃ T ts oT, Heap.FlyingW (hideAll h (frs l ++ [e, T])) l e cls a0 h ∧ base.get? T = none ∧ h.get? T = some oT ∧ oT.data = .fields ts ∧ 0 < ts.size := by
  obtain ⟨f1, f2, f3, oe, vs, T, oT, ts, a1, a2, a3, a4, a5, a6, a7, a8, a9⟩ := x
  refine ⟨T, ts, oT, ⟨fun b o q => of_hideAll _ q, hideAll_none _ (List.mem_append.mpr (.inr (.head _))), funFrames_hide f3 fun env he b hb => List.mem_append.mpr (.inl (List.mem_filterMap.mpr ⟨env, he, hb⟩)), oe, vs, T, oT, ts, a1, a2, a3, a4, hideAll_none _ (List.mem_append.mpr (.inr (.tail _ (.head _)))), a6, a7, a8, a9⟩, a5, a7, a8, Nat.lt_of_le_of_lt (Nat.zero_le _) (Array.getElem?_eq_some_iff.mp a9).1⟩
theorem rebaseH {base h : Heap} {l : List Env} {e L : Addr} {cls a0 : Value} (x : Heap.HeldW base l e cls a0 L h) : ∃ T ts oT, Heap.HeldW (hideAll h (frs l ++ [e, T])) l e cls a0 L h ∧ base.get? T = none ∧ h.get? T = some oT ∧ oT.data = .fields ts ∧ 0 < ts.size := by
  obtain ⟨f1, f2, f3, oe, vs, T, oT, ts, a1, a2, a3, a4, a5, a6, a7, a8, a9⟩ := x
  refine ⟨T, ts, oT, ⟨fun b o q => of_hideAll _ q, hideAll_none _ (List.mem_append.mpr (.inr (.head _))), funFrames_hide f3 fun env he b hb => List.mem_append.mpr (.inl (List.mem_filterMap.mpr ⟨env, he, hb⟩)), oe, vs, T, oT, ts, a1, a2, a3, a4, hideAll_none _ (List.mem_append.mpr (.inr (.tail _ (.head _)))), a6, a7, a8, a9⟩, a5, a7, a8, Nat.lt_of_le_of_lt (Nat.zero_le _) (Array.getElem?_eq_some_iff.mp a9).1⟩
noncomputable def Noted (l : List Env) (e T : Addr) (h h' : Heap) : Prop := (hideAll h (frs l ++ [e, T])).StaysIn h' ∧ h.UpToSlots h'
theorem Noted.stay {l : List Env} {e T : Addr} {h h' : Heap} (n : Noted l e T h h') {b : Addr} {o : Obj} (h1 : h.get? b = some o) (h2 : b ∉ frs l) (h3 : b ≠ e) (h4 : b ≠ T) : h'.get? b = some o :=
  n.1 b o (hideAll_get _ h1 (by simp [h2, h3, h4]))
end QZ
namespace QZ
open PySem PySem.W PySem.Calls PyProof.Rows
theorem frozen_nofields {o : Obj} (fz : Frozen o) {vs : Array Value} (h : 0 < vs.size) : o.data ≠ .fields vs := by
  rcases fz with ⟨_, xs, n, q⟩ | ⟨c, d, rfl⟩
  · intro e; rw [q] at e; cases e
  · intro e
    cases e <;> simp at h
theorem soft_nf {h : Heap} {b : Addr} (x : ∃ o, h.get? b = some o ∧ Soft o.data) {o : Obj} (e : h.get? b = some o) : ∀ vs, o.data ≠ .fields vs := x.elim fun o' q => Option.some.inj (q.1.symm.trans e) ▸ q.2.nf
theorem ok_nofields {prog : Program} {w : World} {base h : Heap} {f : Fmap} {σ : St} (k : Ok prog w base f σ h) {D : Addr} (hD : D ∈ f) {o : Obj} (e : h.get? D = some o) : ∀ vs, o.data ≠ .fields vs := by
  obtain ⟨i, hi⟩ := List.mem_iff_getElem?.mp hD
  have hlt : i < σ.length := by rw [← k.len]; exact (List.getElem?_eq_some_iff.mp hi).1
  have O := k.at_ i D _ hi (List.getElem?_eq_getElem hlt)
  intro vs q
  cases hσ : σ[i] with
  | list l => rw [hσ] at O; obtain ⟨its, n, e', _⟩ := O; rw [e] at e'; cases e'; cases q
  | dict kk l =>
    rw [hσ] at O
    cases kk with
    | i => obtain ⟨kvs, ⟨o', es, ep, e', _, hd, _⟩, _⟩ := O; rw [e] at e'; cases e'; rw [hd] at q; cases q
    | s => obtain ⟨kvs, ⟨o', es, ep, e', _, hd, _⟩, _⟩ := O; rw [e] at e'; cases e'; rw [hd] at q; cases q
    | t => obtain ⟨kvs, ⟨o', es, ep, e', _, hd, _⟩, _⟩ := O; rw [e] at e'; cases e'; rw [hd] at q; cases q
  | attrs l => rw [hσ] at O; obtain ⟨es, n, e', _⟩ := O; rw [e] at e'; cases e'; cases q
section
variable {C : Cx} {d : Nat} {a : Act} {f f' : Fmap} {ρ ρ' : Rho} {σ σ' : St} {s s' : Shared} {c e T : Addr} {h' : Heap}
theorem frm_own {base h : Heap} (g : a.Good d) (F : Frm base a f' ρ' h) {b : Addr} (hb : b ∈ frA a) : ∃ o, h.get? b = some o ∧ (∀ vs, o.data ≠ .fields vs) := by
  obtain ⟨m, hm, hsl⟩ := F.ns
  rcases frA_in b hb with rfl | ⟨x, i, h1, h2, h3⟩
  · exact (ns_soft hm).imp fun o q => ⟨q.1, q.2.nf⟩
  · obtain ⟨q, q1, q2⟩ := hsl x i h1
    obtain ⟨c', ov, o⟩ := q2.celled g h2 (.inl rfl)
    cases o.at_.symm.trans h3
    exact (cell_soft o.cell).imp fun o q => ⟨q.1, q.2.nf⟩
theorem fields_new (g : a.Good d) (S : Sp C a f ρ σ s) (x : FliesS C a f s c f' ρ' σ' e s') {b : Addr} {o : Obj} {vs : Array Value} (h1 : s'.heap.get? b = some o) (h2 : o.data = .fields vs) (h3 : (keptA a f s).get? b = none) : s.heap.get? b = none := by
  cases q : s.heap.get? b with
  | none => rfl
  | some o' =>
    exfalso
    have hk : b ∈ frA a ++ frs a.envs ++ f := Classical.byContradiction fun hk => by
      have := hideAll_get _ q hk
      rw [← keptA, h3] at this; cases this
    rw [List.mem_append, List.mem_append] at hk
    rcases hk with (hk | hk) | hk
    · obtain ⟨o2, e2, nf⟩ := frm_own g x.fr hk
      rw [h1] at e2; cases e2; exact nf vs h2
    · obtain ⟨en, he, hL⟩ := List.mem_filterMap.mp hk
      obtain ⟨m, o2, _, _, e2, hd, _⟩ := x.fr.fns en he b hL
      rw [h1] at e2; cases e2; rw [hd] at h2; cases h2
    · obtain ⟨g', rfl, _⟩ := x.app
      exact ok_nofields x.ok (List.mem_append.mpr (.inl hk)) h1 vs h2
theorem FliesS.noted (g : a.Good d) (S : Sp C a f ρ σ s) (x : FliesS C a f s c f' ρ' σ' e s') {oe oT : Obj} {vs ts : Array Value} (he : s'.heap.get? e = some oe) (hv : oe.data = .fields vs) (hvs : 0 < vs.size) (hen : (keptA a f s).get? e = none) (hT : s'.heap.get? T = some oT) (ht : oT.data = .fields ts) (hts : 0 < ts.size) (hTn : (keptA a f s).get? T = none)
    (n : Noted a.envs e T s'.heap h') (fly : ∃ a0, Heap.FlyingW (keptA a f s) a.envs e (.ref c) a0 h' ∨ (∃ L, a.env.frame = some L ∧ Heap.HeldW (keptA a f s) a.envs e (.ref c) a0 L h') ∨ FreshW (keptA a f s) a.envs e (.ref c) a0 h') : FliesS C a f s c f' ρ' σ' e { s' with heap := h' } := by
  have e0 := fields_new g S x he hv hen
  have T0 := fields_new g S x hT ht hTn
  have up : ∀ b o, s'.heap.get? b = some o → (∀ vs, o.data ≠ .fields vs) → ∃ sl, h'.get? b = some { o with slots := sl } := n.2
  have ff : ∀ b ∈ f', ∀ o, s'.heap.get? b = some o → h'.get? b = some o := fun b hb o eo => by
    have nf := ok_nofields x.ok hb eo
    refine n.stay eo (fun q => frs_out x.fr.fout q hb) ?_ ?_
    · rintro rfl; rw [he] at eo; cases eo; exact nf vs hv
    · rintro rfl; rw [hT] at eo; cases eo; exact nf ts ht
  have z : Fz s'.heap h' := fun b o eo fz => by
    refine n.stay eo (fun q => ?_) ?_ ?_
    · obtain ⟨en, hen, hL⟩ := List.mem_filterMap.mp q
      obtain ⟨m, hm⟩ := x.fr.fns en hen b hL
      exact ns_notFrozen hm eo fz
    · rintro rfl; rw [he] at eo; cases eo; exact frozen_nofields fz hvs hv
    · rintro rfl; rw [hT] at eo; cases eo; exact frozen_nofields fz hts ht
  have nsk : ∀ {L m}, s'.heap.Ns L m → h'.Ns L m := fun {L m} hm => ns_slots hm fun o eo => up L o eo (soft_nf (ns_soft hm) eo)
  have clk : ∀ {c v}, s'.heap.IsCell c v → h'.IsCell c v := fun {c v} hm => cell_slots hm fun o eo => up c o eo (soft_nf (cell_soft hm) eo)
  refine ⟨x.app, fly, fun L hL hLA m n => nsk (x.ns L hL hLA m n), fun b o eo => ?_, ?_, ?_, x.gens, x.os⟩
  · obtain ⟨o', e'⟩ := x.live b o eo
    have hbe : b ≠ e := by rintro rfl; rw [e0] at eo; cases eo
    have hbT : b ≠ T := by rintro rfl; rw [T0] at eo; cases eo
    by_cases q : b ∈ frs a.envs
    · obtain ⟨en, hen, hL⟩ := List.mem_filterMap.mp q
      obtain ⟨m, hm⟩ := x.fr.fns en hen b hL
      obtain ⟨o2, _, _, e2, _⟩ := nsk hm
      exact ⟨o2, e2⟩
    · exact ⟨o', n.stay e' q hbe hbT⟩
  · obtain ⟨m, hm, hsl⟩ := x.fr.ns
    refine ⟨x.fr.len, ⟨m, nsk hm, fun y i h => ?_⟩, x.fr.out, ?_, x.fr.fout, fun en hen L hL => let ⟨m', hm'⟩ := x.fr.fns en hen L hL; ⟨m', nsk hm'⟩⟩
    · obtain ⟨q, h1, h2⟩ := hsl y i h
      refine ⟨q, h1, ?_⟩
      cases h2 with
      | loc k o => exact .loc k (o.mono (Pre.refl _) z)
      | cell k o => exact .cell k ⟨o.at_, o.out, clk o.cell, o.rel.mono (Pre.refl _) z⟩
      | free k o => exact .free k ⟨o.at_, o.out, clk o.cell, o.rel.mono (Pre.refl _) z⟩
    · obtain ⟨a0, k | ⟨L, _, k⟩ | k⟩ := fly
      · exact funFrames_join x.fr.ff k.2.2.1
      · exact funFrames_join x.fr.ff k.2.2.1
      · exact funFrames_join x.fr.ff k.2.2.1
  · refine ⟨x.ok.len, x.ok.nodup, fun j b o' e1 e2 => (x.ok.at_ j b o' e1 e2).mono _ _ (Pre.refl _) z fun ob q => ff b (List.mem_of_getElem? e1) ob q, x.ok.fresh, fun b o eo => ?_⟩
    have es := S.ok.stay b o eo
    refine n.stay (x.ok.stay b o eo) (fun q => ?_) (by rintro rfl; rw [e0] at es; cases es) (by rintro rfl; rw [T0] at es; cases es)
    obtain ⟨hb, _⟩ := S.fr.ff.mem q
    rw [eo] at hb; cases hb
end
end QZ
namespace QZ
open PySem PySem.W PySem.Calls PyProof.Rows
theorem setFlight_heldW {M : Model} {A : Around} {E : Value → Shared → Prop} {s : Shared} {base : Heap} {l : List Env} {e L : Addr} {cls a0 : Value} {Q : Unit → Shared → Prop} (R : Heap.HeldW base l e cls a0 L s.heap)
    (h : ∀ h', Heap.HeldW base l e cls a0 L h' → s.heap.UpToSlots h' → Q () { s with heap := h' }) : wpAny M A (setFlight (.ref e) (some L)) Q E s := by
  obtain ⟨hkb, hen, hl, oe, vs, T, oT, ts, he, hcls, hd, h1, hnT, hTe, hT, hdT, h3⟩ := R
  have hsz3 : 3 < ts.size := (Array.getElem?_eq_some_iff.mp h3).1
  have other : ∀ b, b ≠ T → (s.heap.update T (Obj.mapFields (·.setIfInBounds 3 ((some L).elim Value.none fun f => rawInt f)))).get? b = s.heap.get? b :=
    fun b hb => Heap.get?_update_other _ _ (Ne.symm hb)
  have noRecord : ∀ b o, s.heap.get? b = some o → (∀ vs, o.data ≠ .fields vs) → b ≠ T := fun b o hb hnf q => by
    rw [q, hT] at hb; injection hb with hb; subst hb; exact hnf ts hdT
  unfold setFlight
  refine wpAny_bind (wpAny_field he hd h1 ?_)
  rw [if_pos (show (Value.ref T != Value.none) = true from by simp)]
  refine wpAny_setField hT hdT hsz3 (h _ ⟨fun b o hbo => (other b fun q => by rw [q, hnT] at hbo; cases hbo).trans (hkb b o hbo), hen,
    hl.of_keeps fun b o hb hnf => ⟨o, (other b (noRecord b o hb hnf)).trans hb, rfl⟩, ?_⟩ fun b o hb hnf => ⟨o.slots, (other b (noRecord b o hb hnf)).trans hb⟩)
  exact ⟨oe, vs, T, _, _, (other e (Ne.symm hTe)).trans he, hcls, hd, h1, hnT, hTe, Heap.get?_update_self _ hT (Obj.isFreed_of_fields (Obj.data_mapFields hdT _)), Obj.data_mapFields hdT _, by simp [hsz3]⟩
section
variable {C : Cx} {d : Nat} {a : Act} {f f' : Fmap} {ρ ρ' : Rho} {σ σ' : St} {s s' : Shared} {c e T : Addr} {h' : Heap}
theorem kept_rebase {base h : Heap} {l : List Env} (k : base.StaysIn h) (he : base.get? e = none) (hT : base.get? T = none) (hl : ∀ b ∈ frs l, base.get? b = none) : base.StaysIn (hideAll h (frs l ++ [e, T])) := fun b o q => by
  refine hideAll_get _ (k b o q) ?_
  rw [List.mem_append, not_or]
  refine ⟨fun z => (by rw [hl b z] at q; cases q), fun z => ?_⟩
  rcases List.mem_cons.mp z with rfl | z
  · rw [he] at q; cases q
  · simp only [List.mem_singleton] at z; subst z; rw [hT] at q; cases q
theorem keptA_frs {b : Addr} (hb : b ∈ frs a.envs) : (keptA a f s).get? b = none := hideAll_none _ (List.mem_append.mpr (.inl (List.mem_append.mpr (.inr hb))))
theorem flies_mark {M : Model} {A : Around} {E : Value → Shared → Prop} (g : a.Good d) (w : Own a) (S : Sp C a f ρ σ s) (x : FliesS C a f s c f' ρ' σ' e s') {a0 : Value} (h : Heap.HeldW (keptA a f s) a.envs e (.ref c) a0 a.env.locals s'.heap) {Q : Unit → Shared → Prop}
    (hq : ∀ h', FliesS C a f s c f' ρ' σ' e { s' with heap := h' } → Q () { s' with heap := h' }) : wpAny M A (setFlight (.ref e) (some a.env.locals)) Q E s' := by
  obtain ⟨T, ts, oT, k, T0, hT, ht, hts⟩ := rebaseH h
  have sub : (keptA a f s).StaysIn (hideAll s'.heap (frs a.envs ++ [e, T])) := kept_rebase h.1 h.2.1 T0 fun b hb => keptA_frs hb
  obtain ⟨_, _, _, oe, vs, T', oT', ts', he, _, hv, h1, _⟩ := id h
  have hvs : 0 < vs.size := Nat.lt_of_le_of_lt (Nat.zero_le _) (Array.getElem?_eq_some_iff.mp h1).1
  refine setFlight_heldW k fun h2 k2 up => hq h2 ?_
  exact x.noted g S he hv hvs h.2.1 hT ht hts T0 ⟨k2.1, up⟩ ⟨a0, .inr (.inl ⟨_, w.frame, heldW_base sub k2⟩)⟩
theorem vs_of {base h : Heap} {l : List Env} {cls a0 : Value} (k : Heap.FlyingW base l e cls a0 h) : ∃ oe vs, h.get? e = some oe ∧ oe.data = .fields vs ∧ 0 < vs.size := by
  obtain ⟨_, _, _, oe, vs, T', oT', ts', he, _, hv, h1, _⟩ := id k
  exact ⟨oe, vs, he, hv, Nat.lt_of_le_of_lt (Nat.zero_le _) (Array.getElem?_eq_some_iff.mp h1).1⟩
theorem vs_ofH {base h : Heap} {l : List Env} {cls a0 : Value} {L : Addr} (k : Heap.HeldW base l e cls a0 L h) : ∃ oe vs, h.get? e = some oe ∧ oe.data = .fields vs ∧ 0 < vs.size := by
  obtain ⟨_, _, _, oe, vs, T', oT', ts', he, _, hv, h1, _⟩ := id k
  exact ⟨oe, vs, he, hv, Nat.lt_of_le_of_lt (Nat.zero_le _) (Array.getElem?_eq_some_iff.mp h1).1⟩
theorem flies_note {M : Model} {A : Around} {E : Value → Shared → Prop} {Q : Unit → Shared → Prop} (g : a.Good d) (w : Own a) (hfr : A.frames = some a.envs) (S : Sp C a f ρ σ s) (x : FliesS C a f s c f' ρ' σ' e s')
    (hq : ∀ h' a0, FliesS C a f s c f' ρ' σ' e { s' with heap := h' } → Heap.HeldW (keptA a f s) a.envs e (.ref c) a0 a.env.locals h' → Q () { s' with heap := h' }) : wpAny M A (noteFrame (.ref e) a.env) Q E s' := by
  obtain ⟨a0, k | ⟨L, hL, k⟩ | k⟩ := id x.fly
  · obtain ⟨T, ts, oT, k1, T0, hT, ht, hts⟩ := rebaseF k
    have sub : (keptA a f s).StaysIn (hideAll s'.heap (frs a.envs ++ [e, T])) := kept_rebase k.1 k.2.1 T0 fun b hb => keptA_frs hb
    obtain ⟨oe, vs, he, hv, hvs⟩ := vs_of k
    obtain ⟨outer, ho⟩ := w.envs
    refine wpAny_looks_onW (base := hideAll s'.heap (frs a.envs ++ [e, T])) (outer := outer) (by rw [hfr, ho]) w.frame (by rw [← ho]; exact k1) fun h2 k2 up => ?_
    rw [← ho] at k2
    have hh := heldW_base sub k2
    exact hq h2 a0 (x.noted g S he hv hvs k.2.1 hT ht hts T0 ⟨k2.1, up⟩ ⟨a0, .inr (.inl ⟨_, w.frame, hh⟩)⟩) hh
  · rw [w.frame] at hL
    cases hL
    exact wpAny_noteFrame_againW w.frame k.2.2.2 (hq s'.heap a0 x k)
  · obtain ⟨k1, k2, k3, oe, vs, he, hcl, hv, h1, h0⟩ := id k
    have hvs : 1 < vs.size := (Array.getElem?_eq_some_iff.mp h1).1
    have hB : (hideAll s'.heap (frs a.envs ++ [e, e])).get? e = none := hideAll_none _ (List.mem_append.mpr (.inr (.head _)))
    have sub : (keptA a f s).StaysIn (hideAll s'.heap (frs a.envs ++ [e, e])) := kept_rebase k1 k2 k2 fun b hb => keptA_frs hb
    have kB : (hideAll s'.heap (frs a.envs ++ [e, e])).StaysIn s'.heap := fun b o q => of_hideAll _ q
    have kf : s'.heap.FunFrames (hideAll s'.heap (frs a.envs ++ [e, e])) a.envs := funFrames_hide k3 fun env hen b hb => List.mem_append.mpr (.inl (List.mem_filterMap.mpr ⟨env, hen, hb⟩))
    obtain ⟨outer, ho⟩ := w.envs
    unfold noteFrame
    simp only [w.frame]
    refine wpAny_bind (wpAny_field he hv h1 ?_)
    rw [if_neg (by decide)]
    generalize hG : hideAll s'.heap (frs a.envs ++ [e, e]) = G at hB sub kB kf
    rw [ho] at kf
    refine wpAny_entryW (base := G) (outer := outer) (by rw [hfr, ho]) kf w.frame he kB hB hv hvs h0 fun h2 hN => ?_
    obtain ⟨n1, n2, n3, up⟩ := hN
    rw [← ho] at n2
    rw [hcl] at n3
    have hh : Heap.HeldW (keptA a f s) a.envs e (.ref c) a0 a.env.locals h2 := heldW_base sub ⟨n1, hB, n2, n3⟩
    exact hq h2 a0 (x.noted g S he hv (by omega) k2 he hv (by omega) k2 ⟨by rw [hG]; exact n1, up⟩ ⟨a0, .inr (.inl ⟨_, w.frame, hh⟩)⟩) hh
theorem flies_lift {M : Model} {A : Around} {E : Value → Shared → Prop} {Q : Unit → Shared → Prop} (g : a.Good d) (S : Sp C a f ρ σ s) (x : FliesS C a f s c f' ρ' σ' e s') {a0 : Value} (k : Heap.HeldW (keptA a f s) a.envs e (.ref c) a0 a.env.locals s'.heap)
    (hq : ∀ h', FliesS C a f s c f' ρ' σ' e { s' with heap := h' } → Heap.FlyingW (keptA a f s) a.envs e (.ref c) a0 h' → Q () { s' with heap := h' }) : wpAny M A (setFlight (.ref e) none) Q E s' := by
  obtain ⟨T, ts, oT, k1, T0, hT, ht, hts⟩ := rebaseH k
  have sub : (keptA a f s).StaysIn (hideAll s'.heap (frs a.envs ++ [e, T])) := kept_rebase k.1 k.2.1 T0 fun b hb => keptA_frs hb
  obtain ⟨oe, vs, he, hv, hvs⟩ := vs_ofH k
  refine wpAny_landsW k1 fun h2 k2 up => ?_
  have hh := flyingW_base sub k2
  exact hq h2 (x.noted g S he hv hvs k.2.1 hT ht hts T0 ⟨k2.1, up⟩ ⟨a0, .inl hh⟩) hh
theorem flies_again {M : Model} {A : Around} {E : Value → Shared → Prop} {Q : Unit → Shared → Prop} (g : a.Good d) (S : Sp C a f ρ σ s) (x : FliesS C a f s c f' ρ' σ' e s') {a0 : Value} (k : Heap.FlyingW (keptA a f s) a.envs e (.ref c) a0 s'.heap)
    (hq : ∀ h', FliesS C a f s c f' ρ' σ' e { s' with heap := h' } → Heap.FlyingW (keptA a f s) a.envs e (.ref c) a0 h' → Q () { s' with heap := h' }) : wpAny M A (setFlight (.ref e) none) Q E s' := by
  obtain ⟨T, ts, oT, k1, T0, hT, ht, hts⟩ := rebaseF k
  have sub : (keptA a f s).StaysIn (hideAll s'.heap (frs a.envs ++ [e, T])) := kept_rebase k.1 k.2.1 T0 fun b hb => keptA_frs hb
  obtain ⟨oe, vs, he, hv, hvs⟩ := vs_of k
  refine lands_againW k1 fun h2 k2 up => ?_
  have hh := flyingW_base sub k2
  exact hq h2 (x.noted g S he hv hvs k.2.1 hT ht hts T0 ⟨k2.1, up⟩ ⟨a0, .inl hh⟩) hh
theorem pass_own2 {A1 A2 : Around} (g : a.Good d) (w : Own a) (hfr : A1.frames = some a.envs) (S : Sp C a f ρ σ s) {r : R Rho} {E : Value → Shared → Prop} (hE : ∀ e s', PSE C a f s r e s' → E e s') {ev : Value} (hp : PSE C a f s r ev s') :
    notedBy (model C.prog C.w) A1 a.env (cameBackBy (model C.prog C.w) A2 a.env E) ev s' := by
  cases r with
  | next => exact hp.elim
  | ret => exact hp.elim
  | stuck => exact hp.elim
  | exc c m ρ' σ' =>
    obtain ⟨f', e, rfl, x⟩ := hp
    unfold notedBy
    refine flies_note g w hfr S x fun h2 a0 x2 hh => ?_
    obtain ⟨_, _, _, oe, vs, T', oT', ts', he, _, hv, h1, _⟩ := id hh
    show wpAny _ _ (do
        if (← field (.ref e) 1) == .none then unsupported "frame.own-activation:exception-without-traceback"
        setFlight (.ref e) a.env.frame) _ _ _
    refine wpAny_bind (wpAny_field he hv h1 ?_)
    rw [if_neg (by simp)]
    rw [w.frame]
    exact flies_mark g w S x2 hh fun h3 x3 => hE _ _ ⟨f', e, rfl, x3⟩
theorem pass_own (g : a.Good d) (w : Own a) : PassOk C a := fun _ _ _ _ _ _ S hE _ _ hp => pass_own2 g w g.frames S hE hp
end
end QZ
namespace QZ
open PySem PySem.W PySem.Calls PyProof.Rows
theorem look_ne {x n : Str} {v : Value} {l : List (Str × Value)} (h : x ≠ n) : ((n, v) :: l).lookup x = l.lookup x := by
  rw [List.lookup_cons, beq_eq_false_iff_ne.mpr h]
theorem look_eq {n : Str} {v : Value} {l : List (Str × Value)} : ((n, v) :: l).lookup n = some v := by
  rw [List.lookup_cons, beq_self_eq_true]
theorem zip_look {names : List Str} : ∀ {vals : List Value} {x : Str} {k : Nat}, k ≤ vals.length → x ∈ names.take k → ((names.zip vals).lookup x).isNone = false := by
  induction names with
  | nil => exact fun _ h => nomatch (List.take_nil ▸ h)
  | cons n ns ih =>
    intro vals x k l h
    cases k with
    | zero => cases h
    | succ k =>
      cases vals with
      | nil => exact absurd l (Nat.not_succ_le_zero k)
      | cons v vs =>
        rw [List.zip_cons_cons]
        by_cases q : x = n
        · rw [q, look_eq]; rfl
        · rw [look_ne q]
          exact ih (Nat.le_of_succ_le_succ l) ((List.mem_cons.mp h).resolve_left q)
theorem zip_miss {names : List Str} : ∀ {vals : List Value} {x : Str}, x ∉ names → (names.zip vals).lookup x = none := by
  induction names with
  | nil => exact fun _ => rfl
  | cons n ns ih =>
    intro vals x h
    cases vals with
    | nil => rfl
    | cons v vs => exact (look_ne fun e => h (List.mem_cons.mpr (.inl e))).trans (ih fun e => h (List.mem_cons_of_mem _ e))
theorem binds_zip {names : List Str} : ∀ {vals : List Value} {L : List (Str × Value)}, names.Nodup → names.length ≤ vals.length → (∀ x ∈ names, (L.lookup x) = ((names.zip vals).lookup x)) → names.filterMap (fun n => (L.lookup n).map (n, ·)) = names.zip vals := by
  induction names with
  | nil => exact fun _ _ _ => rfl
  | cons n ns ih =>
    intro vals L nd l h
    cases vals with
    | nil => exact absurd l (Nat.not_succ_le_zero _)
    | cons v vs =>
      rw [List.filterMap_cons, h n (List.mem_cons_self ..), List.zip_cons_cons, look_eq]
      exact congrArg ((n, v) :: ·) (ih (List.nodup_cons.mp nd).2 (Nat.le_of_succ_le_succ l) fun x hx => (h x (List.mem_cons_of_mem _ hx)).trans (look_ne fun e => (List.nodup_cons.mp nd).1 (e ▸ hx)))
theorem bind_ret {α β : Type} {x : Sem α} {a : α} {g : α → Sem β} (h : x = pure a) : (x >>= g) = g a := by rw [h]; rfl
theorem forIn_keep {α β : Type} {f : α → β → Sem (ForInStep β)} {b : β} {l : List α} : (∀ x ∈ l, f x b = pure (.yield b)) → forIn l b f = pure b := by
  induction l with
  | nil => exact fun _ => rfl
  | cons x l ih => exact fun h => (List.forIn_cons ..).trans ((bind_ret (h x (List.mem_cons_self ..))).trans (ih fun y hy => h y (List.mem_cons_of_mem _ hy)))
structure PlainP (fd : FuncData) (names : List Str) : Prop where
  pos : fd.params.posonlyargs = []
  args : fd.params.args.map (·.arg) = names
  kwo : fd.params.kwonlyargs = []
  va : fd.params.vararg = none
  kw : fd.params.kwarg = none
  nd : names.Nodup
theorem missing_nil {names : List Str} {vals : List Value} {k : Nat} (h : k ≤ vals.length) : ¬ (!((names.take k).filter fun n => ((names.zip vals).lookup n).isNone).isEmpty) = true := by
  rw [List.filter_eq_nil_iff.mpr fun x hx => (zip_look h hx).symm ▸ Bool.false_ne_true]
  exact Bool.false_ne_true
noncomputable def bindsOf (names : List Str) (vals dfl : List Value) : List (Str × Value) := if vals.length = names.length then names.zip vals else names.zip (vals ++ dfl)
theorem snoc_of {α : Type} {l : List α} {n : Nat} (h : n + 1 = l.length) : ∃ i z, l = i ++ [z] ∧ n = i.length :=
  ⟨l.dropLast, l.getLast (List.ne_nil_of_length_pos (h ▸ Nat.succ_pos n)), (List.dropLast_concat_getLast _).symm, (Nat.add_sub_cancel n 1).symm.trans (h ▸ (List.length_dropLast ..).symm)⟩
theorem fill_eq {names : List Str} {vals dfl : List Value} {f : Str × Value → List (Str × Value) → Sem (ForInStep (List (Str × Value)))} (nd : names.Nodup) (hl : vals.length = names.length ∨ (dfl.length = 1 ∧ vals.length + 1 = names.length))
    (hf : ∀ n d r, f (n, d) r = if (r.lookup n).isNone = true then pure (.yield (r ++ [(n, d)])) else pure (.yield r)) :
    forIn ((names.drop (names.length - (dfl.drop (dfl.length - names.length)).length)).zip (dfl.drop (dfl.length - names.length))) (names.zip vals) f = pure (bindsOf names vals dfl) := by
  rcases hl with hl | ⟨h1, h2⟩
  · rw [bindsOf, if_pos hl]
    refine forIn_keep fun x hx => (hf x.1 x.2 _).trans (if_neg ?_)
    rw [zip_look (Nat.le_refl _) (hl ▸ (List.take_length (l := names)).symm ▸ List.mem_of_mem_drop (List.of_mem_zip hx).1)]
    exact Bool.false_ne_true
  · rw [bindsOf, if_neg fun q => Nat.succ_ne_self _ (h2.trans q.symm)]
    obtain ⟨i, z, rfl, h3⟩ := snoc_of h2
    obtain ⟨d, rfl⟩ := List.length_eq_one_iff.mp h1
    have e : i ++ [z] = i ++ [z] := rfl
    have hz : z ∉ i := fun q => (List.nodup_append.mp nd).2.2 z q z (List.mem_cons_self ..) rfl
    have e1 : [d].length - (i ++ [z]).length = 0 := by rw [List.length_append]; exact Nat.sub_eq_zero_of_le (Nat.le_add_left ..)
    have e2 : (i ++ [z]).zip vals = i.zip vals := by
      have := List.zip_append (r₁ := [z]) (r₂ := ([] : List Value)) h3.symm
      rw [List.append_nil, List.zip_nil_right, List.append_nil] at this
      exact this
    rw [e1, List.drop_zero, List.length_append, show i.length + [z].length - [d].length = i.length from Nat.add_sub_cancel .., List.drop_left, e2]
    refine (bind_ret ((hf z d _).trans (if_pos (Option.isNone_iff_eq_none.mpr (zip_miss hz))))).trans ?_
    exact congrArg pure (show i.zip vals ++ [(z, d)] = _ from (List.zip_append (r₁ := [z]) (r₂ := [d]) h3.symm).symm)
theorem few_nat {v n d : Nat} (h : v = n ∨ d = 1 ∧ v + 1 = n) : n - (d - (d - n)) ≤ v := by
  rcases h with rfl | ⟨rfl, rfl⟩
  · exact Nat.sub_le ..
  · rw [Nat.sub_eq_zero_of_le (Nat.le_add_left ..)]
    exact Nat.le_refl v
theorem plain_eq {p : Arguments} {a b v w} (h1 : p.posonlyargs = a) (h2 : p.kwonlyargs = b) (h3 : p.vararg = v) (h4 : p.kwarg = w) : p = ⟨a, p.args, v, b, p.kw_defaults, w, p.defaults⟩ := by
  cases p
  cases h1
  cases h2
  cases h3
  cases h4
  rfl
theorem bind_core {fd : FuncData} {names : List Str} {vals dfl : List Value} (P : PlainP fd names) (hl : vals.length = names.length ∨ (dfl.length = 1 ∧ vals.length + 1 = names.length)) :
    ∃ k, bindArgs fd ⟨vals, []⟩ = seqItems? fd.defaults >>= k ∧ ∀ r : Option (Array Value), (r.getD #[]).toList = dfl → k r = pure (bindsOf names vals dfl) := by
  have hp := plain_eq P.pos P.kwo P.va P.kw
  have p2 := P.args
  have nd := P.nd
  clear P
  generalize fd.params.args = as at hp p2
  generalize fd.params.kw_defaults = kd at hp
  generalize fd.params.defaults = dd at hp
  cases p2
  cases fd
  cases hp
  refine ⟨_, rfl, fun r hr => ?_⟩
  cases hr
  have hle : vals.length ≤ (as.map (·.arg)).length := hl.elim Nat.le_of_eq fun h => Nat.le_of_lt (Nat.lt_of_lt_of_eq (Nat.lt_succ_self _) h.2)
  refine (if_neg fun q => Nat.not_lt.mpr hle (of_decide_eq_true (Bool.and_eq_true_iff.mp q).1)).trans ?_
  refine (if_neg (missing_nil ?_)).trans ?_
  · rw [List.length_drop]
    exact few_nat hl
  refine (bind_ret (fill_eq nd hl fun _ _ _ => rfl)).trans ?_
  have hb : ∀ u : List Value, (as.map fun p : Arg => p.arg).length ≤ u.length → ((as.map fun p : Arg => p.arg) ++ []).filterMap (fun n => (((as.map fun p : Arg => p.arg).zip u).lookup n).map (n, ·)) = (as.map fun p : Arg => p.arg).zip u := fun u h => (congrArg (List.filterMap _) (List.append_nil _)).trans (binds_zip nd h fun _ _ => rfl)
  show (pure (List.filterMap (fun n => ((bindsOf (as.map (·.arg)) vals (r.getD #[]).toList).lookup n).map (n, ·)) (as.map (·.arg) ++ [])) : Sem _) = pure (bindsOf (as.map (·.arg)) vals (r.getD #[]).toList)
  refine congrArg pure ?_
  rcases hl with hl | ⟨h1, h2⟩
  · rw [bindsOf, if_pos hl]
    exact hb _ (Nat.le_of_eq hl.symm)
  · rw [bindsOf, if_neg fun q => Nat.succ_ne_self _ (h2.trans q.symm)]
    exact hb _ (Nat.le_of_eq (h2.symm.trans ((List.length_append ..).trans (congrArg (vals.length + ·) h1)).symm))
end QZ
namespace QZ
open PySem PySem.W PySem.Calls PyProof.Rows
theorem bindL_not {k : Str → Option NameKind} {x : Str} : ∀ {binds : List (Str × Value)} {m : Str → Option Value}, x ∉ binds.map (·.1) → bindL k binds m x = m x
  | [], m, _ => rfl
  | (n, v) :: r, m, h => by
    simp only [List.map_cons, List.mem_cons, not_or] at h
    unfold bindL
    rw [bindL_not h.2]
    split
    · simp only [if_neg h.1]
    · rfl
theorem bindL_at {k : Str → Option NameKind} {x : Str} {v : Value} (hk : k x = some .local) : ∀ {binds : List (Str × Value)} {m : Str → Option Value}, (binds.map (·.1)).Nodup → (x, v) ∈ binds → bindL k binds m x = some v
  | [], m, _, h => nomatch h
  | (n, u) :: r, m, nd, h => by
    simp only [List.map_cons, List.nodup_cons] at nd
    unfold bindL
    rcases List.mem_cons.mp h with e | h
    · cases e
      rw [bindL_not nd.1, if_pos hk, if_pos rfl]
    · exact bindL_at hk nd.2 h
theorem bindC_not {k : Str → Option NameKind} {x : Str} : ∀ {binds : List (Str × Value)} {m : Str → Option Value}, x ∉ binds.map (·.1) → bindC k binds m x = m x
  | [], m, _ => rfl
  | (n, v) :: r, m, h => by
    simp only [List.map_cons, List.mem_cons, not_or] at h
    unfold bindC
    rw [bindC_not h.2]
    split
    · rfl
    · simp only [if_neg h.1]
theorem bindC_at {k : Str → Option NameKind} {x : Str} {v : Value} (hk : k x = some .cell) : ∀ {binds : List (Str × Value)} {m : Str → Option Value}, (binds.map (·.1)).Nodup → (x, v) ∈ binds → bindC k binds m x = some v
  | [], m, _, h => nomatch h
  | (n, u) :: r, m, nd, h => by
    simp only [List.map_cons, List.nodup_cons] at nd
    unfold bindC
    rcases List.mem_cons.mp h with e | h
    · cases e
      rw [bindC_not nd.1, if_neg (by rw [hk]; decide), if_pos rfl]
    · exact bindC_at hk nd.2 h
theorem zip_fst : ∀ {names : List Str} {vals : List Value}, names.length ≤ vals.length → (names.zip vals).map (·.1) = names
  | [], _, _ => rfl
  | n :: ns, [], h => by simp at h
  | n :: ns, v :: vs, h => by rw [List.zip_cons_cons, List.map_cons, zip_fst (by simpa using h)]
theorem cells_has {x : Str} : ∀ {names : List (Str × NameKind)} {n : Nat} {acc : List (Str × Addr)}, ((acc.lookup x).isSome ∨ names.lookup x = some .cell) → ((cellsFrom n names acc).lookup x).isSome
  | [], n, acc, h => by
    rcases h with h | h
    · exact h
    · cases h
  | (y, k) :: r, n, acc, h => by
    unfold cellsFrom
    split
    · refine cells_has ?_
      rw [List.lookup_cons]
      by_cases q : x = y
      · subst q; simp
      · rw [beq_eq_false_iff_ne.mpr q]
        rcases h with h | h
        · exact .inl h
        · rw [List.lookup_cons, beq_eq_false_iff_ne.mpr q] at h; exact .inr h
    · rename_i hk
      refine cells_has ?_
      rcases h with h | h
      · exact .inl h
      · rw [List.lookup_cons] at h
        by_cases q : x = y
        · subst q
          rw [beq_self_eq_true] at h
          cases h; exact absurd rfl hk
        · rw [beq_eq_false_iff_ne.mpr q] at h; exact .inr h
structure FnAt (C : Cx) (fa : Addr) (fn : Fn) (fd : FuncData) (body : List Stmt) (sl : Slots) (names : List Str) : Prop where
  at_ : ∃ o, C.base.get? fa = some o ∧ o.data = .func fd
  bod : fd.body = .stmts body
  co : fd.scope.isCoroutine = false
  gen : fd.scope.isGenerator = false
  kind : fd.scope.kind = .function
  clo : fd.closure = []
  code : C.base.CodeRec fd.code fd.qualname
  globals : fd.globals = mainGlobals
  builtins : fd.builtins = builtinsNs
  pp : PlainP fd names
  np : names.length = fn.np
  npl : fn.np ≤ fn.nloc
  dfl : (fd.defaults = .none ∧ fn.dflt = []) ∨ ∃ ta o n d dv, fd.defaults = .ref ta ∧ C.K.lookup ta = some o ∧ o.data = .seq #[d] n ∧ fn.dflt = [dv] ∧ Rel [] C.base dv d
  par : ∀ x i, sl.lookup x = some i → i < fn.nloc ∧ (i < fn.np → names[i]? = some x)
  slk : ∀ x i, sl.lookup x = some i → fd.scope.names.lookup x = some .local ∨ fd.scope.names.lookup x = some .cell
  namek : ∀ x ∈ names, fd.scope.names.lookup x = some .local ∨ fd.scope.names.lookup x = some .cell
  slinj : ∀ x y i, sl.lookup x = some i → sl.lookup y = some i → x = y
  chk : chkSL C.T fd.scope.names sl fn.nloc fn.body body = true
section
variable {C : Cx} {P : Prog} {co : Addr → List V → St → Res V} {d : Nat} {a : Act} {f f1 f2 : Fmap} {ρ ρ1 ρ2 : Rho} {σ σ1 σ2 : St} {s s1 s2 : Shared} {fa : Addr} {fn : Fn} {fd : FuncData} {body : List Stmt} {sl : Slots} {names : List Str}
theorem binds_to (F : FnAt C fa fn fd body sl names) (G : C.Good) (S : Sp C a f ρ σ s) {args : List V} {vals : List Value} (rl : RelL f s.heap args vals) {ρ0 : Rho} (hm : mkFrame fn args = some ρ0) :
    ∃ targs tvals, RelL f s.heap targs tvals ∧ targs.length = fn.np ∧ BindsTo s fd ⟨vals, []⟩ (names.zip tvals) ∧ ρ0 = targs.map some ++ List.replicate (fn.nloc - fn.np) none := by
  refine cond_of hm fun hh hm => Option.some.inj hm ▸ ?_
  obtain ⟨h1, h2, h3⟩ := of_decide_eq_true hh
  have hlen : vals.length = args.length := rl.len
  rcases F.dfl with ⟨d1, d2⟩ | ⟨ta, oo, n, dd, dv, d1, d3, d5, d2, d4⟩
  · rw [d2] at h2 ⊢
    simp only [List.length_nil, Nat.add_zero] at h2
    have hn := F.np
    refine ⟨args, vals, rl, by omega, ?_, by simp⟩
    obtain ⟨k, k1, k2⟩ := bind_core (vals := vals) (dfl := []) F.pp (.inl (by omega))
    rw [d1] at k1
    have := k2 none rfl
    refine BindsTo.of_eq (k1.trans ?_)
    have hs : seqItems? .none = pure none := rfl
    rw [hs, pure_bind, this]
    unfold bindsOf
    rw [if_pos (by omega)]
  · rw [d2] at h2 ⊢
    simp only [List.length_cons, List.length_nil, Nat.zero_add] at h2
    have hn := F.np
    have hk := (S.kin G) _ _ d3
    have rd : Rel f s.heap dv dd := d4.mono (pre_nil f) fun b o e _ => S.ok.stay b o e
    obtain ⟨k, k1, k2⟩ := bind_core (vals := vals) (dfl := [dd]) F.pp (by simp; omega)
    have := k2 (some #[dd]) rfl
    have hb : BindsTo s fd ⟨vals, []⟩ (bindsOf names vals [dd]) := BindsTo.of_defaults d1 hk d5 k1 this
    by_cases hq : args.length = fn.np
    · refine ⟨args, vals, rl, hq, ?_, ?_⟩
      · unfold bindsOf at hb; rw [if_pos (by omega)] at hb; exact hb
      · rw [hq]; simp
    · have hq' : args.length + 1 = fn.np := by omega
      refine ⟨args ++ [dv], vals ++ [dd], rl.append (RelL.cons rd RelL.nil), by simp [hq'], ?_, ?_⟩
      · unfold bindsOf at hb; rw [if_neg (by omega)] at hb; exact hb
      · rw [← hq']; simp
theorem relL_get : ∀ {l : List V} {vs : List Value} {h : Heap} {i : Nat} {v : V}, RelL f h l vs → l[i]? = some v → ∃ val, vs[i]? = some val ∧ Rel f h v val
  | [], vs, h, i, v, r, e => by simp at e
  | x :: l, vs, h, i, v, r, e => by
    rw [RelL] at r
    obtain ⟨u, k, rfl, r1, r2⟩ := r
    cases i with
    | zero => simp at e; subst e; exact ⟨u, by simp, r1⟩
    | succ i => simp only [List.getElem?_cons_succ] at e ⊢; exact relL_get r2 e
noncomputable def actOf (A : Around) (envs : List Env) (fd : FuncData) (L : Addr) (fa : Addr) (sl : Slots) (fn : Fn) : Act := ⟨A.deeper (callEnvC fd L fa), callEnvC fd L fa, callEnvC fd L fa :: envs, fd.scope.names, sl, fn.nloc⟩
theorem enter_sp (F : FnAt C fa fn fd body sl names) (G : C.Good) (g : a.Good (d + 1)) (S : Sp C a f ρ σ s) {targs : List V} {tvals : List Value} (rl : RelL f s.heap targs tvals) (hl : targs.length = fn.np)
    (I : InCallC s (callEnvC fd s.heap.objs.size fa).locals (bindL (callEnvC fd s.heap.objs.size fa).kindOf (names.zip tvals) fun _ => none) (callEnvC fd s.heap.objs.size fa).cells (bindC (callEnvC fd s.heap.objs.size fa).kindOf (names.zip tvals) fun _ => none) s1) :
    (actOf a.A a.envs fd s.heap.objs.size fa sl fn).Good d ∧ Own (actOf a.A a.envs fd s.heap.objs.size fa sl fn) ∧ (actOf a.A a.envs fd s.heap.objs.size fa sl fn).Apart C ∧ Sp C (actOf a.A a.envs fd s.heap.objs.size fa sl fn) f (targs.map some ++ List.replicate (fn.nloc - fn.np) none) σ s1 ∧
      (∀ b ∈ frA (actOf a.A a.envs fd s.heap.objs.size fa sl fn), s.heap.get? b = none) := by
  have hL : ∀ b o, s.heap.get? b = some o → b < s.heap.objs.size := fun b o e => Heap.lt_size e
  have hnone : ∀ b, s.heap.objs.size ≤ b → s.heap.get? b = none := fun b hb => Heap.get?_none_of_le hb
  have base_none' : ∀ b, s.heap.objs.size ≤ b → C.base.get? b = none := fun b hb => by
    cases q : C.base.get? b with
    | none => rfl
    | some o => exact absurd (hL b o (S.ok.stay b o q)) (Nat.not_lt.mpr hb)
  have hcell : ∀ x c, (callEnvC fd s.heap.objs.size fa).cells.lookup x = some c → s.heap.objs.size < c := fun x c e => I.above x c (mem_of_lookup e)
  have hkeep := I.toInCall.keep
  have hfn : ∀ b, s.heap.objs.size ≤ b → b ∉ f := fun b hb q => absurd (S.ok.lt q) (Nat.not_lt.mpr hb)
  refine ⟨⟨rfl, F.kind, F.globals, F.builtins, fun x y c h1 h2 => name_of_addr I.apart (mem_of_lookup h1) (mem_of_lookup h2), Around.frames_deeper g.frames, ?_, ?_, F.slinj⟩, ⟨⟨a.envs, rfl⟩, rfl⟩, ⟨base_none' _ (Nat.le_refl _), fun x _ c _ e => base_none' _ (Nat.le_of_lt (hcell x c e))⟩, ?_, fun b hb => ?_⟩
  · have := g.depth
    show a.A.depth + 1 + 4 * d + 8 ≤ 900
    omega
  · have := g.units
    show a.A.units + 3 + 40 * d + 300 ≤ cLine
    omega
  · have hnl := F.npl
    have hnp := F.np
    have htl : tvals.length = fn.np := by rw [rl.len, hl]
    have hnd : ((names.zip tvals).map (·.1)).Nodup := by rw [zip_fst (by omega)]; exact F.pp.nd
    have z : Fz s.heap s1.heap := fun b o e _ => hkeep b o e
    refine ⟨S.ok.keeps hkeep, ⟨?_, ⟨_, I.toInCall.ns, fun x i hx => ?_⟩, hfn _ (Nat.le_refl _), ⟨?_, ?_, ?_⟩, fun e he L hL' => ?_, fun e he L hL' => ?_⟩, ?_, ?_⟩
    · show (targs.map some ++ List.replicate (fn.nloc - fn.np) none).length = fn.nloc
      simp only [List.length_append, List.length_map, List.length_replicate, hl]; omega
    · obtain ⟨p1, p2⟩ := F.par x i hx
      by_cases hi : i < fn.np
      · have hn := p2 hi
        have hti : i < targs.length := by omega
        obtain ⟨val, v1, v2⟩ := relL_get rl (List.getElem?_eq_getElem hti)
        have hmem : (x, val) ∈ names.zip tvals := by
          have : (names.zip tvals)[i]? = some (x, val) := by rw [List.getElem?_zip_eq_some]; exact ⟨hn, v1⟩
          exact List.mem_of_getElem? this
        refine ⟨some targs[i], ?_, ?_⟩
        · rw [List.getElem?_append_left (by simpa using hti), List.getElem?_map, List.getElem?_eq_getElem hti]; rfl
        · rcases F.slk x i hx with k | k
          · have k' : (callEnvC fd s.heap.objs.size fa).kindOf x = some .local := k
            exact .loc k' (by rw [bindL_at k' hnd hmem]; exact v2.mono (Pre.refl _) z)
          · have k' : (callEnvC fd s.heap.objs.size fa).kindOf x = some .cell := k
            obtain ⟨c, hc⟩ := Option.isSome_iff_exists.mp (cells_has (n := s.heap.objs.size + 1) (acc := []) (.inr k))
            have := I.cell x c hc
            rw [bindC_at k' hnd hmem] at this
            exact .cell k' ⟨hc, hfn _ (Nat.le_of_lt (hcell x c hc)), this, v2.mono (Pre.refl _) z⟩
      · refine ⟨none, ?_, ?_⟩
        · rw [List.getElem?_append_right (by simp; omega), List.getElem?_replicate, if_pos (by simp; omega)]
        · rcases F.slk x i hx with k | k
          · exact .loc k trivial
          · obtain ⟨c, hc⟩ := Option.isSome_iff_exists.mp (cells_has (n := s.heap.objs.size + 1) (acc := []) (.inr k))
            exact .cell k ⟨hc, hfn _ (Nat.le_of_lt (hcell x c hc)), I.cell x c hc, trivial⟩
    · show fd.scope.kind ≠ .module
      rw [F.kind]; decide
    · obtain ⟨o, es, ep, e, hd, _⟩ := I.toInCall.ns
      exact ⟨_, o, rfl, base_none' _ (Nat.le_refl _), e, fun vs q => by rw [hd] at q; cases q⟩
    · exact S.fr.ff.of_keeps fun b o e _ => ⟨o, hkeep b o e, rfl⟩
    · rcases List.mem_cons.mp he with rfl | he
      · cases hL'; exact hfn _ (Nat.le_refl _)
      · exact S.fr.fout e he L hL'
    · rcases List.mem_cons.mp he with rfl | he
      · cases hL'; exact ⟨_, I.toInCall.ns⟩
      · obtain ⟨m, hm⟩ := S.fr.fns e he L hL'
        exact ⟨m, hm.keeps hkeep⟩
    · obtain ⟨h', tk, rfl⟩ := I.toInCall.same; exact S.gens
    · obtain ⟨h', tk, rfl⟩ := I.toInCall.same; exact S.os
  · rcases frA_in b hb with rfl | ⟨x, i, h1, h2, h3⟩
    · exact hnone _ (Nat.le_refl _)
    · exact hnone _ (Nat.le_of_lt (hcell x b h3))
end
end QZ
namespace QZ
open PySem PySem.W PySem.Calls PyProof.Rows
section
variable {prog : Program} {w : World} {A : Around} {s : Shared}
theorem call_cells {R : Result → Shared → Prop} {a : Addr} {o : Obj} {fd : FuncData} {body : List Stmt} {vals : List Value} {binds : List (Str × Value)}
    (hroom : A.depth < recursionLimit) (ho : s.heap.get? a = some o) (hdata : o.data = .func fd) (hlim : s.heap.NoLimit) (hcd : s.heap.CodeRec fd.code fd.qualname)
    (hbody : fd.body = .stmts body) (hbind : BindsTo s fd ⟨vals, []⟩ binds) (hclo : fd.closure = [])
    (hkind : ∀ x ∈ binds, fd.scope.names.lookup x.1 = some .local ∨ (fd.scope.names.lookup x.1 = some .cell ∧ ((cellsFrom (s.heap.objs.size + 1) fd.scope.names []).lookup x.1).isSome = true))
    (h : ∀ s₁, InCallC s (callEnvC fd s.heap.objs.size a).locals (bindL (callEnvC fd s.heap.objs.size a).kindOf binds fun _ => none) (callEnvC fd s.heap.objs.size a).cells
        (bindC (callEnvC fd s.heap.objs.size a).kindOf binds fun _ => none) s₁ →
      wpAny (model prog w) (A.deeper (callEnvC fd s.heap.objs.size a)) (execs body (callEnvC fd s.heap.objs.size a)) (fun f s' => R (.ok (.ret (match f with | .ret v => v | _ => .none))) s')
        (fun e s' => wpAny (model prog w) (A.deeper (callEnvC fd s.heap.objs.size a)) (leaving (callEnvC fd s.heap.objs.size a) e) (fun _ s'' => R (.error e) s'') (fun e' s'' => R (.error e') s'') s') s₁)
    (hco : fd.scope.isCoroutine = false) (hgen : fd.scope.isGenerator = false) (hk : fd.scope.kind = .function) :
    codeAny (model prog w) A (.call (.ref a) ⟨vals, []⟩) R s := by
  refine codeAny_call_function hroom ho hdata hco hgen hbody hcd (hbind _ _ _ _ ?_)
  rw [hclo]
  refine wpAny_newFunctionEnv_cells hk hkind fun env he s' x => ?_
  subst he
  exact ⟨hlim.keeps x.toInCall.keep, codeAny_func (h s' x)⟩
end
section
variable {C : Cx} {P : Prog} {co : Addr → List V → St → Res V} {d : Nat} {a a' : Act} {f f1 f2 f' : Fmap} {ρ ρ1 ρ2 ρ' : Rho} {σ σ1 σ2 σ' : St} {s s1 s2 s' : Shared} {c e : Addr}
theorem leave_ok (S : Sp C a f ρ σ s) (hk : ∀ b o, s.heap.get? b = some o → s1.heap.get? b = some o) (hA : ∀ b ∈ frA a', s.heap.get? b = none) (he : a'.envs = a'.env :: a.envs) (hfr : a'.env.frame = some a'.env.locals) (S' : Sp C a' f' ρ' σ' s') (t : Stp a' f s1 f' s') : Post C (lx a) f s f' σ' s' := by
  obtain ⟨outer, ho⟩ : ∃ l : List Env, l = a.envs := ⟨_, rfl⟩
  have hfrs : frs a'.envs = a'.env.locals :: frs a.envs := by unfold frs; rw [he, List.filterMap_cons, hfr]
  have nA : ∀ b o, s.heap.get? b = some o → b ∉ frA a' := fun b o e q => by rw [hA b q] at e; cases e
  have ext : ∀ b o, s.heap.get? b = some o → b ∉ frs a.envs → b ∉ f → s'.heap.get? b = some o := fun b o e h1 h2 => t.out (hk b o e) (nA b o e) (by
    rw [hfrs, List.mem_cons, not_or]
    exact ⟨fun q => nA b o e (q ▸ .head _), h1⟩) h2
  refine ⟨⟨?_, fun b o e hb => ?_, fun L hL m n => ?_, fun b o e => t.live b o (hk b o e)⟩, S'.ok, S'.gens, S'.os⟩
  · obtain ⟨g, e1, hg⟩ := t.app
    refine ⟨g, e1, fun b hb => ?_⟩
    cases q : s.heap.get? b with
    | none => rfl
    | some o => have := hk b o q; rw [hg b hb] at this; cases this
  · rw [List.mem_append, not_or] at hb
    exact ext b o e (fun q => hb.1 (.tail _ q)) hb.2
  · by_cases q : L ∈ frs a.envs
    · obtain ⟨o, _, _, e, _⟩ := id n
      exact t.ns L (by rw [hfrs]; exact .tail _ q) (nA L o e) m (ns_of n fun o e => hk L o e)
    · have hL' : L = a.env.locals := (List.mem_cons.mp hL).elim id fun z => absurd z q
      subst hL'
      exact ns_of n fun o e => ext _ o e q S.fr.out
theorem keptA_get {b : Addr} {o : Obj} (h : s.heap.get? b = some o) (h1 : b ∉ frA a) (h2 : b ∉ frs a.envs) (h3 : b ∉ f) : (keptA a f s).get? b = some o :=
  hideAll_get _ h (by rw [List.mem_append, List.mem_append, not_or, not_or]; exact ⟨⟨h1, h2⟩, h3⟩)
theorem flies_out (S : Sp C a f ρ σ s) (hk : ∀ b o, s.heap.get? b = some o → s1.heap.get? b = some o) (hA : ∀ b ∈ frA a', s.heap.get? b = none) (he : a'.envs = a'.env :: a.envs) (hfr : a'.env.frame = some a'.env.locals)
    (x : FliesS C a' f s1 c f' ρ' σ' e s') {a0 : Value} (fly : Heap.FlyingW (keptA a' f s1) a'.envs e (.ref c) a0 s'.heap) : Flies C (lx a) a.envs f s c f' σ' e s' := by
  have hfrs : frs a'.envs = a'.env.locals :: frs a.envs := by unfold frs; rw [he, List.filterMap_cons, hfr]
  have hLn : s.heap.get? a'.env.locals = none := hA _ (.head _)
  have nA : ∀ b o, s.heap.get? b = some o → b ∉ frA a' := fun b o e q => by rw [hA b q] at e; cases e
  have nF : ∀ b o, s.heap.get? b = some o → b ∉ frs a.envs → b ∉ frs a'.envs := fun b o e q => by
    rw [hfrs, List.mem_cons, not_or]
    exact ⟨(by rintro rfl; rw [hLn] at e; cases e), q⟩
  have stay : ∀ b o, s.heap.get? b = some o → b ∉ frs a.envs → b ∉ f → s'.heap.get? b = some o := fun b o e h1 h2 => fly.1 b o (keptA_get (hk b o e) (nA b o e) (nF b o e h1) h2)
  have nsk : ∀ L ∈ frs a.envs, ∀ m, s.heap.Ns L m → s'.heap.Ns L m := fun L hL m n => by
    obtain ⟨o, _, _, e, _⟩ := id n
    exact x.ns L (by rw [hfrs]; exact .tail _ hL) (nA L o e) m (ns_of n fun o e => hk L o e)
  refine ⟨?_, ⟨a0, ?_⟩, fun L hL m n => ?_, fun b o e => x.live b o (hk b o e), x.ok, x.gens, x.os⟩
  · obtain ⟨g, e1, hg⟩ := x.app
    refine ⟨g, e1, fun b hb => ?_⟩
    cases q : s.heap.get? b with
    | none => rfl
    | some o => have := hk b o q; rw [hg b hb] at this; cases this
  · refine flyingW_base (B := keptA a' f s1) (fun b o q => ?_) ?_
    · have e' := of_hideAll _ q
      have hb : b ∉ lx a ++ frs a.envs ++ f := fun z => by rw [kept, hideAll_none _ z] at q; cases q
      rw [List.mem_append, List.mem_append, not_or, not_or] at hb
      exact keptA_get (hk b o e') (nA b o e') (nF b o e' hb.1.2) hb.2
    · rw [he] at fly
      exact ⟨fly.1, fly.2.1, fly.2.2.1.2.2, fly.2.2.2⟩
  · by_cases q : L ∈ frs a.envs
    · exact nsk L q m n
    · have hL' : L = a.env.locals := (List.mem_cons.mp hL).elim id fun z => absurd z q
      subst hL'
      exact ns_of n fun o e => stay _ o e q S.fr.out
theorem leaving_ok {M : Model} {A : Around} {E : Value → Shared → Prop} {Q : Unit → Shared → Prop} (g : a'.Good d) (w : Own a') (hfrm : A.frames = some a'.envs) (S1 : Sp C a' f ρ1 σ1 s1) (x : FliesS C a' f s1 c f' ρ' σ' e s')
    (hq : ∀ h' a0, FliesS C a' f s1 c f' ρ' σ' e { s' with heap := h' } → Heap.FlyingW (keptA a' f s1) a'.envs e (.ref c) a0 h' → Q () { s' with heap := h' }) : wpAny M A (leaving a'.env (.ref e)) Q E s' := by
  unfold leaving
  refine wpAny_bind (flies_note g w hfrm S1 x fun h2 a0 x2 k2 => ?_)
  exact flies_lift g S1 x2 k2 fun h3 x3 k3 => hq h3 a0 x3 k3
noncomputable def CR (Q : Value → Shared → Prop) (E : Value → Shared → Prop) (x : Result) (s' : Shared) : Prop := match x with
  | .ok (.ret v) => Q v s'
  | .ok _ => False
  | .error e => E e s'
theorem ContS.leave (S : Sp C a f ρ σ s) (hk : ∀ b o, s.heap.get? b = some o → s1.heap.get? b = some o) (hA : ∀ b ∈ frA a', s.heap.get? b = none) (he : a'.envs = a'.env :: a.envs) (g' : a'.Good d) (w' : Own a') (S1 : Sp C a' f ρ1 σ1 s1) {r : R Rho} {Q E : Value → Shared → Prop} (h : Cont C a f s Rel r.out Q E) :
    ContS C a' f s1 r (fun fl s' => CR Q E (.ok (.ret (match fl with | .ret v => v | _ => .none))) s') (fun e s' => wpAny (model C.prog C.w) a'.A (leaving a'.env e) (fun _ s'' => CR Q E (.error e) s'') (fun e' s'' => CR Q E (.error e') s'') s') := by
  refine ⟨fun e => h.ne (by rw [e]; rfl), fun fl s' pv => ?_, fun ev s' q => ?_⟩
  · cases r with
    | next ρ' σ' => obtain ⟨rfl, f', S'', t⟩ := pv; exact (Cont.ret (Rl := Rel) (Q := Q) h (leave_ok S hk hA he w'.frame S'' t) rel_none : Q .none s')
    | ret v ρ' σ' => obtain ⟨val, f', rfl, rv, S'', t⟩ := pv; exact (Cont.ret (Rl := Rel) (Q := Q) h (leave_ok S hk hA he w'.frame S'' t) rv : Q val s')
    | exc => exact pv.elim
    | stuck => exact pv.elim
  · cases r with
    | exc c m ρ' σ' => obtain ⟨f', ea, rfl, x⟩ := q; exact leaving_ok g' w' g'.frames S1 x fun h2 a0 x2 fl => h.err _ _ ⟨f', ea, rfl, flies_out S hk hA he w'.frame x2 fl⟩
    | _ => exact q.elim
theorem call_fn (G : C.Good) {fa : Addr} {fn : Fn} {fd : FuncData} {body : List Stmt} {sl : Slots} {names : List Str} (F : FnAt C fa fn fd body sl names) (hb : SimSL C P co d fn.body)
    (g : a.Good (d + 1)) (hh : a.A.handled = none) (S : Sp C a f ρ σ s) {args : List V} {vals : List Value} (rl : RelL f s.heap args vals) {ρ0 : Rho} (hm : mkFrame fn args = some ρ0) {Q E : Value → Shared → Prop} (h : Cont C a f s Rel (exL P co fn.body ρ0 σ).out Q E) :
    codeAny (model C.prog C.w) a.A (.call (.ref fa) ⟨vals, []⟩) (CR Q E) s := by
  obtain ⟨targs, tvals, rt, hl, hbind, rfl⟩ := binds_to F G S rl hm
  obtain ⟨o, hK, hKd⟩ := F.at_
  refine call_cells (by have := g.depth; show a.A.depth < 1000; omega) (S.ok.stay _ _ hK) hKd (G.lim.keeps fun b o e => S.ok.stay b o e) (F.code.keeps fun b o e => S.ok.stay b o e) F.bod hbind F.clo (fun x hx => ?_) (fun s1 I => ?_) F.co F.gen F.kind
  · have hx1 : x.1 ∈ names := (List.of_mem_zip (show (x.1, x.2) ∈ _ from hx)).1
    exact (F.namek _ hx1).imp id fun k => ⟨k, cells_has (.inr k)⟩
  · obtain ⟨g', w', ap', S', fresh⟩ := enter_sp F G g S rt hl I
    exact hb (actOf a.A a.envs fd s.heap.objs.size fa sl fn) body f _ σ s1 ⟨S', g', ap'⟩ w' (.inl hh) F.chk _ _ (ContS.leave S I.toInCall.keep fresh rfl g' w' S' h)
end
end QZ
namespace QZ
open PySem PySem.W PySem.Calls PyProof.Rows
section
variable {C : Cx} {P : Prog} {co : Addr → List V → St → Res V} {d : Nat} {a a' : Act} {f f1 f2 f' : Fmap} {ρ ρ1 ρ2 ρ' : Rho} {σ σ1 σ2 σ' : St} {s s1 s2 s' : Shared} {c e : Addr}
theorem FliesS.caught (x : FliesS C a f s c f' ρ' σ' e s') {a0 : Value} (k : Heap.FlyingW (keptA a f s) a.envs e (.ref c) a0 s'.heap) : Sp C a f' ρ' σ' s' ∧ Stp a f s f' s' :=
  ⟨⟨x.ok, x.fr, x.gens, x.os⟩, x.app, fun b o e hb => k.1 b o (hideAll_get _ e hb), x.ns, x.live⟩
noncomputable def Act.marked (a : Act) (h : Option Value) : Act := { a with A := a.A.mark h }
theorem Act.Good.marked (g : a.Good d) (h : Option Value) : (a.marked h).Good d := ⟨g.names, g.kind, g.globals, g.builtins, g.inj, g.frames, g.depth, g.units, g.slinj⟩
theorem Own.marked (w : Own a) (h : Option Value) : Own (a.marked h) := ⟨w.envs, w.frame⟩
theorem Act.Apart.marked (w : a.Apart C) (h : Option Value) : (a.marked h).Apart C := ⟨w.base, w.cells⟩
theorem Sp.marked (S : Sp C a f ρ σ s) (h : Option Value) : Sp C (a.marked h) f ρ σ s := ⟨S.ok, ⟨S.fr.len, S.fr.ns, S.fr.out, S.fr.ff, S.fr.fout, S.fr.fns⟩, S.gens, S.os⟩
structure ExcHit (C : Cx) (c : Addr) : Prop where
  hit : exmOne C.K (.ref c) (.ref c) = some true
theorem Sp.unmark {h : Option Value} (S : Sp C (a.marked h) f ρ σ s) : Sp C a f ρ σ s := ⟨S.ok, ⟨S.fr.len, S.fr.ns, S.fr.out, S.fr.ff, S.fr.fout, S.fr.fns⟩, S.gens, S.os⟩
theorem Stp.unmark {h : Option Value} (t : Stp (a.marked h) f s f' s') : Stp a f s f' s' := ⟨t.app, t.ext, t.ns, t.live⟩
theorem PSE_marked {r : R Rho} {ev : Value} {h : Option Value} (x : PSE C (a.marked h) f s r ev s') : PSE C a f s r ev s' := by
  cases r with
  | exc c m ρ' σ' =>
    obtain ⟨f', ea, he, k⟩ := x
    exact ⟨f', ea, he, ⟨k.app, k.fly, k.ns, k.live, ⟨k.fr.len, k.fr.ns, k.fr.out, k.fr.ff, k.fr.fout, k.fr.fns⟩, k.ok, k.gens, k.os⟩⟩
  | _ => exact x
theorem PS_marked {r : R Rho} {fl : Flow} {h : Option Value} (x : PS C (a.marked h) f s r fl s') : PS C a f s r fl s' := by
  cases r with
  | next ρ' σ' => obtain ⟨h1, f', S, t⟩ := x; exact ⟨h1, f', S.unmark, t.unmark⟩
  | ret v ρ' σ' => obtain ⟨val, f', h1, h2, S, t⟩ := x; exact ⟨val, f', h1, h2, S.unmark, t.unmark⟩
  | _ => exact x
structure TryChk (C : Cx) (a : Act) (b h : SL) (c : Addr) (y : Str) (body hb : List Stmt) : Prop where
  c1 : glo a.ns y = true
  c2 : C.T.F.lookup y = some c
  c3 : C.T.E.contains c = true
  c4 : chkSL C.T a.ns a.sl a.n b body = true
  c5 : chkSL C.T a.ns a.sl a.n h hb = true
  c6 : calmSL h = true
theorem chk_try {b h : SL} {st : Stmt} {M : Stmt → Prop} (hc : chkS C.T a.ns a.sl a.n (.try b c h) st = true) (k : ∀ body y p1 b0 hb p2 p, TryChk C a b h c y body (b0 :: hb) → M (.Try body [.ExceptHandler (some (.Name y p1)) none (b0 :: hb) p2] [] [] p)) : M st := by
  apply sTry_of hc
  refine fun body hs el fi p hc => b3 hc fun h0 h1 hc => ?_
  cases nil?_of h0
  cases nil?_of h1
  apply one?_of hc
  intro hd hc
  cases hd with
  | ExceptHandler ty nm hb p2 =>
    refine b2 hc fun h2 hc => none?_of h2 ▸ ?_
    apply some?_of hc
    intro te hc
    apply eName_of hc
    refine fun y p1 hc => b7 hc fun c1 c2 c3 c4 c5 c6 c7 => ?_
    cases hb with
    | nil => cases c6
    | cons b0 hb => exact k body y p1 b0 hb p2 p ⟨c1, eq_of_beq c2, c3, c4, c5, c7⟩
theorem st_try (O : Go C P co d) (X : ∀ c, C.T.E.contains c = true → ExcHit C c) {b h : SL} (hb : SimSL C P co d b) (hh : SimSL C P co d h) : SimS C P co d (.try b c h) := by
  intro a st f ρ σ s I w hA hc
  have hh' := noCalm hA
  apply chk_try hc
  refine fun body y p1 b0 hb' p2 p k Q E hq => wpAny_Try_except ?_
  have wb := hb a body f ρ σ s I w (.inl hh') k.c4
  change ContS C a f s ((exL P co b ρ σ).catchR c _) Q E at hq
  generalize exL P co b ρ σ = r at wb hq
  refine wb _ _ ⟨fun e => hq.ne (by rw [e]; rfl), fun fl s1 h1 => ?_, fun ev s1 h1 => ?_⟩
  · cases r with
    | next ρ1 σ1 => obtain ⟨rfl, f1, S1, t1⟩ := h1; exact wpAny_pure (hq.next S1 t1)
    | ret v ρ1 σ1 => obtain ⟨val, f1, rfl, q⟩ := h1; exact hq.ok _ _ ⟨val, f1, rfl, q⟩
    | exc => exact h1.elim
    | stuck => exact h1.elim
  · cases r with
    | exc c' m ρ1 σ1 =>
      refine ContS.when hq fun hcc hq2 => ?_
      cases of_decide_eq_true hcc
      obtain ⟨f1, e, rfl, x⟩ := h1
      refine flies_note I.g w I.g.frames I.S x fun h2 a0 x2 k2 => flies_lift I.g I.S x2 k2 fun h3 x3 k3 => ?_
      have S3 := (x3.caught k3).1
      have g3 := I.g.marked (some (.ref e))
      have ap3 := I.ap.marked (some (.ref e))
      refine wpAny_handleBy_cons (codeAny_handlers_test ?_) (by intro q; cases q)
      refine fnName (a := a.marked (some (.ref e))) O ⟨S3.marked _, g3, ap3⟩ k.c1 k.c2 ?_
      have LT : Looks (model C.prog C.w) h3 (typeOf (.ref e)) (.ref c) := by
        obtain ⟨ob, hob, hcl⟩ := k3.there
        rw [← hcl]
        exact (Looks.ld hob).andThen .now
      refine (exm_one (M := model C.prog C.w) (S3.kin O.G) LT (X c k.c3).hit).here (codeAny_handlers_suite ?_)
      refine flies_again I.g I.S x3 k3 fun h4 x4 k4 => ?_
      have k5 := x4.caught k4
      exact hh (a.marked (some (.ref e))) (b0 :: hb') f1 ρ1 σ1 _ ⟨k5.1.marked _, g3, ap3⟩ (w.marked _) (.inr k.c6) k.c5 _ _ ⟨hq2.ne, fun fl s5 h5 => hq2.ok _ _ ((PS_marked h5).before k5.2), fun ev s5 h5 => pass_own2 (A1 := a.A.mark (some (.ref e))) (A2 := a.A) I.g w I.g.frames I.S hq2.err (PSE.before k5.2 (PSE_marked h5))⟩
    | _ => exact h1.elim
end
end QZ
namespace QZ
open PySem PySem.W PySem.Calls PyProof.Rows
structure Made (h h' : Heap) (e c : Addr) : Prop where
  keeps : ∀ b o, h.get? b = some o → h'.get? b = some o
  new : h.get? e = none
  there : ∃ oe vs a0, h'.get? e = some oe ∧ oe.cls = .ref c ∧ oe.data = .fields vs ∧ vs[1]? = some .none ∧ vs[0]? = some a0
noncomputable def MakeOk (C : Cx) (c : Addr) : Prop := ∀ (A : Around) (E : Value → Shared → Prop) (Q : Value → Shared → Prop) (s : Shared) (m : Str) (t : Tok), A.depth + 8 ≤ 900 → A.units + 300 ≤ cLine → (∀ b o, C.base.get? b = some o → s.heap.get? b = some o) →
  (∀ e h' tk, Made s.heap h' e c → Q (.ref e) { s with heap := h', toks := tk }) → wpAny (model C.prog C.w) A (call (.ref c) [.str m t]) Q E s
structure ExcOk (C : Cx) (c : Addr) : Prop where
  hit : exmOne C.K (.ref c) (.ref c) = some true
  make : MakeOk C c
  base : subIn C.K (.ref c) (.type "BaseException") = some true
  meta_ : typeIn C.K (.ref c) = some (.type "type")
  keep : keepIn C.K (.ref c) = true
section
variable {C : Cx} {P : Prog} {co : Addr → List V → St → Res V} {d : Nat} {a a' : Act} {f f1 f2 f' : Fmap} {ρ ρ1 ρ2 ρ' : Rho} {σ σ1 σ2 σ' : St} {s s1 s2 s' : Shared} {c e : Addr}
theorem made_sp (S : Sp C a f ρ σ s) {h' : Heap} (k : ∀ b o, s.heap.get? b = some o → h'.get? b = some o) (tk : Nat) : Post C (lx a) f s f σ { s with heap := h', toks := tk } := postGrow S k tk
theorem fresh_flies (S₀ : Sp C a f ρ σ s) (S : Sp C a f1 ρ σ1 s1) (p : Stp a f s f1 s1) (hx : ∃ oe vs a0, s1.heap.get? e = some oe ∧ oe.cls = .ref c ∧ oe.data = .fields vs ∧ vs[1]? = some .none ∧ vs[0]? = some a0) (hn : s.heap.get? e = none) : FliesS C a f s c f1 ρ σ1 e s1 := by
  obtain ⟨oe, vs, a0, he, hc, hv, h1, h0⟩ := hx
  refine ⟨p.app, ⟨a0, .inr (.inr ⟨fun b o q => ?_, ?_, ?_, oe, vs, he, hc, hv, h1, h0⟩)⟩, p.ns, p.live, S.fr, S.ok, S.gens, S.os⟩
  · exact p.ext b o (of_hideAll _ q) fun z => by rw [keptA, hideAll_none _ z] at q; cases q
  · cases q : (keptA a f s).get? e with
    | none => rfl
    | some o => have := of_hideAll _ q; rw [hn] at this; cases this
  · have : ∀ {l : List Env}, s1.heap.FunFrames C.base l → (∀ env ∈ l, ∀ b, env.frame = some b → (keptA a f s).get? b = none) → s1.heap.FunFrames (keptA a f s) l := by
      intro l
      induction l with
      | nil => intro _ _; trivial
      | cons env l ih =>
        rintro ⟨hk, ⟨L, o, hf, _, ho, hd⟩, hr⟩ hin
        exact ⟨hk, ⟨L, o, hf, hin env (.head _) L hf, ho, hd⟩, ih hr fun e he => hin e (.tail _ he)⟩
    exact this S.fr.ff fun env hen b hb => keptA_frs (List.mem_filterMap.mpr ⟨env, hen, hb⟩)
theorem ContS.eq {r r' : R Rho} {Q : Flow → Shared → Prop} {E : Value → Shared → Prop} (e : r = r') (h : ContS C a f s r Q E) : ContS C a f s r' Q E := e ▸ h
theorem thenN_one {r : Res V} {g : V → St → R Rho} : r.thenN g = (r.bind fun v σ => .ok [v] σ).thenN fun vs σ => ofOR (oneOf vs) fun v => g v σ := by cases r <;> rfl
theorem msgOf_of {v : V} {m : Str} (h : msgOf v = some m) : v = .str m := by
  cases v with
  | str => exact congrArg V.str (Option.some.inj h)
  | _ => cases h
theorem st_rai (O : Go C P co d) (XS : ∀ c, C.T.E.contains c = true → ExcOk C c) {x : X} (hx : SimX C P co d x) : SimS C P co d (.rai c x) := by
  intro a st f ρ σ s I w hA hc
  have hh' := noCalm hA
  apply sRaise_of hc
  refine fun ex ca p hc => b2 hc fun h0 hc => none?_of h0 ▸ ?_
  apply some?_of hc
  intro ex hc
  apply eCall_of hc
  refine fun fn args kws p2 hc => b2 hc fun h1 hc => nil?_of h1 ▸ ?_
  apply one?_of hc
  intro ex hc
  apply eName_of hc
  refine fun y p1 hc => b5 hc fun c1 c2 c3 c0 c4 Q E h => ?_
  have XO := XS c c3
  have c5 : chkL C.T a.ns a.sl a.n (.cons x .nil) [ex] = true := (congrArg (· && (_ && true)) c0).trans (congrArg (· && true) c4)
  rw [arm_exec_Raise]
  refine wpAny_bind (wpAny_standAt ?_)
  show wpAny _ _ (raiseStmt a.env (some (do let v ← eval (.Call (.Name y p1) [ex] [] p2) a.env; standAt p; pure v)) none) _ _ _
  unfold raiseStmt
  refine wpAny_bind (wpAny_bind ?_)
  show wpAny _ _ (eval (.Name y p1) a.env >>= fun fv => callWith p2 fv [] (backTo p2 (starEach [ex] a.env)) []) _ _ _
  refine wpAny_bind (fnName O I c1 (eq_of_beq c2) (callWith_sim c5 (keeps_K XO.keep) ?_))
  refine seqTN I (simL (.cons hx .nil) a [ex] p2 f ρ σ s I (.inl hh') c5) (ContS.eq (thenN_one (r := evX P co x ρ σ)) h) fun vs σ1 vals f1 s1 I1 q1 r1 h => h.of fun v hv hq => ?_
  obtain rfl := oneOf_eq hv
  cases hm : msgOf v with
  | none => rw [hm] at hq; exact hq.no
  | some m =>
    rw [hm] at hq
    obtain rfl := msgOf_of hm
    obtain ⟨val, rfl, r2⟩ := relL_one r1.1
    rw [Rel] at r2
    obtain ⟨t, rfl⟩ := r2
    refine ⟨I1.S.kin O.G, XO.make _ _ _ s1 m t (by have := I1.g.depth; omega) (by have := I1.g.units; omega) (fun b o e => I1.S.ok.stay b o e) fun e h' tk M => ?_⟩
    have p2 := made_sp I1.S M.keeps tk
    have S2 := I1.S.next p2
    have FL := ContS.err hq (.ref e) _ ⟨f1, e, rfl, fresh_flies I1.S S2 (.of_post p2) M.there M.new⟩
    obtain ⟨oe, vs, a0, he, hcl, hv, h1, h0⟩ := M.there
    have X2 : C.K.In h' := S2.kin O.G
    generalize hs : ({ s1 with heap := h', toks := tk } : Shared) = s2 at FL
    have he2 : s2.heap.get? e = some oe := hs ▸ he
    have LT : Looks (model C.prog C.w) s2.heap (typeOf (.ref e)) (.ref c) := by rw [← hcl]; exact (Looks.ld he2).andThen .now
    have LM : Looks (model C.prog C.w) s2.heap (typeOf (.ref c)) (.type "type") := looks_typeIn (hs ▸ X2) XO.meta_
    have LI : Looks (model C.prog C.w) s2.heap (isInstance (.ref e) (.type "BaseException")) true := LT.andThen (looks_subIn (hs ▸ X2) XO.base)
    have hnt : ∀ {Q : Bool → Shared → Prop}, Q false s2 → wpAny (model C.prog C.w) a.A (isType (.ref e)) Q E s2 := fun q => ks_wpAny_isType_inst (g := s2.gens) (d := s2.drawn) (t := s2.toks) (os := s2.os) he2 (fun cd z => by rw [hv] at z; cases z) q
    refine wpAny_bind (wpAny_standAt (wpAny_pure (wpAny_bind (wpAny_pure ?_))))
    show wpAny _ _ (holding ([] : List Value) (excFromValue (.ref e) "exceptions must derive from BaseException") >>= _) _ _ _
    refine wpAny_bind (wpAny_holding ?_)
    unfold excFromValue isExcClass
    refine wpAny_bind (wpAny_bind (hnt ?_))
    refine wpAny_pure ?_
    rw [if_neg Bool.false_ne_true]
    refine wpAny_bind (LI.here ?_)
    rw [if_pos rfl]
    refine wpAny_pure (wpAny_bind (hnt ?_))
    rw [if_neg Bool.false_ne_true]
    unfold raisedInstance
    refine wpAny_bind (wpAny_bind (LT.here (wpAny_bind (LM.here ?_))))
    rw [if_pos (by rfl)]
    refine wpAny_pure ?_
    unfold setFlight
    refine wpAny_bind (wpAny_bind (wpAny_field he2 hv h1 ?_))
    rw [if_neg (by decide)]
    exact wpAny_pure (wpAny_raiseNew_none hh' FL)
end
end QZ
namespace QZ
open PySem PySem.W PySem.Calls PyProof.Rows
section
variable {C : Cx} {P : Prog} {co : Addr → List V → St → Res V} {d : Nat}
mutual
theorem simS (O : Go C P co d) (Z : SpreadOk C P co d) (E : ∀ c, C.T.E.contains c = true → ExcOk C c) : ∀ x : QZ.S, SimS C P co d x
  | .asg (.name i) x => st_name O Z (simXB O Z x).1
  | .asg (.tup l) x => st_tup (simXB O Z x).1
  | .asg (.attr o m) x => st_attr O (simXB O Z o).1 (simXB O Z x).1
  | .asg (.item o i) x => st_item O (simXB O Z o).1 (simXB O Z i).1 (simXB O Z x).1
  | .aug o i op x => st_aug O (simXB O Z o).1 (simXB O Z i).1 (simXB O Z x).1
  | .exp x => st_exp (simXB O Z x).1
  | .ret x => st_ret (simXB O Z x).1
  | .ifs c a b => st_ifs (simXB O Z c).2 (simSL O Z E a) (simSL O Z E b)
  | .for t s b => st_for O (fun a g w => pass_own g w) (simXBS O Z s) (simSL O Z E b)
  | .whl c b => st_whl (fun a g w => pass_own g w) (simXB O Z c).2 (simSL O Z E b)
  | .rai c x => st_rai O E (simXB O Z x).1
  | .try b c h => st_try O (fun c hc => ⟨(E c hc).hit⟩) (simSL O Z E b) (simSL O Z E h)
theorem simSL (O : Go C P co d) (Z : SpreadOk C P co d) (E : ∀ c, C.T.E.contains c = true → ExcOk C c) : ∀ x : SL, SimSL C P co d x
  | .nil => sl_nil
  | .cons x l => sl_cons (simS O Z E x) (simSL O Z E l)
end
noncomputable def CodeOk (C : Cx) (co : Addr → List V → St → Res V) (d : Nat) : Prop := ∀ (a : Act) (f : Fmap) (ρ : Rho) (σ : St) (s : Shared) (fa : Addr) (args : List V) (vals : List Value) (Q E : Value → Shared → Prop), In C d a f ρ σ s → a.A.handled = none → RelL f s.heap args vals → Cont C a f s Rel (co fa args σ) Q E →
  codeAny (model C.prog C.w) a.A (.call (.ref fa) ⟨vals, []⟩) (CR Q E) s
noncomputable def FnSim (C : Cx) (P : Prog) (fa : Addr) (fn : Fn) : Prop := ∀ (co : Addr → List V → St → Res V) (d : Nat), Go C P co d → CodeOk C co d → (∀ x : SL, SimSL C P co d x) →
  ∀ (a : Act) (f : Fmap) (ρ : Rho) (σ : St) (s : Shared) (args : List V) (vals : List Value) (ρ0 : Rho) (Q E : Value → Shared → Prop), In C (d + 1) a f ρ σ s → a.A.handled = none → RelL f s.heap args vals → mkFrame fn args = some ρ0 → Cont C a f s Rel (exL P co fn.body ρ0 σ).out Q E →
  codeAny (model C.prog C.w) a.A (.call (.ref fa) ⟨vals, []⟩) (CR Q E) s
theorem FnAt.sim {fa : Addr} {fn : Fn} {fd : FuncData} {body : List Stmt} {sl : Slots} {names : List Str} (G : C.Good) (F : FnAt C fa fn fd body sl names) : FnSim C P fa fn :=
  fun co d O _ H a f ρ σ s args vals ρ0 Q E I hh rl hm h => call_fn G F (H _) I.g hh I.S rl hm h
structure ClsAt (C : Cx) (c fI : Addr) : Prop where
  makes : makesIn C.K c = true
  init : findIn C.K (.ref c) "__init__" = some (some (.ref fI))
  typ : typeIn C.K (.ref fI) = some (.type "function")
structure Static (C : Cx) (P : Prog) : Prop where
  G : C.Good
  fns : ∀ fa fn, P.fn fa = some fn → FnSim C P fa fn
  cls : ∀ c fI, P.init c = some fI → ClsAt C c fI
  exc : ∀ c, C.T.E.contains c = true → ExcOk C c
  hard : ∀ b, b = .sorted ∨ b = .dict → HardB C b
  spread : ∀ co d, Go C P co d → SpreadOk C P co d
  ext : ExtOk C P.ext
  keep : ∀ x fa, C.T.F.lookup x = some fa → keepIn C.K (.ref fa) = true
  clsIn : ∀ c, (P.init c).isSome = true → c ∈ C.cls
  meth : ∀ c n fa, P.meth c n = some fa → findIn C.K (.ref c) (attrStr n) = some (some (.ref fa)) ∧ typeIn C.K (.ref fa) = some (.type "function") ∧ keepIn C.K (.ref fa) = true ∧
    findIn C.K (.ref c) "__getattribute__" = some (some (.builtin "object.__getattribute__")) ∧ findIn C.K (.ref c) "__getattr__" = some none
end
end QZ
namespace QZ
open PySem PySem.W PySem.Calls PyProof.Rows
section
variable {C : Cx} {P : Prog} {co : Addr → List V → St → Res V} {d : Nat} {a a' : Act} {f f1 f2 f' : Fmap} {ρ ρ1 ρ2 ρ' : Rho} {σ σ1 σ2 σ' : St} {s s1 s2 s' : Shared} {c e : Addr}
theorem CodeOk.call (h : CodeOk C co d) : CallOk C co d := fun a f ρ σ s fa args vals I hh S Q E k => wpAny_call (codeAny_mono (h a f ρ σ s fa args vals Q E I hh S k) fun r s' hr => by
  cases r with
  | error e => exact hr
  | ok fl => cases fl <;> exact hr)
noncomputable def Act.on (a : Act) (A : Around) : Act := { a with A := A }
theorem Sp.on (S : Sp C a f ρ σ s) (A : Around) : Sp C (a.on A) f ρ σ s := ⟨S.ok, ⟨S.fr.len, S.fr.ns, S.fr.out, S.fr.ff, S.fr.fout, S.fr.fns⟩, S.gens, S.os⟩
theorem In.under (I : In C (d + 1) a f ρ σ s) {A : Around} (h1 : A.depth = a.A.depth + 1) (h2 : A.units = a.A.units + 1) (h3 : A.frames = a.A.frames) : In C d (a.on A) f ρ σ s :=
  ⟨I.S.on A, ⟨I.g.names, I.g.kind, I.g.globals, I.g.builtins, I.g.inj, h3.trans I.g.frames, by have := I.g.depth; show A.depth + _ + _ ≤ _; omega, by have := I.g.units; show A.units + _ + _ ≤ _; omega, I.g.slinj⟩, I.ap.base, I.ap.cells⟩
theorem under_frames {A : Around} {n : String} {x : Args} : (A.under (.builtin n x)).frames = A.frames := by
  obtain ⟨hd, dd, fr, gs, u⟩ := A
  cases fr <;> rfl
theorem Cont.on {A : Around} {α β : Type} {Rl : Fmap → Heap → β → α → Prop} {r : Res β} {Q : α → Shared → Prop} {E : Value → Shared → Prop} (h : Cont C a f s Rl r Q E) : Cont C (a.on A) f s Rl r Q E := ⟨h.ne, h.ok, h.err⟩
theorem crInit {Q E : Value → Shared → Prop} {x : Addr} {r : Result} {s' : Shared} (h : CR (fun w s' => w = .none ∧ Q (.ref x) s') E r s') : InitBack x (CR Q E) r s' := by
  cases r with
  | error e => exact h
  | ok fl => cases fl <;> exact h
theorem make_cls (O : CodeOk C co d) (G : C.Good) {fI : Addr} (K : ClsAt C c fI) (I : In C (d + 1) a f ρ σ s) (hh : a.A.handled = none) {args : List V} {vals : List Value} (rl : RelL f s.heap args vals) {Q E : Value → Shared → Prop}
    (h : Cont C a f s Rel ((co fI (.inst c σ.length :: args) (σ ++ [.attrs []])).bind fun w σ' => cond (isNone w) (.ok (.inst c σ.length) σ') .stuck) Q E) :
    codeAny (model C.prog C.w) a.A (.call (.ref c) ⟨vals, []⟩) (CR Q E) s := by
  obtain ⟨hp, gs, dr, tk, os⟩ := s
  have X : C.K.In hp := I.S.kin G
  refine make_core (makes_of X K.makes) (looks_findIn X K.init) (fun self => bind_fn X self K.typ) (.inl rfl) ?_
  have k1 : ∀ b o, hp.get? b = some o → ((hp.push emptyDict).push (instObj c hp.objs.size)).get? b = some o := fun b o e => Heap.get?_push_of_some _ (Heap.get?_push_of_some _ e)
  have hdx : ((hp.push emptyDict).push (instObj c hp.objs.size)).get? hp.objs.size = some emptyDict := Heap.get?_push_of_some _ (Heap.get?_push_size _ rfl)
  have hx : ((hp.push emptyDict).push (instObj c hp.objs.size)).get? (hp.objs.size + 1) = some (instObj c hp.objs.size) := by heap_get
  generalize (hp.push emptyDict).push (instObj c hp.objs.size) = h1 at k1 hdx hx
  have p1 : Post C (lx a) f ⟨hp, gs, dr, tk, os⟩ (f ++ [hp.objs.size]) (σ ++ [.attrs []]) ⟨h1, gs, dr, tk, os⟩ :=
    ⟨Nxt.of_push k1 (none_at _), I.S.ok.push k1 (none_at _) ⟨[], 0, hdx, ⟨(fun _ q => nomatch q), (fun n v q => nomatch q), (fun x _ => rfl), Nat.le_refl _⟩⟩, I.S.gens, I.S.os⟩
  have rx : Rel (f ++ [hp.objs.size]) h1 (.inst c σ.length) (.ref (hp.objs.size + 1)) := ⟨_, _, rfl, I.S.ok.len ▸ at_end f _, hx⟩
  refine codeAny_mono (O (a.on _) _ ρ _ _ fI _ _ _ _ ((I.next p1).under rfl rfl under_frames) hh (RelL.cons rx (rl.mono (Pre.app _ _) fun b o e _ => k1 b o e)) ((h.before I.S p1).bind (I.next p1) fun w σ2 val f2 s2 I2 p2 rw h2 => h2.when fun hw h2 => ?_).on) fun r s' => crInit
  cases isNone_of (M := fun w => w = .none) hw rfl
  exact ⟨rw, h2.here I2.S (p2.rel (I.next p1).S rx)⟩
theorem go_of (ST : Static C P) (h : CodeOk C co d) : Go C P co d := ⟨ST.G, h.call, ST.hard, ST.ext, ST.keep, ST.clsIn, ST.meth⟩
theorem run_at {n : Nat} {fa : Addr} {args : List V} {fn : Fn} (h : P.fn fa = some fn) : run P (n + 1) fa args σ = ofO (mkFrame fn args) fun ρ => (exL P (run P n) fn.body ρ σ).out := by rw [run, h]
theorem run_new {n : Nat} {fa : Addr} {args : List V} (h : P.fn fa = none) : run P (n + 1) fa args σ = ofO (P.init fa) fun f => (run P n f (.inst fa σ.length :: args) (σ ++ [.attrs []])).bind fun w σ' => cond (isNone w) (.ok (.inst fa σ.length) σ') .stuck := by rw [run, h]
theorem run_ok (ST : Static C P) (n : Nat) : CodeOk C (run P n) n := by
  induction n with
  | zero => exact fun a f ρ σ s fa args vals Q E I hh rl h => h.no
  | succ n ih =>
    intro a f ρ σ s fa args vals Q E I hh rl h
    cases hf : P.fn fa with
    | some fn => exact Cont.of (run_at hf ▸ h) fun ρ0 hm h => ST.fns fa fn hf (run P n) n (go_of ST ih) ih (fun x => simSL (go_of ST ih) (ST.spread _ _ (go_of ST ih)) ST.exc x) a f ρ σ s args vals ρ0 Q E I hh rl hm h
    | none => exact Cont.of (run_new hf ▸ h) fun fI hi h => make_cls ih ST.G (ST.cls fa fI hi) I hh rl h
end
end QZ
namespace QZ
open PySem PySem.W PySem.Calls PyProof.Rows
noncomputable abbrev FE := PySem.F.excBase_Exception
structure MakesE (M : Model) (h : Heap) (C : Addr) : Prop where
  obj : ∃ oc od cd sl, h.get? C = some ⟨oc, od, .cls cd, sl⟩ ∧ cd.abstract = false ∧ cd.hasDel = false ∧ cd.mro.isEmpty = false
  made : Looks M h (Bind.madeBy (.ref C)) (some "Exception.__new__")
  base : Looks M h (Bind.staticBase (.ref C)) (.ref C)
  self : Looks M h (isSubtype (.ref C) (.ref C)) true
  own : Looks M h (isSubtype (.ref C) (.type "Exception")) true
  noA : Looks M h (isSubtype (.ref C) (.type "AttributeError")) false
  noN : Looks M h (isSubtype (.ref C) (.type "NameError")) false
  call : Looks M h (specialOf (.ref C) "__call__") (some (.builtin "type.__call__"))
  typ : Looks M h (isInstance (.ref C) (.type "type")) true
noncomputable def makesEIn (K : Frag) (C : Addr) : Bool := match K.lookup C with
  | some ⟨_, _, .cls cd, sl⟩ => !cd.abstract && !cd.hasDel && (sl.toList[4]?).join == some (.builtin "Exception.__new__") && !cd.mro.isEmpty && cd.mro.contains (.ref C) && cd.mro.contains (.type "Exception") &&
      !cd.mro.contains (.type "AttributeError") && !cd.mro.contains (.type "NameError") &&
      specialIn K (.ref C) "__call__" == some (some (.builtin "type.__call__")) && instIn K (.ref C) (.type "type") == some true
  | _ => false
theorem makesE_of {K : Frag} {M : Model} {h : Heap} (X : K.In h) {C : Addr} (e : makesEIn K C = true) : MakesE M h C := by
  unfold makesEIn at e
  split at e
  · rename_i oc od cd sl ho
    simp only [Bool.and_eq_true, Bool.not_eq_true', beq_iff_eq] at e
    obtain ⟨⟨⟨⟨⟨⟨⟨⟨⟨e1, e2⟩, e3⟩, e4⟩, e5⟩, e6⟩, e7⟩, e8⟩, e9⟩, e10⟩ := e
    have hc : clsIn K C = some cd := by unfold clsIn; rw [ho]
    have hm : Looks M h (mroOf (.ref C)) cd.mro := (looks_clsIn X hc).andThen .now
    obtain ⟨c, l, hl⟩ : ∃ c l, cd.mro = c :: l := by cases q : cd.mro with | nil => rw [q] at e4; cases e4 | cons c l => exact ⟨c, l, rfl⟩
    have made : Looks M h (Bind.madeBy (.ref C)) (some "Exception.__new__") := by
      intro A Q E s k q
      unfold Bind.madeBy
      refine wpAny_bind (hm A _ E s k ?_)
      rw [hl, List.forIn_cons]
      refine wpAny_bind (wpAny_bind (wpAny_bind (wpAny_bind (wpAny_loadPart (k _ _ (X _ _ ho)) (wpAny_pure ?_)))))
      dsimp only
      rw [← Array.getElem?_toList, e3]
      exact wpAny_pure (wpAny_pure (wpAny_pure q))
    have sub : ∀ t b, cd.mro.contains t = b → Looks M h (isSubtype (.ref C) t) b := fun t b e => looks_mroIn X (by unfold mroIn; rw [hc, Option.bind_some, if_neg (by rw [e4]; decide), e])
    refine ⟨⟨oc, od, cd, sl, X _ _ ho, e1, e2, e4⟩, made, ?_, sub _ _ e5, sub _ _ e6, sub _ _ e7, sub _ _ e8, looks_specialIn X e9, looks_instIn X e10⟩
    intro A Q E s k q
    unfold Bind.staticBase
    refine wpAny_bind (hm A _ E s k ?_)
    rw [hl, List.forIn_cons]
    exact wpAny_bind (wpAny_bind (wpAny_bind (made A _ E s k (wpAny_pure (wpAny_pure (wpAny_pure q))))))
  · cases e
noncomputable abbrev excObj (C t : Addr) (dx : Option Addr) : Obj := { cls := .ref C, dict := dx, data := .fields #[.ref t, .none, .none, .none, .bool false, .none] }
noncomputable abbrev tupObj (vs : List Value) : Obj := { cls := .type "tuple", data := .seq vs.toArray }
section
variable {prog : Program} {w : World} {A : Around} {C : Addr} {R : Result → Shared → Prop} {h : Heap} {g : Array GenState} {d : Drawn} {t : Nat} {os : OsState}
theorem check_newE {rest : List Value} {M : Model} {E : Value → Shared → Prop} {Q : Unit → Shared → Prop} (Y : MakesE M h C) (hq : Q () ⟨h, g, d, t, os⟩) : wpAny M A (checkBuiltinCall "Exception.__new__" ⟨.ref C :: rest, []⟩) Q E ⟨h, g, d, t, os⟩ := by
  obtain ⟨⟨oc, od, cd, sl, hC, e1, e2, e4⟩, made, base, self, own, noA, noN, call, typ⟩ := Y
  have hstar := FE.noStar
  simp only [checkBuiltinCall, FE.newKind, FE.newSplit, FE.newRow]
  repeat (first | simp only [bne_self_eq_false, Bool.false_eq_true, if_false] | lk)
  exact hq
theorem newE {rest : List Value} (Y : MakesE (model prog w) h C) (hrest : rest.length ≤ sizeLine)
    (hq : R (.ok (.ret (.ref (h.objs.size + 1)))) ⟨(h.push (tupObj rest)).push (excObj C h.objs.size none), g, d, t, os⟩) :
    codeAny (model prog w) A (.call (.builtin "Exception.__new__") ⟨.ref C :: rest, []⟩) R ⟨h, g, d, t, os⟩ := by
  refine codeAny_call_builtin_code (Code.quiet_builtin _ FE.quiet) (check_newE Y ?_)
  obtain ⟨⟨oc, od, cd, sl, hC, e1, e2, e4⟩, made, base, self, own, noA, noN, call, typ⟩ := Y
  refine codeAny_builtinAt FE.entry ?_
  unfold Builtin.«BaseException.__new__»
  refine PySem.wpAt_bind ?_
  show PySem.wpAt _ _ _ (stack >>= _) _ _ _
  refine PySem.wpAt_bind (PySem.wpAt_stack fun p below => PySem.wpAt_of_wpAny ?_)
  have hends := FE.ends
  have hT : (⟨h, g, d, t, os⟩ : Shared).TypeIs (.ref C) "type" → True := fun _ => trivial
  wp_walk
  refine PySem.wpAt_of_wpAny ?_
  rw [FE.owner]
  have here : Looks (model prog w) h (Bind.madeHere "BaseException.__new__" (.ref C)) () := base.andThen (made.andThen (Looks.of_pure (by rw [Option.map_some, FE.canon, bne_self_eq_false]; rfl)))
  repeat (first | simp only [bne_self_eq_false, Bool.not_true, Bool.false_eq_true, if_false] | lk)
  have hz : ¬ rest.toArray.size > sizeLine := by rw [List.size_toArray]; omega
  rw [if_neg hz]
  unfold newObjAsIs
  repeat (first | simp only [Bool.not_true, Bool.false_eq_true, if_false] | wp_step)
  show R _ _
  rw [Heap.size_push]
  exact hq
theorem makeE {rest : List Value} {init : Value} (Y : MakesE (model prog w) h C) (hi : Looks (model prog w) h (typeLookup (.ref C) "__init__") (some init)) (hrest : rest.length ≤ sizeLine)
    (hb : ∀ self, Looks (model prog w) h (bindSpecial init self) (init, [self]))
    (hq : codeAny (model prog w) (A.under (.builtin "type.__call__" ⟨.ref C :: rest, []⟩)) (.call init ⟨.ref (h.objs.size + 1) :: rest, []⟩) (InitBack (h.objs.size + 1) R) ⟨(h.push (tupObj rest)).push (excObj C h.objs.size none), g, d, t, os⟩) :
    codeAny (model prog w) A (.call (.ref C) ⟨rest, []⟩) R ⟨h, g, d, t, os⟩ := by
  have Y' := Y
  obtain ⟨⟨oc, od, cd, sl, hC, e1, e2, e4⟩, made, base, self, own, noA, noN, call, typ⟩ := Y
  refine codeAny_of_tree ?_
  show wpAny _ _ (callAny (.ref C) _) _ _ _
  refine nd_load hC ?_
  show wpAny _ _ (callAny.viaDunder (.ref C) _) _ _ _
  unfold callAny.viaDunder
  refine wpAny_bind (call.at ?_)
  dsimp only
  rw [tc_bind]
  refine wpAny_bind (wpAny_pure (wpAny_bind (wpAny_pure ?_)))
  refine wpAny_pure (a := Fin.again (.call (.builtin "type.__call__") ⟨.ref C :: rest, []⟩)) (And.intro rfl ?_)
  refine codeAny_call_builtin_at (Code.quiet_builtin _ (by decide +kernel)) entry_typeCall (check_slot tc_kind tc_split typ (tc_args _ _ _) ?_)
  unfold Builtin.«type.__call__»
  have hm : Looks (model prog w) h (mroOf (.ref C)) cd.mro := ((Looks.ld (part := none) hC).andThen .now).andThen .now
  repeat (first | simp only [e4, Bool.false_eq_true, if_false] | with_reducible refine wpAny_call ?_ | lk)
  refine newE Y' hrest ?_
  have k : ∀ b o, h.get? b = some o → ((h.push (tupObj rest)).push (excObj C h.objs.size none)).get? b = some o := fun b o e => Heap.get?_push_of_some _ (Heap.get?_push_of_some _ e)
  have hx : ((h.push (tupObj rest)).push (excObj C h.objs.size none)).get? (h.objs.size + 1) = some (excObj C h.objs.size none) := by heap_get
  have t1 : Looks (model prog w) ((h.push (tupObj rest)).push (excObj C h.objs.size none)) (typeOf (.ref (h.objs.size + 1))) (.ref C) := (Looks.ld hx).andThen .now
  have s1 := self.keeps k
  have i1 := hi.keeps k
  have b1 := (hb (.ref (h.objs.size + 1))).keeps k
  unfold isInstance callSpecial? specialOf
  repeat (first | with_reducible refine wpAny_call ?_ | lk)
  refine codeAny_mono hq fun r s' z => ?_
  rcases r with e | (v | _ | _ | _) <;> first | exact z | exact z.elim | skip
  obtain ⟨rfl, z⟩ := z
  exact wpAny_pure (wpAny_pure z)
end
end QZ
namespace QZ
open PySem PySem.W PySem.Calls PyProof.Rows
namespace FW
theorem slot_get : Slot "wrapper_descriptor" "__get__" "wrapper_descriptor.__get__" := .of (owner := "wrapper_descriptor") (n := "__get__") (by rw [typeLookup_type, builtinLookup_eq_fast]; kernel_rfl) (by decide +kernel) (by decide +kernel) (by decide +kernel)
  (by first | exact .inl (by decide +kernel) | exact .inr (by decide +kernel)) (by rw [isSubtype_type]; kernel_rfl)
theorem entry_get : entryFor table "wrapper_descriptor.__get__" = some Builtin.«wrapper_descriptor.__get__» := entryFor_of_tree (by kernel_rfl)
theorem args_get (a b c : Value) : argsOk "wrapper_descriptor.__get__" ⟨[a, b, c], []⟩ := by unfold argsOk; kernel_rfl
theorem type_init : typeOf (.builtin "Exception.__init__") = pure (.type "wrapper_descriptor") := by show builtinType _ = _; rw [builtinType_eq_fast]; kernel_rfl
theorem kind_get : builtinKind "wrapper_descriptor.__get__" = some .slot := by decide +kernel
theorem split_get : splitId "wrapper_descriptor.__get__" = some ("wrapper_descriptor", "__get__") := by decide +kernel
theorem sub_get : isSubtype (.type "wrapper_descriptor") (.type "wrapper_descriptor") = pure true := by rw [isSubtype_type]; kernel_rfl
end FW
noncomputable abbrev superObj (D x C : Addr) : Obj := { cls := .type "super", dict := none, data := .fields #[.ref D, .ref x, .ref C], slots := #[] }
noncomputable abbrev wrapObj (x : Addr) : Obj := { cls := .type "method-wrapper", data := .fields #[.builtin "Exception.__init__", .ref x] }
theorem wp_rw {α : Type} {M : Model} {A : Around} {t t' : Sem α} {Q : α → Shared → Prop} {E : Value → Shared → Prop} {s : Shared} (e : t = t') (h : wpAny M A t' Q E s) : wpAny M A t Q E s := e ▸ h
section
variable {prog : Program} {w : World} {A : Around} {E : Value → Shared → Prop} {h : Heap} {g : Array GenState} {d : Drawn} {t : Nat} {os : OsState}
theorem get_wrapper {x C : Addr} {Q : Fin → Shared → Prop} (hi : Looks (model prog w) h (isInstance (.ref x) (.type "Exception")) true)
    (hq : Q (.done (.ret (.ref h.objs.size))) ⟨h.push (wrapObj x), g, d, t, os⟩) :
    wpAny (model prog w) A (Builtin.«wrapper_descriptor.__get__» ⟨[.builtin "Exception.__init__", .ref x, .ref C], []⟩) Q E ⟨h, g, d, t, os⟩ := by
  unfold Builtin.«wrapper_descriptor.__get__»
  show wpAny _ _ (pure (Value.builtin "Exception.__init__", some (Value.ref x), some (Value.ref C)) >>= _) _ _ _
  refine wpAny_bind (wpAny_pure ?_)
  dsimp only
  refine nd_bind ?_
  repeat (first | (with_reducible refine wp_rw (t' := isInstance (.ref x) (.type "Exception")) (by kernel_rfl) (Looks.at hi ?_)) | lk)
  exact hq
theorem super_gaB {so D x C : Addr} {l₀ l : List Value} {K : Frag} {name : Str} {tk : Tok} {Q : Fin → Shared → Prop}
    (hso : h.get? so = some (superObj D x C)) (hno : Looks (model prog w) h (opaqueClassAbove (.ref C)) none)
    (hC : Looks (model prog w) h (mroOf (.ref C)) l₀) (hl : (l₀.dropWhile (· != .ref D)).drop 1 = l) (X : K.In h)
    (hf : alongIn K name l = some (some (.builtin "Exception.__init__"))) (hxC : x ≠ C) (hn : (name == ("__class__" : Str)) = false)
    (hi : Looks (model prog w) h (isInstance (.ref x) (.type "Exception")) true)
    (hq : Q (.done (.ret (.ref h.objs.size))) ⟨h.push (wrapObj x), g, d, t, os⟩) :
    wpAny (model prog w) A (Builtin.«super.__getattribute__» ⟨[.ref so, .str name tk], []⟩) Q E ⟨h, g, d, t, os⟩ := by
  have hlk := FW.slot_get.lookup
  have hne : (Value.ref x == Value.ref C) = false := by simp [hxC]
  have hdt : (superObj D x C).data = .fields #[.ref D, .ref x, .ref C] := rfl
  have f0 : (#[.ref D, .ref x, .ref C] : Array Value)[0]? = some (.ref D) := rfl
  have f1 : (#[.ref D, .ref x, .ref C] : Array Value)[1]? = some (.ref x) := rfl
  have f2 : (#[.ref D, .ref x, .ref C] : Array Value)[2]? = some (.ref C) := rfl
  unfold Builtin.«super.__getattribute__»
  repeat (first
    | (with_reducible refine wpAny_field hso hdt f0 ?_) | (with_reducible refine wpAny_field hso hdt f1 ?_) | (with_reducible refine wpAny_field hso hdt f2 ?_)
    | (with_reducible refine ks_wpAny_notOpaque hno ?_)
    | (with_reducible refine Looks.at hC ?_; rw [hl])
    | (refine ks_forIn_along X (fun _ _ => rfl) rfl ?_ hf)
    | (with_reducible refine wp_rw FW.type_init (wpAny_pure ?_))
    | (simp only [hn, hne, Bool.or_false, Bool.false_eq_true, if_false])
    | wp_step
    | dsimp only)
  have li : Looks (model prog w) h (isInstance (.builtin "Exception.__init__") (.type "wrapper_descriptor")) true := (Looks.of_pure FW.type_init).andThen (Looks.of_pure FW.sub_get)
  refine codeAny_call_builtin FW.slot_get.plain FW.entry_get (@check_slot (model prog w) _ _ ⟨h, g, d, t, os⟩ "wrapper_descriptor.__get__" "wrapper_descriptor" "__get__" (.builtin "Exception.__init__") [.ref x, .ref C] [] _ FW.kind_get FW.split_get li (FW.args_get _ _ _) ?_)
  exact get_wrapper hi (wpAny_pure (wpAny_pure hq))
theorem getMethod_superB {so D x C : Addr} {l₀ l : List Value} {K : Frag} {name : Str} {pl : Sem Bool} {Q : Value × List Value → Shared → Prop}
    (hso : h.get? so = some (superObj D x C)) (hno : Looks (model prog w) h (opaqueClassAbove (.ref C)) none)
    (hC : Looks (model prog w) h (mroOf (.ref C)) l₀) (hl : (l₀.dropWhile (· != .ref D)).drop 1 = l) (X : K.In h)
    (hf : alongIn K name l = some (some (.builtin "Exception.__init__"))) (hxC : x ≠ C) (hn : (name == ("__class__" : Str)) = false)
    (hi : Looks (model prog w) h (isInstance (.ref x) (.type "Exception")) true)
    (hq : Q (.ref h.objs.size, []) ⟨h.push (wrapObj x), g, d, t + 1, os⟩) :
    wpAny (model prog w) A (getMethod (.ref so) name pl) Q E ⟨h, g, d, t, os⟩ := by
  have hlk := F.ks_slot_super_ga.lookup
  have hT : ∀ t', (⟨h, g, d, t', os⟩ : Shared).TypeIs (.ref so) "super" := fun _ => ⟨_, hso, rfl⟩
  unfold getMethod
  refine wpAny_bind (wpAny_specialOf (hT _) hlk ?_)
  show wpAny _ _ (if (Manifest.canonical "super.__getattribute__" != "object.__getattribute__") = true then _ else _) _ _ _
  rw [if_pos F.ks_canon_super_ga]
  unfold PySem.getAttr PySem.getAttrBy
  refine wpAny_bind (wpAny_bind (wpAny_mkText (wpAny_holding (wpAny_bind (wpAny_typeOf (hT _) (wpAny_bind (wpAny_of_eq hlk ?_)))))))
  show wpAny _ _ (getAttrByItsOwn (.ref so) (.str name t) (.type "super") (.builtin "super.__getattribute__") true false) _ _ _
  unfold getAttrByItsOwn hookBefore callGetattribute boundAndCalled
  refine wpAny_bind (wpAny_of_eq (show (if onTheHeap (.type "super") then typeLookup (.type "super") "__getattr__" else pure none) = pure none from rfl) ?_)
  refine wpAny_bind (wpAny_attempt (wpAny_holding ?_))
  show wpAny _ _ (bindSpecial (.builtin "super.__getattribute__") (.ref so) >>= _) _ _ _
  refine wpAny_bind (wpAny_of_eq (F.ks_slot_super_ga.bind _) ?_)
  refine wpAny_mono (Q := fun v s' => v = .ref h.objs.size ∧ s' = ⟨h.push (wrapObj x), g, d, t + 1, os⟩) (E := fun _ _ => False)
    (wpAny_call_entry F.ks_slot_super_ga (hT _) F.ks_entry_super_ga (super_gaB hso hno hC hl X hf hxC hn hi ⟨_, rfl, rfl, rfl⟩) (F.ks_gaArgs_super _ _)) (fun v s' hv => ?_) fun _ _ z => z.elim
  obtain ⟨rfl, rfl⟩ := hv
  exact wpAny_pure (wpAny_pure hq)
theorem keeper_wrap {b x : Addr} (hb : h.get? b = some (wrapObj x)) : Looks (model prog w) h (keeperOf (.ref b)) .machine := by
  unfold keeperOf
  exact (Looks.ld hb).andThen .now
theorem call_wrap {b x C t0 : Addr} {v : Value} {Q : Value → Shared → Prop} {oc : Value} {od : Option Addr} {cd : ClassData} {sl : Array (Option Value)} (hC : h.get? C = some ⟨oc, od, .cls cd, sl⟩) (hb : h.get? b = some (wrapObj x)) (hx : h.get? x = some (excObj C t0 none))
    (hq : ∀ h' t1, (∀ y o, y ≠ x → h.get? y = some o → h'.get? y = some o) → h'.get? x = some (excObj C t1 none) → Q .none ⟨h', g, d, t, os⟩) :
    wpAny (model prog w) A (call (.ref b) [v]) Q E ⟨h, g, d, t, os⟩ := by
  refine wpAny_call (codeAny_of_tree ?_)
  show wpAny _ _ (callAny (.ref b) _) _ _ _
  unfold callAny
  refine wpAny_bind (wpAny_load hb ?_)
  show wpAny _ _ (checkBoundCall "Exception.__init__" ⟨[.ref x, v], []⟩ >>= fun _ => again (.builtin "Exception.__init__" ⟨[.ref x, v], []⟩)) _ _ _
  have hc : ∀ {E' : Value → Shared → Prop} {Q' : Unit → Shared → Prop} {A'}, Q' () ⟨h, g, d, t, os⟩ → wpAny (model prog w) A' (checkBoundCall "Exception.__init__" ⟨[.ref x, v], []⟩) Q' E' ⟨h, g, d, t, os⟩ := by
    intro E' Q' A' q
    have hshort := PySem.F.excCall_Exception.noStar
    unfold checkBoundCall
    simp only [PySem.F.excCall_Exception.initKind, PySem.F.excCall_Exception.initRow]
    repeat (first | with_reducible refine wpAny_loadPart_at hC ?_ | wp_step)
    exact q
  refine wpAny_bind (hc ?_)
  refine wpAny_pure ⟨Code.quiet_builtin _ (by decide +kernel), codeAny_builtin PySem.F.excCall_Exception.initEntry ?_⟩
  unfold Builtin.«BaseException.__init__»
  have hget := hx
  repeat wp_step
  have hxs : x < h.objs.size := Heap.lt_size hx
  have hx' := Heap.get?_push_of_some { cls := Value.type "tuple", data := Data.seq #[v] } hx
  refine hq _ h.objs.size (fun y o hy e => ?_) ?_
  · rw [Heap.get?_update_other _ _ (Ne.symm hy)]
    exact Heap.get?_push_of_some _ e
  · rw [Heap.get?_update_self _ hx' rfl]
    rfl
end
end QZ
namespace QZ
open PySem PySem.W PySem.Calls PyProof.Rows
section
variable {prog : Program} {w : World} {A : Around} {E : Value → Shared → Prop} {h : Heap} {g : Array GenState} {d : Drawn} {t : Nat} {os : OsState} {R : Result → Shared → Prop}
theorem refuseE (self : Value) : refuseLoop self "__setattr__" [.type "Exception", .type "BaseException", .type "object"] = pure () := by kernel_rfl
noncomputable def ownExc : List Value → Bool
  | [.type a, .type b, .type c] => a == "Exception" && b == "BaseException" && c == "object"
  | .ref _ :: r => ownExc r
  | _ => false
theorem refuse_own (self : Value) : ∀ {l : List Value}, ownExc l = true → refuseLoop self "__setattr__" l = pure ()
  | [.type a, .type b, .type c], e => by
    simp only [ownExc, Bool.and_eq_true, beq_iff_eq] at e
    obtain ⟨⟨rfl, rfl⟩, rfl⟩ := e
    exact refuseE self
  | .ref c :: r, e => by rw [refuseLoop_ref]; exact refuse_own self (by cases r <;> first | exact e | cases e)
theorem setE {x C t0 : Addr} {K : Frag} {name : Str} {v : Value} {cd : ClassData} {Q : Unit → Shared → Prop} (X : K.In h) (hx : h.get? x = some (excObj C t0 none)) (hc : clsIn K C = some cd) (hown : ownExc cd.mro = true) (hd : cd.hasDict = true)
    (hs : findIn K (.ref C) "__setattr__" = some (some (.builtin "object.__setattr__"))) (ht : findIn K (.ref C) name = some none) (hobj : subIn K (.ref C) (.type "object") = some true)
    (hq : ∀ h' dx t', (∀ y o, y ≠ x → h.get? y = some o → h'.get? y = some o) → h'.get? x = some (excObj C t0 (some dx)) → Q () ⟨h', g, d, t', os⟩) :
    wpAny (model prog w) A (PySem.setAttr (.ref x) name v) Q E ⟨h, g, d, t, os⟩ := by
  have I : InstAt h x (excObj C t0 none) C none := ⟨hx, rfl, rfl, trivial⟩
  refine set_plain (s := ⟨h, g, d, t, os⟩) X I hs ?_
  have SF := PySem.F.store_object
  have ne : cd.mro.isEmpty = false := by cases q : cd.mro with | nil => rw [q] at hown; cases hown | cons _ _ => rfl
  have sub : Looks (model prog w) h (isInstance (.ref x) (.type "object")) true := I.type.andThen (looks_subIn X hobj)
  refine codeAny_call_builtin SF.slot.plain SF.entry (@check_slot (model prog w) _ _ ⟨h, g, d, t + 1, os⟩ "object.__setattr__" "object" "__setattr__" (.ref x) [.str name t, v] [] _ SF.kind SF.split sub (SF.args (.ref x) (.str name t) v) ?_)
  have hm : Looks (model prog w) h (mroOf (.ref C)) cd.mro := (looks_clsIn X hc).andThen .now
  rw [osa_eq, refuse_eq]
  refine wpAny_bind (wpAny_bind (I.type.here (wpAny_bind (hm.here ?_))))
  rw [refuse_own _ hown]
  refine wpAny_pure (wpAny_bind (I.type.here (wpAny_bind ((looks_findIn X ht).here ?_))))
  refine wpAny_bind (wpAny_pure ?_)
  dsimp only
  refine wpAny_bind (wpAny_pure (wpAny_bind (wpAny_bind (wpAny_loadPart hx (wpAny_bind ((looks_clsIn X hc).here ?_))))))
  rw [hd]
  show wpAny _ _ (alloc { cls := .type "dict", data := .dict #[] } >>= fun dd => update x (fun o => { o with dict := some dd }) >>= fun _ => dictMade (.ref C) x dd) _ _ _
  have hx1 := Heap.get?_push_of_some { cls := Value.type "dict", data := Data.dict #[] } hx
  have hxs : x < h.objs.size := Heap.lt_size hx
  refine wpAny_bind (wpAny_alloc (wpAny_bind (wpAny_update hx1 ?_)))
  have hx2 := Heap.get?_update_self (fun o : Obj => { o with dict := some h.objs.size }) hx1 rfl
  have hd2 : ((h.push { cls := Value.type "dict", data := Data.dict #[] }).update x (fun o : Obj => { o with dict := some h.objs.size })).get? h.objs.size = some { cls := Value.type "dict", data := Data.dict #[] } := by
    rw [Heap.get?_update_other _ _ (Nat.ne_of_lt hxs)]; exact Heap.get?_push_size _ rfl
  show wpAny _ _ (pure (some h.objs.size)) _ _ _
  refine wpAny_pure (wpAny_bind (wpAny_pure (wpAny_bind ?_)))
  unfold nsSet
  refine wpAny_bind (wpAny_bind (wpAny_askSetting (wpAny_pure (wpAny_bind (wpAny_mkText (wpAny_bind (wpAny_loadPart hd2 ?_)))))))
  dsimp only
  rw [aRefKeyMayBeTheName_at]
  rw [if_neg (by simp)]
  refine wpAny_updatePart hd2 ?_
  generalize hk : (if name.cps.isEmpty = true then (0 : Int) else reduceHash ((model prog w).w.params.strHash name.cps)) = kh
  have hne : x ≠ h.objs.size := Nat.ne_of_lt hxs
  have e3 : Obj.putName name kh (.str name (t + 1)) v { cls := Value.type "dict", data := Data.dict #[] } = dictOf (putL name kh (.str name (t + 1)) v []) (putN name [] 0) := putName_dict _ _ _ _ _ _
  have hd3 := Heap.get?_update_self (Obj.putName name kh (.str name (t + 1)) v) hd2 (by rw [e3]; rfl)
  rw [e3] at hd3
  refine wpAny_bind (wpAny_lookBehind hd3 (pastItsLine_dict (by rw [List.size_toArray, putL_length, sizeLine_eq]; split <;> simp)) ?_)
  refine wpAny_pure (hq _ h.objs.size _ (fun y o hy e => ?_) ?_)
  · rw [Heap.get?_update_other _ _ (Ne.symm (Nat.ne_of_lt (Heap.lt_size e))), Heap.get?_update_other _ _ (Ne.symm hy)]
    exact Heap.get?_push_of_some _ e
  · rw [Heap.get?_update_other _ _ hne.symm]
    exact hx2
end
end QZ
namespace QZ
open PySem PySem.W PySem.Calls PyProof.Rows
structure SupF (C : Cx) (fI : Addr) (fd : FuncData) (me : Str) (D : Addr) : Prop where
  at_ : ∃ o, C.K.lookup fI = some o ∧ o.data = .func fd
  kind : fd.scope.kind = .function
  co : fd.scope.isCoroutine = false
  gen : fd.scope.isGenerator = false
  clo : ∃ cc o, fd.closure = [(("__class__" : Str), cc)] ∧ C.K.lookup cc = some o ∧ o.data = .cell (some (.ref D))
  code : ∃ cda o vs tf, fd.code = .ref cda ∧ C.K.lookup cda = some o ∧ o.data = .fields vs ∧ vs[2]? = some (.str (C.prog.main.file : Str) tf)
  codeIn : codeIn C.K fd.code fd.qualname = true
  head : ∃ ar, (fd.params.posonlyargs ++ fd.params.args).head? = some ar ∧ ar.arg = me
  nself : fd.scope.names.lookup me = some .local
  nsup : fd.scope.names.lookup ("super" : Str) = some .globalImplicit
  ncls : fd.scope.names.lookup ("__class__" : Str) = some .free
  nocell : ∀ x ∈ fd.scope.names, x.2 ≠ .cell
  htop : (C.prog.main.scope.names.lookup ("super" : Str)).isSome = false
  hD : ∃ cd, clsIn C.K D = some cd
  globals : fd.globals = mainGlobals
  builtins : fd.builtins = builtinsNs
  mg : C.mg "super" = none
  mb : C.mb "super" = some (.type "super")
section
variable {C : Cx} {A : Around} {E : Value → Shared → Prop} {s : Shared}
theorem binds_none {fd : FuncData} {names : List Str} {vals : List Value} (pp : PlainP fd names) (hd : fd.defaults = .none) (hl : vals.length = names.length) : BindsTo s fd ⟨vals, []⟩ (names.zip vals) := by
  obtain ⟨k, k1, k2⟩ := bind_core (vals := vals) (dfl := []) pp (.inl hl)
  rw [hd] at k1
  refine BindsTo.of_eq (k1.trans ((congrArg (· >>= k) (show seqItems? .none = pure none from rfl)).trans ((pure_bind ..).trans ((k2 none rfl).trans ?_))))
  rw [bindsOf, if_pos hl]
theorem cls_at {K : Frag} {c : Addr} {cd : ClassData} (h : clsIn K c = some cd) : ∃ a b sl, K.lookup c = some ⟨a, b, .cls cd, sl⟩ := by
  unfold clsIn at h
  split at h
  · rename_i ho; cases h; exact ⟨_, _, _, ho⟩
  · cases h
theorem super_base {fI x c D L : Addr} {fd : FuncData} {me : Str} {m : Str → Option Value} {body : List Stmt} {p0 p1 : Pos} {attr : Str} {whole : Sem Value} {ox : Obj} {Q : Value → Shared → Prop}
    (F : SupF C fI fd me D) (G : C.Good) (X : C.K.In s.heap) (nG : s.heap.Ns mainGlobals C.mg) (nB : s.heap.Ns builtinsNs C.mb) (hns : s.heap.Ns L m) (hv : m me = some (.ref x)) (hx : s.heap.get? x = some ox) (hxc : ox.cls = .ref c) (hxn : ∀ cd, ox.data ≠ .cls cd)
    (hsub : mroIn C.K c (.ref D) = some true) (hat : (attr == ("__class__" : Str)) = false)
    (h : ∀ h', (∀ b o, s.heap.get? b = some o → h'.get? b = some o) → h'.get? s.heap.objs.size = some (superObj D x c) → Q (.ref s.heap.objs.size) { s with heap := h' }) :
    _root_.PySem.wpAt (model C.prog C.w) A (.func body (callEnv fd L fI)) (attributeBase (.Call (.Name "super" p0) [] [] p1) attr (callEnv fd L fI) whole) Q E s := by
  obtain ⟨of, hf, hfd⟩ := F.at_
  obtain ⟨cc, oc, hclo, hcc, hcd⟩ := F.clo
  obtain ⟨cda, k1, vs, tf, hcode, hcda, hcdd, hvs⟩ := F.code
  obtain ⟨ar, hp, har⟩ := F.head
  obtain ⟨cdD, hD⟩ := F.hD
  obtain ⟨hh, g, d, t, os⟩ := s
  obtain ⟨ca, cb, csl, hK⟩ := cls_at hD
  have hD1 : hh.get? D = _ := X _ _ hK
  have hD2 : (Obj.mk ca cb (.cls cdD) csl).data = .cls cdD := rfl
  have hk : (callEnv fd L fI).scope.kind = .function := F.kind
  refine ks_wpAt_super_base (env := callEnv fd L fI) F.nsup F.ncls hat rfl (X _ _ hf) hfd hp hcode (X _ _ hcda) hcdd hvs (beq_self_eq_true _) F.htop ?_
  refine ks_loadName_global hk F.nsup (loadGlobal_builtin (by show Heap.Ns _ fd.globals _; rw [F.globals]; exact nG) F.mg (by show Heap.Ns _ fd.builtins _; rw [F.builtins]; exact nB) F.mb ⟨rfl, ?_⟩)
  refine wpAny_loadName_free (c := cc) hk F.ncls (by show List.lookup _ fd.closure = _; rw [hclo]; rfl) ⟨_, X _ _ hcc, hcd⟩ ?_
  refine wpAny_loadName_local hk (by rw [har]; exact F.nself) hns (by rw [har]; exact hv) ?_
  refine ks_wpAny_isType_cls hD1 hD2 ⟨rfl, ?_⟩
  exact ks_wpAny_call_super hD1 hD2 hx hxc hxn (looks_mroIn X hsub) fun h' e k => h h' k e
theorem call_form {o' : Expr} {y : Str} {apos cp : Pos} {args : List Expr} {env : Env} (hs : (backTo cp (starEach args env)).all (!·.1) = true) (hlen : args.length < 30) (hline : apos.endLine = cp.line) :
    eval (.Call (.Attribute o' y apos) args [] cp) env = (do
      let ov ← attributeBase o' y env (eval o' env)
      standAt apos.atName
      let (f, first) ← holding [ov] (getMethod ov y (do return (← importBound o' env).getD true))
      callWith cp f first (backTo cp (starEach args env)) []) := by
  have hform : methodCallForm args.length (backTo cp (starEach args env)) [] = true := by
    unfold methodCallForm
    rw [hs]
    simp [hlen]
  show (do
    let ov ← attributeBase o' y env (eval o' env)
    standAt apos.atName
    methodCall o' y apos cp env ov (args.length + 0) (backTo cp (starEach args env)) []) = _
  unfold methodCall calleeOf methodCallPos
  rw [Nat.add_zero, hform]
  simp only [hline, if_true, beq_self_eq_true, Bool.or_true]
  rfl
end
end QZ
namespace QZ
open PySem PySem.W PySem.Calls PyProof.Rows
structure ExcF (C : Cx) (c : Addr) : Prop where
  K1 : makesEIn C.K c = true
  init : ∃ fI fd D p0 p1 ap p2 cp p p3 p4 p5 p6, findIn C.K (.ref c) "__init__" = some (some (.ref fI)) ∧ typeIn C.K (.ref fI) = some (.type "function") ∧ SupF C fI fd "self" D ∧ PlainP fd ["self", "what"] ∧ fd.defaults = .none ∧
    fd.scope.names.lookup ("what" : Str) = some .local ∧ ap.endLine = cp.line ∧
    fd.body = .stmts [.Expr (.Call (.Attribute (.Call (.Name "super" p0) [] [] p1) "__init__" ap) [.Name "what" p2] [] cp) p, .Assign [.Attribute (.Name "self" p3) "what" p4] (.Name "what" p5) p6] ∧
    mroIn C.K c (.ref D) = some true ∧ ks_superIn C.K c D "__init__" = some (some (.builtin "Exception.__init__"))
  cls : ∃ cd, clsIn C.K c = some cd ∧ ownExc cd.mro = true ∧ cd.hasDict = true
  set : findIn C.K (.ref c) "__setattr__" = some (some (.builtin "object.__setattr__"))
  free : findIn C.K (.ref c) "what" = some none
  obj : subIn C.K (.ref c) (.type "object") = some true
  exc : subIn C.K (.ref c) (.type "Exception") = some true
  opq : nsIn C.K cStatics "thirdparty.any" = some none
section
variable {C : Cx} {A : Around} {R : Result → Shared → Prop} {h : Heap} {g : Array GenState} {d : Drawn} {t : Nat} {os : OsState}
theorem even_name {x : Str} {p : Pos} {env : Env} {cp : Pos} : backTo cp (starEach [.Name x p] env) = [(false, eval (.Name x p) env)] := by
  rfl
theorem initE {c x t0 : Addr} {m : Str} {tt : Tok} (E : ExcF C c) (G : C.Good) (hd : A.depth < 950) (hb : ∀ b o, C.base.get? b = some o → h.get? b = some o) (hx : h.get? x = some (excObj c t0 none)) (hxb : C.base.get? x = none) {fI : Addr} (hi : findIn C.K (.ref c) "__init__" = some (some (.ref fI)))
    (hq : ∀ h' t' e1 dx, (∀ y o, y ≠ x → h.get? y = some o → h'.get? y = some o) → h'.get? x = some (excObj c e1 (some dx)) → R (.ok (.ret .none)) ⟨h', g, d, t', os⟩) :
    codeAny (model C.prog C.w) A (.call (.ref fI) ⟨[.ref x, .str m tt], []⟩) R ⟨h, g, d, t, os⟩ := by
  obtain ⟨fI', fd, D, p0, p1, ap, p2, cp, p, p3, p4, p5, p6, i1, i2, F, P, hdf, hw, hline, hbody, hmro, hsup⟩ := E.init
  obtain rfl : fI' = fI := by rw [hi] at i1; cases i1; rfl
  obtain ⟨cdc, hcl, hown, hdict⟩ := E.cls
  have X : C.K.In h := fun b o e => hb b o (G.kin b o e)
  obtain ⟨of, hf, hfd⟩ := F.at_
  refine ks_codeAny_call_defAt (by show A.depth < 1000; omega) (X _ _ hf) hfd (G.lim.keeps fun b o e => hb b o e) (codeRec_of X F.codeIn) hbody (binds_none (s := ⟨h, g, d, t, os⟩) (vals := [.ref x, .str m tt]) P hdf rfl) F.nocell (fun y hy => ?_) (fun h₀ hns hk => ?_) F.co F.gen F.kind
  · simp only [List.zip_cons_cons, List.zip_nil_right, List.mem_cons, List.not_mem_nil, or_false] at hy
    rcases hy with rfl | rfl
    · exact F.nself
    · exact hw
  have hself : (((["self", "what"] : List Str).zip [Value.ref x, Value.str m tt]).reverse.lookup ("self" : Str)) = some (.ref x) := by rfl
  have hwhat : (((["self", "what"] : List Str).zip [Value.ref x, Value.str m tt]).reverse.lookup ("what" : Str)) = some (.str m tt) := by rfl
  have hkind : (callEnv fd h.objs.size fI').scope.kind = .function := F.kind
  have hb0 : ∀ b o, C.base.get? b = some o → h₀.get? b = some o := fun b o e => hk b o (hb b o e)
  have X0 : C.K.In h₀ := fun b o e => hb0 b o (G.kin b o e)
  have hx0 : h₀.get? x = some (excObj c t0 none) := hk _ _ hx
  refine ks_wpAt_execs_cons (ks_wpAt_Expr_any (ks_wpAt_MethodCall ?_ (call_form (by rw [even_name]; rfl) (by show 1 < 30; decide) hline)) (by unfold interactive; rw [hkind]; rfl) (by rfl))
  refine super_base (s := ⟨h₀, g, d, t + _, os⟩) F G X0 (ns_of G.nsG fun o e => hb0 _ o e) (ns_of G.nsB fun o e => hb0 _ o e) hns hself hx0 rfl (fun cd z => by cases z) hmro (by decide +kernel) fun h1 k1 hso => ?_
  have X1 : C.K.In h1 := fun b o e => k1 b o (X0 b o e)
  have hx1 : h1.get? x = some (excObj c t0 none) := k1 _ _ hx0
  obtain ⟨occ, occd, occs, hC⟩ := cls_at hcl
  have hxc : x ≠ c := fun e => nomatch hxb.symm.trans ((congrArg C.base.get? e).trans (G.kin _ _ hC))
  have LI : ∀ hh, C.K.In hh → (∃ tx dx, hh.get? x = some (excObj c tx dx)) → Looks (model C.prog C.w) hh (isInstance (.ref x) (.type "Exception")) true := fun hh Xh ⟨tx, dx, e⟩ => ((Looks.ld e).andThen .now).andThen (looks_subIn Xh E.exc)
  have hal : alongIn C.K "__init__" ((cdc.mro.dropWhile (· != .ref D)).drop 1) = some (some (.builtin "Exception.__init__")) := by
    have := hsup; unfold ks_superIn at this; rw [hcl, Option.bind_some] at this; exact this
  refine getMethod_superB (l₀ := cdc.mro) hso (looks_opaque X1 E.opq) ((looks_clsIn X1 hcl).andThen .now) rfl X1 hal hxc (by decide +kernel) (LI h1 X1 ⟨_, _, hx1⟩) ?_
  have k2 : ∀ b o, h1.get? b = some o → (h1.push (wrapObj x)).get? b = some o := fun b o e => Heap.get?_push_of_some _ e
  have hw2 : (h1.push (wrapObj x)).get? h1.objs.size = some (wrapObj x) := Heap.get?_push_size _ rfl
  have ck : chkL ⟨[], [], []⟩ [] [(("what" : Str), 0)] 1 (.cons (.var 0) .nil) [.Name "what" p2] = true := by rfl
  have hns1 : h1.Ns h.objs.size (fun y => ((["self", "what"] : List Str).zip [Value.ref x, Value.str m tt]).reverse.lookup y) := hns.keeps k1
  have hns2 := hns1.keeps k2
  refine callWith_sim (Pd := fun hh => hh.get? h1.objs.size = some (wrapObj x)) ck (fun hh e => ⟨.machine, .inr (.inl rfl), keeper_wrap e⟩) ?_
  rw [even_name]
  refine Calls.spliced_cons (wpAny_Name (wpAny_loadName_local hkind hw hns2 hwhat ?_) (by decide +kernel))
  refine Calls.spliced_nil ⟨hw2, ?_⟩
  refine call_wrap (k2 _ _ (X1 _ _ hC)) hw2 (k2 _ _ hx1) fun h2 t1 k3 hx2 => ?_
  have keep2 : ∀ b o, b ≠ x → h.get? b = some o → h2.get? b = some o := fun b o hb e => k3 b o hb (k2 _ _ (k1 _ _ (hk _ _ e)))
  have X2 : C.K.In h2 := fun b o e => keep2 b o (by rintro rfl; have := G.kin _ _ e; rw [hxb] at this; cases this) (hb _ _ (G.kin b o e))
  have hLx : h.objs.size ≠ x := Nat.ne_of_gt (Heap.lt_size hx)
  have hns3 : h2.Ns h.objs.size (fun y => ((["self", "what"] : List Str).zip [Value.ref x, Value.str m tt]).reverse.lookup y) := ns_of hns2 fun o e => k3 _ o hLx e
  refine ks_wpAt_execs_cons (ks_wpAt_Assign_Attr (PySem.wpAt_of_wpAny (wpAny_Name (wpAny_loadName_local hkind hw hns3 hwhat ?_) (by decide +kernel))) (by rfl))
  refine wpAny_Name (wpAny_loadName_local hkind F.nself hns3 hself ?_) (by decide +kernel)
  refine setE X2 hx2 hcl hown hdict E.set E.free E.obj fun h3 dx t' k4 hx3 => ?_
  refine PySem.wpAt_of_wpAny (wpAny_pure ?_)
  exact hq h3 t' t1 dx (fun y o hy e => k4 y o hy (keep2 y o hy e)) hx3
end
end QZ
namespace QZ
open PySem PySem.W PySem.Calls PyProof.Rows
section
variable {C : Cx}
theorem make_exc {c : Addr} (E : ExcF C c) (G : C.Good) : MakeOk C c := by
  intro A Ex Q s m t hd hu hb hq
  obtain ⟨h, g, d, tk, os⟩ := s
  have X : C.K.In h := fun b o e => hb b o (G.kin b o e)
  obtain ⟨fI, fd, D, p0, p1, ap, p2, cp, p, p3, p4, p5, p6, i1, i2, -⟩ := E.init
  have hxn : h.get? (h.objs.size + 1) = none := Heap.get?_none_of_le (Nat.le_succ _)
  have hx : ((h.push (tupObj [.str m t])).push (excObj c h.objs.size none)).get? (h.objs.size + 1) = some (excObj c h.objs.size none) := by heap_get
  have k1 : ∀ b o, h.get? b = some o → ((h.push (tupObj [.str m t])).push (excObj c h.objs.size none)).get? b = some o := fun b o e => Heap.get?_push_of_some _ (Heap.get?_push_of_some _ e)
  refine wpAny_call (makeE (makesE_of X E.K1) (looks_findIn X i1) (by rw [sizeLine_eq]; simp) (fun me => bind_fn X me i2) ?_)
  refine initE E G (by show A.depth + 1 < 950; omega) (fun b o e => k1 b o (hb b o e)) hx ?_ i1 fun h' t' e1 dx k2 hx2 => ?_
  · cases q : C.base.get? (h.objs.size + 1) with
    | none => rfl
    | some o => have := hb _ _ q; rw [hxn] at this; cases this
  · refine ⟨rfl, ?_⟩
    show Q (.ref (h.objs.size + 1)) _
    refine hq _ h' t' ⟨fun b o e => k2 b o (by rintro rfl; rw [hxn] at e; cases e) (k1 b o e), hxn, ?_⟩
    exact ⟨_, _, _, hx2, rfl, rfl, rfl, rfl⟩
theorem exc_ok {c : Addr} (E : ExcF C c) (G : C.Good) (h1 : exmOne C.K (.ref c) (.ref c) = some true) (h2 : subIn C.K (.ref c) (.type "BaseException") = some true) (h3 : typeIn C.K (.ref c) = some (.type "type")) (h4 : keepIn C.K (.ref c) = true) : ExcOk C c :=
  ⟨h1, make_exc E G, h2, h3, h4⟩
end
end QZ
namespace QZ
open PySem PySem.W PySem.Calls PyProof.Rows
structure SupAt (C : Cx) (P : Prog) (fa : Addr) (fn : Fn) (fd : FuncData) (f2 : Addr) (D : Addr) (rest : SL) (brest : List Stmt) : Prop where
  F : SupF C fa fd "self" D
  pp : PlainP fd ["self"]
  dfl : fd.defaults = .none
  np : fn.np = 1
  nd : fn.dflt = []
  nl : fn.nloc = 1
  fbody : fn.body = .cons (.exp (.sup f2 .nil)) rest
  body : ∃ p0 p1 ap cp p, ap.endLine = cp.line ∧ fd.body = .stmts (.Expr (.Call (.Attribute (.Call (.Name "super" p0) [] [] p1) "__init__" ap) [] [] cp) p :: brest)
  chk : chkSL C.T fd.scope.names [(("self" : Str), 0)] 1 rest brest = true
  own : ∀ c, P.sup c = some f2 → mroIn C.K c (.ref D) = some true ∧ ks_superIn C.K c D "__init__" = some (some (.ref f2)) ∧ (clsIn C.K c).isSome
  typ : typeIn C.K (.ref f2) = some (.type "function")
  fun2 : ∃ o fd2, C.K.lookup f2 = some o ∧ o.data = .func fd2
  opq : nsIn C.K cStatics "thirdparty.any" = some none
noncomputable def actS (A : Around) (envs : List Env) (fd : FuncData) (L : Addr) (fa : Addr) : Act := ⟨A.deeper (callEnv fd L fa), callEnv fd L fa, callEnv fd L fa :: envs, fd.scope.names, [(("self" : Str), 0)], 1⟩
section
variable {C : Cx} {P : Prog} {co : Addr → List V → St → Res V} {d : Nat} {a : Act} {f : Fmap} {ρ : Rho} {σ : St} {s s1 : Shared} {fa f2 D : Addr} {fn : Fn} {fd : FuncData} {rest : SL} {brest : List Stmt}
theorem self_lookup {x : Str} {i : Nat} (h : ([(("self" : Str), 0)] : Slots).lookup x = some i) : x = "self" ∧ i = 0 := by
  rw [List.lookup_cons] at h
  by_cases q : x = ("self" : Str)
  · subst q; rw [beq_self_eq_true] at h; cases h; exact ⟨rfl, rfl⟩
  · rw [beq_eq_false_iff_ne.mpr q] at h; cases h
theorem enter_sup (Y : SupAt C P fa fn fd f2 D rest brest) (g : a.Good (d + 1)) (S : Sp C a f ρ σ s) {v : V} {val : Value} (rv : Rel f s.heap v val) {h₀ : Heap} {tk : Nat}
    (hns : h₀.Ns s.heap.objs.size (fun x => ((["self"] : List Str).zip [val]).reverse.lookup x)) (hkeep : ∀ b o, s.heap.get? b = some o → h₀.get? b = some o) :
    (actS a.A a.envs fd s.heap.objs.size fa).Good d ∧ Own (actS a.A a.envs fd s.heap.objs.size fa) ∧ (actS a.A a.envs fd s.heap.objs.size fa).Apart C ∧ Sp C (actS a.A a.envs fd s.heap.objs.size fa) f [some v] σ { s with heap := h₀, toks := tk } ∧
      (∀ b ∈ frA (actS a.A a.envs fd s.heap.objs.size fa), s.heap.get? b = none) := by
  obtain ⟨cc, _, hclo, _⟩ := Y.F.clo
  have hL : ∀ b o, s.heap.get? b = some o → b < s.heap.objs.size := fun b o e => Heap.lt_size e
  have hnone : ∀ b, s.heap.objs.size ≤ b → s.heap.get? b = none := fun b hb => Heap.get?_none_of_le hb
  have base_none' : ∀ b, s.heap.objs.size ≤ b → C.base.get? b = none := fun b hb => by
    cases q : C.base.get? b with
    | none => rfl
    | some o => exact absurd (hL b o (S.ok.stay b o q)) (Nat.not_lt.mpr hb)
  have hfn : ∀ b, s.heap.objs.size ≤ b → b ∉ f := fun b hb q => absurd (S.ok.lt q) (Nat.not_lt.mpr hb)
  have hcells : (callEnv fd s.heap.objs.size fa).cells = [(("__class__" : Str), cc)] := hclo
  have one : ∀ x c, (callEnv fd s.heap.objs.size fa).cells.lookup x = some c → x = ("__class__" : Str) := fun x c h => by
    rw [hcells, List.lookup_cons] at h
    by_cases q : x = ("__class__" : Str)
    · exact q
    · rw [beq_eq_false_iff_ne.mpr q] at h; cases h
  refine ⟨⟨rfl, Y.F.kind, Y.F.globals, Y.F.builtins, fun x y c h1 h2 => (one x c h1).trans (one y c h2).symm, Around.frames_deeper g.frames, ?_, ?_, fun x y i h1 h2 => (self_lookup h1).1.trans (self_lookup h2).1.symm⟩, ⟨⟨a.envs, rfl⟩, rfl⟩, ⟨base_none' _ (Nat.le_refl _), fun x i c hx e => ?_⟩, ?_, fun b hb => ?_⟩
  · have := g.depth
    show a.A.depth + 1 + 4 * d + 8 ≤ 900
    omega
  · have := g.units
    show a.A.units + 3 + 40 * d + 300 ≤ cLine
    omega
  · obtain ⟨rfl, -⟩ := self_lookup hx
    exact absurd (one _ c e) (by decide +kernel)
  · have z : Fz s.heap h₀ := fun b o e _ => hkeep b o e
    refine ⟨S.ok.keeps hkeep, ⟨rfl, ⟨_, hns, fun x i hx => ?_⟩, hfn _ (Nat.le_refl _), ⟨?_, ?_, ?_⟩, fun e he L hL' => ?_, fun e he L hL' => ?_⟩, S.gens, S.os⟩
    · obtain ⟨rfl, rfl⟩ := self_lookup hx
      exact ⟨some v, rfl, .loc Y.F.nself (rv.mono (Pre.refl _) z)⟩
    · show fd.scope.kind ≠ .module
      rw [Y.F.kind]; decide
    · obtain ⟨o, es, ep, e, hd, _⟩ := id hns
      exact ⟨_, o, rfl, base_none' _ (Nat.le_refl _), e, fun vs q => by rw [hd] at q; cases q⟩
    · exact S.fr.ff.of_keeps fun b o e _ => ⟨o, hkeep b o e, rfl⟩
    · rcases List.mem_cons.mp he with rfl | he
      · cases hL'; exact hfn _ (Nat.le_refl _)
      · exact S.fr.fout e he L hL'
    · rcases List.mem_cons.mp he with rfl | he
      · cases hL'; exact ⟨_, hns⟩
      · obtain ⟨m, hm⟩ := S.fr.fns e he L hL'
        exact ⟨m, hm.keeps hkeep⟩
  · rcases frA_in b hb with rfl | ⟨x, i, h1, h2, h3⟩
    · exact hnone _ (Nat.le_refl _)
    · obtain ⟨rfl, -⟩ := self_lookup h1
      have : fd.scope.names.lookup ("self" : Str) = some .cell := h2
      rw [Y.F.nself] at this; cases this
theorem keeper_meth {h : Heap} {M : Model} {b x f2 : Addr} {o : Obj} {fd2 : FuncData} (hb : h.get? b = some (methodObj (.ref f2) (.ref x))) (hf : h.get? f2 = some o) (hd : o.data = .func fd2) : Looks M h (keeperOf (.ref b)) .boundFrame := by
  unfold keeperOf
  refine (Looks.ld hb).andThen ?_
  exact (Looks.ld hf).andThen (by rw [hd]; exact .now)
theorem supOf_of {v w : V} (h : supOf P f2 v = some w) : ∃ c n, v = .inst c n ∧ w = v ∧ P.sup c = some f2 := by
  cases v with
  | inst c n =>
    change cond (decide (P.sup c = some f2)) (some _) none = _ at h
    by_cases q : P.sup c = some f2
    · rw [decide_eq_true q] at h
      cases h
      exact ⟨c, n, rfl, rfl, q⟩
    · rw [decide_eq_false q] at h
      cases h
  | _ => cases h
theorem exL_sup {v : V} : exL P co (.cons (.exp (.sup f2 .nil)) rest) [some v] σ = ofOR (supOf P f2 v) fun w => (co f2 [w] σ).thenR [some v] fun _ σ' => exL P co rest [some v] σ' := by
  show R.thenL (Res.thenR (ofO (supOf P f2 v) fun w => co f2 [w] σ) [some v] fun _ σ => .next [some v] σ) _ = _
  cases supOf P f2 v with
  | none => rfl
  | some w => show R.thenL (Res.thenR (co f2 [w] σ) _ _) _ = Res.thenR (co f2 [w] σ) _ _; cases co f2 [w] σ <;> rfl
theorem sup_first (Y : SupAt C P fa fn fd f2 D rest brest) (G : C.Good) (HC : CodeOk C co d) (H : SimSL C P co d rest) {p0 p1 apos cp p : Pos} (hline : apos.endLine = cp.line) {c : Addr} {n : Nat} (hs : P.sup c = some f2) {a' : Act} (ha : ∃ L, a'.env = callEnv fd L fa) (I : In C d a' f [some (.inst c n)] σ s) (w : Own a') (hh : a'.A.handled = none) (hn : a'.ns = fd.scope.names) (hsl : a'.sl = [(("self" : Str), 0)]) (hnl : a'.n = 1) {Q : Flow → Shared → Prop} {E : Value → Shared → Prop}
    (h : ContS C a' f s ((co f2 [.inst c n] σ).thenR [some (.inst c n)] fun _ σ' => exL P co rest [some (.inst c n)] σ') Q E) :
    PySem.wpAt (model C.prog C.w) a'.A (.func (.Expr (.Call (.Attribute (.Call (.Name "super" p0) [] [] p1) "__init__" apos) [] [] cp) p :: brest) a'.env) (execs (.Expr (.Call (.Attribute (.Call (.Name "super" p0) [] [] p1) "__init__" apos) [] [] cp) p :: brest) a'.env) Q E s := by
  obtain ⟨L, ha⟩ := ha
  obtain ⟨hmro, hsup, hcls⟩ := Y.own c hs
  obtain ⟨cdc, hcl⟩ := Option.isSome_iff_exists.mp hcls
  have hkind : (callEnv fd L fa).scope.kind = .function := Y.F.kind
  obtain ⟨m, hm, hslots⟩ := I.S.fr.ns
  obtain ⟨q, q1, q2⟩ := hslots "self" 0 (by rw [hsl]; rfl)
  cases q1
  have hself : ∃ val, m "self" = some val ∧ Rel f s.heap (.inst c n) val := by
    have k : a'.env.kindOf "self" = some .local := by rw [ha]; exact Y.F.nself
    cases q2 with
    | loc _ o => exact OR.some o fun val e r => ⟨val, e, r⟩
    | cell k' => rw [k] at k'; cases k'
    | free k' => rw [k] at k'; cases k'
  obtain ⟨val, hself, rv⟩ := hself
  obtain ⟨x, dx, rfl, hdx, hx⟩ := id rv
  have X0 := I.S.kin G
  obtain ⟨ca, cb, csl, hK⟩ := cls_at hcl
  have hxC : x ≠ c := fun e => by have := X0 _ _ hK; rw [← e, hx] at this; cases this
  have nG := I.S.nsG G
  have nB := I.S.nsB G
  rw [ha] at hm ⊢
  refine ks_wpAt_execs_cons (ks_wpAt_Expr_any (ks_wpAt_MethodCall ?_ (call_form (by rfl) (by show 0 < 30; decide) hline)) (by unfold interactive; rw [hkind]; rfl) (by rfl))
  refine super_base Y.F G X0 nG nB hm hself hx rfl (fun cd z => by cases z) hmro (by decide +kernel) fun h1 k1 hso => ?_
  have X1 : C.K.In h1 := fun b o e => k1 b o (X0 b o e)
  have hal : alongIn C.K "__init__" ((cdc.mro.dropWhile (· != .ref D)).drop 1) = some (some (.ref f2)) := by
    have := hsup; unfold ks_superIn at this; rw [hcl, Option.bind_some] at this; exact this
  obtain ⟨o2, fd2, hf2, hf2d⟩ := Y.fun2
  have hf2c : o2.cls = .type "function" := by
    have : (C.K.lookup f2).map (·.cls) = some (.type "function") := Y.typ
    rw [hf2] at this
    exact Option.some.inj this
  refine ks_wpAny_getMethod_super (l₀ := cdc.mro) hso (looks_opaque X1 Y.opq) ((looks_clsIn X1 hcl).andThen .now) rfl X1 hal (X1 _ _ hf2) hf2c hxC (by decide +kernel) ?_
  have k2 : ∀ b o, h1.get? b = some o → (h1.push (methodObj (.ref f2) (.ref x))).get? b = some o := fun b o e => Heap.get?_push_of_some _ e
  have hm2 : (h1.push (methodObj (.ref f2) (.ref x))).get? h1.objs.size = some (methodObj (.ref f2) (.ref x)) := Heap.get?_push_size _ rfl
  refine callWith_sim (T := C.T) (ns := []) (sl := []) (n := 0) (l := .nil) (Pd := fun hh => hh.get? h1.objs.size = some (methodObj (.ref f2) (.ref x)) ∧ C.K.In hh) (by rfl) (fun hh e => ⟨.boundFrame, .inr (.inr rfl), keeper_meth e.1 (e.2 _ _ hf2) hf2d⟩) ?_
  refine Calls.spliced_nil ⟨⟨hm2, fun b o e => k2 b o (X1 b o e)⟩, ?_⟩
  generalize h1.push (methodObj (.ref f2) (.ref x)) = h2 at k2 hm2
  have p2 : Post C (lx a') f s f σ { s with heap := h2, toks := s.toks + 1 } := postGrow I.S (fun b o e => k2 b o (k1 b o e)) _
  have I2 := I.next p2
  refine wpAny_call (ks_codeAny_call_bound hm2 (codeAny_mono (HC a' f _ σ _ f2 _ [.ref x] _ E I2 hh (RelL.cons (p2.rel I.S rv) RelL.nil) ((h.before (.of_post p2)).thenR (K := fun _ s' => PySem.wpAt (model C.prog C.w) a'.A (.func (.Expr (.Call (.Attribute (.Call (.Name "super" p0) [] [] p1) "__init__" apos) [] [] cp) p :: brest) (callEnv fd L fa)) (execs brest (callEnv fd L fa)) Q E s') I2 fun v σ' wv f3 s3 I3 p3 _ h3 => ?hk)) fun r s3 h3 => ?_))
  case hk =>
    refine PySem.wpAt_of_wpAny ?_
    rw [← ha]
    exact H a' brest f3 _ σ' s3 I3 w (.inl hh) (by rw [hn, hsl, hnl]; exact Y.chk) _ _ h3
  cases r with
  | error ev => exact h3
  | ok fl => cases fl <;> exact h3
theorem SupAt.sim (Y : SupAt C P fa fn fd f2 D rest brest) (G : C.Good) : FnSim C P fa fn := fun co d O HC H a f ρ σ s args vals ρ0 Q E I hh rl hm h => by
  unfold mkFrame at hm
  rw [Y.np, Y.nd, Y.nl] at hm
  refine cond_of hm fun hl hm => ?_
  cases hm
  obtain ⟨l1, l2, _⟩ := of_decide_eq_true hl
  cases args with
  | nil => exact absurd l2 (by decide)
  | cons sv r =>
    cases r with
    | cons => exact absurd l1 (by simp)
    | nil =>
      obtain ⟨val, rfl, rv⟩ := relL_one rl
      rw [show fn.body = _ from Y.fbody] at h
      obtain ⟨p0, p1, apos, cp, p, hline, hbody⟩ := Y.body
      obtain ⟨of, hf, hfd⟩ := Y.F.at_
      refine ks_codeAny_call_defAt (by have := I.g.depth; show a.A.depth < 1000; omega) (I.S.kin G _ _ hf) hfd (G.lim.keeps fun b o e => I.S.ok.stay b o e) (codeRec_of (I.S.kin G) Y.F.codeIn) hbody (binds_none Y.pp Y.dfl rfl) Y.F.nocell (fun y hy => ?_) (fun h₀ hns hk => ?_) Y.F.co Y.F.gen Y.F.kind
      · obtain rfl := List.mem_singleton.mp hy
        exact Y.F.nself
      obtain ⟨g', w', ap', S', fresh⟩ := enter_sup (tk := s.toks + ((["self"] : List Str).zip [val]).length) Y I.g I.S rv hns hk
      refine ContS.of (ContS.eq exL_sup (ContS.leave I.S hk fresh rfl g' w' S' h)) fun w hw hS => ?_
      obtain ⟨c, n, rfl, rfl, hs⟩ := supOf_of hw
      exact sup_first Y G HC (H _) hline hs ⟨_, rfl⟩ ⟨S', g', ap'⟩ w' hh rfl rfl rfl hS
end
end QZ
namespace QZ
open PySem PySem.W PySem.Calls PyProof.Rows
noncomputable def funD : Data → Option FuncData
  | .func fd => some fd
  | _ => none
theorem funD_of {d : Data} {fd : FuncData} (h : funD d = some fd) : d = .func fd := by
  cases d with
  | func => exact congrArg Data.func (Option.some.inj h)
  | _ => exact no_some h
noncomputable def seqD : Data → Option (List Value)
  | .seq l _ => some l.toList
  | _ => none
theorem seqD_of {d : Data} {l : List Value} (h : seqD d = some l) : ∃ n, d = .seq l.toArray n := by
  cases d with
  | seq a n => exact ⟨n, Option.some.inj h ▸ rfl⟩
  | _ => exact no_some h
noncomputable def refV : Value → Option Addr
  | .ref a => some a
  | _ => none
theorem refV_of {v : Value} {a : Addr} (h : refV v = some a) : v = .ref a := by
  cases v with
  | ref => exact congrArg Value.ref (Option.some.inj h)
  | _ => exact no_some h
noncomputable def intIs (i : Int) : Value → Bool
  | .int j _ => i == j
  | _ => false
theorem intIs_of {i : Int} {v : Value} (h : intIs i v = true) : ∃ t, v = .int i t := by
  cases v with
  | int j t => exact ⟨t, eq_of_beq h ▸ rfl⟩
  | _ => exact no_tt h
noncomputable def strIs (x : Str) : Value → Bool
  | .str y _ => x == y
  | _ => false
theorem strIs_of {x : Str} {v : Value} (h : strIs x v = true) : ∃ t, v = .str x t := by
  cases v with
  | str j t => exact ⟨t, eq_of_beq h ▸ rfl⟩
  | _ => exact no_tt h
noncomputable def slotsOf (fd : FuncData) : Slots :=
  let ps := fd.params.args.map (·.arg)
  let loc := (fd.scope.names.filter fun p => p.2 == .local || p.2 == .cell).map (·.1)
  (ps ++ loc.filter fun x => !ps.contains x).zipIdx
noncomputable def lc (k : Option NameKind) : Bool := k == some .local || k == some .cell
noncomputable def relStrs : List V → List Value → Bool
  | [], r => nil? r
  | x :: l, r => cons? r fun v r => (msgOf x).any (fun s => strIs s v) && relStrs l r
noncomputable def relIn (K : Frag) (x : V) (v : Value) : Bool := match x with
  | .int i => intIs i v
  | .str s => strIs s v
  | .tup l => (refV v).any fun a => (K.lookup a).any fun o => o.cls == .type "tuple" && (seqD o.data).any (relStrs l)
  | _ => false
noncomputable def dflIn (K : Frag) (fd : FuncData) (dfl : List V) : Bool := cond (nil? dfl) (fd.defaults == .none) (one? dfl fun dv => (refV fd.defaults).any fun ta => (K.lookup ta).any fun o => (seqD o.data).any fun l => one? l (relIn K dv))
noncomputable def slotOk (names : List Str) (np nl : Nat) (ns : Names) (p : Str × Nat) : Bool := decide (p.2 < nl) && ((!decide (p.2 < np) || names[p.2]? == some p.1) && lc (ns.lookup p.1))
noncomputable def funIn (K : Frag) (fa : Addr) : Option FuncData := (K.lookup fa).bind fun o => funD o.data
noncomputable def fnChk1 (K : Frag) (fd : FuncData) (fn : Fn) : Bool :=
  (!fd.scope.isCoroutine && (!fd.scope.isGenerator && (fd.scope.kind == .function && fd.closure.isEmpty))) && ((codeIn K fd.code fd.qualname && (fd.globals == mainGlobals && (fd.builtins == builtinsNs && fd.params.posonlyargs.isEmpty))) &&
    ((fd.params.kwonlyargs.isEmpty && (fd.params.vararg.isNone && (fd.params.kwarg.isNone && decide (fd.params.args.map (·.arg)).Nodup))) && (((fd.params.args.map (·.arg)).length == fn.np && (decide (fn.np ≤ fn.nloc) && dflIn K fd fn.dflt)) &&
    ((slotsOf fd).all (slotOk (fd.params.args.map (·.arg)) fn.np fn.nloc fd.scope.names) && ((fd.params.args.map (·.arg)).all (fun x => lc (fd.scope.names.lookup x)) && decide ((slotsOf fd).map (·.2)).Nodup)))))
noncomputable def stmB : FuncBody → Option (List Stmt)
  | .stmts b => some b
  | .expr _ => none
theorem stmB_of {b : FuncBody} {l : List Stmt} (h : stmB b = some l) : b = .stmts l := by
  cases b with
  | stmts => exact congrArg FuncBody.stmts (Option.some.inj h)
  | expr => exact no_some h
noncomputable def bodyChk (T : Tab) (fd : FuncData) (fn : Fn) : Bool := (stmB fd.body).any (chkSL T fd.scope.names (slotsOf fd) fn.nloc fn.body)
section
variable {C : Cx}
theorem relStrs_of {h : Heap} : ∀ {l : List V} {r : List Value}, relStrs l r = true → RelL [] h l r := by
  intro l
  induction l with
  | nil => exact fun q => (nil?_of q : _ = [])
  | cons x l ih =>
    intro r q
    apply cons?_of q
    exact fun v r q => b2 q fun q1 q2 => any_of q1 fun s e q => str?_of (M := fun x => RelL [] h (x :: l) (v :: r)) e ⟨v, r, rfl, strIs_of q, ih q2⟩
theorem relIn_rel {K : Frag} {h : Heap} (X : K.In h) {v : V} {val : Value} (q : relIn K v val = true) : Rel [] h v val := by
  cases v with
  | int i => exact intIs_of q
  | str s => exact strIs_of q
  | tup l => exact any_of q fun a e q => any_of q fun o ho q => b2 q fun q1 q2 => any_of q2 fun r hr q => (seqD_of hr).elim fun n hd => ⟨a, r.toArray, refV_of e, ⟨o, X _ _ ho, eq_of_beq q1, n, hd⟩, relStrs_of q⟩
  | _ => exact no_tt q
theorem lc_or {k : Option NameKind} (h : lc k = true) : k = some .local ∨ k = some .cell := (Bool.or_eq_true_iff.mp h).imp eq_of_beq eq_of_beq
theorem snd_inj {sl : Slots} (h : (sl.map (·.2)).Nodup) {x y : Str} {i : Nat} (h1 : sl.lookup x = some i) (h2 : sl.lookup y = some i) : x = y := by
  obtain ⟨j1, e1⟩ := List.mem_iff_getElem?.mp (mem_of_lookup h1)
  obtain ⟨j2, e2⟩ := List.mem_iff_getElem?.mp (mem_of_lookup h2)
  have l1 : j1 < (sl.map (·.2)).length := by rw [List.length_map]; exact (List.getElem?_eq_some_iff.mp e1).1
  have : (sl.map (·.2))[j1]? = (sl.map (·.2))[j2]? := by rw [List.getElem?_map, List.getElem?_map, e1, e2]; rfl
  cases (List.getElem?_inj l1 h).mp this
  cases e1.symm.trans e2
  rfl
theorem dflIn_of (G : C.Good) {fd : FuncData} {dfl : List V} (h : dflIn C.K fd dfl = true) : (fd.defaults = .none ∧ dfl = []) ∨ ∃ ta o n d dv, fd.defaults = .ref ta ∧ C.K.lookup ta = some o ∧ o.data = .seq #[d] n ∧ dfl = [dv] ∧ Rel [] C.base dv d := by
  cases dfl with
  | nil => exact .inl ⟨eq_of_beq h, rfl⟩
  | cons x l =>
    have h : one? (x :: l) (fun dv => (refV fd.defaults).any fun ta => (C.K.lookup ta).any fun o => (seqD o.data).any fun l => one? l (relIn C.K dv)) = true := h
    apply one?_of (M := fun dfl => (fd.defaults = .none ∧ dfl = []) ∨ ∃ ta o n d dv, fd.defaults = .ref ta ∧ C.K.lookup ta = some o ∧ o.data = .seq #[d] n ∧ dfl = [dv] ∧ Rel [] C.base dv d) h
    refine fun dv h => any_of h fun ta e h => any_of h fun o ho h => any_of h fun r hr h => ?_
    revert hr
    apply one?_of h
    exact fun d q hr => (seqD_of hr).elim fun n hd => .inr ⟨ta, o, n, d, dv, refV_of e, ho, hd, rfl, relIn_rel G.kin q⟩
theorem funAt {fa : Addr} {fd : FuncData} {K : Frag} {G : Prop} (h : funIn K fa = some fd) (k : ∀ o, K.lookup fa = some o → o.data = .func fd → G) : G := bind_of h fun o e h => k o e (funD_of h)
theorem fnAt_of (G : C.Good) {fa : Addr} {fn : Fn} {fd : FuncData} (h0 : funIn C.K fa = some fd) (h1 : fnChk1 C.K fd fn = true) (h2 : bodyChk C.T fd fn = true) : ∃ body, FnAt C fa fn fd body (slotsOf fd) (fd.params.args.map (·.arg)) := by
  refine any_of h2 fun b hb h2 => b5 h1 fun d1 d2 d3 d4 d5 => b4 d1 fun c1 c2 c3 c4 => b4 d2 fun c5 c6 c7 c8 => b4 d3 fun c9 c10 c11 c12 => b3 d4 fun c13 c14 c15 => b3 d5 fun c16 c17 c18 => ?_
  have hsl : ∀ x i, (slotsOf fd).lookup x = some i → slotOk (fd.params.args.map (·.arg)) fn.np fn.nloc fd.scope.names (x, i) = true := fun x i h => List.all_eq_true.mp c16 _ (mem_of_lookup h)
  exact ⟨b, funAt h0 fun o e d => ⟨o, G.kin _ _ e, d⟩, stmB_of hb, not_false' c1, not_false' c2, eq_of_beq c3, List.isEmpty_iff.mp c4, codeRec_of G.kin c5, eq_of_beq c6, eq_of_beq c7, ⟨List.isEmpty_iff.mp c8, rfl, List.isEmpty_iff.mp c9, Option.isNone_iff_eq_none.mp c10, Option.isNone_iff_eq_none.mp c11, of_decide_eq_true c12⟩, eq_of_beq c13, of_decide_eq_true c14, dflIn_of G c15,
    fun x i h => b3 (hsl x i h) fun q1 q2 _ => ⟨of_decide_eq_true q1, fun hi => eq_of_beq ((Bool.or_eq_true_iff.mp q2).resolve_left fun q => by rw [decide_eq_true hi] at q; cases q)⟩, fun x i h => b3 (hsl x i h) fun _ _ q => lc_or q,
    fun x hx => lc_or (List.all_eq_true.mp c17 x hx), fun x y i e1 e2 => snd_inj (of_decide_eq_true c18) e1 e2, h2⟩
theorem fnSim_of (G : C.Good) {P : Prog} {fa : Addr} {fn : Fn} {fd : FuncData} (h0 : funIn C.K fa = some fd) (h1 : fnChk1 C.K fd fn = true) (h2 : bodyChk C.T fd fn = true) : FnSim C P fa fn := (fnAt_of G h0 h1 h2).elim fun b F => F.sim G
end
end QZ
namespace QZ
open PySem PySem.W PySem.Calls PyProof.Rows
noncomputable def gIn (K : Frag) (T : Tab) : Bool := T.G.all fun p => (nsIn K mainGlobals p.1).any fun o => o.any (relIn K p.2)
noncomputable def fIn (K : Frag) (T : Tab) : Bool := T.F.all fun p => nsIn K mainGlobals p.1 == some (some (.ref p.2)) && keepIn K (.ref p.2)
noncomputable def allBI : List BI := [.len, .abs, .min, .sum, .sorted, .int, .tuple, .list, .dict]
noncomputable def bIn (K : Frag) : Bool := allBI.all fun b => nsIn K mainGlobals (Str.ofString (biName b)) == some none
noncomputable def freeIn (K : Frag) (x : String) : Bool := nsIn K mainGlobals (Str.ofString x) == some none
section
variable {C : Cx}
theorem lookup_all {α : Type} {l : List (Str × α)} {p : Str × α → Bool} (h : l.all p = true) {x : Str} {v : α} (e : l.lookup x = some v) : p (x, v) = true := List.all_eq_true.mp h _ (mem_of_lookup e)
theorem free_of {C : Cx} (X : C.K.In C.base) (nG : C.base.Ns mainGlobals C.mg) {x : String} (h : freeIn C.K x = true) : C.mg (Str.ofString x) = none := mg_none_of X nG (eq_of_beq h)
theorem good_of (X : C.K.In C.base) (lim : C.base.NoLimit) (nG : C.base.Ns mainGlobals C.mg) (nB : C.base.Ns builtinsNs C.mb) (hb : ∀ x : Str, x ≠ "__name__" → C.mb x = bootBuiltins x)
    (h1 : gIn C.K C.T = true) (h2 : fIn C.K C.T = true) (h3 : bIn C.K = true) (h4 : freeIn C.K "range" = true) (h5 : freeIn C.K "enumerate" = true) (h6 : ∀ c ∈ C.cls, clsOk C.K c = true) (h7 : (C.base.get? sysModules).isSome = true) : C.Good where
  kin := X
  lim := lim
  nsG := nG
  nsB := nB
  glob := fun x v e => any_of (lookup_all h1 e) fun o hv q => any_of q fun val ho q => ⟨val, mg_of X nG (hv.trans (congrArg some ho)), relIn_rel X q⟩
  fns := fun x a e => b2 (lookup_all h2 e) fun q _ => mg_of X nG (eq_of_beq q)
  bis := fun b => by
    have hm : b ∈ allBI := by cases b <;> decide
    refine ⟨mg_none_of X nG (eq_of_beq (List.all_eq_true.mp h3 b hm)), (hb _ ?_).trans ?_⟩
    · cases b <;> decide +kernel
    · cases b <;> decide +kernel
  rng := ⟨free_of X nG h4, (hb _ (by decide +kernel)).trans (by decide +kernel)⟩
  enm := ⟨free_of X nG h5, (hb _ (by decide +kernel)).trans (by decide +kernel)⟩
  cls := h6
  sysm := h7
noncomputable def clsAtIn (K : Frag) (c fI : Addr) : Bool := makesIn K c && (findIn K (.ref c) "__init__" == some (some (.ref fI)) && typeIn K (.ref fI) == some (.type "function"))
theorem clsAt_of {c fI : Addr} (h : clsAtIn C.K c fI = true) : ClsAt C c fI := b3 h fun h1 h2 h3 => ⟨h1, eq_of_beq h2, eq_of_beq h3⟩
noncomputable def celD : Data → Option Value
  | .cell v => v
  | _ => none
theorem celD_of {d : Data} {v : Value} (h : celD d = some v) : d = .cell (some v) := by
  cases d with
  | cell => exact congrArg Data.cell h
  | _ => exact no_some h
noncomputable def fldD : Data → Option (Array Value)
  | .fields v => some v
  | _ => none
theorem fldD_of {d : Data} {v : Array Value} (h : fldD d = some v) : d = .fields v := by
  cases d with
  | fields => exact congrArg Data.fields (Option.some.inj h)
  | _ => exact no_some h
noncomputable def cellIn (K : Frag) (fd : FuncData) (g : Addr → Bool) : Bool := one? fd.closure fun p => p.1 == ("__class__" : Str) && (K.lookup p.2).any fun o => (celD o.data).any fun v => (refV v).any g
noncomputable def fileIn (K : Frag) (file : Str) (fd : FuncData) : Bool := (refV fd.code).any fun cda => (K.lookup cda).any fun o => (fldD o.data).any fun vs => (vs[2]?).any (strIs file)
noncomputable def supChk (K : Frag) (prog : Program) (fd : FuncData) (D : Addr) : Bool :=
  (fd.scope.kind == .function && (!fd.scope.isCoroutine && (!fd.scope.isGenerator && cellIn K fd (· == D)))) && ((fileIn K (prog.main.file : Str) fd && (codeIn K fd.code fd.qualname &&
    ((fd.params.posonlyargs ++ fd.params.args).head?.any (fun ar => ar.arg == ("self" : Str)) && fd.scope.names.lookup ("self" : Str) == some .local))) && ((fd.scope.names.lookup ("super" : Str) == some .globalImplicit && (fd.scope.names.lookup ("__class__" : Str) == some .free &&
    (fd.scope.names.all (fun p => p.2 != .cell) && !(prog.main.scope.names.lookup ("super" : Str)).isSome))) && ((clsIn K D).isSome && (fd.globals == mainGlobals && fd.builtins == builtinsNs))))
theorem sup_of {fI D : Addr} {fd : FuncData} (h0 : funIn C.K fI = some fd) (h : supChk C.K C.prog fd D = true) (mg : C.mg "super" = none) (mb : C.mb "super" = some (.type "super")) : SupF C fI fd "self" D :=
  b4 h fun d1 d2 d3 d4 => b4 d1 fun c1 c2 c3 c4 => b4 d2 fun c5 c6 c7 c8 => b4 d3 fun c9 c10 c11 c12 => b3 d4 fun c13 c14 c15 => {
    at_ := funAt h0 fun o e d => ⟨o, e, d⟩
    kind := eq_of_beq c1
    co := not_false' c2
    gen := not_false' c3
    clo := one?_of (M := fun cl => ∃ cc o, cl = [((_ : Str), cc)] ∧ C.K.lookup cc = some o ∧ o.data = .cell (some (.ref D))) c4 fun p q => b2 q fun q1 q => any_of q fun o ho q => any_of q fun v hv q => any_of q fun a ha q => ⟨p.2, o, congrArg (fun x => [(x, p.2)]) (eq_of_beq q1), ho, celD_of (hv.trans (congrArg some ((refV_of ha).trans (congrArg Value.ref (eq_of_beq q)))))⟩
    code := any_of c5 fun cda e q => any_of q fun o ho q => any_of q fun vs hv q => any_of q fun v e2 q => (strIs_of q).elim fun tf ht => ⟨cda, o, vs, tf, refV_of e, ho, fldD_of hv, e2.trans (congrArg some ht)⟩
    codeIn := c6
    head := any_of c7 fun ar e q => ⟨ar, e, eq_of_beq q⟩
    nself := eq_of_beq c8
    nsup := eq_of_beq c9
    ncls := eq_of_beq c10
    nocell := fun x hx => bne_iff_ne.mp (List.all_eq_true.mp c11 x hx)
    htop := not_false' c12
    hD := Option.isSome_iff_exists.mp c13
    globals := eq_of_beq c14
    builtins := eq_of_beq c15
    mg := mg
    mb := mb }
noncomputable def supE (e : Expr) (g : List Expr → Bool) : Bool := eCall e fun fn args kws cp => nil? kws && (g args && eAttribute fn fun o i ap => i == ("__init__" : Str) && (ap.endLine == cp.line && eCall o fun fn a k _ => nil? a && (nil? k && eName fn fun x _ => x == ("super" : Str))))
theorem supE_of {e : Expr} {g : List Expr → Bool} {M : Expr → Prop} (h : supE e g = true) (k : ∀ args p0 p1 ap cp, g args = true → ap.endLine = cp.line → M (.Call (.Attribute (.Call (.Name "super" p0) [] [] p1) "__init__" ap) args [] cp)) : M e := by
  apply eCall_of h
  refine fun fn args kws cp h => b3 h fun h1 hg ha => ?_
  cases nil?_of h1
  apply eAttribute_of ha
  refine fun o i ap h => b3 h fun h2 h3 hb => ?_
  cases eq_of_beq h2
  apply eCall_of hb
  refine fun fn a kk p1 h => b3 h fun h4 h5 hc => ?_
  cases nil?_of h4
  cases nil?_of h5
  apply eName_of hc
  exact fun x p0 h => eq_of_beq h ▸ k args p0 p1 ap cp hg (eq_of_beq h3)
noncomputable def isNm (x : Str) (e : Expr) : Bool := eName e fun y _ => y == x
theorem isNm_of {x : Str} {e : Expr} (h : isNm x e = true) : ∃ p, e = .Name x p := by
  apply eName_of (M := fun e => ∃ p, e = .Name x p) h
  exact fun y p h => ⟨p, congrArg (Expr.Name · p) (eq_of_beq h)⟩
noncomputable def bodyE (b : FuncBody) : Bool := (stmB b).any fun ss => cons? ss fun s1 ss => one? ss fun s2 => (sExpr s1 fun e _ => supE e fun args => one? args (isNm "what")) && sAssign s2 fun ts v _ => isNm "what" v && one? ts fun t => eAttribute t fun o y _ => isNm "self" o && y == ("what" : Str)
theorem bodyE_of {b : FuncBody} (h : bodyE b = true) : ∃ p0 p1 ap p2 cp p p3 p4 p5 p6, ap.endLine = cp.line ∧
    b = .stmts [.Expr (.Call (.Attribute (.Call (.Name "super" p0) [] [] p1) "__init__" ap) [.Name "what" p2] [] cp) p, .Assign [.Attribute (.Name "self" p3) "what" p4] (.Name "what" p5) p6] := by
  refine any_of h fun ss hb h => stmB_of hb ▸ ?_
  clear hb
  apply cons?_of h
  intro s1 ss h
  apply one?_of h
  refine fun s2 h => b2 h fun h1 h2 => ?_
  apply sExpr_of h1
  intro e p h1
  apply sAssign_of h2
  refine fun ts v p6 h2 => b2 h2 fun hv h2 => ?_
  apply one?_of h2
  intro t h2
  apply eAttribute_of h2
  refine fun o y p4 h2 => b2 h2 fun ho hy => ?_
  apply supE_of h1
  intro args p0 p1 ap cp hg hl
  apply one?_of hg
  intro w hw
  obtain ⟨p2, rfl⟩ := isNm_of hw
  obtain ⟨p3, rfl⟩ := isNm_of ho
  obtain ⟨p5, rfl⟩ := isNm_of hv
  exact eq_of_beq hy ▸ ⟨p0, p1, ap, p2, cp, p, p3, p4, p5, p6, hl, rfl⟩
noncomputable def plainPs (fd : FuncData) (names : List Str) : Bool := (fd.params.posonlyargs.isEmpty && (fd.params.kwonlyargs.isEmpty && (fd.params.vararg.isNone && fd.params.kwarg.isNone))) && (decide names.Nodup && (fd.params.args.map (·.arg) == names && fd.defaults == .none))
theorem plainPs_of {fd : FuncData} {names : List Str} {G : Prop} (h : plainPs fd names = true) (k : PlainP fd names → fd.defaults = .none → G) : G :=
  b4 h fun d1 h5 h6 h7 => b4 d1 fun h1 h2 h3 h4 => k ⟨List.isEmpty_iff.mp h1, eq_of_beq h6, List.isEmpty_iff.mp h2, Option.isNone_iff_eq_none.mp h3, Option.isNone_iff_eq_none.mp h4, of_decide_eq_true h5⟩ (eq_of_beq h7)
noncomputable def excChk (K : Frag) (prog : Program) (fd : FuncData) (c fI D : Addr) : Bool :=
  ((makesEIn K c && (findIn K (.ref c) "__init__" == some (some (.ref fI)) && (typeIn K (.ref fI) == some (.type "function") && supChk K prog fd D))) && ((plainPs fd ["self", "what"] && (fd.scope.names.lookup ("what" : Str) == some .local && (bodyE fd.body &&
    mroIn K c (.ref D) == some true))) && (ks_superIn K c D "__init__" == some (some (.builtin "Exception.__init__")) && ((clsIn K c).any (fun cd => ownExc cd.mro && cd.hasDict) &&
    (findIn K (.ref c) "__setattr__" == some (some (.builtin "object.__setattr__")) && findIn K (.ref c) "what" == some none))))) && ((subIn K (.ref c) (.type "object") == some true && (subIn K (.ref c) (.type "Exception") == some true && (nsIn K cStatics "thirdparty.any" == some none &&
    exmOne K (.ref c) (.ref c) == some true))) && (subIn K (.ref c) (.type "BaseException") == some true && (typeIn K (.ref c) == some (.type "type") && keepIn K (.ref c))))
theorem exc_of (G : C.Good) {c fI D : Addr} {fd : FuncData} (h0 : funIn C.K fI = some fd) (h : excChk C.K C.prog fd c fI D = true) (mg : C.mg "super" = none) (mb : C.mb "super" = some (.type "super")) : ExcOk C c := by
  refine b3 h fun e1 e2 e3 => b3 e1 fun d1 d2 d3 => b4 d1 fun c1 c2 c3 c4 => b4 d2 fun c5 c6 c7 c8 => b4 d3 fun c9 c10 c11 c12 => b4 e2 fun c13 c14 c15 c16 => b3 e3 fun c17 c18 c19 => plainPs_of c5 fun P hd => any_of c10 fun cd k1 k2 => b2 k2 fun k2 k3 => ?_
  obtain ⟨p0, p1, ap, p2, cp, p, p3, p4, p5, p6, hl, hb⟩ := bodyE_of c7
  exact exc_ok ⟨c1, ⟨fI, fd, D, p0, p1, ap, p2, cp, p, p3, p4, p5, p6, eq_of_beq c2, eq_of_beq c3, sup_of h0 c4 mg mb, P, hd, eq_of_beq c6, hl, hb, eq_of_beq c8, eq_of_beq c9⟩, ⟨cd, k1, k2, k3⟩, eq_of_beq c11, eq_of_beq c12, eq_of_beq c13, eq_of_beq c14, eq_of_beq c15⟩ G (eq_of_beq c16) (eq_of_beq c17) (eq_of_beq c18) c19
noncomputable def bodyS (b : FuncBody) (g : List Stmt → Bool) : Bool := (stmB b).any fun ss => cons? ss fun s1 rest => (sExpr s1 fun e _ => supE e fun args => nil? args) && g rest
theorem bodyS_of {b : FuncBody} {g : List Stmt → Bool} (h : bodyS b g = true) : ∃ rest, g rest = true ∧ ∃ p0 p1 ap cp p, ap.endLine = cp.line ∧ b = .stmts (.Expr (.Call (.Attribute (.Call (.Name "super" p0) [] [] p1) "__init__" ap) [] [] cp) p :: rest) := by
  refine any_of h fun ss hb h => stmB_of hb ▸ ?_
  clear hb
  apply cons?_of h
  refine fun s1 rest h => b2 h fun h1 hg => ?_
  apply sExpr_of h1
  intro e p h1
  apply supE_of h1
  exact fun args p0 p1 ap cp ha hl => nil?_of ha ▸ ⟨rest, hg, p0, p1, ap, cp, p, hl, rfl⟩
noncomputable def supAtChk (K : Frag) (T : Tab) (prog : Program) (fd : FuncData) (f2 D c : Addr) (rest : SL) : Bool :=
  (supChk K prog fd D && (plainPs fd ["self"] && (bodyS fd.body (chkSL T fd.scope.names [(("self" : Str), 0)] 1 rest) && mroIn K c (.ref D) == some true))) && ((ks_superIn K c D "__init__" == some (some (.ref f2)) && ((clsIn K c).isSome &&
    (typeIn K (.ref f2) == some (.type "function") && (funIn K f2).isSome))) && nsIn K cStatics "thirdparty.any" == some none)
theorem supAt_of (G : C.Good) {P : Prog} {fa f2 D c : Addr} {fn : Fn} {fd : FuncData} {rest : SL} (h0 : funIn C.K fa = some fd) (h : supAtChk C.K C.T C.prog fd f2 D c rest = true) (mg : C.mg "super" = none) (mb : C.mb "super" = some (.type "super"))
    (hP : ∀ c', P.sup c' = some f2 → c' = c) (hf : fn = ⟨1, [], 1, .cons (.exp (.sup f2 .nil)) rest⟩) : FnSim C P fa fn := by
  refine b3 h fun d1 d2 c9 => b4 d1 fun c1 c2 c3 c4 => b4 d2 fun c5 c6 c7 c8 => plainPs_of c2 fun PP hd => ?_
  obtain ⟨brest, k2, k1⟩ := bodyS_of c3
  obtain ⟨fd2, h2⟩ := Option.isSome_iff_exists.mp c8
  have Y : SupAt C P fa ⟨1, [], 1, .cons (.exp (.sup f2 .nil)) rest⟩ fd f2 D rest brest := ⟨sup_of h0 c1 mg mb, PP, hd, rfl, rfl, rfl, rfl, k1, k2, fun c' e => hP c' e ▸ ⟨eq_of_beq c4, eq_of_beq c5, c6⟩, eq_of_beq c7, funAt h2 fun o e d => ⟨o, fd2, e, d⟩, eq_of_beq c9⟩
  exact hf ▸ Y.sim G
noncomputable def methIn (K : Frag) (c : Addr) (n : Nat) (fa : Addr) : Bool := (findIn K (.ref c) (attrStr n) == some (some (.ref fa)) && (typeIn K (.ref fa) == some (.type "function") && keepIn K (.ref fa))) &&
    (findIn K (.ref c) "__getattribute__" == some (some (.builtin "object.__getattribute__")) && findIn K (.ref c) "__getattr__" == some none)
end
end QZ
namespace QZ
open PySem PySem.W PySem.Calls PyProof.Rows
noncomputable def act0 (fd : FuncData) : Act := { A := callerA, env := { scope := fd.scope, locals := mainGlobals, globals := mainGlobals, cells := [], qual := fd.qualname, func := none, code := fd.code, frame := none, builtins := builtinsNs }, envs := [], ns := fd.scope.names, sl := [], n := 0 }
theorem law_call {C : Cx} {P : Prog} (ST : Static C P) {n : Nat} (hn : n ≤ 20) {fa : Addr} {fn : Fn} {fd : FuncData} {body : List Stmt} {sl : Slots} {names : List Str} (F : FnAt C fa fn fd body sl names) (hP : P.fn fa = some fn) {s : Shared}
    (hb : s.heap = C.base) (hg : s.gens = #[]) (ho : s.os = C.os) {args : List V} {vals : List Value} (rl : RelL [] C.base args vals) {σ' : St} (he : run P (n + 1) fa args [] = .ok (.bool true) σ')
    {Q E : Value → Shared → Prop} (hq : ∀ s', (∀ b o, s.heap.get? b = some o → s'.heap.get? b = some o) → s'.gens = #[] → s'.os = s.os → Q (.bool true) s') : wpAny (model C.prog C.w) callerA (call (.ref fa) vals) Q E s := by
  have O := go_of ST (run_ok ST n)
  have g : (act0 fd).Good (n + 1) := ⟨rfl, F.kind, rfl, rfl, fun x y c h => (nomatch h), rfl, (by show 301 + _ + _ ≤ _; omega), (by show 4 + _ + _ ≤ cLine; unfold cLine; omega), fun x y i h => (nomatch h)⟩
  have S : Sp C (act0 fd) [] [] [] s := ⟨⟨rfl, List.nodup_nil, fun i b o e => (nomatch e), fun b h => (nomatch h), fun b o e => by rw [hb]; exact e⟩, ⟨rfl, ⟨_, by rw [hb]; exact ST.G.nsG, fun x i h => (nomatch h)⟩, fun q => (nomatch q), trivial, fun e he => (nomatch he), fun e he => (nomatch he)⟩, hg, ho⟩
  rw [run_at hP] at he
  cases hm : mkFrame fn args with
  | none => rw [hm] at he; cases he
  | some ρ0 =>
    rw [hm] at he
    change (exL P (run P n) fn.body ρ0 []).out = _ at he
    refine wpAny_call (codeAny_mono (call_fn ST.G F (simSL O (ST.spread _ _ O) ST.exc _) g rfl S (by rw [hb]; exact rl) hm (Q := Q) (E := E) (he ▸ ⟨fun e => (nomatch e), fun val s' pv => ?_, fun e s' pe => pe.elim⟩)) fun r s' hr => ?_)
    · obtain ⟨f', p, rv⟩ := pv
      rw [Rel] at rv
      subst rv
      exact hq s' (fun b o e => p.ok.stay b o (by rw [← hb]; exact e)) p.gens (by rw [p.os, ho])
    · cases r with
      | error e => exact hr
      | ok fl => cases fl <;> exact hr
theorem ints_rel {h : Heap} : ∀ {vs : List Value} {ns : List Int}, IntsAre vs ns → RelL [] h (ns.map V.int) vs
  | _, _, .nil => RelL.nil
  | _, _, .cons _ _ k => RelL.cons rel_int (ints_rel k)
end QZ
namespace QZ
open PySem PySem.W PySem.Calls PyProof.Rows
noncomputable section
noncomputable def runQ (tb : String → Option Builtin) (p : Program) (w : World) (n₀ : Nat) (ann : Option Value) : Nat → SharedT → Thread → Option SharedT
  | 0, _, _ => none
  | n + 1, s, t => match through t with
    | true => some s
    | false => match PySem.W.Fast.tw6613529449190102663 n₀ ann t with
      | false => none
      | true => match PySem.W.Fast.tw10156331382660048174 (PySem.W.Fast.tw11892475500146522536 tb) p w s t with
        | some (s', t') => runQ tb p w n₀ ann n s' t'
        | none => none
theorem runQ_of {tb : String → Option Builtin} {p : Program} {w : World} {n₀ : Nat} {ann : Option Value} : ∀ {n : Nat} {s s' : SharedT} {t : Thread}, runQ tb p w n₀ ann n s t = some s' → topRun tb p w n₀ ann n s.abs t = some s'.abs
  | 0, _, _, _, h => by cases h
  | n + 1, s, s', t, h => by
    unfold runQ at h
    rw [← PySem.W.Fast.te6613529449190102663, ← PySem.W.Fast.te10156331382660048174, ← PySem.W.Fast.te11892475500146522536] at h
    unfold topRun
    cases he : through t with
    | true => rw [he] at h; cases h; rfl
    | false =>
      rw [he] at h
      cases hk : stepOk n₀ ann t with
      | false => rw [hk] at h; cases h
      | true =>
        rw [hk] at h
        cases hs : stepT (denote tb) p w s t with
        | none => rw [hs] at h; cases h
        | some r => obtain ⟨s₂, t₂⟩ := r; rw [hs] at h; rw [stepT_spec hs]; exact runQ_of h
noncomputable def toT : List Obj → Nat → BT → Option BT
  | [], _, t => some t
  | o :: l, i, t => match ((t.ins i o).get i).isSome with
    | true => toT l (i + 1) (t.ins i o)
    | false => none
theorem toT_abs {life : Life} : ∀ (l : List Obj) (i : Nat) (t t' : BT), toT l i t = some t' → absHeap t' (i + l.length) life = ⟨(absHeap t i life).objs ++ l.toArray, life⟩
  | [], i, t, t', h => by cases h; simp [absHeap]
  | o :: l, i, t, t', h => by
    unfold toT at h
    cases g : ((t.ins i o).get i).isSome with
    | false => rw [g] at h; cases h
    | true =>
      rw [g] at h
      have ih := toT_abs (life := life) l (i + 1) _ _ h
      rw [absHeap_ins g] at ih
      rw [List.length_cons, show i + (l.length + 1) = i + 1 + l.length by omega, ih]
      simp [Heap.push]
noncomputable def lift (s : Shared) : Option SharedT := (toT s.heap.objs.toList 0 .nil).map fun t => ⟨t, s.heap.objs.size, s.heap.life, s.gens, s.drawn, s.toks, s.os⟩
theorem lift_abs {s : Shared} {x : SharedT} (h : lift s = some x) : x.abs = s := by
  unfold lift at h
  obtain ⟨t, h1, rfl⟩ := Option.map_eq_some_iff.mp h
  have := toT_abs (life := s.heap.life) _ _ _ _ h1
  obtain ⟨⟨objs, life⟩, gens, drawn, toks, os⟩ := s
  simp only [SharedT.abs, Nat.zero_add, Array.length_toList] at this ⊢
  rw [this]
  simp [absHeap, BT.list]
noncomputable def headR (p : Program) (w : World) (N : Nat) : Option (Shared × SharedT) :=
  (fencedOpening PySem.W.Fast.tw14364793385576792824 p w N).bind fun s₀ => (lift s₀).bind fun x => match s₀.heap.isNs mainGlobals && s₀.gens.size == 0 with
    | true => (runQ PySem.W.Fast.tw14364793385576792824 p w s₀.heap.objs.size (PySem.W.Fast.tw8920871248978507458 s₀.heap mainGlobals "__annotations__") N x (topStub p)).map fun x₁ => (s₀, x₁)
    | false => none
noncomputable def headAB (p q : Program) (loose : List Str) (Xt : Shared → Bool) (w : World) (N : Nat) := (headR p w N).map fun s => (staticsOk (PySem.W.Fast.tw5923862056798008813 p.main.body) s.1.heap s.2.abs.heap && namesBound p s.2.abs.heap && gensDone s.2.abs && laidKept s.1.heap s.2.abs.heap, PySem.W.Fast.tw4187177175401517315 q loose (PySem.W.Fast.tw5923862056798008813 p.main.body) Xt true s.2.abs)
noncomputable def headC (p : Program) (Yt : SharedT → Bool) (w : World) (N : Nat) : Option Bool := (headR p w N).map fun s => Yt s.2
noncomputable def lookP (Pf : Heap → Prop) (s : Shared) : Bool := @decide (Pf s.heap) (Classical.propDecidable _)
theorem headQ_of {p q : Program} {loose : List Str} {Xt : Shared → Bool} {Yt : SharedT → Bool} {Pf : Heap → Prop} {N : Nat} (hY : ∀ x, Yt x = true → Pf x.abs.heap) (hAB : ∀ w, headAB p q loose Xt w N = some (true, openGood q loose)) (hC : ∀ w, headC p Yt w N = some true) :
    LeftO p q loose Xt (lookP Pf) (fun _ => true) N := fun w => by
  obtain ⟨⟨s₀, x₁⟩, e0, eab⟩ := Option.map_eq_some_iff.mp (hAB w)
  have ea := congrArg (fun x => x.1) eab
  have eb := congrArg (fun x => x.2) eab
  have ec := hC w
  unfold headC at ec
  rw [e0] at ec
  have ec : Yt x₁ = true := Option.some.inj ec
  dsimp only at ea eb
  unfold headR at e0
  rw [← PySem.W.Fast.te14364793385576792824, ← PySem.W.Fast.te8920871248978507458] at e0
  rw [← PySem.W.Fast.te5923862056798008813] at ea eb
  rw [← PySem.W.Fast.te4187177175401517315] at eb
  obtain ⟨s, h1, e0⟩ := Option.bind_eq_some_iff.mp e0
  obtain ⟨x, h2, e0⟩ := Option.bind_eq_some_iff.mp e0
  unfold openEnds
  rw [h1]
  show (topFrom treeTable p w N s).map _ = _
  unfold topFrom
  cases hb : (s.heap.isNs mainGlobals && s.gens.size == 0) with
  | false => rw [hb] at e0; cases e0
  | true =>
    rw [hb] at e0
    obtain ⟨x₂, h3, e0⟩ := Option.map_eq_some_iff.mp e0
    cases e0
    have r := runQ_of h3
    rw [lift_abs h2] at r
    simp only
    rw [r]
    show Option.map _ (match _ with | true => some x₁.abs | false => none) = _
    rw [ea]
    show some (openSeen q loose (importedModules p.main.body) Xt true x₁.abs, lookP Pf x₁.abs) = _
    rw [eb, show lookP Pf x₁.abs = true from @decide_eq_true _ (Classical.propDecidable _) (hY x₁ ec)]
noncomputable def fragT (x : SharedT) : List Addr → List (Addr × Obj)
  | [] => []
  | a :: l => match Nat.blt a x.n with
    | true => match (x.tree.get a).bind alive with
      | some o => (a, o) :: fragT x l
      | none => fragT x l
    | false => fragT x l
theorem fragT_in {x : SharedT} : ∀ {l : List Addr} (a : Addr) (o : Obj), (fragT x l).lookup a = some o → x.abs.heap.get? a = some o
  | [], a, o, e => by cases e
  | b :: l, a, o, e => by
    unfold fragT at e
    split at e
    · rename_i hb
      split at e
      · rename_i ob ho
        rw [List.lookup_cons] at e
        split at e
        · rename_i q
          cases e
          rw [beq_iff_eq] at q
          subst q
          obtain ⟨o1, g1, g2⟩ := Option.bind_eq_some_iff.mp ho
          have hlt : a < x.n := Nat.le_of_ble_eq_true hb
          exact (abs_get (life := x.life) hlt g1).trans g2
        · exact fragT_in a o e
      · exact fragT_in a o e
    · exact fragT_in a o e
end
end QZ
namespace QZ
open PySem PySem.W PySem.Calls PyProof.Rows
theorem hard_dict {C : Cx} (G : C.Good) : HardB C .dict := by
  intro a f ρ σ s A E args vals ap S hu hh ra hn
  exact absurd rfl hn
theorem spread_ok {C : Cx} {P : Prog} {co : Addr → List V → St → Res V} {d : Nat} (G : C.Good) : SpreadOk C P co d := fun x k v _ _ _ a e f ρ σ s I hh hc => nomatch hc
structure LawD where
  T : Tab
  fns : List (Addr × Fn)
  meths : List (Addr × Nat × Addr)
  inits : List (Addr × Addr)
  ini : Addr
  rest : SL
  sup : Addr × Addr
  law : Addr
noncomputable def LawD.prog (L : LawD) (ext : Addr → Option (List V)) : Prog := ⟨lookF L.fns, lookM L.meths, lookF L.inits, fun c => if c = L.sup.1 then some L.sup.2 else none, ext⟩
theorem lookF_mem {α : Type} {a : Addr} {v : α} {l : List (Addr × α)} : lookF l a = some v → (a, v) ∈ l := by
  induction l with
  | nil => exact no_some
  | cons p l ih =>
    intro h
    by_cases q : a = p.1
    · cases Option.some.inj ((if_pos q).symm.trans h)
      exact q ▸ List.mem_cons_self ..
    · exact List.mem_cons_of_mem _ (ih ((if_neg q).symm.trans h))
theorem lookM_mem {c m f : Nat} {l : List (Addr × Nat × Addr)} : lookM l c m = some f → (c, m, f) ∈ l := by
  induction l with
  | nil => exact no_some
  | cons p l ih =>
    intro h
    by_cases q : c = p.1 ∧ m = p.2.1
    · cases Option.some.inj ((if_pos q).symm.trans h)
      exact q.1 ▸ q.2 ▸ List.mem_cons_self ..
    · exact List.mem_cons_of_mem _ (ih ((if_neg q).symm.trans h))
noncomputable def initOf (K : Frag) (c : Addr) : Addr := (((findIn K (.ref c) "__init__").bind fun o => o.bind refV).getD 0)
noncomputable def supAdr (K : Frag) (fd : FuncData) : Addr := (fd.closure.head?.bind fun p => (K.lookup p.2).bind fun o => (celD o.data).bind refV).getD 0
noncomputable def xChk (K : Frag) (prg : Program) (c : Addr) : Bool := (funIn K (initOf K c)).any fun fd => excChk K prg fd c (initOf K c) (supAdr K fd)
noncomputable def LawD.fnOk (L : LawD) (prg : Program) (K : Frag) (p : Addr × Fn) : Bool := (funIn K p.1).any fun fd => cond (Nat.beq p.1 L.ini) (supAtChk K L.T prg fd L.sup.2 (supAdr K fd) L.sup.1 L.rest) (fnChk1 K fd p.2 && bodyChk L.T fd p.2)
noncomputable def LawD.chk (L : LawD) (prg : Program) (K : Frag) : Bool :=
  (gIn K L.T && (fIn K L.T && (bIn K && freeIn K "range"))) && ((freeIn K "enumerate" && (freeIn K "super" && (L.inits.all (fun p => clsOk K p.1 && clsAtIn K p.1 p.2) && L.T.E.all (xChk K prg)))) && (L.fns.all (L.fnOk prg K) &&
    (L.meths.all (fun m => methIn K m.1 m.2.1 m.2.2) && (nsIn K mainGlobals (Str.ofString "law") == some (some (.ref L.law))))))
structure LawD.Ok (L : LawD) (prg : Program) (K : Frag) : Prop where
  g : gIn K L.T = true
  f : fIn K L.T = true
  b : bIn K = true
  r : freeIn K "range" = true
  e : freeIn K "enumerate" = true
  s : freeIn K "super" = true
  i : ∀ p ∈ L.inits, (clsOk K p.1 && clsAtIn K p.1 p.2) = true
  x : ∀ c ∈ L.T.E, xChk K prg c = true
  fn : ∀ p ∈ L.fns, L.fnOk prg K p = true
  m : ∀ m ∈ L.meths, methIn K m.1 m.2.1 m.2.2 = true
  law : nsIn K mainGlobals (Str.ofString "law") = some (some (.ref L.law))
theorem LawD.ok {L : LawD} {prg : Program} {K : Frag} (h : L.chk prg K = true) : L.Ok prg K :=
  b4 h fun d1 d2 h9 d3 => b4 d1 fun h1 h2 h3 h4 => b4 d2 fun h5 h6 h7 h8 => b2 d3 fun h10 h11 =>
    ⟨h1, h2, h3, h4, h5, h6, List.all_eq_true.mp h7, List.all_eq_true.mp h8, List.all_eq_true.mp h9, List.all_eq_true.mp h10, eq_of_beq h11⟩
noncomputable def LawD.First (L : LawD) : Prop := lookF L.fns L.ini = some ⟨1, [], 1, .cons (.exp (.sup L.sup.2 .nil)) L.rest⟩
theorem fn_chk {L : LawD} {prg : Program} {K : Frag} {p : Addr × Fn} (h : L.fnOk prg K p = true) (hi : p.1 ≠ L.ini) {G : Prop} (k : ∀ fd, funIn K p.1 = some fd → fnChk1 K fd p.2 = true → bodyChk L.T fd p.2 = true → G) : G := by
  refine any_of h fun fd hf q => ?_
  rw [Bool.eq_false_iff.mpr fun e => hi (Nat.eq_of_beq_eq_true e)] at q
  exact b2 q (k fd hf)
section
variable {C : Cx} {L : LawD}
theorem LawD.fSim (h : L.Ok C.prog C.K) (hT : C.T = L.T) (hF : L.First) (G : C.Good) (mg : C.mg "super" = none) (mb : C.mb "super" = some (.type "super")) (ext : Addr → Option (List V)) {fa : Addr} {fn : Fn} (e : lookF L.fns fa = some fn) : FnSim C (L.prog ext) fa fn := by
  have k := h.fn _ (lookF_mem e)
  by_cases hi : fa = L.ini
  · refine any_of k fun fd hf q => ?_
    rw [show Nat.beq fa L.ini = true from hi ▸ Nat.beq_refl _] at q
    refine supAt_of G hf (hT.symm ▸ q) mg mb (fun c' e => ?_) (Option.some.inj ((hi ▸ e).symm.trans hF))
    by_cases hc : c' = L.sup.1
    · exact hc
    · exact no_some ((if_neg hc).symm.trans e)
  · exact fn_chk k hi fun fd hf k1 k2 => fnSim_of G hf k1 (hT.symm ▸ k2)
theorem LawD.static (h : L.Ok C.prog C.K) (hT : C.T = L.T) (hF : L.First) (hc : C.cls = L.inits.map (·.1)) (G : C.Good) (mg : C.mg "super" = none) (mb : C.mb "super" = some (.type "super")) {ext : Addr → Option (List V)} (hx : ExtOk C ext) (hs : HardB C .sorted) : Static C (L.prog ext) where
  G := G
  fns := fun fa fn e => LawD.fSim h hT hF G mg mb ext e
  cls := fun c fI e => b2 (h.i _ (lookF_mem e)) fun _ q => clsAt_of q
  exc := fun c e => any_of (h.x c (List.contains_iff_mem.mp (hT ▸ e))) fun fd hf k => exc_of G hf k mg mb
  hard := fun b hb => hb.elim (fun e => e ▸ hs) fun e => e ▸ hard_dict G
  spread := fun co d O => spread_ok G
  ext := hx
  keep := fun x fa e => b2 (lookup_all h.f (hT ▸ e)) fun _ q => q
  clsIn := fun c e => (Option.isSome_iff_exists.mp e).elim fun f hf => hc ▸ List.mem_map.mpr ⟨_, lookF_mem hf, rfl⟩
  meth := fun c n fa e => b2 (h.m _ (lookM_mem e)) fun q1 q2 => b3 q1 fun h1 h2 h3 => b2 q2 fun h4 h5 => ⟨eq_of_beq h1, eq_of_beq h2, h3, eq_of_beq h4, eq_of_beq h5⟩
end
noncomputable def Seen (L : LawD) (prg : Program) (h : Heap) : Prop := ∃ K : Frag, L.chk prg K = true ∧ K.In h
theorem Seen.keeps {L : LawD} {prg : Program} {h h' : Heap} (k : Seen L prg h) (z : ∀ b o, h.get? b = some o → h'.get? b = some o) : Seen L prg h' := k.elim fun K q => ⟨K, q.1, fun a o e => z _ _ (q.2 a o e)⟩
noncomputable def extOf (A : Addr) (ns : List Int) : Addr → Option (List V) := fun b => if b = A then some (ns.map V.int) else none
noncomputable def LawD.Plain (L : LawD) : Prop := ∀ (A : Addr) (ns : List Int), ns.length ≤ 63 → ∃ σ', run (L.prog (extOf A ns)) 12 L.law [.ext A] [] = .ok (.bool true) σ'
theorem law_join {L : LawD} {prg q : Program} (hp : L.Plain) (hF : L.First) (hfn : (lookF L.fns L.law).isSome = true) (hini : L.law ≠ L.ini) (sorted : ∀ C : Cx, C.Good → HardB C .sorted) {w : World} {s₁ : Shared} {mg mb : Str → Option Value} {loose : List Str} {mean : ExcName → Option Value} (T : Top q loose mean mg mb s₁.heap) (Y : Seen L prg s₁.heap) (hsn : (importsNone q) = true)
    {fa : Addr} (hmg : mg (Str.ofString "law") = some (.ref fa)) (hg : s₁.gens = #[]) {A : Addr} {vs : List Value} {ns : List Int} (hL : s₁.heap.IsList A vs.toArray) (hI : IntsAre vs ns) (hlen : ns.length ≤ 63) {Q E : Value → Shared → Prop}
    (hq : ∀ s', (∀ b o, s₁.heap.get? b = some o → s'.heap.get? b = some o) → s'.gens = #[] → s'.os = s₁.os → Q (.bool true) s') : wpAny (model prg w) callerA (call (.ref fa) [.ref A]) Q E s₁ := by
  obtain ⟨K, hK, KX⟩ := Y
  have h := LawD.ok hK
  cases hmg.symm.trans (mg_of KX T.g h.law)
  let C : Cx := { prog := prg, w := w, base := s₁.heap, K := K, os := s₁.os, mg := mg, mb := mb, T := L.T, cls := L.inits.map (·.1) }
  have hsys : (s₁.heap.get? sysModules).isSome = true := by
    obtain ⟨mm, ⟨o, es, ep, e, _⟩, _⟩ := (T.seer hsn).mods
    rw [e]; rfl
  have G : C.Good := good_of (C := C) KX T.nolimit T.g T.b T.builtins h.g h.f h.b h.r h.e (fun c hc => (List.mem_map.mp hc).elim fun p q => b2 (h.i p q.1) fun k _ => q.2 ▸ k) hsys
  have hx : ExtOk C (extOf A ns) := fun a l h => by
    by_cases q : a = A
    · cases Option.some.inj ((if_pos q).symm.trans h)
      exact ⟨vs.toArray, q ▸ hL, (List.toList_toArray ..).symm ▸ ints_rel hI⟩
    · exact no_some ((if_neg q).symm.trans h)
  have ST : Static C (L.prog (extOf A ns)) := LawD.static (C := C) h rfl hF rfl G (free_of (C := C) KX T.g h.s) ((T.builtins _ (by decide +kernel)).trans (by decide +kernel)) hx (sorted C G)
  obtain ⟨σ', he⟩ := hp A ns hlen
  obtain ⟨fn, hfn⟩ := Option.isSome_iff_exists.mp hfn
  exact fn_chk (h.fn _ (lookF_mem hfn)) hini fun fd hf k1 k2 => (fnAt_of G (C := C) (fa := L.law) hf k1 k2).elim fun b F => law_call ST (n := 11) (by decide) F hfn rfl hg rfl (args := [.ext A]) (RelL.cons rfl RelL.nil) he hq
end QZ
namespace QZ
open PySem PySem.W PySem.Calls PyProof.Rows PySem.MeetsSeq3
open PySem.AutoSeq1 (wpAny_loadPart')
section
variable {prog : Program} {w : World} {A : Around} {E : Value → Shared → Prop} {s : Shared}
theorem lt_loop {l b : Addr} {items items2 : Array Value} {n n2 : Nat} {x y : Int} {t u : Tok} {R : Result → Shared → Prop} (hl : s.heap.get? l = some (listOf items n)) (hb : s.heap.get? b = some (listOf items2 n2))
    (h1 : items[0]? = some (.int x t)) (h2 : items2[0]? = some (.int y u)) (hne : x ≠ y) (h : R (.ok (.ret (.bool (decide (x < y))))) s) :
    codeAny (model prog w) A (.builtin "list.__eq__.loop" ⟨[.ref l, .ref b, rawInt 0, rawInt 0], []⟩) R s := by
  refine codeAny_builtin entry_eq_loop ?_
  rw [Around.under_plainId plain_eq_loop _]
  obtain ⟨hp, g, d, tk, os⟩ := s
  wp_walk using wpAny_loadPart' hl, wpAny_loadPart' hb
  have hi1 : items[((0 : Int)).toNat]? = some (.int x t) := h1
  have hi2 : items2[((0 : Int)).toNat]? = some (.int y u) := h2
  rw [hi1, hi2]
  refine wpAny_bind (wpAny_eqBool_int ?_)
  rw [beq_false_of_ne hne]
  wp_walk using wpAny_loadPart' hl, wpAny_loadPart' hb
  rw [hi1, hi2]
  exact wpAny_bind (wpAny_mono (PyProof.Rows.lt_int (Q := fun v s' => v = .bool (decide (x < y)) ∧ s' = _) ⟨rfl, rfl⟩) (fun v s' q => q.1 ▸ q.2 ▸ wpAny_pure h) fun _ _ x => x)
theorem list_lt {l b : Addr} {items items2 : Array Value} {n n2 : Nat} {x y : Int} {t u : Tok} {Q : Value → Shared → Prop} (hl : s.heap.get? l = some (listOf items n)) (hb : s.heap.get? b = some (listOf items2 n2))
    (h1 : items[0]? = some (.int x t)) (h2 : items2[0]? = some (.int y u)) (hne : x ≠ y) (h : Q (.bool (decide (x < y))) s) : wpAny (model prog w) A (call (.builtin "list.__lt__") [.ref l, .ref b]) Q E s := by
  refine wpAny_call (codeAny_call_builtin PySem.F.slot_list_lt.plain PySem.F.entry_list_lt (PySem.F.slot_list_lt.check _ _ _ _ _ _ _ _ ⟨_, hl, rfl⟩ (PySem.F.args_list_lt_2 _ _) ?_))
  obtain ⟨hp, g, d, tk, os⟩ := s
  have f3 := AutoSeq1.sub_list_list
  wp_walk using wpAny_loadPart' hl, wpAny_loadPart' hb
  exact ⟨plainId_quiet plain_eq_loop _, lt_loop hl hb h1 h2 hne h⟩
theorem key_lt {l b : Addr} {items items2 : Array Value} {n n2 : Nat} {x y : Int} {t u : Tok} {Q : Bool → Shared → Prop} (hu : A.units < cLine) (hl : s.heap.get? l = some (listOf items n)) (hb : s.heap.get? b = some (listOf items2 n2))
    (h1 : items[0]? = some (.int x t)) (h2 : items2[0]? = some (.int y u)) (hne : x ≠ y) (h : Q (decide (x < y)) s) : wpAny (model prog w) A (keyLt' oneType' (.ref l) (.ref b)) Q E s := by
  rw [keyLt'_oneType, oneLt'_eq]
  simp only [if_true]
  refine wpAny_bind (wpAny_cRoomFor hu ?_)
  exact wpAny_bind (wpAny_callSpecialIfBound?_slot ⟨_, hl, rfl⟩ PySem.F.slot_list_lt (list_lt hl hb h1 h2 hne (wpAny_truthy_bool h)))
theorem collect_seq {l : Addr} {o : Obj} {T : String} {its : Array Value} {n : Nat} {Q : List Value → Shared → Prop} (hT : T = "list" ∨ T = "tuple") (ho : s.heap.get? l = some o) (hc : o.cls = .type T) (hd : o.data = .seq its n) (hsz : its.size ≤ 100)
    (h : Q its.toList { s with heap := (s.heap.push (seqObj "list" #[] 0)).update s.heap.objs.size (Obj.mapSeq (· ++ its)) }) : wpAny (model prog w) A (collect (.ref l)) Q E s := by
  unfold collect
  refine wpAny_bind (wpAny_runValue (codeAny_builtin entry_proto_collect' ?_))
  show wpAny _ _ (do again (.builtin "list.__iadd__" ⟨[← newList [], .ref l], []⟩)) _ _ s
  refine wpAny_bind (wpAny_newList (wpAny_pure ⟨Code.quiet_builtin _ (by decide +kernel), codeAny_builtin entry_list_iadd' ?_⟩))
  show wpAny _ _ (Builtin.List.listExtendWith (.ref s.heap.objs.size) (.ref l) (.ref s.heap.objs.size)) _ _ { s with heap := s.heap.push (seqObj "list" #[] 0) }
  unfold Builtin.List.listExtendWith
  have ho' : (s.heap.push (seqObj "list" #[] 0)).get? l = some o := Heap.get?_push_of_some _ ho
  refine wpAny_bind (wpAny_typeOf (T := T) ⟨o, ho', hc⟩ ?_)
  rw [if_pos (by rcases hT with rfl | rfl <;> simp)]
  refine wpAny_bind (listItems_at ho' hd ?_)
  refine wpAny_bind (listItems_at (xs := #[]) (n := 0) (Heap.get?_push_size _ rfl) rfl ?_)
  rw [if_neg (by simp)]
  refine wpAny_bind (listUpdate_at (xs := #[]) (n := 0) (Heap.get?_push_size _ rfl) rfl ?_ (Nat.zero_le _) (by show (#[] ++ its).size ≤ sizeLine + 1; simp only [Array.size_append, List.size_toArray, List.length_nil]; rw [sizeLine_eq]; omega))
  refine wpAny_pure ?_
  show wpAny (model prog w) A (do
      let o ← load s.heap.objs.size
      match o.data with
      | .seq xs _ => pure xs.toList
      | _ => unsupported "internal:collect") Q E { s with heap := (s.heap.push (seqObj "list" #[] 0)).update s.heap.objs.size (Obj.mapSeq (· ++ its)) }
  refine wpAny_bind (wpAny_load (get?_update_seq (Heap.get?_push_size _ rfl) _) ?_)
  show wpAny _ _ (pure ((#[] : Array Value) ++ its).toList) Q E _
  rw [show ((#[] : Array Value) ++ its).toList = its.toList by simp]
  exact wpAny_pure h
theorem sorted_seq {l : Addr} {o : Obj} {T : String} {vs : List Value} {n : Nat} {Q : Value → Shared → Prop} {R : Array Value → Prop} (hT : T = "list" ∨ T = "tuple") (ho : s.heap.get? l = some o) (hc : o.cls = .type T) (hd : o.data = .seq vs.toArray n) (hsz : vs.length ≤ 100)
    (hs : ∀ {A : Around} {E : Value → Shared → Prop} {s : Shared} {a : Addr} {P : PySem.Fin → Shared → Prop}, s.heap.get? a = some (seqObj "list" vs.toArray 0) → (∀ out, R out → P (.done (.ret .none)) { s with heap := sortedHeap s.heap a vs out }) → wpAny (model prog w) A (Builtin.«list.sort» ⟨[.ref a], []⟩) P E s)
    (h : ∀ out, R out → Q (.ref (s.heap.objs.size + 1)) { s with heap := sortedAll s.heap vs out }) : wpAny (model prog w) A (call (.builtin "sorted") [.ref l]) Q E s := by
  refine Calls.call_function_entry kind_sorted plain_sorted entry_sorted (args_sorted1 _) ?_
  unfold Builtin.«sorted»
  refine wpAny_bind (m := checkCount "sorted" 1 1 _) (wpAny_pure ?_)
  refine wpAny_bind (collect_seq hT ho hc hd (by rw [List.size_toArray]; exact hsz) ?_)
  refine wpAny_bind (wpAny_newList ?_ (by show vs.length ≤ sizeLine; rw [sizeLine_eq]; omega))
  have hsz : ((s.heap.push (seqObj "list" #[] 0)).update s.heap.objs.size (Obj.mapSeq (· ++ vs.toArray))).objs.size = s.heap.objs.size + 1 := by
    rw [Heap.size_update, size_push']
  have hoL : (((s.heap.push (seqObj "list" #[] 0)).update s.heap.objs.size (Obj.mapSeq (· ++ vs.toArray))).push (seqObj "list" vs.toArray 0)).get? (s.heap.objs.size + 1) = some (seqObj "list" vs.toArray 0) := by
    rw [← hsz]; exact Heap.get?_push_size _ rfl
  show wpAny _ _ _ _ _ { s with heap := ((s.heap.push (seqObj "list" #[] 0)).update s.heap.objs.size (Obj.mapSeq (· ++ vs.toArray))).push (seqObj "list" vs.toArray 0) }
  rw [hsz]
  refine wpAny_bind (wpAny_holding (wpAny_call_entry slot_list_sort ⟨_, hoL, rfl⟩ entry_list_sort (hs hoL fun out hr => ⟨_, rfl, ?_⟩) (args_list_sort _)))
  exact wpAny_pure ⟨_, rfl, h out hr⟩
theorem sort_one {v : Value} {a : Addr} {P : PySem.Fin → Shared → Prop} (ho : s.heap.get? a = some (seqObj "list" #[v] 0)) (h : P (.done (.ret .none)) { s with heap := sortedHeap s.heap a [v] #[v] }) : wpAny (model prog w) A (Builtin.«list.sort» ⟨[.ref a], []⟩) P E s := by
  rw [list_sort_plain]
  have ha : a < s.heap.objs.size := Heap.lt_size ho
  refine wpAny_bind (listItems_at ho rfl ?_)
  refine wpAny_bind (listUpdate_at ho rfl ?_)
  obtain ⟨e1, ho1⟩ : ∃ e1, (s.heap.update a (Obj.mapSeq fun _ => #[])).get? a = some (seqObj "list" #[] e1) := ⟨_, get?_update_seq ho (fun _ => #[])⟩
  refine wpAny_bind (seqEpoch_at ho1 rfl ?_)
  refine wpAny_bind (wpAny_newTuple ?_)
  refine wpAny_bind (wpAny_newList ?_)
  refine wpAny_holding ?_
  have ho6 : (((s.heap.update a (Obj.mapSeq fun _ => #[])).push (seqObj "tuple" #[v] 0)).push (seqObj "list" #[] 0)).get? a = some (seqObj "list" #[] e1) := by
    rw [Heap.get?_push_ne _ _ _ (by rw [size_push', Heap.size_update]; exact Nat.ne_of_lt (Nat.lt_succ_of_lt ha)), Heap.get?_push_ne _ _ _ (by rw [Heap.size_update]; exact Nat.ne_of_lt ha)]
    exact ho1
  show wpAny (model prog w) A _ P E { s with heap := ((s.heap.update a (Obj.mapSeq fun _ => #[])).push (seqObj "tuple" #[v] 0)).push (seqObj "list" #[] 0) }
  refine wpAny_bind (wpAny_pure ?_)
  refine wpAny_bind (wpAny_pure ?_)
  dsimp only
  have e : Array.map (fun x => x.2) (arrOf (SortSt.mk' general' (#[v].zip #[v]) #[] 7 none)) = #[v] := by
    show Array.map (fun x => x.2) (#[v].zip #[v]) = #[v]
    simp
  rw [e]
  refine wpAny_bind (seqEpoch_at ho6 rfl ?_)
  refine wpAny_bind (listUpdate_at ho6 rfl ?_ (Nat.zero_le _) (by rw [sizeLine_eq]; exact Nat.le_of_ble_eq_true rfl))
  simp only [bne_self_eq_false, Bool.false_eq_true, if_false]
  exact wpAny_pure h
end
end QZ
namespace QZ
open PySem PySem.W PySem.Calls PyProof.Rows
theorem ints_relL {f : Fmap} {h : Heap} : ∀ {vs : List Value} {ns : List Int}, IntsAre vs ns → RelL f h (ns.map .int) vs
  | _, _, .nil => rfl
  | _, _, .cons k t r => ⟨_, _, rfl, ⟨t, rfl⟩, ints_relL r⟩
section
variable {C : Cx} {a : Act} {f : Fmap} {ρ : Rho} {σ : St} {s : Shared} {A : Around} {E : Value → Shared → Prop}
theorem seq_out (S : Sp C a f ρ σ s) {its out : Array Value} {l : List V} (r : RelL f s.heap l out.toList) : PV C (lx a) f s Rel (.ok (.loc σ.length) (σ ++ [.list l])) (.ref (s.heap.objs.size + 1)) { s with heap := sortedAll s.heap its.toList out } :=
  (sortedAll_at s.heap its.toList out).elim fun e he => post_list S (fun _ _ => sortedAll_old) (Heap.get?_none_of_le (Nat.le_succ _)) he r s.toks
inductive SortIs (σ : St) : V → List V → Prop
  | nums {v l} (h : l.all isInt = true) (hl : l.length ≤ 60) (e : itemsOf v σ = some l) : SortIs σ v ((sortI (l.map intOf)).map .int)
  | one {n a l} (e : σ[n]? = some (.list [a])) (h : listIn σ a = some l) : SortIs σ (.loc n) [a]
  | two {n a b t} (e : σ[n]? = some (.list [a, b])) (h : firstLt σ b a = some t) : SortIs σ (.loc n) (cond t [b, a] [a, b])
theorem sorted_is {v : V} : Ne (fun r => ∃ k, SortIs σ v k ∧ r = .ok (.loc σ.length) (σ ++ [.list k])) (sorted v σ) := by
  refine ne_of fun l hl => ?_
  cases hi : l.all isInt with
  | true => exact ne_dec fun hz _ => ⟨_, .nums hi hz hl, rfl⟩
  | false =>
    refine ne_of fun n hn => ne_of fun k hk _ => ⟨k, ?_, rfl⟩
    cases v with
    | loc m =>
      have hl : σ[m]?.bind lst? = some l := hl
      have hl := lstAt_of hl
      cases l with
      | nil => cases hk
      | cons a l => cases l with
        | nil => exact map_of hk fun x h e => e ▸ .one hl h
        | cons b l => cases l with
          | nil => exact map_of hk fun t h e => e ▸ .two hl h
          | cons => cases hk
    | _ => cases hn
theorem two_tree : ∃ k, kas_sort 2 = .ask 1 0 k ∧ ∀ b, k b = .ret (cond b #[1, 0] #[0, 1]) := ⟨_, rfl, fun b => by cases b <;> rfl⟩
theorem head_of {h : Heap} {l : List V} {i : Int} {its : Array Value} {G : Prop} (e : l.head?.bind int? = some i) (r : RelL f h l its.toList) (k : ∀ t, its[0]? = some (.int i t) → G) : G := by
  cases l with
  | nil => cases e
  | cons x l =>
    obtain ⟨v, w, e2, rv, -⟩ := id r
    have e1 : int? x = some i := e
    revert rv
    refine int?_of (M := fun x => Rel f h x v → G) e1 fun rv => ?_
    obtain ⟨t, rfl⟩ := rv
    exact k t ((Array.getElem?_toList ..).symm.trans (e2 ▸ rfl))
theorem two_lists (S : Sp C a f ρ σ s) (ap : a.Apart C) (hu : A.units + 100 < cLine) {n : Nat} {x y : V} {t : Bool} {v : Value} (e : σ[n]? = some (.list [x, y])) (h : firstLt σ y x = some t) (r : Rel f s.heap (.loc n) v) :
    wpAny (model C.prog C.w) A (call (biVal .sorted) [v]) (PV C (lx a) f s Rel (.ok (.loc σ.length) (σ ++ [.list (cond t [y, x] [x, y])]))) E s := by
  refine bind_of h fun lb hb h => bind_of h fun la ha h => bind_of h fun i hi h => bind_of h fun j hj h => cond_of h fun hne h => Option.some.inj h ▸ ?_
  revert r
  refine fun r => r.list (M := fun v => wpAny _ _ (call (biVal .sorted) [v]) _ _ _) S.ok e fun D its c hD hg rl hs => ?_
  obtain ⟨vx, w1, e1, rx, rl2⟩ := id rl
  obtain ⟨vy, w2, e2, ry, e3⟩ := id rl2
  have e3 : w2 = [] := e3
  subst e3
  subst e2
  have rx0 := rx
  have ry0 := ry
  revert rl rl2
  refine listIn_of (M := fun y => Rel f s.heap y vy → _) hb (fun m hm ry => ?_) ry
  refine listIn_of (M := fun x => Rel f s.heap x vx → _) ha (fun l hl rx rl rl2 => ?_) rx
  refine rx.listE S.ok hl |>.elim fun Dx q => ?_
  obtain ⟨ix, cx, rfl, hDx, hgx, rlx⟩ := q
  refine ry.listE S.ok hm |>.elim fun Dy q => ?_
  obtain ⟨iy, cy, rfl, hDy, hgy, rly⟩ := q
  refine head_of hi rly fun ti ki => head_of hj rlx fun tj kj => S.ns.elim fun mm hmm => ?_
  have hne : i ≠ j := of_decide_eq_true hne
  have hL : ∀ {D : Addr} {k : Nat}, f[k]? = some D → D ∉ [a.env.locals] := fun hD q => S.fr.out (List.mem_singleton.mp q ▸ List.mem_of_getElem? hD)
  have hx : ∀ {h : Heap} {news : List (Addr × Obj)}, News noHeap a.env.locals h news → (∀ p ∈ allBut s.heap [a.env.locals], p ∈ news) → h.get? Dx = some (listOf ix cx) ∧ h.get? Dy = some (listOf iy cy) := fun N hs => ⟨(N _ (hs _ (mem_allBut.mpr ⟨hgx, hL hDx⟩))).1, (N _ (hs _ (mem_allBut.mpr ⟨hgy, hL hDy⟩))).1⟩
  refine kas_sorted (vs := [.ref Dx, .ref Dy]) (T := .type "list") (frK hmm) (newsK _ _) (by rw [← e1, Array.toArray_toList]; exact isList_of hg) (Nat.le_refl _) (Nat.le_of_ble_eq_true rfl) (fun h F N v hv => ?_) (by decide) fun D' e1' h' F' N' l1 => ?_
  · have q := hx N fun p hp => hp
    rcases List.mem_cons.mp hv with rfl | hv
    · exact (Looks.ld q.1).andThen .now
    · exact List.mem_singleton.mp hv ▸ (Looks.ld q.2).andThen .now
  · obtain ⟨k, k1, k2⟩ := two_tree
    show (kas_sort 2).kasWp _ _ _
    rw [k1]
    show kas_ask _ _ _ _ _ 1 0 _ _
    refine key_lt (show A.units + 1 + 1 < cLine by omega) (hx N' fun p hp => .tail _ hp).2 (hx N' fun p hp => .tail _ hp).1 ki kj hne ?_
    rw [k2]
    refine KasFin.intro F' N' (g := fun o => (D', o) :: allBut s.heap [a.env.locals]) (.head fun p hp => Nat.ne_of_lt (l1 p hp)) fun h'' c'' F'' N'' => ?_
    refine ⟨f ++ [D'], postNew S ap (o := .list (cond (decide (i < j)) [y, x] [x, y])) hmm F'' N'' (fun p hp => hp) (.inr l1) (fun z e => objAt_list e ?_) s.toks, rel_new S.ok.len⟩
    have rx' := rx0.mono (Pre.app f [D']) z
    have ry' := ry0.mono (Pre.app f [D']) z
    cases decide (i < j) with
    | true => exact .cons ry' (.cons rx' .nil)
    | false => exact .cons rx' (.cons ry' .nil)
theorem sorted_ok (C : Cx) (G : C.Good) : HardB C .sorted := by
  intro a f ρ σ s A E args vals ap S hu hh ra
  refine one_arg (b := .sorted) ra fun x v r hn => ?_
  obtain ⟨k, hk, e0⟩ := sorted_is hn
  rw [e0]
  cases hk with
  | nums h hl e =>
    exact itemsOf_seq (M := fun v => wpAny _ _ (call (biVal .sorted) [v]) _ _ _) S e r fun D o T its n hT ho hc hd rl hs => by
      have hi := intsAre_of h rl
      refine sorted_seq (vs := its.toList) (R := fun out => RelL f s.heap ((sortI (List.map intOf _)).map .int) out.toList) hT ho hc (by rw [Array.toArray_toList]; exact hd) (by rw [Array.length_toList]; omega) (fun ho h => list_sort_tree ho hi (by rw [Array.length_toList]; omega) fun out ns' h1 h2 h3 => h out (eq_sortI h2 h3 ▸ ints_relL h1)) fun out ho => seq_out S ho
  | @one n y l e h =>
    exact r.list (M := fun v => wpAny _ _ (call (biVal .sorted) [v]) _ _ _) S.ok e fun D its c hD hg rl hs => relL_one' (M := fun vs => its.toList = vs → _) rl (fun v rv e => by
      have e := congrArg List.toArray e
      rw [Array.toArray_toList] at e
      subst e
      exact sorted_seq (vs := [v]) (R := fun out => out = #[v]) (.inl rfl) hg rfl rfl (Nat.le_of_ble_eq_true rfl) (fun ho h => sort_one ho (h _ rfl)) fun out ho => ho ▸ seq_out (its := #[v]) S (.cons rv .nil)) rfl
  | two e h => exact two_lists S ap hu e h r
end
end QZ
namespace QZ
open PySem
noncomputable def f_same_clauses : Fn := { np := 2, dflt := [], nloc := 2, body := (.cons (.ret (.lst (.cons (.tup (.cons (.neg (.var 0)) (.cons (.var 1) .nil))) (.cons (.tup (.cons (.var 0) (.cons (.neg (.var 1)) .nil))) .nil)))) .nil) }
noncomputable def f_tidy_clause : Fn := { np := 1, dflt := [], nloc := 3, body := (.cons (.asg (.name 1) (.lst .nil)) (.cons (.for (.var 2) (.expr (.var 0)) (.cons (.ifs (.cmp (.neg (.var 2)) (.cons .In (.var 1) .nil)) (.cons (.ret (.lit .none)) .nil) .nil) (.cons (.ifs (.cmp (.var 2) (.cons .NotIn (.var 1) .nil)) (.cons (.exp (.meth (.var 1) 0 (.cons (.var 2) .nil))) .nil) .nil) .nil))) (.cons (.ret (.bi .tuple (.cons (.var 1) .nil))) .nil))) }
noncomputable def f__law_dealt : Fn := { np := 2, dflt := [], nloc := 2, body := (.cons (.aug (.var 0) (.lit (.str (sx "many"))) .Add (.lit (.int 1))) (.cons (.ifs (.cmp (.item (.var 0) (.lit (.str (sx "many")))) (.cons .LtE (.bi .len (.cons (.item (.var 0) (.lit (.str (sx "given")))) .nil)) .nil)) (.cons (.ret (.bin .Mod (.item (.item (.var 0) (.lit (.str (sx "given")))) (.bin .Sub (.item (.var 0) (.lit (.str (sx "many")))) (.lit (.int 1)))) (.var 1))) .nil) .nil) (.cons (.ret (.bin .Mod (.bin .Mod (.bin .Add (.bin .Add (.bin .Mult (.lit (.int 3)) (.item (.var 0) (.lit (.str (sx "many"))))) (.bin .FloorDiv (.bin .Pow (.item (.var 0) (.lit (.str (sx "many")))) (.lit (.int 2))) (.lit (.int 5)))) (.lit (.int 2))) (.lit (.int 41))) (.var 1))) .nil))) }
noncomputable def f__law_leaf : Fn := { np := 3, dflt := [], nloc := 5, body := (.cons (.asg (.name 3) (.call 776 (.cons (.var 0) (.cons (.lit (.int 3)) .nil)))) (.cons (.ifs (.cmp (.var 3) (.cons .Lt (.lit (.int 2)) .nil)) (.cons (.asg (.name 4) (.item (.var 2) (.var 3))) (.cons (.ret (.tup (.cons (.var 4) (.cons (.comp (.tup (.cons (.var 4) (.cons (.var 5) .nil))) (.var 5) (.range (.cons (.meth (.var 1) 29 (.cons (.var 4) .nil)) .nil)) .nil 1) .nil)))) .nil)) .nil) (.cons (.asg (.name 4) (.meth (.var 1) 34 (.cons (.call 776 (.cons (.var 0) (.cons (.lit (.int 8)) .nil))) (.cons (.lit (.int 3)) .nil)))) (.cons (.ret (.tup (.cons (.var 4) (.cons (.comp (.tup (.cons (.var 4) (.cons (.var 5) .nil))) (.var 5) (.range (.cons (.lit (.int 3)) .nil)) .nil 1) .nil)))) .nil)))) }
noncomputable def f__law_wired : Fn := { np := 4, dflt := [], nloc := 12, body := (.cons (.asg (.tup [4, 5]) (.var 3)) (.cons (.asg (.name 6) (.call 776 (.cons (.var 0) (.cons (.lit (.int 4)) .nil)))) (.cons (.ifs (.cmp (.var 6) (.cons .Eq (.lit (.int 0)) .nil)) (.cons (.asg (.tup [7, 8]) (.call 781 (.cons (.var 0) (.cons (.var 1) (.cons (.var 2) .nil))))) (.cons (.ifs (.cmp (.call 776 (.cons (.var 0) (.cons (.lit (.int 2)) .nil))) (.cons .Eq (.lit (.int 0)) .nil)) (.cons (.ret (.tup (.cons (.meth (.var 1) 36 (.cons (.var 4) (.cons (.var 7) .nil))) (.cons (.bin .Add (.var 8) (.var 5)) .nil)))) .nil) .nil) (.cons (.ret (.tup (.cons (.meth (.var 1) 36 (.cons (.var 7) (.cons (.var 4) .nil))) (.cons (.bin .Add (.var 5) (.var 8)) .nil)))) .nil))) .nil) (.cons (.ifs (.cmp (.var 6) (.cons .Eq (.lit (.int 1)) .nil)) (.cons (.asg (.name 9) (.call 776 (.cons (.var 0) (.cons (.bi .len (.cons (.var 5) .nil)) .nil)))) (.cons (.asg (.name 10) (.bin .Add (.var 9) (.call 776 (.cons (.var 0) (.cons (.bin .Sub (.bi .len (.cons (.var 5) .nil)) (.var 9)) .nil))))) (.cons (.ret (.tup (.cons (.meth (.var 1) 37 (.cons (.var 10) (.cons (.var 9) (.cons (.var 4) .nil)))) (.cons (.slc (.var 5) (.var 9) (.bin .Add (.var 10) (.lit (.int 1)))) .nil)))) .nil))) .nil) (.cons (.asg (.name 11) (.bin .Add (.lit (.int 1)) (.call 776 (.cons (.var 0) (.cons (.lit (.int 3)) .nil))))) (.cons (.ifs (.cmp (.var 6) (.cons .Eq (.lit (.int 2)) .nil)) (.cons (.ret (.tup (.cons (.meth (.var 1) 38 (.cons (.var 11) (.cons (.var 4) .nil))) (.cons (.bin .Add (.var 5) (.bin .Mult (.lst (.cons (.lit .none) .nil)) (.var 11))) .nil)))) .nil) .nil) (.cons (.ret (.tup (.cons (.meth (.var 1) 39 (.cons (.var 11) (.cons (.var 4) .nil))) (.cons (.bin .Add (.var 5) (.bin .Mult (.slc (.var 5) (.neg (.lit (.int 1))) (.lit .none)) (.var 11))) .nil)))) .nil))))))) }
noncomputable def f__law_end : Fn := { np := 3, dflt := [], nloc := 4, body := (.cons (.whl (.cmp (.meth (.attr (.var 0) 17) 25 (.cons (.var 1) .nil)) (.cons .In (.tup (.cons (.lit (.str (sx "concat"))) (.cons (.lit (.str (sx "extract"))) (.cons (.lit (.str (sx "zero_extend"))) (.cons (.lit (.str (sx "sign_extend"))) .nil))))) .nil)) (.cons (.asg (.name 3) (.meth (.var 0) 49 (.cons (.var 1) (.cons (.meth (.attr (.var 0) 17) 25 (.cons (.var 1) .nil)) (.cons (.var 2) .nil))))) (.cons (.ifs (.cmp (.var 3) (.cons .Eq (.lit (.int 0)) .nil)) (.cons (.ret (.lit .none)) .nil) .nil) (.cons (.ifs (.cmp (.meth (.attr (.var 0) 17) 25 (.cons (.var 3) .nil)) (.cons .NotEq (.lit (.str (sx "bit"))) .nil)) (.cons (.ret (.lit (.str (sx "no bit")))) .nil) .nil) (.cons (.asg (.tup [1, 2]) (.tup (.cons (.item (.meth (.attr (.var 0) 17) 26 (.cons (.var 3) .nil)) (.lit (.int 0))) (.cons (.meth (.attr (.var 0) 17) 28 (.cons (.var 3) .nil)) .nil)))) .nil))))) (.cons (.ret (.tup (.cons (.var 1) (.cons (.var 2) .nil)))) .nil)) }
noncomputable def f__law_due : Fn := { np := 2, dflt := [], nloc := 7, body := (.cons (.asg (.name 2) (.lst .nil)) (.cons (.for (.var 3) (.range (.cons (.meth (.attr (.var 0) 17) 29 (.cons (.var 1) .nil)) .nil)) (.cons (.asg (.tup [4, 5]) (.tup (.cons (.meth (.attr (.var 0) 17) 41 (.cons (.var 3) (.cons (.var 1) .nil))) (.cons (.meth (.var 0) 49 (.cons (.var 1) (.cons (.meth (.attr (.var 0) 17) 25 (.cons (.var 1) .nil)) (.cons (.var 3) .nil)))) .nil)))) (.cons (.asg (.name 6) (.ite (.cmp (.var 5) (.cons .Eq (.lit (.int 0)) .nil)) (.lst (.cons (.lst (.cons (.bin .Sub (.lit (.int 0)) (.var 4)) .nil)) .nil)) (.lst (.cons (.lst (.cons (.bin .Sub (.lit (.int 0)) (.var 4)) (.cons (.var 5) .nil))) (.cons (.lst (.cons (.bin .Sub (.lit (.int 0)) (.var 5)) (.cons (.var 4) .nil))) .nil))))) (.cons (.exp (.meth (.var 2) 0 (.cons (.tup (.cons (.bi .sorted (.cons (.comp (.bi .sorted (.cons (.var 7) .nil)) (.var 7) (.expr (.var 6)) .nil 1) .nil)) (.cons (.bin .Mult (.lst (.cons (.tup (.cons (.var 1) (.cons (.var 3) (.cons (.lit (.str (sx "wire"))) .nil)))) .nil)) (.bi .len (.cons (.var 6) .nil))) .nil))) .nil))) .nil)))) (.cons (.ret (.var 2)) .nil))) }
noncomputable def f__law_is_refused : Fn := { np := 3, dflt := [], nloc := 3, body := (.cons (.try (.cons (.exp (.meth (.var 0) 49 (.cons (.var 1) (.cons (.var 2) (.cons (.lit (.int 0)) .nil))))) .nil) 67 (.cons (.ret (.lit (.bool true))) .nil)) (.cons (.ret (.lit (.bool false))) .nil)) }
noncomputable def f_law : Fn := { np := 1, dflt := [], nloc := 15, body := (.cons (.asg (.tup [1, 2]) (.tup (.cons (.dct .s (.cons (.lit (.str (sx "given"))) (.comp (.bin .Mod (.bi .abs (.cons (.var 15) .nil)) (.lit (.int 99991))) (.var 15) (.expr (.slc (.var 0) (.lit .none) (.lit (.int 40)))) .nil 1) (.cons (.lit (.str (sx "many"))) (.lit (.int 0)) .nil))) (.cons (.call 767 .nil) .nil)))) (.cons (.asg (.name 3) (.comp (.meth (.var 2) 24 (.cons (.var 15) (.cons (.meth (.var 2) 32 (.cons (.bin .Add (.lit (.int 1)) (.call 776 (.cons (.var 1) (.cons (.lit (.int 3)) .nil)))) .nil)) .nil))) (.var 15) (.expr (.tup (.cons (.lit (.str (sx "x"))) (.cons (.lit (.str (sx "y"))) .nil)))) .nil 1)) (.cons (.asg (.name 4) (.call 781 (.cons (.var 1) (.cons (.var 2) (.cons (.var 3) .nil))))) (.cons (.asg (.name 5) (.call 237 (.cons (.var 2) .nil))) (.cons (.for (.var 6) (.range (.cons (.bin .Add (.lit (.int 1)) (.call 776 (.cons (.var 1) (.cons (.lit (.int 4)) .nil)))) .nil)) (.cons (.asg (.name 4) (.call 788 (.cons (.var 1) (.cons (.var 2) (.cons (.var 3) (.cons (.var 4) .nil)))))) (.cons (.asg (.tup [7, 8]) (.var 4)) (.cons (.ifs (.bop false (.cons (.cmp (.meth (.var 2) 29 (.cons (.var 7) .nil)) (.cons .NotEq (.bi .len (.cons (.var 8) .nil)) .nil)) (.cons (.cmp (.comp (.call 795 (.cons (.var 5) (.cons (.var 7) (.cons (.var 15) .nil)))) (.var 15) (.range (.cons (.bi .len (.cons (.var 8) .nil)) .nil)) .nil 1) (.cons .NotEq (.var 8) .nil)) .nil))) (.cons (.ret (.lit (.bool false))) .nil) .nil) (.cons (.asg (.tup [9, 10]) (.tup (.cons (.call 800 (.cons (.var 5) (.cons (.var 7) .nil))) (.cons (.bi .len (.cons (.attr (.var 5) 22) .nil)) .nil)))) (.cons (.ifs (.cmp (.bi .list (.cons (.meth (.var 5) 48 (.cons (.var 7) (.cons (.meth (.var 2) 25 (.cons (.var 7) .nil)) .nil))) .nil)) (.cons .NotEq (.bi .list (.cons (.meth (.var 2) 26 (.cons (.var 7) .nil)) .nil)) .nil)) (.cons (.ret (.lit (.bool false))) .nil) .nil) (.cons (.asg (.name 11) (.slc (.attr (.var 5) 22) (.var 10) (.lit .none))) (.cons (.for (.tup [12, 13]) (.expr (.var 9)) (.cons (.asg (.tup [14, 11]) (.tup (.cons (.slc (.var 11) (.lit .none) (.bi .len (.cons (.var 13) .nil))) (.cons (.slc (.var 11) (.bi .len (.cons (.var 13) .nil)) (.lit .none)) .nil)))) (.cons (.ifs (.bop false (.cons (.cmp (.bi .sorted (.cons (.comp (.bi .sorted (.cons (.var 15) .nil)) (.tup [15, 16]) (.expr (.var 14)) .nil 2) .nil)) (.cons .NotEq (.var 12) .nil)) (.cons (.cmp (.comp (.var 16) (.tup [15, 16]) (.expr (.var 14)) .nil 2) (.cons .NotEq (.var 13) .nil)) .nil))) (.cons (.ret (.lit (.bool false))) .nil) .nil) .nil))) (.cons (.ifs (.bop false (.cons (.cmp (.var 11) (.cons .NotEq (.lst .nil) .nil)) (.cons (.not (.call 807 (.cons (.var 5) (.cons (.var 7) (.cons (.item (.tup (.cons (.lit (.str (sx "bvadd"))) (.cons (.lit (.str (sx "bvnot"))) (.cons (.lit (.str (sx "rotate"))) .nil)))) (.bin .Mod (.var 6) (.lit (.int 3)))) .nil))))) .nil))) (.cons (.ret (.lit (.bool false))) .nil) .nil) .nil))))))))) (.cons (.ret (.lit (.bool true))) .nil)))))) }
noncomputable def f_BitRows_init : Fn := { np := 3, dflt := [(.int 200000)], nloc := 3, body := (.cons (.asg (.attr (.var 0) 17) (.var 1)) (.cons (.asg (.attr (.var 0) 18) (.var 2)) (.cons (.asg (.attr (.var 0) 19) (.dct .i .nil)) (.cons (.asg (.attr (.var 0) 20) (.lit (.int 0))) (.cons (.asg (.attr (.var 0) 21) (.lit (.bool false))) (.cons (.asg (.attr (.var 0) 22) (.lst .nil)) .nil)))))) }
noncomputable def f_BitRows_bits_of : Fn := { np := 2, dflt := [], nloc := 2, body := (.cons (.ret (.comp (.meth (.attr (.var 0) 17) 41 (.cons (.var 2) (.cons (.var 1) .nil))) (.var 2) (.range (.cons (.meth (.attr (.var 0) 17) 29 (.cons (.var 1) .nil)) .nil)) .nil 1)) .nil) }
noncomputable def f_BitRows_put : Fn := { np := 5, dflt := [], nloc := 7, body := (.cons (.for (.var 5) (.expr (.var 1)) (.cons (.asg (.name 6) (.call 102 (.cons (.var 5) .nil))) (.cons (.ifs (.cmp (.var 6) (.cons .IsNot (.lit .none) .nil)) (.cons (.asg (.attr (.var 0) 20) (.bin .Add (.attr (.var 0) 20) (.lit (.int 1)))) (.cons (.ifs (.cmp (.attr (.var 0) 20) (.cons .Gt (.attr (.var 0) 18) .nil)) (.cons (.rai 86 (.fstr (.cons (.lit (.str (sx "more than "))) (.cons (.attr (.var 0) 18) (.cons (.lit (.str (sx " rows of bits"))) .nil))))) .nil) .nil) (.cons (.exp (.meth (.attr (.var 0) 22) 0 (.cons (.tup (.cons (.var 6) (.cons (.tup (.cons (.var 2) (.cons (.var 3) (.cons (.var 4) .nil)))) .nil))) .nil))) .nil))) .nil) .nil))) .nil) }
noncomputable def f_BitRows_open_wires : Fn := { np := 3, dflt := [], nloc := 7, body := (.cons (.asg (.name 3) (.meth (.attr (.var 0) 17) 26 (.cons (.var 1) .nil))) (.cons (.for (.tup [4, 5]) (.enum (.meth (.var 0) 44 (.cons (.var 1) .nil))) (.cons (.asg (.name 6) (.meth (.var 0) 49 (.cons (.var 1) (.cons (.var 2) (.cons (.var 4) .nil))))) (.cons (.ifs (.cmp (.var 6) (.cons .Eq (.lit (.int 0)) .nil)) (.cons (.exp (.meth (.var 0) 45 (.cons (.lst (.cons (.tup (.cons (.neg (.var 5)) .nil)) .nil)) (.cons (.var 1) (.cons (.var 4) (.cons (.lit (.str (sx "wire"))) .nil)))))) .nil) (.cons (.exp (.meth (.var 0) 45 (.cons (.call 95 (.cons (.var 5) (.cons (.var 6) .nil))) (.cons (.var 1) (.cons (.var 4) (.cons (.lit (.str (sx "wire"))) .nil)))))) .nil)) .nil))) (.cons (.ret (.bi .list (.cons (.var 3) .nil))) .nil))) }
noncomputable def f_BitRows_source_of : Fn := { np := 4, dflt := [], nloc := 7, body := (.cons (.asg (.name 4) (.meth (.attr (.var 0) 17) 26 (.cons (.var 1) .nil))) (.cons (.ifs (.cmp (.var 2) (.cons .Eq (.lit (.str (sx "concat"))) .nil)) (.cons (.asg (.name 5) (.meth (.attr (.var 0) 17) 29 (.cons (.item (.var 4) (.lit (.int 1))) .nil))) (.cons (.ret (.ite (.cmp (.var 3) (.cons .Lt (.var 5) .nil)) (.meth (.attr (.var 0) 17) 41 (.cons (.var 3) (.cons (.item (.var 4) (.lit (.int 1))) .nil))) (.meth (.attr (.var 0) 17) 41 (.cons (.bin .Sub (.var 3) (.var 5)) (.cons (.item (.var 4) (.lit (.int 0))) .nil))))) .nil)) .nil) (.cons (.ifs (.cmp (.var 2) (.cons .Eq (.lit (.str (sx "extract"))) .nil)) (.cons (.ret (.meth (.attr (.var 0) 17) 41 (.cons (.bin .Add (.var 3) (.item (.meth (.attr (.var 0) 17) 28 (.cons (.var 1) .nil)) (.lit (.int 1)))) (.cons (.item (.var 4) (.lit (.int 0))) .nil)))) .nil) .nil) (.cons (.asg (.name 6) (.meth (.attr (.var 0) 17) 29 (.cons (.item (.var 4) (.lit (.int 0))) .nil))) (.cons (.ifs (.cmp (.var 2) (.cons .Eq (.lit (.str (sx "zero_extend"))) .nil)) (.cons (.ret (.ite (.cmp (.var 3) (.cons .Lt (.var 6) .nil)) (.meth (.attr (.var 0) 17) 41 (.cons (.var 3) (.cons (.item (.var 4) (.lit (.int 0))) .nil))) (.lit (.int 0)))) .nil) .nil) (.cons (.ifs (.cmp (.var 2) (.cons .Eq (.lit (.str (sx "sign_extend"))) .nil)) (.cons (.ret (.meth (.attr (.var 0) 17) 41 (.cons (.bi .min (.cons (.var 3) (.cons (.bin .Sub (.var 6) (.lit (.int 1))) .nil))) (.cons (.item (.var 4) (.lit (.int 0))) .nil)))) .nil) .nil) (.cons (.rai 67 (.fstr (.cons (.var 2) (.cons (.lit (.str (sx " is no operation of bit vectors"))) .nil)))) .nil))))))) }
noncomputable def f_Bank_init : Fn := { np := 1, dflt := [], nloc := 1, body := (.cons (.asg (.attr (.var 0) 3) (.lst (.cons (.lit (.str (sx "Bool"))) (.cons (.lit (.str (sx "Int"))) (.cons (.lit (.str (sx "Real"))) .nil))))) (.cons (.asg (.attr (.var 0) 4) (.lst (.cons (.lit (.int 0)) (.cons (.lit (.int 0)) (.cons (.lit (.int 0)) .nil))))) (.cons (.asg (.attr (.var 0) 5) (.lst .nil)) (.cons (.asg (.attr (.var 0) 6) (.lst .nil)) (.cons (.asg (.attr (.var 0) 7) (.lst .nil)) (.cons (.asg (.attr (.var 0) 8) (.lit (.int 0))) (.cons (.asg (.attr (.var 0) 9) (.lst (.cons (.lit (.str (sx ""))) .nil))) (.cons (.asg (.attr (.var 0) 10) (.lst (.cons (.tup .nil) .nil))) (.cons (.asg (.attr (.var 0) 11) (.lst (.cons (.glob (.int 0)) .nil))) (.cons (.asg (.attr (.var 0) 12) (.lst (.cons (.lit (.int 0)) .nil))) (.cons (.asg (.attr (.var 0) 13) (.dct .t .nil)) (.cons (.asg (.attr (.var 0) 14) (.meth (.var 0) 30 (.cons (.lit (.str (sx "true"))) (.cons (.tup .nil) (.cons (.glob (.int 0)) (.cons (.lit (.int 0)) .nil)))))) (.cons (.asg (.attr (.var 0) 15) (.meth (.var 0) 30 (.cons (.lit (.str (sx "false"))) (.cons (.tup .nil) (.cons (.glob (.int 0)) (.cons (.lit (.int 0)) .nil)))))) .nil))))))))))))) }
noncomputable def f_Bank_declare_fun : Fn := { np := 4, dflt := [], nloc := 4, body := (.cons (.exp (.meth (.attr (.var 0) 5) 0 (.cons (.var 1) .nil))) (.cons (.exp (.meth (.attr (.var 0) 6) 0 (.cons (.bi .tuple (.cons (.var 2) .nil)) .nil))) (.cons (.exp (.meth (.attr (.var 0) 7) 0 (.cons (.var 3) .nil))) (.cons (.ret (.bin .Sub (.bi .len (.cons (.attr (.var 0) 5) .nil)) (.lit (.int 1)))) .nil)))) }
noncomputable def f_Bank_fresh_const : Fn := { np := 3, dflt := [], nloc := 3, body := (.cons (.ret (.meth (.var 0) 30 (.cons (.lit (.str (sx "app"))) (.cons (.tup .nil) (.cons (.var 2) (.cons (.meth (.var 0) 23 (.cons (.var 1) (.cons (.tup .nil) (.cons (.var 2) .nil)))) .nil)))))) .nil) }
noncomputable def f_Bank_op : Fn := { np := 2, dflt := [], nloc := 2, body := (.cons (.ret (.item (.attr (.var 0) 9) (.var 1))) .nil) }
noncomputable def f_Bank_args : Fn := { np := 2, dflt := [], nloc := 2, body := (.cons (.ret (.item (.attr (.var 0) 10) (.var 1))) .nil) }
noncomputable def f_Bank_data : Fn := { np := 2, dflt := [], nloc := 2, body := (.cons (.ret (.item (.attr (.var 0) 12) (.var 1))) .nil) }
noncomputable def f_Bank_width : Fn := { np := 2, dflt := [], nloc := 2, body := (.cons (.ret (.item (.attr (.var 0) 4) (.item (.attr (.var 0) 11) (.var 1)))) .nil) }
noncomputable def f_Bank_make : Fn := { np := 5, dflt := [], nloc := 7, body := (.cons (.asg (.name 5) (.tup (.cons (.var 1) (.cons (.var 2) (.cons (.var 3) (.cons (.var 4) .nil)))))) (.cons (.asg (.name 6) (.meth (.attr (.var 0) 13) 2 (.cons (.var 5) (.cons (.lit (.int 0)) .nil)))) (.cons (.ifs (.cmp (.var 6) (.cons .Eq (.lit (.int 0)) .nil)) (.cons (.asg (.name 6) (.bi .len (.cons (.attr (.var 0) 9) .nil))) (.cons (.exp (.meth (.attr (.var 0) 9) 0 (.cons (.var 1) .nil))) (.cons (.exp (.meth (.attr (.var 0) 10) 0 (.cons (.var 2) .nil))) (.cons (.exp (.meth (.attr (.var 0) 11) 0 (.cons (.var 3) .nil))) (.cons (.exp (.meth (.attr (.var 0) 12) 0 (.cons (.var 4) .nil))) (.cons (.asg (.item (.attr (.var 0) 13) (.var 5)) (.var 6)) .nil)))))) .nil) (.cons (.ret (.var 6)) .nil)))) }
noncomputable def f_Bank_want : Fn := { np := 4, dflt := [], nloc := 4, body := (.cons (.ifs (.cmp (.item (.attr (.var 0) 11) (.var 1)) (.cons .NotEq (.var 2) .nil)) (.cons (.rai 67 (.fstr (.cons (.var 3) (.cons (.lit (.str (sx ": "))) (.cons (.item (.attr (.var 0) 3) (.var 2)) (.cons (.lit (.str (sx " is wanted, not "))) (.cons (.item (.attr (.var 0) 3) (.item (.attr (.var 0) 11) (.var 1))) .nil))))))) .nil) .nil) .nil) }
noncomputable def f_TermBank_init : Fn := { np := 1, dflt := [], nloc := 1, body := (.cons (.exp (.sup 255 .nil)) (.cons (.asg (.attr (.var 0) 16) (.dct .i .nil)) .nil)) }
noncomputable def f_TermBank_bv_sort : Fn := { np := 2, dflt := [], nloc := 2, body := (.cons (.ifs (.cmp (.var 1) (.cons .Lt (.lit (.int 1)) .nil)) (.cons (.rai 67 (.lit (.str (sx "a bit vector has one bit at least")))) .nil) .nil) (.cons (.ifs (.cmp (.var 1) (.cons .Gt (.glob (.int 4096)) .nil)) (.cons (.rai 86 (.fstr (.cons (.lit (.str (sx "a bit vector has at most "))) (.cons (.glob (.int 4096)) (.cons (.lit (.str (sx " bits"))) .nil))))) .nil) .nil) (.cons (.ifs (.cmp (.var 1) (.cons .NotIn (.attr (.var 0) 16) .nil)) (.cons (.exp (.meth (.attr (.var 0) 3) 0 (.cons (.fstr (.cons (.lit (.str (sx "(_ BitVec "))) (.cons (.var 1) (.cons (.lit (.str (sx ")"))) .nil)))) .nil))) (.cons (.exp (.meth (.attr (.var 0) 4) 0 (.cons (.var 1) .nil))) (.cons (.asg (.item (.attr (.var 0) 16) (.var 1)) (.bin .Sub (.bi .len (.cons (.attr (.var 0) 3) .nil)) (.lit (.int 1)))) .nil))) .nil) (.cons (.ret (.item (.attr (.var 0) 16) (.var 1))) .nil)))) }
noncomputable def f_TermBank_want_bits : Fn := { np := 3, dflt := [], nloc := 3, body := (.cons (.ifs (.cmp (.meth (.var 0) 29 (.cons (.var 1) .nil)) (.cons .Eq (.lit (.int 0)) .nil)) (.cons (.rai 67 (.fstr (.cons (.var 2) (.cons (.lit (.str (sx ": a bit vector is wanted, not "))) (.cons (.item (.attr (.var 0) 3) (.item (.attr (.var 0) 11) (.var 1))) .nil))))) .nil) .nil) .nil) }
noncomputable def f_TermBank_bv_num : Fn := { np := 3, dflt := [], nloc := 4, body := (.cons (.asg (.name 3) (.meth (.var 0) 32 (.cons (.var 2) .nil))) (.cons (.ret (.meth (.var 0) 30 (.cons (.lit (.str (sx "bvnum"))) (.cons (.tup .nil) (.cons (.var 3) (.cons (.bin .Mod (.var 1) (.bin .LShift (.lit (.int 1)) (.var 2))) .nil)))))) .nil)) }
noncomputable def f_TermBank_concat : Fn := { np := 3, dflt := [], nloc := 3, body := (.cons (.exp (.meth (.var 0) 33 (.cons (.var 1) (.cons (.lit (.str (sx "concat"))) .nil)))) (.cons (.exp (.meth (.var 0) 33 (.cons (.var 2) (.cons (.lit (.str (sx "concat"))) .nil)))) (.cons (.ret (.meth (.var 0) 30 (.cons (.lit (.str (sx "concat"))) (.cons (.tup (.cons (.var 1) (.cons (.var 2) .nil))) (.cons (.meth (.var 0) 32 (.cons (.bin .Add (.meth (.var 0) 29 (.cons (.var 1) .nil)) (.meth (.var 0) 29 (.cons (.var 2) .nil))) .nil)) (.cons (.lit (.int 0)) .nil)))))) .nil))) }
noncomputable def f_TermBank_extract : Fn := { np := 4, dflt := [], nloc := 4, body := (.cons (.exp (.meth (.var 0) 33 (.cons (.var 3) (.cons (.lit (.str (sx "extract"))) .nil)))) (.cons (.ifs (.not (.cmp (.lit (.int 0)) (.cons .LtE (.var 2) (.cons .LtE (.var 1) (.cons .Lt (.meth (.var 0) 29 (.cons (.var 3) .nil)) .nil))))) (.cons (.rai 67 (.lit (.str (sx "extract: the places are not within the bit vector")))) .nil) .nil) (.cons (.ret (.meth (.var 0) 30 (.cons (.lit (.str (sx "extract"))) (.cons (.tup (.cons (.var 3) .nil)) (.cons (.meth (.var 0) 32 (.cons (.bin .Add (.bin .Sub (.var 1) (.var 2)) (.lit (.int 1))) .nil)) (.cons (.tup (.cons (.var 1) (.cons (.var 2) .nil))) .nil)))))) .nil))) }
noncomputable def f_TermBank_zero_extend : Fn := { np := 3, dflt := [], nloc := 3, body := (.cons (.exp (.meth (.var 0) 33 (.cons (.var 2) (.cons (.lit (.str (sx "zero_extend"))) .nil)))) (.cons (.ifs (.cmp (.var 1) (.cons .Lt (.lit (.int 0)) .nil)) (.cons (.rai 67 (.lit (.str (sx "zero_extend: a number is wanted")))) .nil) .nil) (.cons (.ret (.ite (.cmp (.var 1) (.cons .Eq (.lit (.int 0)) .nil)) (.var 2) (.meth (.var 0) 30 (.cons (.lit (.str (sx "zero_extend"))) (.cons (.tup (.cons (.var 2) .nil)) (.cons (.meth (.var 0) 32 (.cons (.bin .Add (.meth (.var 0) 29 (.cons (.var 2) .nil)) (.var 1)) .nil)) (.cons (.var 1) .nil))))))) .nil))) }
noncomputable def f_TermBank_sign_extend : Fn := { np := 3, dflt := [], nloc := 3, body := (.cons (.exp (.meth (.var 0) 33 (.cons (.var 2) (.cons (.lit (.str (sx "sign_extend"))) .nil)))) (.cons (.ifs (.cmp (.var 1) (.cons .Lt (.lit (.int 0)) .nil)) (.cons (.rai 67 (.lit (.str (sx "sign_extend: a number is wanted")))) .nil) .nil) (.cons (.ret (.ite (.cmp (.var 1) (.cons .Eq (.lit (.int 0)) .nil)) (.var 2) (.meth (.var 0) 30 (.cons (.lit (.str (sx "sign_extend"))) (.cons (.tup (.cons (.var 2) .nil)) (.cons (.meth (.var 0) 32 (.cons (.bin .Add (.meth (.var 0) 29 (.cons (.var 2) .nil)) (.var 1)) .nil)) (.cons (.var 1) .nil))))))) .nil))) }
noncomputable def f_TermBank_want_place : Fn := { np := 4, dflt := [], nloc := 4, body := (.cons (.ifs (.not (.cmp (.lit (.int 0)) (.cons .LtE (.var 1) (.cons .LtE (.meth (.var 0) 29 (.cons (.var 2) .nil)) .nil)))) (.cons (.rai 67 (.fstr (.cons (.var 3) (.cons (.lit (.str (sx ": no such place"))) .nil)))) .nil) .nil) .nil) }
noncomputable def f_TermBank_bit : Fn := { np := 3, dflt := [], nloc := 3, body := (.cons (.exp (.meth (.var 0) 33 (.cons (.var 2) (.cons (.lit (.str (sx "bit"))) .nil)))) (.cons (.ifs (.not (.cmp (.lit (.int 0)) (.cons .LtE (.var 1) (.cons .Lt (.meth (.var 0) 29 (.cons (.var 2) .nil)) .nil)))) (.cons (.rai 67 (.lit (.str (sx "bit: no such place")))) .nil) .nil) (.cons (.ret (.meth (.var 0) 30 (.cons (.lit (.str (sx "bit"))) (.cons (.tup (.cons (.var 2) .nil)) (.cons (.glob (.int 0)) (.cons (.var 1) .nil)))))) .nil))) }
noncomputable def f_TermBank_below : Fn := { np := 4, dflt := [], nloc := 4, body := (.cons (.exp (.meth (.var 0) 33 (.cons (.var 2) (.cons (.lit (.str (sx "below"))) .nil)))) (.cons (.exp (.meth (.var 0) 31 (.cons (.var 3) (.cons (.item (.attr (.var 0) 11) (.var 2)) (.cons (.lit (.str (sx "below"))) .nil))))) (.cons (.exp (.meth (.var 0) 40 (.cons (.var 1) (.cons (.var 2) (.cons (.lit (.str (sx "below"))) .nil))))) (.cons (.ret (.meth (.var 0) 30 (.cons (.lit (.str (sx "below"))) (.cons (.tup (.cons (.var 2) (.cons (.var 3) .nil))) (.cons (.glob (.int 0)) (.cons (.var 1) .nil)))))) .nil)))) }
noncomputable def fnL : List (Addr × Fn) := [(95, f_same_clauses), (102, f_tidy_clause), (776, f__law_dealt), (781, f__law_leaf), (788, f__law_wired), (795, f__law_end), (800, f__law_due), (807, f__law_is_refused), (812, f_law), (117, f_BitRows_init), (129, f_BitRows_bits_of), (157, f_BitRows_put), (206, f_BitRows_open_wires), (213, f_BitRows_source_of), (255, f_Bank_init), (297, f_Bank_declare_fun), (311, f_Bank_fresh_const), (346, f_Bank_op), (353, f_Bank_args), (367, f_Bank_data), (374, f_Bank_width), (388, f_Bank_make), (409, f_Bank_want), (666, f_TermBank_init), (673, f_TermBank_bv_sort), (687, f_TermBank_want_bits), (694, f_TermBank_bv_num), (715, f_TermBank_concat), (722, f_TermBank_extract), (729, f_TermBank_zero_extend), (736, f_TermBank_sign_extend), (743, f_TermBank_want_place), (750, f_TermBank_bit), (764, f_TermBank_below)]
noncomputable def methL : List (Addr × Nat × Addr) := [(237, 44, 129), (237, 45, 157), (237, 48, 206), (237, 49, 213), (767, 32, 673), (767, 33, 687), (767, 34, 694), (767, 36, 715), (767, 37, 722), (767, 38, 729), (767, 39, 736), (767, 40, 743), (767, 41, 750), (767, 43, 764), (767, 23, 297), (767, 24, 311), (767, 25, 346), (767, 26, 353), (767, 28, 367), (767, 29, 374), (767, 30, 388), (767, 31, 409)]
noncomputable def initL : List (Addr × Addr) := [(237, 117), (767, 666)]
noncomputable def PPx (ext : Addr → Option (List V)) : Prog := ⟨lookF fnL, lookM methL, lookF initL, fun c => if c = 767 then some 255 else none, ext⟩
end QZ
namespace QZ
open PySem
inductive WP {α : Type} : Res α → (α → St → Prop) → (Addr → Str → St → Prop) → Prop
  | ok {a σ Q E} (h : Q a σ) : WP (.ok a σ) Q E
  | exc {c m σ Q E} (h : E c m σ) : WP (.exc c m σ) Q E
inductive WR {β : Type} : R β → (β → St → Prop) → (V → St → Prop) → (Addr → Str → β → St → Prop) → Prop
  | next {b σ N T E} (h : N b σ) : WR (.next b σ) N T E
  | ret {v b σ N T E} (h : T v σ) : WR (.ret v b σ) N T E
  | exc {c m b σ N T E} (h : E c m b σ) : WR (.exc c m b σ) N T E
inductive Cnd : Option Bool → Prop → Prop → Prop
  | t {A B} (a : A) : Cnd (some true) A B
  | f {A B} (b : B) : Cnd (some false) A B
theorem cnd_t {o : Option Bool} {A B : Prop} (h : o = some true) (a : A) : Cnd o A B := h ▸ .t a
theorem cnd_f {o : Option Bool} {A B : Prop} (h : o = some false) (a : B) : Cnd o A B := h ▸ .f a
theorem Cnd.imp {o : Option Bool} {A A' B B' : Prop} (h : Cnd o A B) (k : A → A') (l : B → B') : Cnd o A' B' := by
  cases h with
  | t h => exact .t (k h)
  | f h => exact .f (l h)
section
variable {α β : Type} {Q : α → St → Prop} {E : Addr → Str → St → Prop}
theorem WP.bind {a : Res β} {f : β → St → Res α} (h : WP a (fun v σ => WP (f v σ) Q E) E) : WP (a.bind f) Q E := by
  cases h with
  | ok h => exact h
  | exc h => exact .exc h
theorem wp_eq {r : Res α} {v : α} {σ : St} (h : r = .ok v σ) (q : Q v σ) : WP r Q E := h ▸ .ok q
theorem wp_ex {r : Res α} (h : WP r Q (fun _ _ _ => False)) : ∃ v σ, r = .ok v σ ∧ Q v σ := by
  cases h with
  | ok h => exact ⟨_, _, rfl, h⟩
  | exc h => exact h.elim
theorem wp_is {r : Res V} {v : V} {σ : St} (h : WP r (fun a b => a = v ∧ b = σ) (fun _ _ _ => False)) : r = .ok v σ := by
  obtain ⟨_, _, h1, rfl, rfl⟩ := wp_ex h
  exact h1
theorem WP.imp {Q' : α → St → Prop} {r : Res α} (h : WP r Q E) (q : ∀ v σ, Q v σ → Q' v σ) : WP r Q' E := by
  cases h with
  | ok h => exact .ok (q _ _ h)
  | exc h => exact .exc h
theorem wp_ofO {o : Option β} {g : β → Res α} (h : ∃ b, o = some b ∧ WP (g b) Q E) : WP (ofO o g) Q E := by
  obtain ⟨b, rfl, h⟩ := h
  exact h
theorem wp_if {b : Bool} {r : Res α} (h : b = true ∧ WP r Q E) : WP (cond b r .stuck) Q E := by
  obtain ⟨rfl, h⟩ := h
  exact h
theorem wp_cnd {o : Option Bool} {g : Bool → Res α} (h : Cnd o (WP (g true) Q E) (WP (g false) Q E)) : WP (ofO o g) Q E := by
  cases h with
  | t h => exact h
  | f h => exact h
end
structure Mach where
  bk : Addr
  P : Prog
  co : Addr → List V → St → Res V
noncomputable abbrev turn (M : Mach) (e : X) (t : T) (c : XL) (ρ : Rho) (k : Nat) : V → List V → St → R (List V) := cturn t k (fun ρ σ => evX M.P M.co e ρ σ) (fun ρ σ => evT M.P M.co c ρ σ) ρ
noncomputable abbrev fturn (M : Mach) (t : QZ.T) (b : SL) : V → Rho → St → R Rho := sturn t fun ρ σ => exL M.P M.co b ρ σ
noncomputable def XL.isNil : XL → Bool
  | .nil => true
  | .cons _ _ => false
noncomputable def CL.isNil : CL → Bool
  | .nil => true
  | .cons _ _ _ => false
noncomputable abbrev QV := V → St → Prop
noncomputable abbrev QE := Addr → Str → St → Prop
noncomputable abbrev WX := Mach → Rho → St → QV → QE → Prop
noncomputable abbrev NoE : QE := fun _ _ _ => False
inductive OfP {α : Type} (o : Option α) (k : α → Prop) : Prop
  | mk {a} (h : o = some a) (q : k a) : OfP o k
inductive MB (ov : V) (n : Nat) (σ : St) (vs : List V) (σ' : St) (Q : QV) (E : QE) : Prop
  | mk (h : methOk ov n σ = true) (q : WP (methB ov n vs σ') Q E) : MB ov n σ vs σ' Q E
inductive MI (ov : V) (n : Nat) (σ : St) (A : Prop) : Prop
  | mk (h : freeA ov n σ = true) (q : A) : MI ov n σ A
inductive EqP (i : Int) (k : Int → Prop) : Prop
  | mk {c : Int} (h : i = c) (q : k c) : EqP i k
structure WXL where
  l : Mach → Rho → St → (List V → St → Prop) → QE → Prop
  b : Bool → WX
  f : Str → WX
  t : Mach → Rho → St → (Bool → St → Prop) → QE → Prop
section
noncomputable def isBk (bk : Addr) (v : V) : Bool := match v with
  | .inst c n => Nat.beq c bk && Nat.beq n 3
  | _ => false
noncomputable def intP (v : V) (k : Int → Prop) : Prop := match v with
  | .int i => k i
  | _ => False
noncomputable def someP {α : Type} (o : Option α) (k : α → Prop) : Prop := match o with
  | some a => k a
  | none => False
noncomputable def tupP (v : V) (k : List V → Prop) : Prop := match v with
  | .tup l => k l
  | _ => False
noncomputable def cmpP (op : CmpOp) (x y : V) (σ : St) (k : Bool → Prop) : Prop := match op with
  | .Eq => int2 x y (OfP (cmpop .Eq x y σ) k) fun a b => k (decide (a = b))
  | .NotEq => int2 x y (OfP (cmpop .NotEq x y σ) k) fun a b => k (!decide (a = b))
  | .Lt => int2 x y False fun a b => k (decide (a < b))
  | .LtE => int2 x y False fun a b => k (decide (a ≤ b))
  | .Gt => int2 x y False fun a b => k (decide (b < a))
  | .GtE => int2 x y False fun a b => k (decide (b ≤ a))
  | .Is => someP (cmpop .Is x y σ) k
  | .IsNot => someP (cmpop .IsNot x y σ) k
  | .In => OfP (cmpop .In x y σ) k
  | .NotIn => OfP (cmpop .NotIn x y σ) k
noncomputable def binP (op : Operator) (x y : V) (σ : St) (Q : QV) (E : QE) : Prop := match op with
  | .Add => int2 x y (WP (binop .Add x y σ) Q E) fun a b => Q (.int (a + b)) σ
  | .Sub => int2 x y False fun a b => EqP (a - b) fun c => Q (.int c) σ
  | .Mult => WP (binop .Mult x y σ) Q E
  | .Mod => WP (binop .Mod x y σ) Q E
  | .FloorDiv => WP (binop .FloorDiv x y σ) Q E
  | .Pow => WP (binop .Pow x y σ) Q E
  | .LShift => WP (binop .LShift x y σ) Q E
  | .BitOr => WP (binop .BitOr x y σ) Q E
  | .BitAnd => WP (binop .BitAnd x y σ) Q E
  | _ => False
noncomputable def attrP (M : Mach) (x : V) (n : Nat) (σ : St) (k : V → Prop) : Prop := cond (okCls M.P x) (cond (isBk M.bk x) (someP (getAttr x n σ) k) (OfP (getAttr x n σ) k)) False
noncomputable def methP (M : Mach) (n : Nat) (l : Rho → St → (List V → St → Prop) → QE → Prop) (ρ : Rho) (Q : QV) (E : QE) (ov : V) (σ : St) : Prop := (instOf ov).elim (l ρ σ (fun vs σ' => MB ov n σ vs σ' Q E) NoE)
  fun c => someP (M.P.meth c n) fun f => cond (isBk M.bk ov) (cond (freeA ov n σ) (l ρ σ (fun vs σ => WP (M.co f (ov :: vs) σ) Q E) E) False) (MI ov n σ (l ρ σ (fun vs σ => WP (M.co f (ov :: vs) σ) Q E) E))
noncomputable def p_lit (v : V) : WX := fun M ρ σ Q E => Q v σ
noncomputable def p_var (i : Nat) : WX := fun M ρ σ Q E => someP (slot ρ i) fun v => Q v σ
noncomputable def p_bop (c : Bool) (l : WXL) : WX := l.b c
noncomputable def p_bin (op : Operator) (a b : WX) : WX := fun M ρ σ Q E => a M ρ σ (fun x σ => b M ρ σ (fun y σ => binP op x y σ Q E) E) E
noncomputable def p_neg (a : WX) : WX := fun M ρ σ Q E => a M ρ σ (fun x σ => intP x fun i => Q (.int (-i)) σ) E
noncomputable def p_not (a : WX) : WX := fun M ρ σ Q E => a M ρ σ (fun x σ => someP (truth x) fun b => Q (.bool (!b)) σ) E
noncomputable def p_ite (c a b : WX) : WX := fun M ρ σ Q E => c M ρ σ (fun x σ => Cnd (truth x) (a M ρ σ Q E) (b M ρ σ Q E)) E
noncomputable def p_cmp (a : WX) (l : V → WX) : WX := fun M ρ σ Q E => a M ρ σ (fun x σ => l x M ρ σ Q E) E
noncomputable def p_tup (l : WXL) : WX := fun M ρ σ Q E => l.l M ρ σ (fun vs σ => Q (.tup vs) σ) E
noncomputable def p_lst (l : WXL) : WX := fun M ρ σ Q E => l.l M ρ σ (fun vs σ => Q (.loc σ.length) (σ ++ [.list vs])) E
noncomputable def p_dct (k : DK) (l : Mach → Rho → St → (List (V × V) → St → Prop) → QE → Prop) : WX := fun M ρ σ Q E => l M ρ σ (fun ps σ => cond (ps.all (fun p => keyOk k p.1)) (Q (.loc σ.length) (σ ++ [.dict k (ps.foldl (fun d p => putD p.1 p.2 d) [])])) False) E
noncomputable def p_spread (d k v : WX) : WX := fun M ρ σ Q E => False
noncomputable def p_attr (a : WX) (n : Nat) : WX := fun M ρ σ Q E => a M ρ σ (fun x σ => attrP M x n σ fun v => Q v σ) E
noncomputable def p_item (a i : WX) : WX := fun M ρ σ Q E => a M ρ σ (fun x σ => i M ρ σ (fun y σ => OfP (getItem x y σ) fun v => Q v σ) E) E
noncomputable def p_slc (a lo hi : WX) : WX := fun M ρ σ Q E => a M ρ σ (fun x σ => lo M ρ σ (fun y σ => hi M ρ σ (fun z σ => WP (slice M.P.ext x y z σ) Q E) E) E) E
noncomputable def p_call (f : Addr) (l : WXL) : WX := fun M ρ σ Q E => l.l M ρ σ (fun vs σ => WP (M.co f vs σ) Q E) E
noncomputable def p_bi (f : BI) (l : WXL) : WX := fun M ρ σ Q E => l.l M ρ σ (fun vs σ => WP (callB f vs σ) Q E) E
noncomputable def p_meth (o : WX) (n : Nat) (l : WXL) : WX := fun M ρ σ Q E => o M ρ σ (methP M n (l.l M) ρ Q E) E
noncomputable def p_sup (f : Addr) (l : WXL) : WX := fun M ρ σ Q E => someP ((slot ρ 0).bind (supOf M.P f)) fun v => l.l M ρ σ (fun vs σ => WP (M.co f (v :: vs) σ) Q E) E
noncomputable def p_comp (e : X) (t : T) (s : Mach → Rho → St → (SV → St → Prop) → QE → Prop) (c : XL) (k : Nat) : WX := fun M ρ σ Q E => s M ρ σ (fun sv σ => WR (loop sv (turn M e t c ρ k) [] σ) (fun acc σ => Q (.loc σ.length) (σ ++ [.list acc])) (fun _ _ => False) (fun _ _ _ _ => False)) E
noncomputable def p_fstr (l : WXL) : WX := l.f Str.empty
noncomputable def pl_nil : WXL := ⟨fun _ _ σ Q _ => Q [] σ, fun _ _ _ _ _ _ => False, fun acc _ _ σ Q _ => Q (.str acc) σ, fun _ _ σ Q _ => Q true σ⟩
noncomputable def pl_cons (xl : XL) (x : WX) (l : WXL) : WXL := ⟨fun M ρ σ Q E => x M ρ σ (fun v σ => l.l M ρ σ (fun vs σ => Q (v :: vs) σ) E) E,
  fun c M ρ σ Q E => cond xl.isNil (x M ρ σ Q E) (x M ρ σ (fun v σ => cond c (Cnd (truth v) (l.b c M ρ σ Q E) (Q v σ)) (Cnd (truth v) (Q v σ) (l.b c M ρ σ Q E))) E),
  fun acc M ρ σ Q E => x M ρ σ (fun v σ => OfP (strOf v) fun y => l.f (acc ++ y) M ρ σ Q E) E,
  fun M ρ σ Q E => x M ρ σ (fun v σ => Cnd (truth v) (l.t M ρ σ Q E) (Q false σ)) E⟩
noncomputable def pc_nil : V → WX := fun _ _ _ _ _ _ => False
noncomputable def pc_cons (cl : CL) (op : CmpOp) (y : WX) (l : V → WX) : V → WX := fun x M ρ σ Q E => y M ρ σ (fun w σ => cmpP op x w σ fun b => cond cl.isNil (Q (.bool b) σ) (Cnd (some b) (l w M ρ σ Q E) (Q (.bool false) σ))) E
noncomputable def pp_nil : Mach → Rho → St → (List (V × V) → St → Prop) → QE → Prop := fun _ _ σ Q _ => Q [] σ
noncomputable def pp_cons (k v : WX) (l : Mach → Rho → St → (List (V × V) → St → Prop) → QE → Prop) : Mach → Rho → St → (List (V × V) → St → Prop) → QE → Prop := fun M ρ σ Q E => k M ρ σ (fun kv σ => v M ρ σ (fun vv σ => l M ρ σ (fun ps σ => Q ((kv, vv) :: ps) σ) E) E) E
noncomputable def ps_expr (x : WX) : Mach → Rho → St → (SV → St → Prop) → QE → Prop := fun M ρ σ Q E => x M ρ σ (fun v σ => OfP (srcVal σ v) fun sv => Q sv σ) E
noncomputable def ps_range (l : WXL) : Mach → Rho → St → (SV → St → Prop) → QE → Prop := fun M ρ σ Q E => l.l M ρ σ (fun vs σ => OfP (rangeOf vs) fun b => Q (.rng 0 b) σ) E
noncomputable def ps_enum (x : WX) : Mach → Rho → St → (SV → St → Prop) → QE → Prop := fun M ρ σ Q E => x M ρ σ (fun v σ => OfP (enumVal σ v) fun n => Q (.enl n) σ) E
noncomputable def wpX : X → WX := fun x =>
  X.rec (motive_1 := fun _ => WX) (motive_2 := fun _ => WXL) (motive_3 := fun _ => V → WX) (motive_4 := fun _ => Mach → Rho → St → (List (V × V) → St → Prop) → QE → Prop) (motive_5 := fun _ => Mach → Rho → St → (SV → St → Prop) → QE → Prop)
    p_lit p_var p_lit (fun c _ l => p_bop c l) (fun op _ _ a b => p_bin op a b) (fun _ a => p_neg a) (fun _ a => p_not a) (fun _ _ _ c a b => p_ite c a b) (fun _ _ a l => p_cmp a l) (fun _ l => p_tup l) (fun _ l => p_lst l)
    (fun k _ l => p_dct k l) (fun _ _ _ d k v => p_spread d k v) (fun _ n a => p_attr a n) (fun _ _ a i => p_item a i) (fun _ _ _ a b c => p_slc a b c) (fun f _ l => p_call f l) (fun f _ l => p_bi f l)
    (fun _ n _ o l => p_meth o n l) (fun f _ l => p_sup f l) (fun e t _ c k _ s _ => p_comp e t s c k) (fun _ l => p_fstr l)
    pl_nil (fun _ xl x l => pl_cons xl x l) pc_nil (fun op _ cl y l => pc_cons cl op y l) pp_nil (fun _ _ _ k v l => pp_cons k v l) (fun _ x => ps_expr x) (fun _ l => ps_range l) (fun _ x => ps_enum x) x
noncomputable def wpXL : XL → WXL := fun x =>
  XL.rec (motive_1 := fun _ => WX) (motive_2 := fun _ => WXL) (motive_3 := fun _ => V → WX) (motive_4 := fun _ => Mach → Rho → St → (List (V × V) → St → Prop) → QE → Prop) (motive_5 := fun _ => Mach → Rho → St → (SV → St → Prop) → QE → Prop)
    p_lit p_var p_lit (fun c _ l => p_bop c l) (fun op _ _ a b => p_bin op a b) (fun _ a => p_neg a) (fun _ a => p_not a) (fun _ _ _ c a b => p_ite c a b) (fun _ _ a l => p_cmp a l) (fun _ l => p_tup l) (fun _ l => p_lst l)
    (fun k _ l => p_dct k l) (fun _ _ _ d k v => p_spread d k v) (fun _ n a => p_attr a n) (fun _ _ a i => p_item a i) (fun _ _ _ a b c => p_slc a b c) (fun f _ l => p_call f l) (fun f _ l => p_bi f l)
    (fun _ n _ o l => p_meth o n l) (fun f _ l => p_sup f l) (fun e t _ c k _ s _ => p_comp e t s c k) (fun _ l => p_fstr l)
    pl_nil (fun _ xl x l => pl_cons xl x l) pc_nil (fun op _ cl y l => pc_cons cl op y l) pp_nil (fun _ _ _ k v l => pp_cons k v l) (fun _ x => ps_expr x) (fun _ l => ps_range l) (fun _ x => ps_enum x) x
noncomputable def wpC : CL → V → WX := fun x =>
  CL.rec (motive_1 := fun _ => WX) (motive_2 := fun _ => WXL) (motive_3 := fun _ => V → WX) (motive_4 := fun _ => Mach → Rho → St → (List (V × V) → St → Prop) → QE → Prop) (motive_5 := fun _ => Mach → Rho → St → (SV → St → Prop) → QE → Prop)
    p_lit p_var p_lit (fun c _ l => p_bop c l) (fun op _ _ a b => p_bin op a b) (fun _ a => p_neg a) (fun _ a => p_not a) (fun _ _ _ c a b => p_ite c a b) (fun _ _ a l => p_cmp a l) (fun _ l => p_tup l) (fun _ l => p_lst l)
    (fun k _ l => p_dct k l) (fun _ _ _ d k v => p_spread d k v) (fun _ n a => p_attr a n) (fun _ _ a i => p_item a i) (fun _ _ _ a b c => p_slc a b c) (fun f _ l => p_call f l) (fun f _ l => p_bi f l)
    (fun _ n _ o l => p_meth o n l) (fun f _ l => p_sup f l) (fun e t _ c k _ s _ => p_comp e t s c k) (fun _ l => p_fstr l)
    pl_nil (fun _ xl x l => pl_cons xl x l) pc_nil (fun op _ cl y l => pc_cons cl op y l) pp_nil (fun _ _ _ k v l => pp_cons k v l) (fun _ x => ps_expr x) (fun _ l => ps_range l) (fun _ x => ps_enum x) x
noncomputable def wpP : PL → Mach → Rho → St → (List (V × V) → St → Prop) → QE → Prop := fun x =>
  PL.rec (motive_1 := fun _ => WX) (motive_2 := fun _ => WXL) (motive_3 := fun _ => V → WX) (motive_4 := fun _ => Mach → Rho → St → (List (V × V) → St → Prop) → QE → Prop) (motive_5 := fun _ => Mach → Rho → St → (SV → St → Prop) → QE → Prop)
    p_lit p_var p_lit (fun c _ l => p_bop c l) (fun op _ _ a b => p_bin op a b) (fun _ a => p_neg a) (fun _ a => p_not a) (fun _ _ _ c a b => p_ite c a b) (fun _ _ a l => p_cmp a l) (fun _ l => p_tup l) (fun _ l => p_lst l)
    (fun k _ l => p_dct k l) (fun _ _ _ d k v => p_spread d k v) (fun _ n a => p_attr a n) (fun _ _ a i => p_item a i) (fun _ _ _ a b c => p_slc a b c) (fun f _ l => p_call f l) (fun f _ l => p_bi f l)
    (fun _ n _ o l => p_meth o n l) (fun f _ l => p_sup f l) (fun e t _ c k _ s _ => p_comp e t s c k) (fun _ l => p_fstr l)
    pl_nil (fun _ xl x l => pl_cons xl x l) pc_nil (fun op _ cl y l => pc_cons cl op y l) pp_nil (fun _ _ _ k v l => pp_cons k v l) (fun _ x => ps_expr x) (fun _ l => ps_range l) (fun _ x => ps_enum x) x
noncomputable def wpR : Src → Mach → Rho → St → (SV → St → Prop) → QE → Prop := fun x =>
  Src.rec (motive_1 := fun _ => WX) (motive_2 := fun _ => WXL) (motive_3 := fun _ => V → WX) (motive_4 := fun _ => Mach → Rho → St → (List (V × V) → St → Prop) → QE → Prop) (motive_5 := fun _ => Mach → Rho → St → (SV → St → Prop) → QE → Prop)
    p_lit p_var p_lit (fun c _ l => p_bop c l) (fun op _ _ a b => p_bin op a b) (fun _ a => p_neg a) (fun _ a => p_not a) (fun _ _ _ c a b => p_ite c a b) (fun _ _ a l => p_cmp a l) (fun _ l => p_tup l) (fun _ l => p_lst l)
    (fun k _ l => p_dct k l) (fun _ _ _ d k v => p_spread d k v) (fun _ n a => p_attr a n) (fun _ _ a i => p_item a i) (fun _ _ _ a b c => p_slc a b c) (fun f _ l => p_call f l) (fun f _ l => p_bi f l)
    (fun _ n _ o l => p_meth o n l) (fun f _ l => p_sup f l) (fun e t _ c k _ s _ => p_comp e t s c k) (fun _ l => p_fstr l)
    pl_nil (fun _ xl x l => pl_cons xl x l) pc_nil (fun op _ cl y l => pc_cons cl op y l) pp_nil (fun _ _ _ k v l => pp_cons k v l) (fun _ x => ps_expr x) (fun _ l => ps_range l) (fun _ x => ps_enum x) x
noncomputable abbrev WS' := Mach → Rho → St → (Rho → St → Prop) → (V → St → Prop) → (Addr → Str → Rho → St → Prop) → Prop
noncomputable def asgP (M : Mach) (t : LHS) (v : V) (ρ : Rho) (σ : St) (N : Rho → St → Prop) : Prop := match t with
  | .name i => N (ρ.set i (some v)) σ
  | .tup is => tupP v fun vs => someP (setAll is vs ρ) fun ρ' => N ρ' σ
  | .attr o n => wpX o M ρ σ (fun ov σ => cond (okCls M.P ov) (OfP (setAttr ov n v σ) fun σ => N ρ σ) False) NoE
  | .item o i => wpX o M ρ σ (fun ov σ => wpX i M ρ σ (fun iv σ => OfP (setItem ov iv v σ) fun σ => N ρ σ) NoE) NoE
noncomputable def p_asg (t : LHS) (x : X) : WS' := fun M ρ σ N T E => wpX x M ρ σ (fun v σ => asgP M t v ρ σ N) (fun c m σ => E c m ρ σ)
noncomputable def p_aug (o i x : X) : WS' := fun M ρ σ N T E => wpX o M ρ σ (fun ov σ => wpX i M ρ σ (fun iv σ => OfP (getItem ov iv σ) fun a => wpX x M ρ σ (fun v σ => OfP (addI a v) fun nw => OfP (setItem ov iv nw σ) fun σ => N ρ σ) NoE) NoE) NoE
noncomputable def p_exp (x : X) : WS' := fun M ρ σ N T E => wpX x M ρ σ (fun _ σ => N ρ σ) (fun c m σ => E c m ρ σ)
noncomputable def p_ret (x : X) : WS' := fun M ρ σ N T E => wpX x M ρ σ T (fun c m σ => E c m ρ σ)
noncomputable def p_ifs (c : X) (a b : WS') : WS' := fun M ρ σ N T E => wpX c M ρ σ (fun v σ => Cnd (truth v) (a M ρ σ N T E) (b M ρ σ N T E)) NoE
noncomputable def p_for (t : T) (s : Src) (b : SL) : WS' := fun M ρ σ N T E => wpR s M ρ σ (fun sv σ => WR (loop sv (fturn M t b) ρ σ) N T E) NoE
noncomputable def p_whl (c : X) (b : SL) : WS' := fun M ρ σ N T E => WR (whileN (fun ρ σ => test M.P M.co c ρ σ) (fun ρ σ => exL M.P M.co b ρ σ) 40 ρ σ) N T E
noncomputable def p_rai (c : Addr) (x : X) : WS' := fun M ρ σ N T E => wpX x M ρ σ (fun v σ => someP (msgOf v) fun m => E c m ρ σ) NoE
noncomputable def p_try (b : WS') (c : Addr) (h : WS') : WS' := fun M ρ σ N T E => b M ρ σ N T (fun c' m ρ σ => c = c' ∧ h M ρ σ N T E)
noncomputable def ps_nil : WS' := fun _ ρ σ N _ _ => N ρ σ
noncomputable def ps_cons (s l : WS') : WS' := fun M ρ σ N T E => s M ρ σ (fun ρ σ => l M ρ σ N T E) T E
noncomputable def wpS : S → WS' := fun x =>
  S.rec (motive_1 := fun _ => WS') (motive_2 := fun _ => WS')
    (fun t x => p_asg t x) (fun o i _ x => p_aug o i x) (fun x => p_exp x) (fun x => p_ret x) (fun c _ _ a b => p_ifs c a b) (fun t s b _ => p_for t s b) (fun c b _ => p_whl c b)
    (fun c x => p_rai c x) (fun _ c _ b h => p_try b c h) ps_nil (fun _ _ s l => ps_cons s l) x
noncomputable def wpL : SL → WS' := fun x =>
  SL.rec (motive_1 := fun _ => WS') (motive_2 := fun _ => WS')
    (fun t x => p_asg t x) (fun o i _ x => p_aug o i x) (fun x => p_exp x) (fun x => p_ret x) (fun c _ _ a b => p_ifs c a b) (fun t s b _ => p_for t s b) (fun c b _ => p_whl c b)
    (fun c x => p_rai c x) (fun _ c _ b h => p_try b c h) ps_nil (fun _ _ s l => ps_cons s l) x
end
theorem someP_of {α : Type} {o : Option α} {k : α → Prop} (h : someP o k) : ∃ a, o = some a ∧ k a := by
  cases o with
  | none => exact h.elim
  | some a => exact ⟨a, rfl, h⟩
theorem OfP.of {α : Type} {o : Option α} {k : α → Prop} (h : OfP o k) : ∃ a, o = some a ∧ k a := by
  cases h with
  | mk h q => exact ⟨_, h, q⟩
theorem wp_some {α β : Type} {Q : α → St → Prop} {E : QE} {o : Option β} {g : β → Res α} {k : β → Prop} (h : someP o k) (m : ∀ b, k b → WP (g b) Q E) : WP (ofO o g) Q E := by
  cases o with
  | none => exact h.elim
  | some a => exact m a h
theorem wp_of {α β : Type} {Q : α → St → Prop} {E : QE} {o : Option β} {g : β → Res α} {k : β → Prop} (h : OfP o k) (m : ∀ b, k b → WP (g b) Q E) : WP (ofO o g) Q E := by
  cases h with
  | mk h q => exact h ▸ m _ q
theorem wp_cond {α : Type} {Q : α → St → Prop} {E : QE} {b : Bool} {r : Res α} {A : Prop} (h : cond b A False) (m : A → WP r Q E) : WP (cond b r .stuck) Q E := by
  cases b with
  | false => exact h.elim
  | true => exact m h
theorem i2_of {x y : V} {d : Prop} {k : Int → Int → Prop} {M : V → V → Prop} (h : int2 x y d k) (m : ∀ a b, k a b → M (.int a) (.int b)) (n : d → M x y) : M x y := by
  cases x with
  | int a => cases y with
    | int b => exact m a b h
    | _ => exact n h
  | _ => exact n h
theorem cmpP_of {op : CmpOp} {x y : V} {σ : St} {k : Bool → Prop} (h : cmpP op x y σ k) : ∃ t, cmpop op x y σ = some t ∧ k t := by
  cases op with
  | Eq => exact i2_of (M := fun x y => ∃ t, cmpop .Eq x y σ = some t ∧ k t) h (fun a b h => ⟨_, rfl, h⟩) fun h => h.of
  | NotEq => exact i2_of (M := fun x y => ∃ t, cmpop .NotEq x y σ = some t ∧ k t) h (fun a b h => ⟨_, rfl, h⟩) fun h => h.of
  | Lt => exact i2_of (M := fun x y => ∃ t, cmpop .Lt x y σ = some t ∧ k t) h (fun a b h => ⟨_, rfl, h⟩) False.elim
  | LtE => exact i2_of (M := fun x y => ∃ t, cmpop .LtE x y σ = some t ∧ k t) h (fun a b h => ⟨_, rfl, h⟩) False.elim
  | Gt => exact i2_of (M := fun x y => ∃ t, cmpop .Gt x y σ = some t ∧ k t) h (fun a b h => ⟨_, rfl, h⟩) False.elim
  | GtE => exact i2_of (M := fun x y => ∃ t, cmpop .GtE x y σ = some t ∧ k t) h (fun a b h => ⟨_, rfl, h⟩) False.elim
  | Is => exact someP_of h
  | IsNot => exact someP_of h
  | In => exact h.of
  | NotIn => exact h.of
theorem binP_wp {op : Operator} {x y : V} {σ : St} {Q : QV} {E : QE} (h : binP op x y σ Q E) : WP (binop op x y σ) Q E := by
  cases op with
  | Add => exact i2_of (M := fun x y => WP (binop .Add x y σ) Q E) h (fun a b h => .ok h) fun h => h
  | Sub => exact i2_of (M := fun x y => WP (binop .Sub x y σ) Q E) h (fun a b h => by cases h with | mk e q => exact .ok (e ▸ q)) False.elim
  | Mult => exact h
  | Mod => exact h
  | FloorDiv => exact h
  | Pow => exact h
  | LShift => exact h
  | BitOr => exact h
  | BitAnd => exact h
  | _ => exact h.elim
section
variable {M : Mach} {E : QE}
theorem attrP_of {x : V} {n : Nat} {σ : St} {k : V → Prop} {Q : QV} (h : attrP M x n σ k) (m : ∀ v, k v → Q v σ) : WP (cond (okCls M.P x) (ofO (getAttr x n σ) fun v => .ok v σ) .stuck) Q E := by
  refine wp_cond h fun h => ?_
  revert h
  cases isBk M.bk x with
  | true => exact fun h => wp_some h fun v q => .ok (m v q)
  | false => exact fun h => wp_of h fun v q => .ok (m v q)
variable (M)
noncomputable def AX (x : X) : Prop := ∀ {ρ σ Q E}, wpX x M ρ σ Q E → WP (evX M.P M.co x ρ σ) Q E
structure AXL (k : XL) : Prop where
  l : ∀ {ρ σ Q E}, (wpXL k).l M ρ σ Q E → WP (evL M.P M.co k ρ σ) Q E
  b : ∀ {c ρ σ Q E}, (wpXL k).b c M ρ σ Q E → WP (evB M.P M.co c k ρ σ) Q E
  f : ∀ {acc ρ σ Q E}, (wpXL k).f acc M ρ σ Q E → WP (evF M.P M.co k acc ρ σ) Q E
  t : ∀ {ρ σ Q E}, (wpXL k).t M ρ σ Q E → WP (evT M.P M.co k ρ σ) Q E
noncomputable def AC (l : CL) : Prop := ∀ {x ρ σ Q E}, wpC l x M ρ σ Q E → WP (evC M.P M.co x l ρ σ) Q E
noncomputable def AP (l : PL) : Prop := ∀ {ρ σ Q E}, wpP l M ρ σ Q E → WP (evP M.P M.co l ρ σ) Q E
noncomputable def AS (s : Src) : Prop := ∀ {ρ σ Q E}, wpR s M ρ σ Q E → WP (evS M.P M.co s ρ σ) Q E
variable {M}
theorem ad_bin {op a b} (ha : AX M a) (hb : AX M b) : AX M (.bin op a b) := fun {ρ σ Q E} (h : wpX a M ρ σ (fun x σ => wpX b M ρ σ (fun y σ => binP op x y σ Q E) E) E) =>
  .bind ((ha h).imp fun x σ h => .bind ((hb h).imp fun y σ h => binP_wp h))
theorem ad_neg {a} (ha : AX M a) : AX M (.neg a) := fun {ρ σ Q E} (h : wpX a M ρ σ (fun x σ => intP x fun i => Q (.int (-i)) σ) E) =>
  .bind ((ha h).imp fun x σ h => by
    cases x with
    | int i => exact .ok h
    | _ => exact h.elim)
theorem ad_not {a} (ha : AX M a) : AX M (.not a) := fun {ρ σ Q E} (h : wpX a M ρ σ (fun x σ => someP (truth x) fun b => Q (.bool (!b)) σ) E) =>
  .bind ((ha h).imp fun x σ h => wp_some h fun b q => .ok q)
theorem ad_test {c : X} {ρ : Rho} {σ : St} {Q : Bool → St → Prop} {E : QE} (h : WP (evX M.P M.co c ρ σ) (fun v σ => Cnd (truth v) (Q true σ) (Q false σ)) E) : WP (test M.P M.co c ρ σ) Q E :=
  .bind (h.imp fun v σ k => wp_cnd (k.imp .ok .ok))
theorem ad_ite {c a b} (hc : AX M c) (ha : AX M a) (hb : AX M b) : AX M (.ite c a b) := fun {ρ σ Q E} (h : wpX c M ρ σ (fun x σ => Cnd (truth x) (wpX a M ρ σ Q E) (wpX b M ρ σ Q E)) E) =>
  .bind (ad_test (Q := fun t σ => WP (cond t (evX M.P M.co a ρ σ) (evX M.P M.co b ρ σ)) Q E) ((hc h).imp fun x σ h => h.imp (fun h => ha h) fun h => hb h))
theorem ad_cmp {a l} (ha : AX M a) (hl : AC M l) : AX M (.cmp a l) := fun {ρ σ Q E} (h : wpX a M ρ σ (fun x σ => wpC l x M ρ σ Q E) E) => .bind ((ha h).imp fun x σ h => hl h)
theorem ad_tup {l} (hl : AXL M l) : AX M (.tup l) := fun {ρ σ Q E} (h : (wpXL l).l M ρ σ (fun vs σ => Q (.tup vs) σ) E) => .bind ((hl.l h).imp fun x σ h => .ok h)
theorem ad_lst {l} (hl : AXL M l) : AX M (.lst l) := fun {ρ σ Q E} (h : (wpXL l).l M ρ σ (fun vs σ => Q (.loc σ.length) (σ ++ [O.list vs])) E) => .bind ((hl.l h).imp fun x σ h => .ok h)
theorem ad_dct {k l} (hl : AP M l) : AX M (.dct k l) := fun {ρ σ Q E} (h : wpP l M ρ σ (fun ps σ => cond (ps.all (fun p => keyOk k p.1)) (Q (.loc σ.length) (σ ++ [O.dict k (ps.foldl (fun d p => putD p.1 p.2 d) [])])) False) E) =>
  .bind ((hl h).imp fun x σ h => wp_cond h .ok)
theorem ad_spread {d k v} : AX M (.spread d k v) := fun h => h.elim
theorem ad_attr {a n} (ha : AX M a) : AX M (.attr a n) := fun {ρ σ Q E} (h : wpX a M ρ σ (fun x σ => attrP M x n σ fun v => Q v σ) E) => .bind ((ha h).imp fun x σ h => attrP_of h fun v q => q)
theorem ad_item {a i} (ha : AX M a) (hi : AX M i) : AX M (.item a i) := fun {ρ σ Q E} (h : wpX a M ρ σ (fun x σ => wpX i M ρ σ (fun y σ => OfP (getItem x y σ) fun v => Q v σ) E) E) =>
  .bind ((ha h).imp fun x σ h => .bind ((hi h).imp fun y σ h => wp_of h fun v q => .ok q))
theorem ad_slc {a b c} (ha : AX M a) (hb : AX M b) (hc : AX M c) : AX M (.slc a b c) := fun {ρ σ Q E} (h : wpX a M ρ σ (fun x σ => wpX b M ρ σ (fun y σ => wpX c M ρ σ (fun z σ => WP (slice M.P.ext x y z σ) Q E) E) E) E) =>
  .bind ((ha h).imp fun x σ h => .bind ((hb h).imp fun y σ h => .bind ((hc h).imp fun z σ h => h)))
theorem ad_call {f l} (hl : AXL M l) : AX M (.call f l) := fun {ρ σ Q E} (h : (wpXL l).l M ρ σ (fun vs σ => WP (M.co f vs σ) Q E) E) => .bind (hl.l h)
theorem ad_bi {f l} (hl : AXL M l) : AX M (.bi f l) := fun {ρ σ Q E} (h : (wpXL l).l M ρ σ (fun vs σ => WP (callB f vs σ) Q E) E) => .bind (hl.l h)
theorem mi_of {ov : V} {n : Nat} {σ : St} {A : Prop} {r : Res V} {Q : QV} (h : MI ov n σ A) (m : A → WP r Q E) : WP (cond (freeA ov n σ) r .stuck) Q E := by
  cases h with
  | mk h q => exact wp_if ⟨h, m q⟩
theorem mb_of {ov : V} {n : Nat} {σ : St} {r : Res (List V)} {Q : QV} (h : WP r (fun vs σ' => MB ov n σ vs σ' Q E) NoE) : WP (cond (methOk ov n σ) (r.bind fun vs σ => methB ov n vs σ) .stuck) Q E := by
  cases h with
  | exc h => exact h.elim
  | ok h => cases h with
    | mk h q => exact wp_if ⟨h, q⟩
theorem meth_of {ov : V} {n : Nat} {l : XL} {ρ : Rho} {σ : St} {Q : QV} (hl : AXL M l) (h : methP M n ((wpXL l).l M) ρ Q E ov σ) :
    WP ((instOf ov).elim (cond (methOk ov n σ) ((evL M.P M.co l ρ σ).bind fun vs σ => methB ov n vs σ) .stuck) fun c => ofO (M.P.meth c n) fun f => cond (freeA ov n σ) ((evL M.P M.co l ρ σ).bind fun vs σ => M.co f (ov :: vs) σ) .stuck) Q E := by
  unfold methP at h
  revert h
  cases instOf ov with
  | none => exact fun h => mb_of (hl.l h)
  | some c =>
    refine fun h => wp_some h fun f h => ?_
    revert h
    cases isBk M.bk ov with
    | true => exact fun h => wp_cond h fun h => .bind (hl.l h)
    | false => exact fun h => mi_of h fun h => .bind (hl.l h)
theorem ad_meth {o n l} (ho : AX M o) (hl : AXL M l) : AX M (.meth o n l) := fun {ρ σ Q E} (h : wpX o M ρ σ (methP M n ((wpXL l).l M) ρ Q E) E) =>
  .bind ((ho h).imp fun ov σ h => meth_of hl h)
theorem ad_sup {f l} (hl : AXL M l) : AX M (.sup f l) := fun {ρ σ Q E} (h : someP ((slot ρ 0).bind (supOf M.P f)) fun v => (wpXL l).l M ρ σ (fun vs σ => WP (M.co f (v :: vs) σ) Q E) E) => wp_some h fun v h => .bind (hl.l h)
theorem ad_comp {e t s c k} (hs : AS M s) : AX M (.comp e t s c k) := fun {ρ σ Q E} (h : wpR s M ρ σ (fun sv σ => WR (loop sv (turn M e t c ρ k) [] σ) (fun acc σ => Q (.loc σ.length) (σ ++ [O.list acc])) (fun _ _ => False) (fun _ _ _ _ => False)) E) => by
  refine .bind ((hs h).imp fun v σ h => ?_)
  generalize loop v (turn M e t c ρ k) [] σ = r at h
  cases h with
  | next h => exact .ok h
  | ret h => exact h.elim
  | exc h => exact h.elim
theorem ad_nil : AXL M .nil := ⟨fun h => .ok h, fun h => h.elim, fun h => .ok h, fun h => .ok h⟩
theorem ad_cons {x l} (hx : AX M x) (hl : AXL M l) : AXL M (.cons x l) where
  l := fun {ρ σ Q E} (h : wpX x M ρ σ (fun v σ => (wpXL l).l M ρ σ (fun vs σ => Q (v :: vs) σ) E) E) => .bind ((hx h).imp fun v σ h => .bind ((hl.l h).imp fun vs σ h => .ok h))
  b := fun {c ρ σ Q E} (h : cond l.isNil (wpX x M ρ σ Q E) (wpX x M ρ σ (fun v σ => cond c (Cnd (truth v) ((wpXL l).b c M ρ σ Q E) (Q v σ)) (Cnd (truth v) (Q v σ) ((wpXL l).b c M ρ σ Q E))) E)) => by
    cases l with
    | nil => exact hx h
    | cons y l =>
      refine .bind ((hx h).imp fun v σ h => ?_)
      cases c with
      | true => exact wp_cnd (Cnd.imp h (fun h => hl.b h) fun h => .ok h)
      | false => exact wp_cnd (Cnd.imp h (fun h => .ok h) fun h => hl.b h)
  f := fun {acc ρ σ Q E} (h : wpX x M ρ σ (fun v σ => OfP (strOf v) fun y => (wpXL l).f (acc ++ y) M ρ σ Q E) E) => .bind ((hx h).imp fun v σ h => wp_of h fun y h => hl.f h)
  t := fun {ρ σ Q E} (h : wpX x M ρ σ (fun v σ => Cnd (truth v) ((wpXL l).t M ρ σ Q E) (Q false σ)) E) =>
    .bind (ad_test (Q := fun t σ => WP (cond t (evT M.P M.co l ρ σ) (.ok false σ)) Q E) ((hx h).imp fun _ _ k => k.imp (fun k => hl.t k) .ok))
theorem ac_cons {op y l} (hy : AX M y) (hl : AC M l) : AC M (.cons op y l) := fun {x ρ σ Q E} (h : wpX y M ρ σ (fun w σ => cmpP op x w σ fun b => cond l.isNil (Q (.bool b) σ) (Cnd (some b) (wpC l w M ρ σ Q E) (Q (.bool false) σ))) E) => by
  cases l with
  | nil => exact .bind ((hy h).imp fun w σ h => wp_ofO ((cmpP_of h).imp fun b h => ⟨h.1, .ok h.2⟩))
  | cons op2 z l => exact .bind ((hy h).imp fun w σ h => (cmpP_of h).elim fun b h => wp_cnd (h.1 ▸ Cnd.imp h.2 (fun h => hl h) .ok))
theorem ap_cons {k v l} (hk : AX M k) (hv : AX M v) (hl : AP M l) : AP M (.cons k v l) := fun {ρ σ Q E} (h : wpX k M ρ σ (fun kv σ => wpX v M ρ σ (fun vv σ => wpP l M ρ σ (fun ps σ => Q ((kv, vv) :: ps) σ) E) E) E) =>
  .bind ((hk h).imp fun _ _ h => .bind ((hv h).imp fun _ _ h => .bind ((hl h).imp fun _ _ h => .ok h)))
theorem as_expr {x} (hx : AX M x) : AS M (.expr x) := fun {ρ σ Q E} (h : wpX x M ρ σ (fun v σ => OfP (srcVal σ v) fun sv => Q sv σ) E) => .bind ((hx h).imp fun _ _ h => wp_of h fun _ h => .ok h)
theorem as_enum {x} (hx : AX M x) : AS M (.enum x) := fun {ρ σ Q E} (h : wpX x M ρ σ (fun v σ => OfP (enumVal σ v) fun n => Q (.enl n) σ) E) => .bind ((hx h).imp fun _ _ h => wp_of h fun _ h => .ok h)
theorem as_range {l} (hl : AXL M l) : AS M (.range l) := fun {ρ σ Q E} (h : (wpXL l).l M ρ σ (fun vs σ => OfP (rangeOf vs) fun b => Q (.rng 0 b) σ) E) => .bind ((hl.l h).imp fun _ _ h => wp_of h fun _ h => .ok h)
theorem ad_lit {v} : AX M (.lit v) := fun h => .ok h
theorem ad_glob {v} : AX M (.glob v) := fun h => .ok h
theorem ad_var {i} : AX M (.var i) := fun {ρ σ Q E} (h : someP (slot ρ i) fun v => Q v σ) => wp_some h fun v q => .ok q
theorem ad_bop {c l} (hl : AXL M l) : AX M (.bop c l) := fun h => hl.b h
theorem ad_fstr {l} (hl : AXL M l) : AX M (.fstr l) := fun h => hl.f h
theorem ac_nil : AC M .nil := fun h => h.elim
theorem ap_nil : AP M .nil := fun h => .ok h
theorem adX (x : X) : AX M x :=
  X.rec (motive_1 := AX M) (motive_2 := AXL M) (motive_3 := AC M) (motive_4 := AP M) (motive_5 := AS M)
    (fun _ => ad_lit) (fun _ => ad_var) (fun _ => ad_glob) (fun _ _ => ad_bop) (fun _ _ _ => ad_bin) (fun _ => ad_neg) (fun _ => ad_not) (fun _ _ _ => ad_ite) (fun _ _ => ad_cmp) (fun _ => ad_tup) (fun _ => ad_lst)
    (fun _ _ => ad_dct) (fun _ _ _ _ _ _ => ad_spread) (fun _ _ => ad_attr) (fun _ _ => ad_item) (fun _ _ _ => ad_slc) (fun _ _ => ad_call) (fun _ _ => ad_bi) (fun _ _ _ => ad_meth) (fun _ _ => ad_sup) (fun _ _ _ _ _ _ hs _ => ad_comp hs) (fun _ => ad_fstr)
    ad_nil (fun _ _ => ad_cons) ac_nil (fun _ _ _ => ac_cons) ap_nil (fun _ _ _ => ap_cons) (fun _ => as_expr) (fun _ => as_range) (fun _ => as_enum) x
theorem adXL (x : XL) : AXL M x := XL.ind ad_nil (fun x l hl => ad_cons (adX x) hl) x
theorem adS (s : Src) : AS M s := by
  cases s with
  | expr x => exact as_expr (adX x)
  | range l => exact as_range (adXL l)
  | enum x => exact as_enum (adX x)
theorem wr_ofO' {β γ : Type} {N : β → St → Prop} {T : V → St → Prop} {E : Addr → Str → β → St → Prop} {o : Option γ} {g : γ → R β} (h : ∃ b, o = some b ∧ WR (g b) N T E) : WR (ofOR o g) N T E := by
  obtain ⟨b, rfl, h⟩ := h
  exact h
theorem wr_thenN' {α β : Type} {N : β → St → Prop} {T : V → St → Prop} {E : Addr → Str → β → St → Prop} {r : Res α} {g : α → St → R β} (h : WP r (fun v σ => WR (g v σ) N T E) NoE) : WR (r.thenN g) N T E := by
  cases h with
  | ok h => exact h
  | exc h => exact h.elim
theorem wr_if' {β : Type} {N : β → St → Prop} {T : V → St → Prop} {E : Addr → Str → β → St → Prop} {b : Bool} {r : R β} (h : b = true ∧ WR r N T E) : WR (cond b r .stuck) N T E := by
  obtain ⟨rfl, h⟩ := h
  exact h
theorem wt_turn {ρ : Rho} {σ : St} {e : X} {t : T} {c : XL} {k : Nat} {v : V} {acc : List V} {N : List V → St → Prop} {T : V → St → Prop} {E : Addr → Str → List V → St → Prop} {ρ' : Rho} (h0 : setT t v (ρ ++ List.replicate k none) = some ρ')
    (h : (wpXL c).t M ρ' σ (fun b σ => Cnd (some b) (wpX e M ρ' σ (fun x σ => acc.length ≤ 10000 ∧ N (acc ++ [x]) σ) NoE) (N acc σ)) NoE) : WR (turn M e t c ρ k v acc σ) N T E :=
  wr_ofO' ⟨ρ', h0, wr_thenN' (((adXL c).t h).imp fun b σ h => by
    cases h with
    | f h => exact .next h
    | t h => exact wr_thenN' ((adX e h).imp fun _ _ h => wr_if' ⟨decide_eq_true h.1, .next h.2⟩))⟩
end
theorem wr_loop {β : Type} {sv : SV} {body : V → β → St → R β} {b : β} {σ : St} {N : β → St → Prop} {T : V → St → Prop} {E : Addr → Str → β → St → Prop} (xs : List V) (I : Nat → β → St → Prop)
    (h0 : I 0 b σ) (hlen : xs.length ≤ sv.len σ) (hat : ∀ i b σ, i ≤ xs.length → I i b σ → sv.at σ i = some xs[i]?)
    (step : ∀ i v b σ, xs[i]? = some v → I i b σ → WR (body v b σ) (fun b σ => I (i + 1) b σ) T E)
    (hN : ∀ b σ, I xs.length b σ → N b σ) : WR (loop sv body b σ) N T E := by
  have main : ∀ (j i : Nat) (k : Nat) (b : β) (σ : St), xs.length = i + j → j < k → I i b σ → WR (loopN sv body k i b σ) N T E := by
    intro j
    induction j with
    | zero =>
      intro i k b σ e hk hi
      obtain ⟨k, rfl⟩ : ∃ m, k = m + 1 := ⟨k - 1, by omega⟩
      exact wr_ofO' ⟨none, (hat i b σ (Nat.le_of_eq e.symm) hi).trans (congrArg some (List.getElem?_eq_none (Nat.le_of_eq e))), .next (hN b σ (e ▸ hi))⟩
    | succ j ih =>
      intro i k b σ e hk hi
      obtain ⟨k, rfl⟩ : ∃ m, k = m + 1 := ⟨k - 1, by omega⟩
      have hv : xs[i]? = some xs[i] := List.getElem?_eq_getElem (by omega)
      refine wr_ofO' ⟨_, (hat i b σ (by omega) hi).trans (congrArg some hv), ?_⟩
      show WR (R.thenL _ _) N T E
      have st := step i _ b σ hv hi
      generalize body xs[i] b σ = r at st
      cases st with
      | next st => exact ih (i + 1) k _ _ (by omega) (by omega) st
      | ret st => exact .ret st
      | exc st => exact .exc st
  exact main xs.length 0 _ b σ (by omega) (by omega) h0
section loops
variable {β : Type} {body : V → β → St → R β} {b : β} {σ : St} {N : β → St → Prop} {T : V → St → Prop} {E : Addr → Str → β → St → Prop}
theorem wr_tup {xs : List V} (I : Nat → β → St → Prop) (h0 : I 0 b σ)
    (step : ∀ i v b σ, xs[i]? = some v → I i b σ → WR (body v b σ) (fun b σ => I (i + 1) b σ) T E)
    (hN : ∀ b σ, I xs.length b σ → N b σ) : WR (loop (.tup xs) body b σ) N T E :=
  wr_loop xs I h0 (Nat.le_refl _) (fun _ _ _ _ _ => rfl) step hN
theorem wr_lst {n : Nat} {xs : List V} (I : Nat → β → St → Prop) (h0 : I 0 b σ) (hx : ∀ i b σ, I i b σ → σ[n]? = some (.list xs))
    (step : ∀ i v b σ, xs[i]? = some v → I i b σ → WR (body v b σ) (fun b σ => I (i + 1) b σ) T E)
    (hN : ∀ b σ, I xs.length b σ → N b σ) : WR (loop (.lst n) body b σ) N T E :=
  wr_loop xs I h0 (by simp only [SV.len, hx _ _ _ h0]; exact Nat.le_refl _) (fun i b σ _ hi => by simp only [SV.at, hx _ _ _ hi]) step hN
theorem wr_enl {n : Nat} {xs : List V} (I : Nat → β → St → Prop) (h0 : I 0 b σ) (hx : ∀ i b σ, I i b σ → σ[n]? = some (.list xs))
    (step : ∀ (i : Nat) v b σ, xs[i]? = some v → I i b σ → WR (body (.tup [.int i, v]) b σ) (fun b σ => I (i + 1) b σ) T E)
    (hN : ∀ b σ, I xs.length b σ → N b σ) : WR (loop (.enl n) body b σ) N T E := by
  refine wr_loop (xs.mapIdx fun i v => .tup [.int i, v]) I h0 (by simp only [SV.len, hx _ _ _ h0, List.length_mapIdx]; exact Nat.le_refl _) (fun i b σ _ hi => by simp only [SV.at, hx _ _ _ hi, List.getElem?_mapIdx]) (fun i v b σ hv hi => ?_) (fun b σ h => hN b σ (by rw [List.length_mapIdx] at h; exact h))
  rw [List.getElem?_mapIdx] at hv
  obtain ⟨w, e, rfl⟩ := Option.map_eq_some_iff.mp hv
  exact step i w b σ e hi
theorem wr_rng {n : Nat} (I : Nat → β → St → Prop) (h0 : I 0 b σ)
    (step : ∀ (i : Nat) b σ, i < n → I i b σ → WR (body (.int i) b σ) (fun b σ => I (i + 1) b σ) T E)
    (hN : ∀ b σ, I n b σ → N b σ) : WR (loop (.rng 0 n) body b σ) N T E := by
  refine wr_loop ((List.range n).map fun i => .int (Int.ofNat i)) I h0 (by simp only [SV.len, List.length_map, List.length_range]; omega) (fun i b σ hl hi => ?_) (fun i v b σ hv hi => ?_) (fun b σ h => hN b σ (by rw [List.length_map, List.length_range] at h; exact h))
  · rw [List.length_map, List.length_range] at hl
    simp only [SV.at]
    by_cases q : i < n
    · rw [if_pos (by omega), List.getElem?_map, List.getElem?_range q, Option.map_some, Int.zero_add]
      rfl
    · rw [if_neg (by omega), List.getElem?_eq_none (by simp only [List.length_map, List.length_range]; omega)]
  · rw [List.getElem?_map] at hv
    obtain ⟨w, e, rfl⟩ := Option.map_eq_some_iff.mp hv
    have q := (List.getElem?_eq_some_iff.mp e).1
    rw [List.length_range] at q
    rw [List.getElem?_range q] at e
    cases e
    exact step i b σ q hi
end loops
section ss
variable {M : Mach} {α : Type}
theorem wr_thenR {ρ : Rho} {N : Rho → St → Prop} {T : V → St → Prop} {E : Addr → Str → Rho → St → Prop} {r : Res α} {g : α → St → R Rho} (h : WP r (fun v σ => WR (g v σ) N T E) (fun c m σ => E c m ρ σ)) : WR (r.thenR ρ g) N T E := by
  cases h with
  | ok h => exact h
  | exc h => exact .exc h
theorem wr_some {N : Rho → St → Prop} {T : V → St → Prop} {E : Addr → Str → Rho → St → Prop} {o : Option α} {g : α → R Rho} {k : α → Prop} (h : someP o k) (m : ∀ b, k b → WR (g b) N T E) : WR (ofOR o g) N T E := by
  cases o with
  | none => exact h.elim
  | some a => exact m a h
theorem wr_of {N : Rho → St → Prop} {T : V → St → Prop} {E : Addr → Str → Rho → St → Prop} {o : Option α} {g : α → R Rho} {k : α → Prop} (h : OfP o k) (m : ∀ b, k b → WR (g b) N T E) : WR (ofOR o g) N T E := by
  cases h with
  | mk h q => exact h ▸ m _ q
theorem wr_cond {N : Rho → St → Prop} {T : V → St → Prop} {E : Addr → Str → Rho → St → Prop} {b : Bool} {r : R Rho} {A : Prop} (h : cond b A False) (m : A → WR r N T E) : WR (cond b r .stuck) N T E := by
  cases b with
  | false => exact h.elim
  | true => exact m h
theorem asg_of {t : LHS} {v : V} {ρ : Rho} {σ : St} {N : Rho → St → Prop} {T : V → St → Prop} {E : Addr → Str → Rho → St → Prop} (h : asgP M t v ρ σ N) : WR (evA M.P M.co t v ρ σ) N T E := by
  cases t with
  | name i => exact .next h
  | tup is =>
    cases v with
    | tup vs => exact wr_some h fun ρ h => .next h
    | _ => exact h.elim
  | attr o n => exact wr_thenN' ((adX o h).imp fun ov σ h => wr_cond h fun h => wr_of h fun σ h => .next h)
  | item o i => exact wr_thenN' ((adX o h).imp fun ov σ h => wr_thenN' ((adX i h).imp fun iv σ h => wr_of h fun σ h => .next h))
variable (M)
noncomputable def BS (s : S) : Prop := ∀ {ρ σ N T E}, wpS s M ρ σ N T E → WR (exS M.P M.co s ρ σ) N T E
noncomputable def BL (l : SL) : Prop := ∀ {ρ σ N T E}, wpL l M ρ σ N T E → WR (exL M.P M.co l ρ σ) N T E
variable {M}
theorem bs_asg {t x} : BS M (.asg t x) := fun {ρ σ N T E} (h : wpX x M ρ σ (fun v σ => asgP M t v ρ σ N) (fun c m σ => E c m ρ σ)) => wr_thenR ((adX x h).imp fun v σ h => asg_of h)
theorem bs_aug {o i op x} : BS M (.aug o i op x) := fun {ρ σ N T E} (h : wpX o M ρ σ (fun ov σ => wpX i M ρ σ (fun iv σ => OfP (getItem ov iv σ) fun a => wpX x M ρ σ (fun v σ => OfP (addI a v) fun nw => OfP (setItem ov iv nw σ) fun σ => N ρ σ) NoE) NoE) NoE) =>
  wr_thenN' ((adX o h).imp fun _ _ h => wr_thenN' ((adX i h).imp fun _ _ h => wr_of h fun _ h => wr_thenN' ((adX x h).imp fun _ _ h => wr_of h fun _ h => wr_of h fun _ h => .next h)))
theorem bs_exp {x} : BS M (.exp x) := fun {ρ σ N T E} (h : wpX x M ρ σ (fun _ σ => N ρ σ) (fun c m σ => E c m ρ σ)) => wr_thenR ((adX x h).imp fun _ _ h => .next h)
theorem bs_ret {x} : BS M (.ret x) := fun {ρ σ N T E} (h : wpX x M ρ σ T (fun c m σ => E c m ρ σ)) => wr_thenR ((adX x h).imp fun _ _ h => .ret h)
theorem bs_ifs {c a b} (ha : BL M a) (hb : BL M b) : BS M (.ifs c a b) := fun {ρ σ N T E} (h : wpX c M ρ σ (fun v σ => Cnd (truth v) (wpL a M ρ σ N T E) (wpL b M ρ σ N T E)) NoE) =>
  wr_thenN' (ad_test (Q := fun t σ => WR (cond t (exL M.P M.co a ρ σ) (exL M.P M.co b ρ σ)) N T E) ((adX c h).imp fun v σ h => h.imp (fun h => ha h) fun h => hb h))
theorem bs_for {t s b} : BS M (.for t s b) := fun {ρ σ N T E} (h : wpR s M ρ σ (fun sv σ => WR (loop sv (fturn M t b) ρ σ) N T E) NoE) => wr_thenN' (adS s h)
theorem bs_whl {c b} : BS M (.whl c b) := fun {ρ σ N T E} h => h
theorem bs_rai {c x} : BS M (.rai c x) := fun {ρ σ N T E} (h : wpX x M ρ σ (fun v σ => someP (msgOf v) fun m => E c m ρ σ) NoE) => wr_thenN' ((adX x h).imp fun v σ h => by
  show WR (Option.elim _ _ _) N T E
  revert h
  cases msgOf v with
  | none => exact False.elim
  | some m => exact fun h => .exc h)
theorem bs_try {b c l} (hb : BL M b) (hl : BL M l) : BS M (.try b c l) := fun {ρ σ N T E} (h : wpL b M ρ σ N T (fun c' m ρ σ => c = c' ∧ wpL l M ρ σ N T E)) => by
  have k := hb h
  show WR ((exL M.P M.co b ρ σ).catchR c _) N T E
  generalize exL M.P M.co b ρ σ = r at k
  cases k with
  | next h => exact .next h
  | ret h => exact .ret h
  | exc h => exact wr_if' ⟨decide_eq_true h.1, hl h.2⟩
theorem bl_cons {s l} (hs : BS M s) (hl : BL M l) : BL M (.cons s l) := fun {ρ σ N T E} (h : wpS s M ρ σ (fun ρ σ => wpL l M ρ σ N T E) T E) => by
  have k := hs h
  show WR ((exS M.P M.co s ρ σ).thenL _) N T E
  generalize exS M.P M.co s ρ σ = r at k
  cases k with
  | next h => exact hl h
  | ret h => exact .ret h
  | exc h => exact .exc h
theorem adL (x : SL) : BL M x :=
  SL.rec (motive_1 := BS M) (motive_2 := BL M) (fun _ _ => bs_asg) (fun _ _ _ _ => bs_aug) (fun _ => bs_exp) (fun _ => bs_ret) (fun _ _ _ => bs_ifs) (fun _ _ _ _ => bs_for) (fun _ _ _ => bs_whl) (fun _ _ => bs_rai) (fun _ _ _ => bs_try) (fun h => .next h) (fun _ _ => bl_cons) x
theorem wf_turn {t : QZ.T} {b : SL} {v : V} {ρ ρ' : Rho} {σ : St} {N : Rho → St → Prop} {T : V → St → Prop} {E : Addr → Str → Rho → St → Prop} (h0 : setT t v ρ = some ρ') (h : wpL b M ρ' σ N T E) : WR (fturn M t b v ρ σ) N T E := wr_ofO' ⟨ρ', h0, adL b h⟩
end ss
theorem wp_run {bk : Addr} {P : Prog} {d : Nat} {a : Addr} {args : List V} {σ : St} {Q : V → St → Prop} {E : Addr → Str → St → Prop} {f : Fn} {ρ : Rho} (h : P.fn a = some f) (hm : mkFrame f args = some ρ)
    (k : wpL f.body ⟨bk, P, run P d⟩ ρ σ (fun _ σ => Q .none σ) Q (fun c m _ σ => E c m σ)) : WP (run P (d + 1) a args σ) Q E := by
  have e : run P (d + 1) a args σ = (exL P (run P d) f.body ρ σ).out := by unfold run; rw [h]; exact congrArg (fun o => ofO o _) hm
  rw [e]
  replace k : WR _ _ _ _ := adL _ k
  generalize exL P (run P d) f.body ρ σ = r at k
  cases k with
  | next h => exact .ok h
  | ret h => exact .ok h
  | exc h => exact .exc h
theorem wp_new {P : Prog} {d : Nat} {a : Addr} {args : List V} {σ : St} {Q : V → St → Prop} {E : Addr → Str → St → Prop} {f : Addr} (h : P.fn a = none) (hi : P.init a = some f)
    (k : WP (run P d f (.inst a σ.length :: args) (σ ++ [.attrs []])) (fun v σ' => v = .none ∧ Q (.inst a σ.length) σ') E) : WP (run P (d + 1) a args σ) Q E := by
  unfold run
  rw [h]
  exact wp_ofO ⟨f, hi, .bind (k.imp fun v σ k => wp_if ⟨k.1 ▸ rfl, .ok k.2⟩)⟩
end QZ
set_option genSizeOf false
namespace QZ
open PySem
inductive Op where | tru | fls | app | bvnum | bvadd | bit | carry | concat | extract | zext | sext
  deriving DecidableEq
noncomputable def Op.s : Op → Str
  | .tru => sx "true" | .fls => sx "false" | .app => sx "app" | .bvnum => sx "bvnum" | .bvadd => sx "bvadd" | .bit => sx "bit" | .carry => sx "carry"
  | .concat => sx "concat" | .extract => sx "extract" | .zext => sx "zero_extend" | .sext => sx "sign_extend"
inductive Dt where | i (n : Int) | p (h l : Int)
  deriving DecidableEq
noncomputable def Dt.v : Dt → V | .i n => .int n | .p h l => .tup [.int h, .int l]
structure Key where
  op : Op
  args : List Nat
  sort : Nat
  data : Dt
  deriving DecidableEq
noncomputable def natV (n : Nat) : V := .int n
noncomputable def Key.v (k : Key) : V := .tup [.str k.op.s, .tup (k.args.map natV), .int k.sort, k.data.v]
noncomputable def Op.all : List Op := [.tru, .fls, .app, .bvnum, .bvadd, .bit, .carry, .concat, .extract, .zext, .sext]
theorem Op.mem (a : Op) : a ∈ Op.all := by cases a <;> decide
theorem Op.apart : ∀ a ∈ Op.all, ∀ b ∈ Op.all, a.s = b.s → a = b := by decide +kernel
theorem Op.s_inj {a b : Op} (h : a.s = b.s) : a = b := Op.apart a a.mem b b.mem h
theorem natV_inj {a b : Nat} (h : natV a = natV b) : a = b := Int.ofNat.inj (V.int.inj h)
theorem natVs_inj {a b : List Nat} (h : a.map natV = b.map natV) : a = b := (List.map_inj_right fun x y => natV_inj).mp h
theorem Dt.v_inj {a b : Dt} (h : a.v = b.v) : a = b := by
  cases a with
  | i n => cases b with
    | i m => exact congrArg Dt.i (V.int.inj h)
    | p => cases h
  | p x y => cases b with
    | i m => cases h
    | p x' y' => cases h; rfl
theorem Key.v_inj {a b : Key} (h : a.v = b.v) : a = b := by
  obtain ⟨a1, a2, a3, a4⟩ := a
  obtain ⟨b1, b2, b3, b4⟩ := b
  injection h with h
  injection h with h1 h
  injection h with h2 h
  injection h with h3 h
  injection h with h4 _
  cases Op.s_inj (show a1.s = b1.s from V.str.inj h1)
  cases natVs_inj (show a2.map natV = b2.map natV from V.tup.inj h2)
  cases natV_inj h3
  cases Dt.v_inj h4
  rfl
noncomputable def fnd (k : Key) : List Key → Nat → Option Nat
  | [], _ => none
  | a :: l, i => if a = k then some i else fnd k l (i + 1)
noncomputable def numsV : List Key → Nat → List (V × V)
  | [], _ => []
  | a :: l, i => (a.v, natV i) :: numsV l (i + 1)
theorem lookD_nums (k : Key) : ∀ (l : List Key) (i : Nat), lookD k.v (numsV l i) = (fnd k l i).map natV
  | [], i => rfl
  | a :: l, i => by
    simp only [numsV, lookD, fnd]
    by_cases h : a = k
    · rw [if_pos h, if_pos (by rw [h])]; rfl
    · rw [if_neg h, if_neg (fun e => h (Key.v_inj e)), lookD_nums k l]
theorem putD_nums (k : Key) : ∀ (l : List Key) (i : Nat), fnd k l i = none → putD k.v (natV (i + l.length)) (numsV l i) = numsV (l ++ [k]) i
  | [], i, _ => rfl
  | a :: l, i, h => by
    simp only [fnd] at h
    by_cases e : a = k
    · rw [if_pos e] at h; exact nomatch h
    · rw [if_neg e] at h
      simp only [numsV, List.cons_append, putD]
      rw [if_neg (fun q => e (Key.v_inj q)), ← putD_nums k l (i + 1) h, List.length_cons, show i + (l.length + 1) = i + 1 + l.length by omega]
theorem nums_len : ∀ (l : List Key) (i : Nat), (numsV l i).length = l.length
  | [], _ => rfl
  | _ :: l, i => by rw [numsV, List.length_cons, List.length_cons, nums_len l]
theorem fnd_ge (k : Key) : ∀ (l : List Key) (i n : Nat), fnd k l i = some n → i ≤ n ∧ n < i + l.length ∧ l[n - i]? = some k
  | [], i, n, h => nomatch h
  | a :: l, i, n, h => by
    simp only [fnd] at h
    by_cases e : a = k
    · rw [if_pos e] at h
      cases h
      rw [List.length_cons, Nat.sub_self]
      exact ⟨Nat.le_refl _, by omega, by rw [e]; rfl⟩
    · rw [if_neg e] at h
      have := fnd_ge k l (i + 1) n h
      obtain ⟨h1, h2, h3⟩ := this
      rw [List.length_cons]
      refine ⟨by omega, by omega, ?_⟩
      rw [show n - i = (n - (i + 1)) + 1 by omega]
      exact h3
theorem nat_fmod (n m : Nat) : ((n : Int)).fmod (m : Int) = ((n % m : Nat) : Int) := Int.fmod_eq_emod_of_nonneg _ (Int.natCast_nonneg _)
theorem nat_fdiv (n m : Nat) : ((n : Int)).fdiv (m : Int) = ((n / m : Nat) : Int) := Int.fdiv_eq_ediv_of_nonneg _ (Int.natCast_nonneg _)
noncomputable def nlook {α : Type} (k : Nat) : List (Nat × α) → Option α
  | [] => none
  | (a, v) :: l => if a = k then some v else nlook k l
noncomputable def nput {α : Type} (k : Nat) (v : α) : List (Nat × α) → List (Nat × α)
  | [] => [(k, v)]
  | (a, u) :: l => if a = k then (a, v) :: l else (a, u) :: nput k v l
noncomputable def ndict {α : Type} (f : α → V) (l : List (Nat × α)) : List (V × V) := l.map fun p => (natV p.1, f p.2)
theorem natV_eq {a b : Nat} : (natV a = natV b) = (a = b) := propext ⟨natV_inj, fun e => by rw [e]⟩
theorem look_nd {α : Type} (f : α → V) (k : Nat) : ∀ l : List (Nat × α), lookD (natV k) (ndict f l) = (nlook k l).map f
  | [] => rfl
  | (a, v) :: l => by
    have ih := look_nd f k l
    simp only [ndict, List.map_cons, lookD, nlook, natV_eq] at ih ⊢
    by_cases h : a = k
    · rw [if_pos h, if_pos h]; rfl
    · rw [if_neg h, if_neg h]; exact ih
theorem put_nd {α : Type} (f : α → V) (k : Nat) (v : α) : ∀ l : List (Nat × α), putD (natV k) (f v) (ndict f l) = ndict f (nput k v l)
  | [] => rfl
  | (a, u) :: l => by
    have ih := put_nd f k v l
    simp only [ndict, List.map_cons, putD, nput, natV_eq] at ih ⊢
    by_cases h : a = k
    · rw [if_pos h, if_pos h]; rfl
    · rw [if_neg h, if_neg h, ih]; rfl
theorem nlook_nput {α : Type} (k : Nat) (v : α) : ∀ l : List (Nat × α), nlook k (nput k v l) = some v
  | [] => if_pos rfl
  | (a, u) :: l => by
    simp only [nput]
    by_cases h : a = k
    · rw [if_pos h, nlook, if_pos h]
    · rw [if_neg h, nlook, if_neg h, nlook_nput k v l]
theorem nlook_nput_ne {α : Type} {k j : Nat} (h : j ≠ k) (v : α) : ∀ l : List (Nat × α), nlook j (nput k v l) = nlook j l
  | [] => if_neg (Ne.symm h)
  | (a, u) :: l => by
    simp only [nput]
    by_cases e : a = k
    · rw [if_pos e, nlook, nlook, if_neg (by omega), if_neg (by omega)]
    · rw [if_neg e, nlook, nlook, nlook_nput_ne h v l]
theorem nd_len {α : Type} (f : α → V) (l : List (Nat × α)) : (ndict f l).length = l.length := List.length_map ..
structure Bk where
  K : List Key
  sn : List V
  sw : List Nat
  fn : List V
  fa : List V
  fr : List V
  bv : List (Nat × Nat)
noncomputable def opsV (K : List Key) : List V := .str (sx "") :: K.map fun k => .str k.op.s
noncomputable def argsV (K : List Key) : List V := .tup [] :: K.map fun k => .tup (k.args.map natV)
noncomputable def sortsV (K : List Key) : List V := .int 0 :: K.map fun k => .int k.sort
noncomputable def datasV (K : List Key) : List V := .int 0 :: K.map fun k => k.data.v
noncomputable def mkS (p : O × O × O) (B : Bk) (r : List O) : St :=
  p.1 :: p.2.1 :: p.2.2 ::
  .attrs [(3, .loc 4), (4, .loc 5), (5, .loc 6), (6, .loc 7), (7, .loc 8), (8, .int 0), (9, .loc 9), (10, .loc 10), (11, .loc 11), (12, .loc 12), (13, .loc 13), (14, .int 1), (15, .int 2), (16, .loc 14)] ::
  .list B.sn :: .list (B.sw.map natV) :: .list B.fn :: .list B.fa :: .list B.fr ::
  .list (opsV B.K) :: .list (argsV B.K) :: .list (sortsV B.K) :: .list (datasV B.K) :: .dict .t (numsV B.K 1) :: .dict .i (ndict natV B.bv) :: r
noncomputable def mkN (K : List Key) (k : Key) : Nat := (fnd k K 1).getD (K.length + 1)
noncomputable def mkK (K : List Key) (k : Key) : List Key := if (fnd k K 1).isSome then K else K ++ [k]
noncomputable def Bk.mk' (B : Bk) (k : Key) : Bk := { B with K := mkK B.K k }
noncomputable def Bk.make (B : Bk) (k : Key) : Option (Nat × Bk) := if B.K.length < 9000 then some (mkN B.K k, B.mk' k) else none
noncomputable def Bk.key (B : Bk) (t : Nat) : Option Key := if 1 ≤ t ∧ t < 10000 then B.K[t - 1]? else none
noncomputable def Bk.wid (B : Bk) (t : Nat) : Option Nat := (B.key t).bind fun k => if k.sort < 10000 then B.sw[k.sort]? else none
noncomputable def Bk.bit (B : Bk) (i t : Nat) : Option (Nat × Bk) := (B.wid t).bind fun w => if i < w then B.make ⟨.bit, [t], 0, .i i⟩ else none
noncomputable def Bk.carry (B : Bk) (i a b : Nat) : Option (Nat × Bk) := (B.wid a).bind fun w => if 0 < w ∧ i ≤ w ∧ (B.key a).map (·.sort) = (B.key b).map (·.sort) then B.make ⟨.carry, [a, b], 0, .i i⟩ else none
noncomputable def Bk.add (B : Bk) (a b : Nat) : Option (Nat × Bk) := (B.wid a).bind fun w => if 0 < w ∧ (B.key a).map (·.sort) = (B.key b).map (·.sort) then (B.key a).bind fun k => B.make ⟨.bvadd, [a, b], k.sort, .i 0⟩ else none
noncomputable def sortName (w : Nat) : V := .str ([sx "(_ BitVec ", Str.ofString (toString (w : Int)), sx ")"].foldl (· ++ ·) Str.empty)
noncomputable def Bk.srt (B : Bk) (w : Nat) : Option (Nat × Bk) :=
  if 1 ≤ w ∧ w < 100 ∧ B.sn.length < 9000 ∧ B.sw.length < 9000 ∧ B.bv.length < 9000 then
    match nlook w B.bv with
    | some s => some (s, B)
    | none => some (B.sn.length, { B with sn := B.sn ++ [sortName w], sw := B.sw ++ [w], bv := nput w B.sn.length B.bv })
  else none
noncomputable def Bk.fresh (B : Bk) (name : Str) (s : Nat) : Option (Nat × Bk) :=
  if B.fn.length < 9000 ∧ B.fa.length < 9000 ∧ B.fr.length < 9000 then
    Bk.make { B with fn := B.fn ++ [.str name], fa := B.fa ++ [.tup []], fr := B.fr ++ [natV s] } ⟨.app, [], s, .i B.fn.length⟩
  else none
noncomputable def Bk.start : Bk := { K := [⟨.tru, [], 0, .i 0⟩, ⟨.fls, [], 0, .i 0⟩], sn := [.str (sx "Bool"), .str (sx "Int"), .str (sx "Real")], sw := [0, 0, 0], fn := [], fa := [], fr := [], bv := [] }
theorem natV_all (l : List Nat) : (l.map natV).all hash1 = true := List.all_eq_true.mpr fun x hx => (List.mem_map.mp hx).elim fun a q => q.2 ▸ rfl
theorem op_ok (o : Op) : PyData.strOk o.s = true := by cases o <;> decide +kernel
theorem dt_ok (d : Dt) : hash2 d.v = true := by cases d <;> rfl
theorem key_ok (k : Key) : keyOk .t k.v = true := by
  show (PyData.strOk k.op.s && ((k.args.map natV).all hash1 && (true && (hash2 k.data.v && true)))) = true
  rw [op_ok, natV_all, dt_ok]
  rfl
section looks
variable {σ : St} {Q : QV} {E : QE}
theorem if_dec {α : Type} {p : Prop} [Decidable p] {a b : α} (h : p) : cond (decide p) a b = a := congrArg (cond · a b) (decide_eq_true h)
theorem methL_eq {n m : Nat} {l args : List V} (h : σ[n]? = some (.list l)) : methB (.loc n) m args σ = mList n l m args σ := congrArg (fun o => ofO o fun ob : O => ob.sel .stuck (fun l => mList n l m args σ) fun k l => mDict k l m args σ) h
theorem methD_eq {n m : Nat} {k : DK} {l : List (V × V)} {args : List V} (h : σ[n]? = some (.dict k l)) : methB (.loc n) m args σ = mDict k l m args σ := congrArg (fun o => ofO o fun ob : O => ob.sel .stuck (fun l => mList n l m args σ) fun k l => mDict k l m args σ) h
theorem mok_list {n m : Nat} {l : List V} (h : σ[n]? = some (.list l)) (hm : (m == 0 || m == 1) = true) : methOk (.loc n) m σ = true := (congrArg (fun o : Option O => o.any (O.sel false (fun _ => m == 0 || m == 1) fun _ _ => m == 2)) h).trans hm
theorem mok_dict {n : Nat} {k : DK} {l : List (V × V)} (h : σ[n]? = some (.dict k l)) : methOk (.loc n) 2 σ = true := congrArg (fun o : Option O => o.any (O.sel false (fun _ => 2 == 0 || 2 == 1) fun _ _ => 2 == 2)) h
theorem mb_append {n : Nat} {l : List V} {v : V} (h : σ[n]? = some (.list l)) (hl : l.length ≤ 10000) (q : Q .none (σ.set n (.list (l ++ [v])))) : MB (.loc n) 0 σ [v] σ Q E := .mk (mok_list h rfl) (wp_eq ((methL_eq h).trans (if_dec hl)) q)
theorem mb_get {n : Nat} {k : DK} {l : List (V × V)} {a d : V} (h : σ[n]? = some (.dict k l)) (hk : keyOk k a = true) {v : V} (hv : (lookD a l).getD d = v) (q : Q v σ) : MB (.loc n) 2 σ [a, d] σ Q E :=
  .mk (mok_dict h) (wp_eq ((methD_eq h).trans ((congrArg (cond · (Res.ok ((lookD a l).getD d) σ) .stuck) hk).trans (congrArg (Res.ok · σ) hv))) q)
theorem wp_len {n : Nat} {l : List V} (h : σ[n]? = some (.list l)) (hl : l.length ≤ 10000) (q : Q (natV l.length) σ) : WP (callB .len [.loc n] σ) Q E :=
  wp_eq ((congrArg (fun o : Option O => ofO (o.bind (O.sel none few fun k l => k.onI none (few l))) fun n => Res.ok (V.int (n : Int)) σ) h).trans (congrArg (fun o : Option Nat => ofO o fun n => Res.ok (V.int (n : Int)) σ) (show few l = some l.length from if_dec hl))) q
theorem ix_nat {l : List V} {i : Nat} {v : V} (hb : i < 10000) (h : l[i]? = some v) : ixOf l (i : Int) = some v := by
  unfold ixOf
  exact (if_dec (show 0 ≤ (i : Int) ∧ (i : Int) < 2 ^ 40 by omega)).trans h
theorem getItem_list {n : Nat} {l : List V} {i : V} (h : σ[n]? = some (.list l)) : getItem (.loc n) i σ = (int? i).bind (ixOf l) :=
  congrArg (fun o : Option O => o.bind (O.sel none (fun l => (int? i).bind (ixOf l)) fun k l => cond (keyOk k i && !k.isT) (lookD i l) none)) h
theorem it_of {n : Nat} {l : List V} (h : σ[n]? = some (.list l)) {i : Nat} {v : V} (hv : ixOf l (i : Int) = some v) : getItem (.loc n) (natV i) σ = some v :=
  (getItem_list h).trans ((congrArg (Option.bind · (ixOf l)) (show int? (natV i) = some (i : Int) from rfl)).trans ((Option.bind_some ..).trans hv))
theorem g_list {n i : Nat} {l : List V} {v : V} (h : σ[n]? = some (.list l)) (hi : l[i]? = some v) (hb : i < 10000) : getItem (.loc n) (natV i) σ = some v := it_of h (ix_nat hb hi)
theorem g_dict {n : Nat} {k : DK} {l : List (V × V)} {a v : V} (h : σ[n]? = some (.dict k l)) (hk : (keyOk k a && !k.isT) = true) (hl : lookD a l = some v) : getItem (.loc n) a σ = some v :=
  (congrArg (fun o : Option O => o.bind (O.sel none (fun l => (int? a).bind (ixOf l)) fun k l => cond (keyOk k a && !k.isT) (lookD a l) none)) h).trans ((congrArg (cond · (lookD a l) none) hk).trans hl)
theorem s_dict {n : Nat} {k : DK} {l : List (V × V)} {a v : V} (h : σ[n]? = some (.dict k l)) (hk : keyOk k a = true) (hl : l.length ≤ 10000) : setItem (.loc n) a v σ = some (σ.set n (.dict k (putD a v l))) :=
  (congrArg (fun o : Option O => o.bind (O.sel none (fun l => (int? a).bind fun i => cond (decide (0 ≤ i ∧ i < l.length ∧ i < 2 ^ 40)) (some (σ.set n (.list (l.set i.toNat v)))) none) fun k l => cond (keyOk k a && decide (l.length ≤ 10000)) (some (σ.set n (.dict k (putD a v l)))) none)) h).trans
    (congrArg (cond · (some (σ.set n (.dict k (putD a v l)))) none) (Bool.and_eq_true_iff.mpr ⟨hk, decide_eq_true hl⟩))
theorem in_dict {n w : Nat} {l : List (V × V)} (h : σ[n]? = some (.dict .i l)) : memV σ (natV w) (.loc n) = some (lookD (natV w) l).isSome :=
  congrArg (fun o : Option O => o.bind (O.sel none (fun l => (int? (natV w)).bind fun i => cond (l.all isInt) (some (l.any fun v => intOf v == i)) none) fun k l => k.onI none ((int? (natV w)).map fun _ => (lookD (natV w) l).isSome))) h
theorem isList_at {n : Nat} {l : List V} (h : σ[n]? = some (.list l)) : isList σ n = true := by
  unfold isList
  rw [h]
theorem wp_src {n : Nat} {l : List V} (h : σ[n]? = some (.list l)) : srcVal σ (.loc n) = some (.lst n) := congrArg (cond · (some (SV.lst n)) none) (isList_at h)
theorem wp_enm {n : Nat} {l : List V} (h : σ[n]? = some (.list l)) : enumVal σ (.loc n) = some n := congrArg (cond · (some n) none) (isList_at h)
theorem wp_rng {n : Nat} (h : n < 10000) : rangeOf [natV n] = some (n : Int) := if_dec (show ((n : Int)).natAbs < 2 ^ 30 by omega)
end looks
section lems
variable {p : O × O × O} {B : Bk} {r : List O}
theorem mkS_app {l : List O} : mkS p B r ++ l = mkS p B (r ++ l) := rfl
theorem key_at {t : Nat} {k : Key} (h : B.key t = some k) : 1 ≤ t ∧ t < 10000 ∧ B.K[t - 1]? = some k := have q := ite_some h; ⟨q.1.1, q.1.2, q.2⟩
theorem wid_at {t w : Nat} (h : B.wid t = some w) : ∃ k, B.key t = some k ∧ k.sort < 10000 ∧ B.sw[k.sort]? = some w :=
  (Option.bind_eq_some_iff.mp h).elim fun k q => ⟨k, q.1, ite_some q.2⟩
theorem ix_map {α : Type} {f : α → V} {l : List α} {n : Nat} {a : α} (h : l[n]? = some a) (hn : n < 10000) : ixOf (l.map f) (n : Int) = some (f a) := ix_nat hn ((List.getElem?_map ..).trans (congrArg (Option.map f) h))
theorem ix_key {f : Key → V} {v : V} {t : Nat} {k : Key} (h : B.key t = some k) : ixOf (v :: B.K.map f) (t : Int) = some (f k) := by
  obtain ⟨h1, h2, h3⟩ := key_at h
  cases t with
  | zero => cases h1
  | succ n => exact ix_nat h2 ((List.getElem?_map ..).trans (congrArg (Option.map f) h3))
theorem it_op {t : Nat} {k : Key} (h : B.key t = some k) : getItem (.loc 9) (natV t) (mkS p B r) = some (.str k.op.s) := it_of (l := opsV B.K) rfl (ix_key (f := fun k => .str k.op.s) h)
theorem it_args {t : Nat} {k : Key} (h : B.key t = some k) : getItem (.loc 10) (natV t) (mkS p B r) = some (.tup (k.args.map natV)) := it_of (l := argsV B.K) rfl (ix_key (f := fun k => .tup (k.args.map natV)) h)
theorem it_sort {t : Nat} {k : Key} (h : B.key t = some k) : getItem (.loc 11) (natV t) (mkS p B r) = some (natV k.sort) := it_of (l := sortsV B.K) rfl (ix_key (f := fun k => .int k.sort) h)
theorem it_data {t : Nat} {k : Key} (h : B.key t = some k) : getItem (.loc 12) (natV t) (mkS p B r) = some k.data.v := it_of (l := datasV B.K) rfl (ix_key (f := fun k => k.data.v) h)
theorem it_sw {s w : Nat} (h : B.sw[s]? = some w) (hs : s < 10000) : getItem (.loc 5) (natV s) (mkS p B r) = some (natV w) := it_of (l := B.sw.map natV) rfl (ix_map h hs)
end lems
end QZ
namespace QZ
open PySem
noncomputable def bankV : V := .inst 767 3
section tests
variable {p : Prop} [Decidable p] {A B : Prop}
theorem cnd_yes (h : p) (a : A) : Cnd (truth (.bool (decide p))) A B := cnd_t (congrArg some (decide_eq_true h)) a
theorem cnd_no (h : ¬p) (b : B) : Cnd (truth (.bool (decide p))) A B := cnd_f (congrArg some (decide_eq_false h)) b
theorem cnd_nno (h : p) (b : B) : Cnd (truth (.bool (!decide p))) A B := cnd_f (congrArg (fun b => some (!b)) (decide_eq_true h)) b
theorem cnd_one (h : p) (a : A) : Cnd (some (decide p)) A B := cnd_t (congrArg some (decide_eq_true h)) a
end tests
noncomputable def mach (e : Addr → Option (List V)) (d : Nat) : Mach := ⟨767, PPx e, run (PPx e) d⟩
theorem wp_fn {e : Addr → Option (List V)} {d : Nat} {a : Addr} {args : List V} {σ : St} {Q : QV} {E : QE} {f : Fn} {ρ : Rho} (h : (PPx e).fn a = some f) (hm : mkFrame f args = some ρ) (k : wpL f.body (mach e d) ρ σ (fun _ σ => Q .none σ) Q (fun c m _ σ => E c m σ)) :
    WP (run (PPx e) (d + 1) a args σ) Q E := wp_run (bk := 767) h hm k
section bank
variable {e : Addr → Option (List V)} {p : O × O × O} {B : Bk} {r : List O}
theorem op_is (d : Nat) {t : Nat} {k : Key} (h : B.key t = some k) : run (PPx e) (d + 1) 346 [bankV, natV t] (mkS p B r) = .ok (.str k.op.s) (mkS p B r) :=
  wp_is (wp_fn (f := f_Bank_op) (ρ := [some bankV, some (natV t)]) rfl rfl (OfP.mk (it_op h) ⟨rfl, rfl⟩))
theorem args_is (d : Nat) {t : Nat} {k : Key} (h : B.key t = some k) : run (PPx e) (d + 1) 353 [bankV, natV t] (mkS p B r) = .ok (.tup (k.args.map natV)) (mkS p B r) :=
  wp_is (wp_fn (f := f_Bank_args) (ρ := [some bankV, some (natV t)]) rfl rfl (OfP.mk (it_args h) ⟨rfl, rfl⟩))
theorem data_is (d : Nat) {t : Nat} {k : Key} (h : B.key t = some k) : run (PPx e) (d + 1) 367 [bankV, natV t] (mkS p B r) = .ok k.data.v (mkS p B r) :=
  wp_is (wp_fn (f := f_Bank_data) (ρ := [some bankV, some (natV t)]) rfl rfl (OfP.mk (it_data h) ⟨rfl, rfl⟩))
theorem width_is (d : Nat) {t w : Nat} (h : B.wid t = some w) : run (PPx e) (d + 1) 374 [bankV, natV t] (mkS p B r) = .ok (natV w) (mkS p B r) :=
  (wid_at h).elim fun k q => wp_is (wp_fn (f := f_Bank_width) (ρ := [some bankV, some (natV t)]) rfl rfl (OfP.mk (it_sort q.1) (OfP.mk (it_sw q.2.2 q.2.1) ⟨rfl, rfl⟩)))
theorem mkN_some {K : List Key} {k : Key} {n : Nat} (h : fnd k K 1 = some n) : mkN K k = n := congrArg (fun o : Option Nat => o.getD (K.length + 1)) h
theorem mkN_none {K : List Key} {k : Key} (h : fnd k K 1 = none) : mkN K k = K.length + 1 := congrArg (fun o : Option Nat => o.getD (K.length + 1)) h
theorem mk_some {k : Key} {n : Nat} (h : fnd k B.K 1 = some n) : B.mk' k = B := by
  unfold Bk.mk' mkK
  rw [h]
  rfl
theorem mk_none {k : Key} (h : fnd k B.K 1 = none) : B.mk' k = { B with K := B.K ++ [k] } := by
  unfold Bk.mk' mkK
  rw [h]
  rfl
theorem vlen {l : List Key} {f : Key → V} {v : V} (h : l.length < 9000) : (v :: l.map f).length ≤ 10000 := by rw [List.length_cons, List.length_map]; omega
theorem make_is (d : Nat) (k : Key) (hK : B.K.length < 9000) :
    run (PPx e) (d + 1) 388 [bankV, .str k.op.s, .tup (k.args.map natV), .int k.sort, k.data.v] (mkS p B r) = .ok (natV (mkN B.K k)) (mkS p (B.mk' k) r) := by
  refine wp_is (wp_fn (f := f_Bank_make) (ρ := [some bankV, some (.str k.op.s), some (.tup (k.args.map natV)), some (.int k.sort), some k.data.v, none, none]) rfl rfl ?_)
  cases h : fnd k B.K 1 with
  | some n =>
    refine mb_get (k := .t) (l := numsV B.K 1) (v := natV n) rfl (key_ok k) (congrArg (fun o : Option V => o.getD (.int 0)) ((lookD_nums k B.K 1).trans (congrArg (Option.map natV) h))) ?_
    exact cnd_no (fun e => Nat.ne_of_gt (fnd_ge k B.K 1 n h).1 (Int.ofNat.inj e)) ⟨congrArg natV (mkN_some h).symm, congrArg (fun B => mkS p B r) (mk_some h).symm⟩
  | none =>
    refine mb_get (k := .t) (l := numsV B.K 1) (v := .int 0) rfl (key_ok k) (congrArg (fun o : Option V => o.getD (.int 0)) ((lookD_nums k B.K 1).trans (congrArg (Option.map natV) h))) (cnd_yes rfl ?_)
    refine wp_len (l := opsV B.K) rfl (vlen hK) (mb_append (l := opsV B.K) rfl (vlen hK) (mb_append (l := argsV B.K) rfl (vlen hK) (mb_append (l := sortsV B.K) rfl (vlen hK) (mb_append (l := datasV B.K) rfl (vlen hK) ?_))))
    refine OfP.mk (s_dict (k := .t) (l := numsV B.K 1) rfl (key_ok k) (by rw [nums_len]; omega)) ?_
    have e1 : (opsV B.K).length = 1 + B.K.length := by rw [opsV, List.length_cons, List.length_map, Nat.add_comm]
    have e2 := putD_nums k B.K 1 h
    rw [← e1] at e2
    rw [mkN_none h, mk_none h, Nat.add_comm, ← e1]
    refine And.intro rfl ?_
    show [p.1, p.2.1, p.2.2, _, _, _, _, _, _, _, _, _, _, O.dict .t (putD k.v (natV (opsV B.K).length) (numsV B.K 1)), _] ++ r = _
    rw [e2]
    simp only [mkS, opsV, argsV, sortsV, datasV, List.map_append, List.map_cons, List.map_nil, List.cons_append]
    rfl
theorem mk_as (d : Nat) {k : Key} {v : Nat} {B' : Bk} {a1 a2 a3 a4 : V} {Q : QV} {E : QE} (h : B.make k = some (v, B')) (q1 : a1 = .str k.op.s) (q2 : a2 = .tup (k.args.map natV)) (q3 : a3 = natV k.sort) (q4 : a4 = k.data.v) (q : Q (natV v) (mkS p B' r)) :
    WP (run (PPx e) (d + 1) 388 [bankV, a1, a2, a3, a4] (mkS p B r)) Q E := by
  subst q1
  subst q2
  subst q3
  subst q4
  obtain ⟨h1, h2⟩ := ite_some h
  cases h2
  exact wp_eq (make_is d k h1) q
theorem want_bits_is (d : Nat) {t w : Nat} {s : Str} (h : B.wid t = some w) (hw : 0 < w) : run (PPx e) (d + 2) 687 [bankV, natV t, .str s] (mkS p B r) = .ok .none (mkS p B r) :=
  wp_is (wp_fn (f := f_TermBank_want_bits) (ρ := [some bankV, some (natV t), some (.str s)]) rfl rfl (wp_eq (width_is _ h) (cnd_no (fun e => Nat.ne_of_gt hw (Int.ofNat.inj e)) ⟨rfl, rfl⟩)))
theorem bit_inv {i t : Nat} {q : Nat × Bk} (h : B.bit i t = some q) : ∃ w, B.wid t = some w ∧ i < w ∧ B.make ⟨.bit, [t], 0, .i i⟩ = some q := (Option.bind_eq_some_iff.mp h).imp fun w q => ⟨q.1, ite_some q.2⟩
theorem bit_is (d : Nat) {i t v : Nat} {B' : Bk} (h : B.bit i t = some (v, B')) : run (PPx e) (d + 3) 750 [bankV, natV i, natV t] (mkS p B r) = .ok (natV v) (mkS p B' r) := by
  obtain ⟨w, hw, q, h⟩ := bit_inv h
  refine wp_is (wp_fn (f := f_TermBank_bit) (ρ := [some bankV, some (natV i), some (natV t)]) rfl rfl (wp_eq (want_bits_is _ hw (Nat.lt_of_le_of_lt (Nat.zero_le _) q)) (cnd_one (Int.natCast_nonneg _) (wp_eq (width_is _ hw) (cnd_nno (Int.ofNat_lt.mpr q) (mk_as _ h rfl rfl rfl rfl ⟨rfl, rfl⟩))))))
theorem strOf_nat : ∀ {w : Nat}, w < 100 → strOf (natV w) = some (Str.ofString (toString (w : Int))) := by
  have h : ∀ w : Nat, w < 100 → (Str.ofString (toString (w : Int))).length ≤ 1000 := by decide +kernel
  exact fun {w} hw => if_pos ⟨by omega, h w hw⟩
theorem srt_inv {w : Nat} {q : Nat × Bk} (h : B.srt w = some q) : (1 ≤ w ∧ w < 100 ∧ B.sn.length < 9000 ∧ B.sw.length < 9000 ∧ B.bv.length < 9000) ∧ ((∃ s, nlook w B.bv = some s ∧ q = (s, B)) ∨ (nlook w B.bv = none ∧ q = (B.sn.length, { B with sn := B.sn ++ [sortName w], sw := B.sw ++ [w], bv := nput w B.sn.length B.bv }))) := by
  obtain ⟨h1, h⟩ := ite_some h
  refine ⟨h1, ?_⟩
  revert h
  cases nlook w B.bv with
  | some s => exact fun h => .inl ⟨s, rfl, (Option.some.inj h).symm⟩
  | none => exact fun h => .inr ⟨rfl, (Option.some.inj h).symm⟩
theorem sub1 {l : List V} {v : V} : ((l ++ [v]).length : Int) - 1 = (l.length : Int) := by
  rw [List.length_append, List.length_singleton]
  omega
theorem nd_set {α : Type} {f : α → V} {σ : St} {n w : Nat} {v : α} {l : List (Nat × α)} {k : St → Prop} (h : σ[n]? = some (.dict .i (ndict f l))) (hl : l.length < 9000) (q : k (σ.set n (.dict .i (ndict f (nput w v l))))) : OfP (setItem (.loc n) (natV w) (f v) σ) k :=
  .mk (s_dict h rfl (by rw [nd_len]; omega)) ((congrArg (fun d => k (σ.set n (.dict .i d))) (put_nd f w v l)).mpr q)
theorem look_is {α : Type} {f : α → V} {k : Nat} {l : List (Nat × α)} {o : Option α} (h : nlook k l = o) : lookD (natV k) (ndict f l) = o.map f := (look_nd f k l).trans (congrArg (Option.map f) h)
theorem in_nd {α : Type} {f : α → V} {σ : St} {n w : Nat} {l : List (Nat × α)} {o : Option α} (h : σ[n]? = some (.dict .i (ndict f l))) (k : nlook w l = o) : memV σ (natV w) (.loc n) = some o.isSome :=
  (in_dict h).trans (congrArg some ((congrArg Option.isSome (look_is k)).trans (Option.isSome_map ..)))
theorem srt_is (d : Nat) {w s : Nat} {B' : Bk} (h : B.srt w = some (s, B')) : run (PPx e) (d + 1) 673 [bankV, natV w] (mkS p B r) = .ok (natV s) (mkS p B' r) := by
  obtain ⟨⟨q1, q2, q3, q4, q5⟩, u⟩ := srt_inv h
  clear h
  refine wp_is (wp_fn (f := f_TermBank_bv_sort) (ρ := [some bankV, some (natV w)]) rfl rfl (cnd_no (by omega) (cnd_no (by omega) ?_)))
  have hd : (mkS p B r)[14]? = some (.dict .i (ndict natV B.bv)) := rfl
  rcases u with ⟨s', h, e⟩ | ⟨h, e⟩
  · cases e
    exact OfP.mk (congrArg (Option.map (!·)) (in_nd hd h)) (cnd_f rfl (OfP.mk (g_dict (k := .i) (l := ndict natV B.bv) rfl rfl (look_is h)) ⟨rfl, rfl⟩))
  · cases e
    refine OfP.mk (congrArg (Option.map (!·)) (in_nd hd h)) (cnd_t rfl (OfP.mk rfl (OfP.mk (strOf_nat q2) (OfP.mk rfl ?_))))
    refine mb_append (l := B.sn) rfl (by omega) (mb_append (l := B.sw.map natV) rfl (by rw [List.length_map]; omega) (wp_len (l := B.sn ++ [sortName w]) rfl (by rw [List.length_append, List.length_singleton]; omega) (EqP.mk sub1 (nd_set (f := natV) (v := B.sn.length) (l := B.bv) rfl q5 ?_))))
    refine OfP.mk (g_dict (k := .i) (l := ndict natV (nput w B.sn.length B.bv)) (v := natV B.sn.length) rfl rfl (look_is (nlook_nput ..))) ⟨rfl, ?_⟩
    exact congrArg (fun l => mkS p { B with sn := B.sn ++ [sortName w], bv := nput w B.sn.length B.bv } r |>.set 5 (.list l)) (List.map_append (f := natV) (l₁ := B.sw) (l₂ := [w])).symm
theorem shl_nat {w : Nat} {σ : St} (h : w ≤ 1000) : binop .LShift (.int 1) (natV w) σ = .ok (natV (2 ^ w)) σ :=
  (if_dec (show 0 ≤ (w : Int) ∧ (w : Int) ≤ 1000 ∧ (1 : Int).natAbs < 2 ^ 60 from ⟨by omega, by omega, by decide⟩)).trans (congrArg (fun i => Res.ok (V.int i) σ) ((Int.one_mul _).trans (Int.natCast_pow 2 w).symm))
theorem mod_nat {n m : Nat} {σ : St} (h : m ≠ 0) : binop .Mod (natV n) (natV m) σ = .ok (natV (n % m)) σ :=
  (if_dec (show (m : Int) ≠ 0 from fun e => h (Int.ofNat.inj e))).trans (congrArg (fun i => Res.ok (V.int i) σ) (nat_fmod n m))
theorem start_is (d : Nat) {o1 o2 o3 : O} : run (PPx e) (d + 4) 767 [] [o1, o2, o3] = .ok bankV (mkS (o1, o2, o3) Bk.start []) := by
  kernel_rfl
end bank
end QZ
namespace QZ
open PySem
structure Keep (X : List Nat) (r r' : List O) : Prop where
  le : r.length ≤ r'.length
  at' : ∀ {n o}, n ∉ X → r[n]? = some o → r'[n]? = some o
theorem nin0 {n : Nat} : n ∉ ([] : List Nat) := List.not_mem_nil
theorem nin1 {n a : Nat} (h : n ≠ a) : n ∉ [a] := fun m => h (List.mem_singleton.mp m)
theorem nin2 {n a b : Nat} (h : n ≠ a) (k : n ≠ b) : n ∉ [a, b] := fun m => (List.mem_cons.mp m).elim h (nin1 k)
theorem Keep.refl {X : List Nat} {r : List O} : Keep X r r := ⟨Nat.le_refl _, fun _ h => h⟩
theorem Keep.trans {X : List Nat} {a b c : List O} (h : Keep X a b) (k : Keep X b c) : Keep X a c := ⟨Nat.le_trans h.1 k.1, fun hn q => k.2 hn (h.2 hn q)⟩
theorem Keep.mono {X Y : List Nat} {a b : List O} (h : Keep X a b) (s : ∀ n, n ∈ X → n ∈ Y) : Keep Y a b := ⟨h.1, fun hn q => h.2 (fun m => hn (s _ m)) q⟩
theorem get_lt {l : List O} {n : Nat} {o : O} (h : l[n]? = some o) : n < l.length := (List.getElem?_eq_some_iff.mp h).1
theorem app_at {a g : List O} {n : Nat} {o : O} (h : a[n]? = some o) : (a ++ g)[n]? = some o := (List.getElem?_append_left (get_lt h)).trans h
theorem Keep.app {X : List Nat} {a g : List O} : Keep X a (a ++ g) := ⟨List.length_append ▸ Nat.le_add_right .., fun _ => app_at⟩
theorem set_ne {a : List O} {n m : Nat} {o o' : O} (hm : m ≠ n) (h : a[m]? = some o) : (a.set n o')[m]? = some o := (List.getElem?_set_ne hm.symm).trans h
theorem set_at {a : List O} {n : Nat} {o o' : O} (h : a[n]? = some o) : (a.set n o')[n]? = some o' := List.getElem?_set_self (get_lt h)
theorem Keep.set {X : List Nat} {a : List O} {n : Nat} {o : O} (h : n ∈ X) : Keep X a (a.set n o) := ⟨List.length_set ▸ Nat.le_refl _, fun hm q => set_ne (fun e => hm (e ▸ h)) q⟩
theorem Keep.fresh {X : List Nat} {a b c : List O} (h : Keep X a b) (k : Keep (a.length :: X) b c) : Keep X a c := ⟨Nat.le_trans h.1 k.1, fun hn q => k.2 (fun m => (List.mem_cons.mp m).elim (Nat.ne_of_lt (get_lt q)) hn) (h.2 hn q)⟩
theorem new_at2 {a g : List O} {o : O} : (a ++ (o :: g))[a.length]? = some o := by rw [List.getElem?_append_right (Nat.le_refl _), Nat.sub_self]; rfl
theorem new_at {a : List O} {o : O} : (a ++ [o])[a.length]? = some o := new_at2
theorem new_set2 {a g : List O} {o o' : O} : (a ++ (o :: g)).set a.length o' = a ++ (o' :: g) := by rw [List.set_append_right _ _ (Nat.le_refl _), Nat.sub_self]; rfl
theorem rest_at {α : Type} {f : α → V} {l : List α} {i : Nat} {v : V} (h : (l.map f)[i]? = some v) : ∃ a, a ∈ l ∧ v = f a ∧ l.drop i = a :: l.drop (i + 1) := by
  rw [List.getElem?_map] at h
  obtain ⟨a, e, h⟩ := Option.map_eq_some_iff.mp h
  obtain ⟨hi, e⟩ := List.getElem?_eq_some_iff.mp e
  exact ⟨a, e ▸ List.getElem_mem hi, h.symm, e ▸ List.drop_eq_getElem_cons hi⟩
section
variable {α β : Type} {f : α → V} {l : List α} {body : V → β → St → R β} {b : β} {σ : St} {N : β → St → Prop} {T : V → St → Prop} {E : Addr → Str → β → St → Prop} {I : List α → β → St → Prop}
theorem rest_step (step : ∀ a r b σ, a ∈ l → I (a :: r) b σ → WR (body (f a) b σ) (I r) T E) (i : Nat) (v : V) (b : β) (σ : St) (hv : (l.map f)[i]? = some v) (h : I (l.drop i) b σ) : WR (body v b σ) (I (l.drop (i + 1))) T E := by
  obtain ⟨a, q1, rfl, q3⟩ := rest_at hv
  exact step a _ b σ q1 (q3 ▸ h)
theorem rest_end {b : β} {σ : St} (h : I (l.drop (l.map f).length) b σ) : I [] b σ := by
  rw [List.length_map, List.drop_length] at h
  exact h
theorem wr_tupM (I : List α → β → St → Prop) (h0 : I l b σ) (step : ∀ a r b σ, a ∈ l → I (a :: r) b σ → WR (body (f a) b σ) (I r) T E) (hN : ∀ b σ, I [] b σ → N b σ) : WR (loop (.tup (l.map f)) body b σ) N T E :=
  wr_tup (fun i => I (l.drop i)) h0 (rest_step step) fun b σ h => hN b σ (rest_end h)
theorem wr_lstM {n : Nat} (I : List α → β → St → Prop) (h0 : I l b σ) (hx : ∀ r b σ, I r b σ → σ[n]? = some (.list (l.map f))) (step : ∀ a r b σ, a ∈ l → I (a :: r) b σ → WR (body (f a) b σ) (I r) T E) (hN : ∀ b σ, I [] b σ → N b σ) : WR (loop (.lst n) body b σ) N T E :=
  wr_lst (fun i => I (l.drop i)) h0 (fun i => hx _) (rest_step step) fun b σ h => hN b σ (rest_end h)
theorem wr_enlM {n : Nat} (I : Nat → List α → β → St → Prop) (h0 : I 0 l b σ) (hx : ∀ i r b σ, I i r b σ → σ[n]? = some (.list (l.map f))) (step : ∀ (i : Nat) a r b σ, a ∈ l → I i (a :: r) b σ → WR (body (.tup [.int i, f a]) b σ) (I (i + 1) r) T E) (hN : ∀ b σ, I l.length [] b σ → N b σ) : WR (loop (.enl n) body b σ) N T E := by
  refine wr_enl (xs := l.map f) (fun i => I i (l.drop i)) h0 (fun i => hx _ _) (fun i v b σ hv h => ?_) fun b σ h => hN b σ ?_
  · obtain ⟨a, q1, rfl, q3⟩ := rest_at hv
    exact step i a _ b σ q1 (q3 ▸ h)
  · rw [List.length_map, List.drop_length] at h
    exact h
end
noncomputable def clauseV (c : List Int) : V := .tup (c.map .int)
noncomputable def tidy : List Int → List Int → Option (List Int)
  | acc, [] => some acc
  | acc, s :: l => cond (acc.any (· == -s)) none (tidy (cond (acc.any (· == s)) acc (acc ++ [s])) l)
noncomputable def tidyV (c : List Int) : V := (tidy [] c).elim .none clauseV
theorem all_isInt (l : List Int) : (l.map V.int).all isInt = true := List.all_eq_true.mpr fun x hx => (List.mem_map.mp hx).elim fun a q => q.2 ▸ rfl
theorem any_int (l : List Int) (i : Int) : ((l.map V.int).any fun v => intOf v == i) = l.any (· == i) := List.any_map
theorem in_list {σ : St} {n : Nat} {i : Int} {l : List Int} (h : σ[n]? = some (.list (l.map V.int))) : memV σ (.int i) (.loc n) = some (l.any (· == i)) :=
  (congrArg (fun o : Option O => o.bind (O.sel none (fun l => (int? (.int i)).bind fun i => cond (l.all isInt) (some (l.any fun v => intOf v == i)) none) fun k l => k.onI none ((int? (.int i)).map fun _ => (lookD (.int i) l).isSome))) h).trans
    ((congrArg (cond · (some ((l.map V.int).any fun v => intOf v == i)) none) (all_isInt l)).trans (congrArg some (any_int l i)))
theorem cnd_b {b : Bool} {A B : Prop} (t : b = true → A) (f : b = false → B) : Cnd (some b) A B := by
  cases b with
  | true => exact .t (t rfl)
  | false => exact .f (f rfl)
theorem wp_tuple {σ : St} {n : Nat} {l : List V} {Q : QV} {E : QE} (h : σ[n]? = some (.list l)) (hl : l.length ≤ 10000) (q : Q (.tup l) σ) : WP (callB .tuple [.loc n] σ) Q E :=
  wp_eq ((congrArg (fun o : Option O => ofO (o.bind lst?) fun l => cond (decide (l.length ≤ 10000)) (Res.ok (V.tup l) σ) .stuck) h).trans (if_dec hl)) q
section rows
variable {e : Addr → Option (List V)} {p : O × O × O} {B : Bk} {r : List O}
inductive TidyI (p : O × O × O) (B : Bk) (r : List O) (c : List Int) : List Int → Rho → St → Prop
  | mk (acc : List Int) (x) {l} (hl : acc.length + l.length ≤ 9000) (ht : tidy acc l = tidy [] c) : TidyI p B r c l [some (clauseV c), some (.loc (r.length + 15)), x] (mkS p B (r ++ [.list (acc.map .int)]))
theorem map_len {α β : Type} {f : α → β} {l : List α} {n : Nat} (h : l.length ≤ n) : (l.map f).length ≤ n := Nat.le_trans (Nat.le_of_eq (List.length_map ..)) h
theorem sub_set {g : List O} {o o' : O} {k : St → Prop} (q : k (mkS p B (r ++ (o' :: g)))) : k ((mkS p B (r ++ (o :: g))).set (r.length + 15) o') := (congrArg (fun r => k (mkS p B r)) new_set2).mpr q
theorem mb_new {acc acc' : List V} {g : List O} {v : V} {Q : QV} {E : QE} (hl : acc.length ≤ 10000) (e : acc ++ [v] = acc') (q : Q .none (mkS p B (r ++ (.list acc' :: g)))) : MB (.loc (r.length + 15)) 0 (mkS p B (r ++ (.list acc :: g))) [v] (mkS p B (r ++ (.list acc :: g))) Q E :=
  mb_append (show (mkS p B (r ++ (.list acc :: g)))[r.length + 15]? = some (.list acc) from new_at2) hl (sub_set (k := Q .none) (e ▸ q))
theorem sattr_at {σ : St} {c : Addr} {n m : Nat} {v : V} {l : List (Nat × V)} (h : σ[n]? = some (.attrs l)) (hl : l.length ≤ 100) : setAttr (.inst c n) m v σ = some (σ.set n (.attrs (putA m v l))) :=
  (congrArg (fun o : Option O => (o.bind att?).bind fun l => cond (decide (l.length ≤ 100)) (some (σ.set n (.attrs (putA m v l)))) none) h).trans (if_dec hl)
theorem tidy_q {c : List Int} {o : Option (List Int)} {k : V → Prop} (h : o = tidy [] c) (q : k (tidyV c)) : k (o.elim .none clauseV) := h ▸ q
theorem map_snoc {α β : Type} {f : α → β} {l : List α} {a : α} : l.map f ++ [f a] = (l ++ [a]).map f := (List.map_append (l₂ := [a])).symm
theorem tidy_wp (d : Nat) {c : List Int} {Q : QV} {E : QE} (hc : c.length ≤ 9000) (q : ∀ o, Q (tidyV c) (mkS p B (r ++ [o]))) : WP (run (PPx e) (d + 1) 102 [clauseV c] (mkS p B r)) Q E := by
  refine wp_fn (f := f_tidy_clause) (ρ := [some (clauseV c), none, none]) rfl rfl ?_
  refine OfP.mk (a := .tup (c.map .int)) rfl (wr_tupM (TidyI p B r c) (TidyI.mk [] none (by rw [List.length_nil]; omega) rfl) ?_ ?_)
  · intro a l ρ σ ha h
    cases h with
    | mk acc x hl ht =>
      rw [List.length_cons] at hl
      have hat : (mkS p B (r ++ [.list (acc.map .int)]))[r.length + 15]? = some (.list (acc.map .int)) := new_at
      refine wf_turn (ρ' := [some (clauseV c), some (.loc (r.length + 15)), some (.int a)]) rfl (OfP.mk (in_list hat) (cnd_b (fun h1 => ?_) fun h1 => ?_))
      · exact tidy_q (o := none) (k := fun v => Q v (mkS p B (r ++ [.list (acc.map .int)]))) ((congrArg (cond · none (tidy (cond (acc.any (· == a)) acc (acc ++ [a])) l)) h1).symm.trans ht) (q _)
      · replace ht := (congrArg (cond · none (tidy (cond (acc.any (· == a)) acc (acc ++ [a])) l)) h1).symm.trans ht
        refine OfP.mk (congrArg (Option.map (!·)) (in_list hat)) (cnd_b (fun h2 => ?_) fun h2 => ?_)
        · replace h2 := (Bool.not_eq_true' _).mp h2
          refine mb_new (map_len (by omega)) map_snoc ?_
          exact .mk (acc ++ [a]) _ (by rw [List.length_append, List.length_singleton]; omega) ((congrArg (fun b => tidy (cond b acc (acc ++ [a])) l) h2).symm.trans ht)
        · replace h2 := (Bool.not_eq_false' _).mp h2
          exact .mk acc _ (by omega) ((congrArg (fun b => tidy (cond b acc (acc ++ [a])) l) h2).symm.trans ht)
  · intro ρ σ h
    cases h with
    | mk acc x hl ht =>
      exact wp_tuple (l := acc.map .int) new_at (map_len (by omega)) (tidy_q (o := some acc) (k := fun v => Q v (mkS p B (r ++ [O.list (acc.map .int)]))) ht (q (O.list (acc.map .int))))
noncomputable def brL (dn m most told : Nat) : List (Nat × V) := [(17, bankV), (18, natV most), (19, .loc dn), (20, natV told), (21, .bool false), (22, .loc (m + 15))]
structure BR (r : List O) (n m : Nat) (most told : Nat) (rows : List V) : Prop where
  at' : ∃ dn, r[n]? = some (.attrs (brL dn m most told))
  rows' : r[m]? = some (.list rows)
noncomputable def selfV (n : Nat) : V := .inst 237 (n + 15)
section
variable {n m most told : Nat} {rows : List V} (h : BR r n m most told rows)
include h
theorem BR.ne : n ≠ m := fun e => h.at'.elim fun dn q => nomatch (e ▸ q).symm.trans h.rows'
theorem BR.nlt : n < r.length := h.at'.elim fun dn q => get_lt q
theorem BR.mlt : m < r.length := get_lt h.rows'
theorem BR.app {g : List O} : BR (r ++ g) n m most told rows := ⟨h.at'.imp fun _ q => app_at q, app_at h.rows'⟩
theorem BR.keep {r' : List O} {X : List Nat} (k : Keep X r r') (hn : n ∉ X) (hm : m ∉ X) : BR r' n m most told rows := ⟨h.at'.imp fun _ q => k.2 hn q, k.2 hm h.rows'⟩
theorem BR.g {i : Nat} {v : V} (k : ∀ dn, lookA i (brL dn m most told) = some v) : getAttr (selfV n) i (mkS p B r) = some v :=
  h.at'.elim fun dn q => (congrArg (fun o : Option O => (o.bind att?).bind (lookA i)) (show (mkS p B r)[n + 15]? = _ from q)).trans (k dn)
theorem BR.g17 : getAttr (selfV n) 17 (mkS p B r) = some bankV := h.g fun _ => rfl
theorem BR.g18 : getAttr (selfV n) 18 (mkS p B r) = some (natV most) := h.g fun _ => rfl
theorem BR.g20 : getAttr (selfV n) 20 (mkS p B r) = some (natV told) := h.g fun _ => rfl
theorem BR.g22 : getAttr (selfV n) 22 (mkS p B r) = some (.loc (m + 15)) := h.g fun _ => rfl
theorem BR.fr {a : Nat} {A : Prop} (k : ∀ dn, (lookA a (brL dn m most told)).isNone = true) (q : A) : MI (selfV n) a (mkS p B r) A :=
  .mk (h.at'.elim fun dn q => (congrArg (fun o : Option O => (o.bind att?).any fun l => (lookA a l).isNone) (show (mkS p B r)[n + 15]? = _ from q)).trans (k dn)) q
theorem BR.s20 {t : Nat} {k : St → Prop} (q : ∀ r', Keep [n, m] r r' → BR r' n m most t rows → k (mkS p B r')) : OfP (setAttr (selfV n) 20 (natV t) (mkS p B r)) k := by
  obtain ⟨dn, a⟩ := h.at'
  refine .mk (sattr_at (show (mkS p B r)[n + 15]? = _ from a) (Nat.le_of_ble_eq_true rfl)) ?_
  exact q (r.set n (.attrs (brL dn m most t))) (.set (List.mem_cons_self ..)) ⟨⟨dn, set_at a⟩, set_ne h.ne.symm h.rows'⟩
theorem BR.add {v : V} {Q : QV} {E : QE} (hl : rows.length ≤ 10000) (q : ∀ r', Keep [n, m] r r' → BR r' n m most told (rows ++ [v]) → Q .none (mkS p B r')) : MB (.loc (m + 15)) 0 (mkS p B r) [v] (mkS p B r) Q E :=
  mb_append (show (mkS p B r)[m + 15]? = _ from h.rows') hl (q (r.set m (.list (rows ++ [v]))) (.set (List.mem_cons_of_mem _ (List.mem_cons_self ..))) ⟨h.at'.imp fun _ a => set_ne h.ne a, set_at h.rows'⟩)
end
noncomputable def rowV (t i : Nat) (s : Str) (c : List Int) : V := .tup [clauseV c, .tup [natV t, natV i, .str s]]
noncomputable def tidied (cs : List (List Int)) : List (List Int) := cs.filterMap (tidy [])
section
variable {n m k most t i : Nat} {rows : List V} {cs : List (List Int)} {s : Str}
inductive PutI (p : O × O × O) (B : Bk) (r : List O) (n m k most t i : Nat) (rows : List V) (cs : List (List Int)) (s : Str) (l : List (List Int)) : Rho → St → Prop
  | mk (r' : List O) (w : List V) (a b) (k1 : Keep [n, m] r r') (h : BR r' n m most w.length w) (hl : w.length + l.length ≤ 9100) (hm : w.length ≤ most) (e : w ++ (tidied l).map (rowV t i s) = rows ++ (tidied cs).map (rowV t i s)) :
      PutI p B r n m k most t i rows cs s l [some (selfV n), some (.loc (k + 15)), some (natV t), some (natV i), some (.str s), a, b] (mkS p B r')
theorem put_wp (d : Nat) {ms : Str} {Q : V → St → Prop} {E : Addr → Str → St → Prop} (hB : BR r n m most rows.length rows) (hk : r[k]? = some (.list (cs.map clauseV)))
    (hkm : k ≠ m) (hcs : cs.length ≤ 100) (hc : cs.all (fun c => Nat.ble c.length 100) = true) (hr : rows.length ≤ 9000) (hle : rows.length ≤ most) (hms : strOf (natV most) = some ms)
    (q : ∀ r', rows.length + (tidied cs).length ≤ most → Keep [n, m] r r' → BR r' n m most (rows ++ (tidied cs).map (rowV t i s)).length (rows ++ (tidied cs).map (rowV t i s)) → Q .none (mkS p B r'))
    (x : ∀ r' msg, most < rows.length + (tidied cs).length → Keep [n, m] r r' → BR r' n m most (most + 1) ((rows ++ (tidied cs).map (rowV t i s)).take most) → E 86 msg (mkS p B r')) :
    WP (run (PPx e) (d + 2) 157 [selfV n, .loc (k + 15), natV t, natV i, .str s] (mkS p B r)) Q E := by
  have hkn : k ≠ n := fun e => hB.at'.elim fun dn q => nomatch (e ▸ hk).symm.trans q
  have len : (rows ++ (tidied cs).map (rowV t i s)).length = rows.length + (tidied cs).length := by rw [List.length_append, List.length_map]
  refine wp_fn (f := f_BitRows_put) (ρ := [some (selfV n), some (.loc (k + 15)), some (natV t), some (natV i), some (.str s), none, none]) rfl rfl ?_
  refine OfP.mk (wp_src (show (mkS p B r)[k + 15]? = _ from hk)) (wr_lstM (f := clauseV) (PutI p B r n m k most t i rows cs s) (PutI.mk r rows none none .refl hB (by omega) hle rfl) ?_ ?_ ?_)
  · intro l ρ σ h
    cases h with
    | mk r' w a b k1 h hl hm e => exact k1.2 (nin2 hkn hkm) hk
  · intro c l ρ σ hcm h
    cases h with
    | mk r' w a b k1 h hl hm e =>
      rw [List.length_cons] at hl
      refine wf_turn (ρ' := [some (selfV n), some (.loc (k + 15)), some (natV t), some (natV i), some (.str s), some (clauseV c), b]) rfl (tidy_wp d (Nat.le_trans (Nat.le_of_ble_eq_true (List.all_eq_true.mp hc c hcm)) (by decide)) fun o => ?_)
      have h' := h.app (g := [o])
      have k2 : Keep [n, m] r (r' ++ [o]) := k1.trans .app
      unfold tidyV
      unfold tidied at e
      cases ht : tidy [] c with
      | none =>
        rw [List.filterMap_cons_none ht] at e
        exact cnd_f rfl (.mk _ w _ _ k2 h' (by omega) hm e)
      | some c' =>
        rw [List.filterMap_cons_some ht] at e
        refine cnd_t rfl (OfP.mk h'.g20 (h'.s20 fun r2 k3 b2 => OfP.mk b2.g20 (OfP.mk b2.g18 (cnd_b (fun hlt => ?_) fun hlt => ?_))))
        · have hlt : (most : Int) < (w.length : Int) + 1 := of_decide_eq_true hlt
          have ew : w.length = most := by omega
          refine OfP.mk rfl (OfP.mk b2.g18 (OfP.mk hms (OfP.mk rfl ?_)))
          refine x r2 _ ?_ (k2.trans k3) ?_
          · rw [← len, show (tidied cs) = cs.filterMap (tidy []) from rfl, ← e, List.length_append, ew]
            exact Nat.lt_add_of_pos_right (Nat.succ_pos _)
          · rw [show (tidied cs) = cs.filterMap (tidy []) from rfl, ← e, List.take_left' ew]
            exact ew ▸ b2
        · have hlt : ¬(most : Int) < (w.length : Int) + 1 := of_decide_eq_false hlt
          refine OfP.mk b2.g22 (b2.add (by omega) fun r3 k4 b3 => ?_)
          have el : (w ++ [rowV t i s c']).length = w.length + 1 := by rw [List.length_append]; rfl
          refine .mk r3 (w ++ [rowV t i s c']) _ _ (k2.trans (k3.trans k4)) (el ▸ b3) (by omega) (by omega) ?_
          rw [List.append_assoc]
          exact e
  · intro ρ σ h
    cases h with
    | mk r' w a b k1 h hl hm e =>
      have e : w = _ := (List.append_nil _).symm.trans e
      subst e
      exact q r' (len ▸ hm) k1 h
end
theorem s_new {l : List (Nat × V)} {a : Nat} {v : V} {g : List O} {k : St → Prop} (hl : l.length ≤ 100) (q : k (mkS p B (r ++ (.attrs (putA a v l) :: g)))) : OfP (setAttr (selfV r.length) a v (mkS p B (r ++ (.attrs l :: g)))) k := by
  exact .mk (sattr_at (n := r.length + 15) (show (mkS p B (r ++ (.attrs l :: g)))[r.length + 15]? = some (.attrs l) from new_at2) hl) (sub_set q)
theorem rows_wp (d : Nat) {args : List V} {most : Nat} {Q : QV} {E : QE} (ha : args = [bankV, natV most] ∨ (args = [bankV] ∧ most = 200000))
    (q : ∀ r', Keep [] r r' → BR r' r.length (r.length + 2) most 0 [] → Q (selfV r.length) (mkS p B r')) : WP (run (PPx e) (d + 2) 237 args (mkS p B r)) Q E := by
  refine wp_new (f := 117) rfl rfl (wp_fn (f := f_BitRows_init) (ρ := [some (selfV r.length), some bankV, some (natV most)]) rfl ?_ ?_)
  · rcases ha with rfl | ⟨rfl, rfl⟩
    · rfl
    · rfl
  refine s_new (g := []) (by decide) (s_new (g := []) (by decide) ?_)
  show OfP (setAttr (selfV r.length) 19 (.loc (mkS p B (r ++ [_])).length) (mkS p B (r ++ [_]) ++ _)) _
  rw [show ∀ o, (mkS p B (r ++ [o])).length = r.length + 1 + 15 from fun o => congrArg (· + 15) List.length_append, mkS_app, List.append_assoc]
  refine s_new (Nat.le_of_ble_eq_true rfl) (s_new (Nat.le_of_ble_eq_true rfl) (s_new (Nat.le_of_ble_eq_true rfl) ?_))
  show OfP (setAttr (selfV r.length) 22 (.loc (mkS p B (r ++ [_, _])).length) (mkS p B (r ++ [_, _]) ++ _)) _
  rw [show ∀ o o', (mkS p B (r ++ [o, o'])).length = r.length + 2 + 15 from fun o o' => congrArg (· + 15) List.length_append, mkS_app, List.append_assoc]
  refine s_new (Nat.le_of_ble_eq_true rfl) ⟨rfl, q _ .app ⟨⟨r.length + 1 + 15, new_at2⟩, ?_⟩⟩
  rw [List.getElem?_append_right (Nat.le_add_right ..), Nat.add_sub_cancel_left]
  rfl
theorem bind_some {α β : Type} {o : Option α} {f : α → Option β} {b : β} (h : o.bind f = some b) : ∃ a, o = some a ∧ f a = some b := Option.bind_eq_some_iff.mp h
noncomputable def Bk.many (B : Bk) (f : Bk → Nat → Option (Nat × Bk)) : Nat → Option (List Nat × Bk)
  | 0 => some ([], B)
  | n + 1 => (B.many f n).bind fun q => (f q.2 n).map fun u => (q.1 ++ [u.1], u.2)
variable {f : Bk → Nat → Option (Nat × Bk)}
inductive ManyI (p : O × O × O) (B : Bk) (r : List O) (f : Bk → Nat → Option (Nat × Bk)) (j : Nat) : List V → St → Prop
  | mk (u) (h : B.many f j = some u) : ManyI p B r f j (u.1.map natV) (mkS p u.2 r)
end rows
end QZ
namespace QZ
open PySem
structure Fine (B : Bk) : Prop where
  sn : B.sn.length = B.sw.length
  bv : ∀ w s : Nat, nlook w B.bv = some s → B.sw[s]? = some w
  ac : ∀ (n : Nat) (k : Key), B.K[n]? = some k → ∀ a ∈ k.args, a ≤ n
noncomputable def Bk.size (B : Bk) : Nat := B.K.length + (B.sn.length + (B.bv.length + (B.fn.length + (B.fa.length + B.fr.length))))
structure Grw (n : Nat) (B B' : Bk) : Prop where
  fine : Fine B'
  sz : B'.size ≤ B.size + n
  K : ∃ l, B'.K = B.K ++ l
  sw : ∃ l, B'.sw = B.sw ++ l
noncomputable def Has (B : Bk) (k : Key) (o : Nat) : Prop := fnd k B.K 1 = some o
section
variable {B B1 B2 B' : Bk} {n m : Nat}
theorem Grw.refl (F : Fine B) : Grw 0 B B := ⟨F, Nat.le_refl _, ⟨[], (List.append_nil _).symm⟩, ⟨[], (List.append_nil _).symm⟩⟩
theorem Grw.trans (h : Grw n B B1) (k : Grw m B1 B2) : Grw (n + m) B B2 := by
  obtain ⟨-, h1, ⟨a, h2⟩, ⟨b, h3⟩⟩ := h
  obtain ⟨F, k1, ⟨c, k2⟩, ⟨d, k3⟩⟩ := k
  exact ⟨F, by omega, ⟨a ++ c, by rw [k2, h2, List.append_assoc]⟩, ⟨b ++ d, by rw [k3, h3, List.append_assoc]⟩⟩
theorem Grw.le (h : Grw n B B') (k : n ≤ m) : Grw m B B' := ⟨h.1, Nat.le_trans h.2 (by omega), h.3, h.4⟩
theorem at_app {α : Type} {l g : List α} {n : Nat} {a : α} (h : l[n]? = some a) : (l ++ g)[n]? = some a := (List.getElem?_append_left (List.getElem?_eq_some_iff.mp h).1).trans h
theorem fnd_app {k : Key} {g : List Key} : ∀ {l : List Key} {i o : Nat}, fnd k l i = some o → fnd k (l ++ g) i = some o
  | [], _, _, h => nomatch h
  | a :: l, i, o, h => by
    unfold fnd at h
    show (if a = k then some i else fnd k (l ++ g) (i + 1)) = some o
    by_cases e : a = k
    · rw [if_pos e] at h ⊢; exact h
    · rw [if_neg e] at h ⊢; exact fnd_app h
theorem fnd_new {k : Key} : ∀ {l : List Key} {i : Nat}, fnd k l i = none → fnd k (l ++ [k]) i = some (i + l.length)
  | [], i, _ => if_pos rfl
  | a :: l, i, h => by
    unfold fnd at h
    show (if a = k then some i else fnd k (l ++ [k]) (i + 1)) = _
    by_cases e : a = k
    · rw [if_pos e] at h; cases h
    · rw [if_neg e] at h ⊢
      rw [fnd_new h, List.length_cons]
      exact congrArg some (by omega)
theorem Has.ext {k : Key} {o : Nat} (h : Has B k o) (x : Grw n B B') : Has B' k o := x.K.elim fun l e => (congrArg (fun K => fnd k K 1) e).trans (fnd_app h)
theorem Has.inj {k : Key} {o o' : Nat} (h : Has B k o) (h' : Has B k o') : o = o' := Option.some.inj (h.symm.trans h')
theorem Has.at' {k : Key} {o : Nat} (h : Has B k o) : 1 ≤ o ∧ o ≤ B.K.length ∧ B.K[o - 1]? = some k := (fnd_ge k B.K 1 o h).imp_right fun q => ⟨by omega, q.2⟩
theorem key_mk {t : Nat} {k : Key} (h1 : 1 ≤ t) (h2 : t < 10000) (h3 : B.K[t - 1]? = some k) : B.key t = some k := (if_pos ⟨h1, h2⟩).trans h3
theorem Has.key {k : Key} {o : Nat} (h : Has B k o) (hz : B.size < 9000) : B.key o = some k :=
  have q := h.at'
  key_mk q.1 (by unfold Bk.size at hz; omega) q.2.2
theorem Grw.key {t : Nat} {k : Key} (x : Grw n B B') (h : B.key t = some k) : B'.key t = some k := by
  obtain ⟨h1, h2, h3⟩ := key_at h
  obtain ⟨l, e⟩ := x.K
  exact key_mk h1 h2 (e ▸ at_app h3)
theorem wid_mk {t w : Nat} {k : Key} (h : B.key t = some k) (h2 : k.sort < 10000) (h3 : B.sw[k.sort]? = some w) : B.wid t = some w :=
  (congrArg (fun o : Option Key => o.bind fun k => if k.sort < 10000 then B.sw[k.sort]? else none) h).trans ((if_pos h2).trans h3)
theorem Grw.wid {t w : Nat} (x : Grw n B B') (h : B.wid t = some w) : B'.wid t = some w := by
  obtain ⟨k, h1, h2, h3⟩ := wid_at h
  obtain ⟨l, e⟩ := x.sw
  exact wid_mk (x.key h1) h2 (e ▸ at_app h3)
theorem key_le {t : Nat} {k : Key} (h : B.key t = some k) : t ≤ B.K.length := by
  obtain ⟨h1, h2, h3⟩ := key_at h
  have := (List.getElem?_eq_some_iff.mp h3).1
  omega
theorem wid_le {t w : Nat} (h : B.wid t = some w) : t ≤ B.K.length := (wid_at h).elim fun k q => key_le q.1
theorem key_arg {t a : Nat} {k : Key} (F : Fine B) (h : B.key t = some k) (ha : a ∈ k.args) : a ≠ t := by
  obtain ⟨h1, h2, h3⟩ := key_at h
  have := F.ac _ _ h3 a ha
  omega
theorem make_ok {k : Key} (F : Fine B) (hz : B.size < 8990) (ha : ∀ a ∈ k.args, a ≤ B.K.length) : ∃ v, B.make k = some (v, B.mk' k) ∧ Grw 1 B (B.mk' k) ∧ Has (B.mk' k) k v := by
  have hK : B.K.length < 9000 := by unfold Bk.size at hz; omega
  refine ⟨mkN B.K k, if_pos hK, ?_⟩
  cases h : fnd k B.K 1 with
  | some o =>
    rw [mk_some h, mkN_some h]
    exact ⟨(Grw.refl F).le (Nat.zero_le _), h⟩
  | none =>
    rw [mk_none h, mkN_none h, Nat.add_comm]
    refine ⟨⟨⟨F.sn, F.bv, fun i k' e a m => ?_⟩, ?_, ⟨[k], rfl⟩, ⟨[], (List.append_nil _).symm⟩⟩, fnd_new h⟩
    · by_cases q : i < B.K.length
      · exact F.ac i k' ((List.getElem?_append_left q).symm.trans e) a m
      · rw [List.getElem?_append_right (Nat.le_of_not_lt q)] at e
        have hi := (List.getElem?_eq_some_iff.mp e).1
        rw [List.length_singleton] at hi
        rw [show i - B.K.length = 0 by omega] at e
        cases e
        exact Nat.le_trans (ha a m) (Nat.le_of_not_lt q)
    · show (B.K ++ [k]).length + (B.sn.length + (B.bv.length + (B.fn.length + (B.fa.length + B.fr.length)))) ≤ B.K.length + (B.sn.length + (B.bv.length + (B.fn.length + (B.fa.length + B.fr.length)))) + 1
      rw [List.length_append, List.length_singleton]
      omega
theorem nput_len {α : Type} {k : Nat} {v : α} : ∀ l : List (Nat × α), (nput k v l).length ≤ l.length + 1
  | [] => Nat.le_refl _
  | (a, u) :: l => by
    unfold nput
    split
    · exact Nat.le_succ _
    · exact Nat.succ_le_succ (nput_len l)
theorem srt_ok {w : Nat} (F : Fine B) (hz : B.size < 8980) (h1 : 1 ≤ w) (h2 : w < 100) : ∃ s B', B.srt w = some (s, B') ∧ Grw 2 B B' ∧ B'.sw[s]? = some w ∧ s < 10000 ∧ B'.K = B.K := by
  have hz' := hz
  unfold Bk.size at hz'
  have hs := F.sn
  have hc : 1 ≤ w ∧ w < 100 ∧ B.sn.length < 9000 ∧ B.sw.length < 9000 ∧ B.bv.length < 9000 := by omega
  unfold Bk.srt
  rw [if_pos hc]
  cases h : nlook w B.bv with
  | some s =>
    have q := F.bv w s h
    have := (List.getElem?_eq_some_iff.mp q).1
    exact ⟨s, B, rfl, (Grw.refl F).le (Nat.zero_le _), q, by omega, rfl⟩
  | none =>
    have e : (B.sw ++ [w])[B.sn.length]? = some w := by rw [hs, List.getElem?_append_right (Nat.le_refl _), Nat.sub_self]; rfl
    refine ⟨_, _, rfl, ⟨⟨?_, fun w' s' q => ?_, F.ac⟩, ?_, ⟨[], (List.append_nil _).symm⟩, ⟨[w], rfl⟩⟩, e, by omega, rfl⟩
    · show (B.sn ++ [sortName w]).length = (B.sw ++ [w]).length
      rw [List.length_append, List.length_append, hs]
      rfl
    · have q : nlook w' (nput w B.sn.length B.bv) = some s' := q
      by_cases c : w' = w
      · subst c
        rw [nlook_nput] at q
        exact Option.some.inj q ▸ e
      · rw [nlook_nput_ne c] at q
        exact at_app (F.bv _ _ q)
    · have := nput_len (k := w) (v := B.sn.length) B.bv
      show B.K.length + ((B.sn ++ [sortName w]).length + ((nput w B.sn.length B.bv).length + (B.fn.length + (B.fa.length + B.fr.length)))) ≤ B.K.length + (B.sn.length + (B.bv.length + (B.fn.length + (B.fa.length + B.fr.length)))) + 2
      rw [List.length_append, List.length_singleton]
      omega
end
section
variable {e : Addr → Option (List V)} {p : O × O × O} {B : Bk} {r : List O}
theorem make_wp (d : Nat) {k : Key} {a1 a2 a3 a4 : V} {Q : QV} {E : QE} (F : Fine B) (hz : B.size < 8990) (ha : ∀ a ∈ k.args, a ≤ B.K.length) (q1 : a1 = .str k.op.s) (q2 : a2 = .tup (k.args.map natV)) (q3 : a3 = natV k.sort) (q4 : a4 = k.data.v)
    (q : ∀ v B', Grw 1 B B' → Has B' k v → Q (natV v) (mkS p B' r)) : WP (run (PPx e) (d + 1) 388 [bankV, a1, a2, a3, a4] (mkS p B r)) Q E :=
  (make_ok F hz ha).elim fun v h => mk_as d h.1 q1 q2 q3 q4 (q v _ h.2.1 h.2.2)
theorem srt_wp (d : Nat) {w : Nat} {Q : QV} {E : QE} (F : Fine B) (hz : B.size < 8980) (h1 : 1 ≤ w) (h2 : w < 100) (q : ∀ s B', Grw 2 B B' → B'.sw[s]? = some w → s < 10000 → B'.K = B.K → Q (natV s) (mkS p B' r)) :
    WP (run (PPx e) (d + 1) 673 [bankV, natV w] (mkS p B r)) Q E :=
  (srt_ok F hz h1 h2).elim fun s h => h.elim fun B' h => wp_eq (srt_is d h.1) (q s B' h.2.1 h.2.2.1 h.2.2.2.1 h.2.2.2.2)
noncomputable def bitK (t i : Nat) : Key := ⟨.bit, [t], 0, .i i⟩
theorem bit_wp (d : Nat) {i t w : Nat} {Q : QV} {E : QE} (F : Fine B) (hz : B.size < 8990) (hw : B.wid t = some w) (hi : i < w) (q : ∀ v B', Grw 1 B B' → Has B' (bitK t i) v → Q (natV v) (mkS p B' r)) :
    WP (run (PPx e) (d + 3) 750 [bankV, natV i, natV t] (mkS p B r)) Q E := by
  obtain ⟨v, h1, h2, h3⟩ := make_ok (k := bitK t i) F hz fun a m => List.mem_singleton.mp m ▸ wid_le hw
  exact wp_eq (bit_is d ((congrArg (fun o : Option Nat => o.bind fun w => if i < w then B.make ⟨.bit, [t], 0, .i i⟩ else none) hw).trans ((if_pos hi).trans h1))) (q v _ h2 h3)
theorem term_wp (d : Nat) {w : Nat} {k : Nat → Key} {a1 a2 a4 : V} {s : Nat} {Q : QV} {E : QE} (F : Fine B) (hz : B.size < 8990) (hs : B.sw[s]? = some w) (hl : s < 10000) (ha : ∀ a ∈ (k s).args, a ≤ B.K.length) (q1 : a1 = .str (k s).op.s) (q2 : a2 = .tup ((k s).args.map natV)) (q3 : (k s).sort = s) (q4 : a4 = (k s).data.v)
    (q : ∀ v B', Grw 1 B B' → B'.key v = some (k s) → B'.wid v = some w → Q (natV v) (mkS p B' r)) : WP (run (PPx e) (d + 1) 388 [bankV, a1, a2, natV s, a4] (mkS p B r)) Q E :=
  make_wp d F hz ha q1 q2 (congrArg natV q3.symm) q4 fun v B' x h => by
    have hk := h.key (Nat.lt_of_le_of_lt x.sz (by omega))
    refine q v B' x hk (wid_mk hk (q3.symm ▸ hl) ?_)
    obtain ⟨l, e⟩ := x.sw
    rw [e, q3]
    exact at_app hs
end
end QZ
namespace QZ
open PySem
theorem getItem_tup {l : List V} {i : V} {σ : St} : getItem (.tup l) i σ = (int? i).bind (ixOf l) := rfl
theorem it_tup {l : List V} {i : Nat} {v : V} {σ : St} (h : l[i]? = some v) (hb : i < 10000) : getItem (.tup l) (natV i) σ = some v :=
  getItem_tup.trans ((congrArg (Option.bind · (ixOf l)) (show int? (natV i) = some (i : Int) from rfl)).trans ((Option.bind_some ..).trans (ix_nat hb h)))
theorem at_int {a b : Int} {k : Int → Prop} (h : a = b) (q : k b) : k a := h ▸ q
theorem str_eq {a b : Str} (h : (PyData.strOk a && PyData.strOk b) = true) {σ : St} : cmpop .Eq (.str a) (.str b) σ = some (a == b) := congrArg (cond · (some (a == b)) none) h
theorem op_same (o : Op) {σ : St} : cmpop .Eq (.str o.s) (.str o.s) σ = some true := (str_eq (Bool.and_eq_true_iff.mpr ⟨op_ok o, op_ok o⟩)).trans (congrArg some (beq_self_eq_true o.s))
theorem op_diff {o o' : Op} (h : o ≠ o') {σ : St} : cmpop .Eq (.str o.s) (.str o'.s) σ = some false :=
  (str_eq (Bool.and_eq_true_iff.mpr ⟨op_ok o, op_ok o'⟩)).trans (congrArg some (beq_false_of_ne fun e => h (Op.s_inj e)))
inductive Org (B : Bk) (t : Nat) : Op → Nat → Option (Nat × Nat) → Prop
  | lo {a b s w i} (k : B.key t = some ⟨.concat, [a, b], s, .i 0⟩) (hb : B.wid b = some w) (h : i < w) : Org B t .concat i (some (b, i))
  | hi {a b s w wa i j} (k : B.key t = some ⟨.concat, [a, b], s, .i 0⟩) (hb : B.wid b = some w) (ha : B.wid a = some wa) (e : i = w + j) (h : j < wa) : Org B t .concat i (some (a, j))
  | cut {a s wa i} {hh l : Nat} (k : B.key t = some ⟨.extract, [a], s, .p hh l⟩) (ha : B.wid a = some wa) (h : i + l < wa) : Org B t .extract i (some (a, i + l))
  | z0 {a s m wa i} (k : B.key t = some ⟨.zext, [a], s, m⟩) (ha : B.wid a = some wa) (h : i < wa) : Org B t .zext i (some (a, i))
  | z1 {a s m wa i} (k : B.key t = some ⟨.zext, [a], s, m⟩) (ha : B.wid a = some wa) (h : ¬i < wa) : Org B t .zext i none
  | sg {a s m wa i} (k : B.key t = some ⟨.sext, [a], s, m⟩) (ha : B.wid a = some (wa + 1)) : Org B t .sext i (some (a, min i wa))
inductive OrgV (B : Bk) : Option (Nat × Nat) → Nat → Prop
  | no : OrgV B none 0
  | yes {a j v} (h : Has B (bitK a j) v) : OrgV B (some (a, j)) v
noncomputable def Op.wire : Op → Bool
  | .concat => true | .extract => true | .zext => true | .sext => true | _ => false
theorem Org.key {B : Bk} {t i : Nat} {o : Op} {x : Option (Nat × Nat)} (h : Org B t o i x) : ∃ k, B.key t = some k ∧ k.op = o ∧ o.wire = true := by
  cases h with
  | lo k => exact ⟨_, k, rfl, rfl⟩
  | hi k => exact ⟨_, k, rfl, rfl⟩
  | cut k => exact ⟨_, k, rfl, rfl⟩
  | z0 k => exact ⟨_, k, rfl, rfl⟩
  | z1 k => exact ⟨_, k, rfl, rfl⟩
  | sg k => exact ⟨_, k, rfl, rfl⟩
theorem Org.ext {B B' : Bk} {n t i : Nat} {o : Op} {x : Option (Nat × Nat)} (h : Org B t o i x) (e : Grw n B B') : Org B' t o i x := by
  cases h with
  | lo k hb h => exact .lo (e.key k) (e.wid hb) h
  | hi k hb ha e' h => exact .hi (e.key k) (e.wid hb) (e.wid ha) e' h
  | cut k ha h => exact .cut (e.key k) (e.wid ha) h
  | z0 k ha h => exact .z0 (e.key k) (e.wid ha) h
  | z1 k ha h => exact .z1 (e.key k) (e.wid ha) h
  | sg k ha => exact .sg (e.key k) (e.wid ha)
theorem OrgV.ext {B B' : Bk} {n v : Nat} {x : Option (Nat × Nat)} (h : OrgV B x v) (e : Grw n B B') : OrgV B' x v := by
  cases h with
  | no => exact .no
  | yes h => exact .yes (h.ext e)
theorem OrgV.inj {B : Bk} {v v' : Nat} {x : Option (Nat × Nat)} (h : OrgV B x v) (h' : OrgV B x v') : v = v' := by
  cases h with
  | no => cases h'; rfl
  | yes h => cases h' with
    | yes h' => exact h.inj h'
section
variable {e : Addr → Option (List V)} {p : O × O × O} {B : Bk} {r : List O}
theorem min_nat {a b : Nat} {σ : St} : callB .min [natV a, natV b] σ = .ok (natV (min a b)) σ := by
  show Res.ok (V.int (if (b : Int) < (a : Int) then (b : Int) else (a : Int))) σ = _
  by_cases h : b < a
  · rw [if_pos (Int.ofNat_lt.mpr h), Nat.min_eq_right (Nat.le_of_lt h)]
    rfl
  · rw [if_neg (fun q => h (Int.ofNat_lt.mp q)), Nat.min_eq_left (Nat.le_of_not_lt h)]
    rfl
theorem source_wp (d : Nat) {n m most told t i : Nat} {rows : List V} {o : Op} {x : Option (Nat × Nat)} {Q : QV} {E : QE} (hB : BR r n m most told rows) (F : Fine B) (hz : B.size < 8900) (S : Org B t o i x)
    (q : ∀ v B', Grw 1 B B' → OrgV B' x v → Q (natV v) (mkS p B' r)) : WP (run (PPx e) (d + 4) 213 [selfV n, natV t, .str o.s, natV i] (mkS p B r)) Q E := by
  have z := Nat.lt_trans hz (show 8900 < 8990 by decide)
  refine wp_fn (f := f_BitRows_source_of) (ρ := [some (selfV n), some (natV t), some (.str o.s), some (natV i), none, none, none]) rfl rfl (OfP.mk hB.g17 ?_)
  cases S with
  | @lo a b s w _ k hb h =>
    refine wp_eq (args_is _ k) (OfP.mk (op_same .concat) (cnd_t rfl (OfP.mk hB.g17 (OfP.mk (it_tup (i := 1) (l := [natV a, natV b]) rfl (by decide)) (wp_eq (width_is _ hb) (cnd_yes (Int.ofNat_lt.mpr h) ?_))))))
    exact OfP.mk hB.g17 (OfP.mk (it_tup (i := 1) (l := [natV a, natV b]) rfl (by decide)) (bit_wp _ F z hb h fun v B' x h => q v B' x (.yes h)))
  | @hi a b s w wa _ j k hb ha e' h =>
    refine wp_eq (args_is _ k) (OfP.mk (op_same .concat) (cnd_t rfl (OfP.mk hB.g17 (OfP.mk (it_tup (i := 1) (l := [natV a, natV b]) rfl (by decide)) (wp_eq (width_is _ hb) (cnd_no (by omega) ?_))))))
    exact OfP.mk hB.g17 (EqP.mk (c := (j : Int)) (by omega) (OfP.mk (it_tup (i := 0) (l := [natV a, natV b]) rfl (by decide)) (bit_wp _ F z ha h fun v B' x h => q v B' x (.yes h))))
  | @cut a s wa _ hh l k ha h =>
    refine wp_eq (args_is _ k) (OfP.mk (op_diff (o := .extract) (o' := .concat) (by decide)) (cnd_f rfl (OfP.mk (op_same .extract) (cnd_t rfl (OfP.mk hB.g17 (OfP.mk hB.g17 (wp_eq (data_is _ k) (OfP.mk (it_tup (i := 1) (l := [.int hh, .int l]) rfl (by decide)) ?_))))))))
    exact OfP.mk (it_tup (i := 0) (l := [natV a]) rfl (by decide)) (bit_wp _ (i := i + l) F z ha h fun v B' x h => q v B' x (.yes h))
  | @z0 a s m wa _ k ha h =>
    refine wp_eq (args_is _ k) (OfP.mk (op_diff (o := .zext) (o' := .concat) (by decide)) (cnd_f rfl (OfP.mk (op_diff (o := .zext) (o' := .extract) (by decide)) (cnd_f rfl (OfP.mk hB.g17 (OfP.mk (it_tup (i := 0) (l := [natV a]) rfl (by decide)) (wp_eq (width_is _ ha) (OfP.mk (op_same .zext) (cnd_t rfl ?_)))))))))
    exact cnd_yes (Int.ofNat_lt.mpr h) (OfP.mk hB.g17 (OfP.mk (it_tup (i := 0) (l := [natV a]) rfl (by decide)) (bit_wp _ F z ha h fun v B' x h => q v B' x (.yes h))))
  | @z1 a s m wa _ k ha h =>
    refine wp_eq (args_is _ k) (OfP.mk (op_diff (o := .zext) (o' := .concat) (by decide)) (cnd_f rfl (OfP.mk (op_diff (o := .zext) (o' := .extract) (by decide)) (cnd_f rfl (OfP.mk hB.g17 (OfP.mk (it_tup (i := 0) (l := [natV a]) rfl (by decide)) (wp_eq (width_is _ ha) (OfP.mk (op_same .zext) (cnd_t rfl ?_)))))))))
    exact cnd_no (fun q => h (Int.ofNat_lt.mp q)) (q 0 B ((Grw.refl F).le (Nat.zero_le _)) .no)
  | @sg a s m wa _ k ha =>
    refine wp_eq (args_is _ k) (OfP.mk (op_diff (o := .sext) (o' := .concat) (by decide)) (cnd_f rfl (OfP.mk (op_diff (o := .sext) (o' := .extract) (by decide)) (cnd_f rfl (OfP.mk hB.g17 (OfP.mk (it_tup (i := 0) (l := [natV a]) rfl (by decide)) (wp_eq (width_is _ ha) (OfP.mk (op_diff (o := .sext) (o' := .zext) (by decide)) (cnd_f rfl (OfP.mk (op_same .sext) (cnd_t rfl ?_)))))))))))
    exact OfP.mk hB.g17 (EqP.mk (c := (wa : Int)) (by omega) (wp_eq min_nat (OfP.mk (it_tup (i := 0) (l := [natV a]) rfl (by decide)) (bit_wp _ F z ha (by omega) fun v B' x h => q v B' x (.yes h)))))
end
end QZ
namespace QZ
open PySem
inductive End (B : Bk) : Nat → Nat → Nat → Option (Nat × Nat) → Prop
  | leaf {n t i k} (h : B.key t = some k) (o : k.op.wire = false) : End B n t i (some (t, i))
  | no {n t o i} (h : Org B t o i none) : End B (n + 1) t i none
  | go {n t o i a j x} (h : Org B t o i (some (a, j))) (e : End B n a j x) : End B (n + 1) t i x
theorem End.ext {B B' : Bk} {m n t i : Nat} {x : Option (Nat × Nat)} (h : End B n t i x) (e : Grw m B B') : End B' n t i x := by
  induction h with
  | leaf h o => exact .leaf (e.key h) o
  | no h => exact .no (h.ext e)
  | go h _ ih => exact .go (h.ext e) ih
noncomputable def markV (x : Option (Nat × Nat)) : V := x.elim .none fun q => .tup [natV q.1, natV q.2]
theorem at_v {a b : V} {k : V → Prop} (h : a = b) (q : k a) : k b := h ▸ q
noncomputable def opsT : List V := [.str (sx "concat"), .str (sx "extract"), .str (sx "zero_extend"), .str (sx "sign_extend")]
theorem in_ops (o : Op) {σ : St} : cmpop .In (.str o.s) (.tup opsT) σ = some o.wire := by cases o <;> kernel_rfl
theorem bit_bit {σ : St} : cmpop .NotEq (.str Op.bit.s) (.str (sx "bit")) σ = some false := by kernel_rfl
section
variable {M : Mach} {β : Type}
theorem whl_wp {c : X} {b : SL} {k : Nat} {ρ : Rho} {σ : St} {N : Rho → St → Prop} {T : V → St → Prop} {E : Addr → Str → Rho → St → Prop}
    (h : wpX c M ρ σ (fun v σ => Cnd (truth v) (wpL b M ρ σ (fun ρ σ => WR (whileN (fun ρ σ => test M.P M.co c ρ σ) (fun ρ σ => exL M.P M.co b ρ σ) k ρ σ) N T E) T E) (N ρ σ)) NoE) :
    WR (whileN (fun ρ σ => test M.P M.co c ρ σ) (fun ρ σ => exL M.P M.co b ρ σ) (k + 1) ρ σ) N T E := by
  refine wr_thenN' (ad_test (Q := fun t σ => WR (cond t _ _) N T E) ((adX c h).imp fun v σ h => h.imp (fun h => ?_) .next))
  have k := adL b h
  show WR (R.thenL (exL M.P M.co b ρ σ) _) N T E
  generalize exL M.P M.co b ρ σ = r at k
  cases k with
  | next h => exact h
  | ret h => exact .ret h
  | exc h => exact .exc h
end
section
variable {e : Addr → Option (List V)} {p : O × O × O} {r : List O}
noncomputable def endC : X := (.cmp (.meth (.attr (.var 0) 17) 25 (.cons (.var 1) .nil)) (.cons .In (.tup (.cons (.lit (.str (sx "concat"))) (.cons (.lit (.str (sx "extract"))) (.cons (.lit (.str (sx "zero_extend"))) (.cons (.lit (.str (sx "sign_extend"))) .nil))))) .nil))
noncomputable def endB : SL := (.cons (.asg (.name 3) (.meth (.var 0) 49 (.cons (.var 1) (.cons (.meth (.attr (.var 0) 17) 25 (.cons (.var 1) .nil)) (.cons (.var 2) .nil))))) (.cons (.ifs (.cmp (.var 3) (.cons .Eq (.lit (.int 0)) .nil)) (.cons (.ret (.lit .none)) .nil) .nil) (.cons (.ifs (.cmp (.meth (.attr (.var 0) 17) 25 (.cons (.var 3) .nil)) (.cons .NotEq (.lit (.str (sx "bit"))) .nil)) (.cons (.ret (.lit (.str (sx "no bit")))) .nil) .nil) (.cons (.asg (.tup [1, 2]) (.tup (.cons (.item (.meth (.attr (.var 0) 17) 26 (.cons (.var 3) .nil)) (.lit (.int 0))) (.cons (.meth (.attr (.var 0) 17) 28 (.cons (.var 3) .nil)) .nil)))) .nil))))
theorem end_loop (d : Nat) {m most told : Nat} {rows : List V} {nn : Nat} {N : Rho → St → Prop} {T : V → St → Prop} {E : Addr → Str → Rho → St → Prop} (hB : BR r nn m most told rows) {B0 : Bk} {n t i : Nat} {x : Option (Nat × Nat)} (h : End B0 n t i x) :
    ∀ {B : Bk} {j f : Nat} {s : Option V}, Grw j B0 B → Fine B → B.size + n < 8900 → n < f → (∀ B' t' i' s, Grw n B B' → x = some (t', i') → N [some (selfV nn), some (natV t'), some (natV i'), s] (mkS p B' r)) → (∀ B', Grw n B B' → x = none → T .none (mkS p B' r)) →
      WR (whileN (fun ρ σ => test (mach e (d + 5)).P (mach e (d + 5)).co endC ρ σ) (fun ρ σ => exL (mach e (d + 5)).P (mach e (d + 5)).co endB ρ σ) f [some (selfV nn), some (natV t), some (natV i), s] (mkS p B r)) N T E := by
  induction h with
  | @leaf n t i k hk o =>
    intro B j f s x F hz hf hN hT
    obtain ⟨f, rfl⟩ : ∃ g, f = g + 1 := ⟨f - 1, by omega⟩
    refine whl_wp (OfP.mk hB.g17 ?_)
    refine wp_eq (op_is _ (x.key hk)) ?_
    refine OfP.mk (in_ops k.op) ?_
    exact cnd_f (congrArg some o) (hN B t i s ((Grw.refl F).le (Nat.zero_le _)) rfl)
  | @no n t o i h =>
    intro B j f s x F hz hf hN hT
    obtain ⟨f, rfl⟩ : ∃ g, f = g + 1 := ⟨f - 1, by omega⟩
    have S := h.ext x
    obtain ⟨k, hk, rfl, hw⟩ := S.key
    refine whl_wp (OfP.mk hB.g17 ?_)
    refine wp_eq (op_is _ hk) ?_
    refine OfP.mk (in_ops k.op) ?_
    refine cnd_t (congrArg some hw) (hB.fr (fun _ => rfl) (OfP.mk hB.g17 ?_))
    refine wp_eq (op_is _ hk) (source_wp (d + 1) hB F (by omega) S fun v B' x' sv => ?_)
    cases sv with
    | no => exact cnd_yes rfl (hT B' (x'.le (by omega)) rfl)
  | @go n t o i a b x h _ ih =>
    intro B j f s x F hz hf hN hT
    obtain ⟨f, rfl⟩ : ∃ g, f = g + 1 := ⟨f - 1, by omega⟩
    have S := h.ext x
    obtain ⟨k, hk, rfl, hw⟩ := S.key
    refine whl_wp (OfP.mk hB.g17 ?_)
    refine wp_eq (op_is _ hk) ?_
    refine OfP.mk (in_ops k.op) ?_
    refine cnd_t (congrArg some hw) (hB.fr (fun _ => rfl) (OfP.mk hB.g17 ?_))
    refine wp_eq (op_is _ hk) (source_wp (d + 1) hB F (by omega) S fun v B' x' sv => ?_)
    have hz' := x'.sz
    cases sv with
    | yes hv =>
      have hk' := hv.key (by omega)
      refine cnd_no (fun q => Nat.ne_of_gt hv.at'.1 (Int.ofNat.inj q)) (OfP.mk hB.g17 (wp_eq (op_is _ hk') (OfP.mk bit_bit (cnd_f rfl (OfP.mk hB.g17 (wp_eq (args_is _ hk') (OfP.mk (it_tup (i := 0) (l := [natV a]) rfl (by decide)) (OfP.mk hB.g17 (wp_eq (data_is _ hk') ?_)))))))))
      exact ih (x.trans x') x'.fine (by omega) (by omega) (fun B2 t' i' s x2 => hN B2 t' i' s ((x'.trans x2).le (by omega))) fun B2 x2 => hT B2 ((x'.trans x2).le (by omega))
theorem end_wp (d : Nat) {m most told : Nat} {rows : List V} {nn : Nat} {Q : QV} {E : QE} (hB : BR r nn m most told rows) {B : Bk} {n t i : Nat} {x : Option (Nat × Nat)} (h : End B n t i x) (F : Fine B) (hz : B.size + n < 8900) (hn : n < 40)
    (q : ∀ B', Grw n B B' → Q (markV x) (mkS p B' r)) : WP (run (PPx e) (d + 6) 795 [selfV nn, natV t, natV i] (mkS p B r)) Q E :=
  wp_fn (f := f__law_end) (ρ := [some (selfV nn), some (natV t), some (natV i), none]) rfl rfl (end_loop d hB h (Grw.refl F) F hz hn (fun B' t' i' s x' e => at_v (k := fun v => Q v (mkS p B' r)) (congrArg markV e) (q B' x')) fun B' x' e => at_v (k := fun v => Q v (mkS p B' r)) (congrArg markV e) (q B' x'))
end
end QZ
namespace QZ
open PySem
section
variable {σ : St} {Q : QV} {E : QE}
theorem ints_of_map (c : List Int) : (c.map V.int).map intOf = c := (List.map_map ..).trans (List.map_id c)
theorem sorted_nums {v : V} {c : List Int} (h : itemsOf v σ = some (c.map .int)) (hl : c.length ≤ 60) : sorted v σ = .ok (.loc σ.length) (σ ++ [.list ((W.sortI c).map .int)]) := by
  unfold sorted
  rw [h]
  show cond ((c.map V.int).all isInt) _ _ = _
  rw [all_isInt, ints_of_map]
  exact if_dec (map_len hl)
theorem wp_sortN {v : V} {c k : List Int} (h : itemsOf v σ = some (c.map .int)) (hl : c.length ≤ 60) (hk : W.sortI c = k) (q : Q (.loc σ.length) (σ ++ [.list (k.map .int)])) : WP (callB .sorted [v] σ) Q E :=
  wp_eq (sorted_nums h hl) (hk ▸ q)
theorem wp_sort1 {n a : Nat} {l : List V} (h : σ[n]? = some (.list [.loc a])) (ha : σ[a]? = some (.list l)) (q : Q (.loc σ.length) (σ ++ [O.list [.loc a]])) : WP (callB .sorted [.loc n] σ) Q E := by
  refine wp_eq (show sorted (.loc n) σ = _ from ?_) q
  unfold sorted
  rw [show itemsOf (.loc n) σ = _ from congrArg (fun o : Option O => o.bind lst?) h]
  show ofO ((listIn σ (.loc a)).map fun _ => [V.loc a]) (fun k => Res.ok (V.loc σ.length) (σ ++ [O.list k])) = _
  rw [show listIn σ (.loc a) = _ from congrArg (fun o : Option O => o.bind lst?) ha]
  rfl
theorem wp_sort2 {n a b : Nat} {i j : Int} {l m : List V} (h : σ[n]? = some (.list [.loc a, .loc b])) (ha : σ[a]? = some (.list (.int i :: l))) (hb : σ[b]? = some (.list (.int j :: m))) (hne : j ≠ i)
    (q : Q (.loc σ.length) (σ ++ [O.list (cond (decide (j < i)) [.loc b, .loc a] [.loc a, .loc b])])) : WP (callB .sorted [.loc n] σ) Q E := by
  refine wp_eq (show sorted (.loc n) σ = _ from ?_) q
  unfold sorted
  rw [show itemsOf (.loc n) σ = _ from congrArg (fun o : Option O => o.bind lst?) h]
  have e : firstLt σ (.loc b) (.loc a) = some (decide (j < i)) := by
    unfold firstLt
    rw [show listIn σ (.loc b) = _ from congrArg (fun o : Option O => o.bind lst?) hb, show listIn σ (.loc a) = _ from congrArg (fun o : Option O => o.bind lst?) ha]
    exact if_dec hne
  show ofO ((firstLt σ (.loc b) (.loc a)).map fun t => cond t [V.loc b, V.loc a] [V.loc a, V.loc b]) (fun k => Res.ok (V.loc σ.length) (σ ++ [O.list k])) = _
  rw [e]
  rfl
theorem mul_loc {n k : Nat} {v : V} (h : σ[n]? = some (.list [v])) (hk : k ≤ 1000) : binop .Mult (.loc n) (natV k) σ = .ok (.loc σ.length) (σ ++ [.list (List.replicate k v)]) :=
  (congrArg (fun o : Option O => ofO (o.bind lst?) fun l => ofO (oneOf l) fun v => cond (decide (0 ≤ (k : Int) ∧ (k : Int) ≤ 1000)) (Res.ok (V.loc σ.length) (σ ++ [O.list (List.replicate ((k : Int)).toNat v)])) .stuck) h).trans (if_dec (show 0 ≤ (k : Int) ∧ (k : Int) ≤ 1000 by omega))
theorem mb_append' {σ' : St} {n : Nat} {l0 l : List V} {v : V} (h0 : σ[n]? = some (.list l0)) (h : σ'[n]? = some (.list l)) (hl : l.length ≤ 10000) (q : Q .none (σ'.set n (.list (l ++ [v])))) : MB (.loc n) 0 σ [v] σ' Q E := .mk (mok_list h0 rfl) (wp_eq ((methL_eq h).trans (if_dec hl)) q)
end
theorem noX {L : Nat} : ∀ x ∈ ([] : List Nat), x < L := fun _ m => nomatch m
noncomputable def locP (q : Nat × List Int) : V := .loc (q.1 + 15)
noncomputable def ListsAt (L : Nat) (r : List O) (ps : List (Nat × List Int)) : Prop := ∀ q ∈ ps, L ≤ q.1 ∧ r[q.1]? = some (.list (q.2.map .int))
theorem ListsAt.keep {L : Nat} {X : List Nat} {r r' : List O} {ps : List (Nat × List Int)} (h : ListsAt L r ps) (k : Keep X r r') (hX : ∀ x ∈ X, x < L) : ListsAt L r' ps := fun q m => ⟨(h q m).1, k.2 (fun q' => Nat.lt_irrefl _ (Nat.lt_of_lt_of_le (hX _ q') (h q m).1)) (h q m).2⟩
structure ClauAt (L : Nat) (r : List O) (c : Nat) (cl : List (List Int)) : Prop where
  le : L ≤ c
  ps : ∃ ps : List (Nat × List Int), ps.map (·.2) = cl ∧ r[c]? = some (.list (ps.map locP)) ∧ ListsAt L r ps
theorem ClauAt.keep {L c : Nat} {X : List Nat} {r r' : List O} {cl : List (List Int)} (h : ClauAt L r c cl) (k : Keep X r r') (hX : ∀ x ∈ X, x < L) : ClauAt L r' c cl :=
  ⟨h.le, h.ps.imp fun ps q => ⟨q.1, k.2 (fun q' => Nat.lt_irrefl _ (Nat.lt_of_lt_of_le (hX _ q') h.le)) q.2.1, q.2.2.keep k hX⟩⟩
theorem map1 {ps : List (Nat × List Int)} {a : List Int} (h : ps.map (·.2) = [a]) : ∃ n, ps = [(n, a)] := by
  obtain ⟨x, l, rfl, rfl, h'⟩ := List.map_eq_cons_iff.mp h
  cases List.map_eq_nil_iff.mp h'
  exact ⟨x.1, rfl⟩
theorem map2 {ps : List (Nat × List Int)} {a b : List Int} (h : ps.map (·.2) = [a, b]) : ∃ n m, ps = [(n, a), (m, b)] := by
  obtain ⟨x, l, rfl, rfl, h'⟩ := List.map_eq_cons_iff.mp h
  obtain ⟨n, rfl⟩ := map1 h'
  exact ⟨x.1, n, rfl⟩
noncomputable def raw (o s : Nat) : List (List Int) := cond (s == 0) [[-(o : Int)]] [[-(o : Int), (s : Int)], [-(s : Int), (o : Int)]]
noncomputable def cls (o s : Nat) : List (List Int) := cond (s == 0) [[-(o : Int)]] (cond (decide (-(s : Int) < -(o : Int))) [[-(s : Int), (o : Int)], [-(o : Int), (s : Int)]] [[-(o : Int), (s : Int)], [-(s : Int), (o : Int)]])
theorem raw_len (o s : Nat) : (raw o s).length ≤ 2 := by
  unfold raw
  cases s == 0 with
  | true => exact Nat.le_succ 1
  | false => exact Nat.le_refl 2
section
variable {e : Addr → Option (List V)} {p : O × O × O} {B : Bk} {r : List O}
theorem sort_cls {L c o s : Nat} {ps : List (Nat × List Int)} {Q : QV} {E : QE} (e : ps.map (·.2) = raw o s) (hc : r[c]? = some (.list (ps.map locP))) (hp : ListsAt L r ps) (hL : L ≤ r.length) (hne : o ≠ s) (q : ∀ x, ClauAt L (r ++ [x]) r.length (cls o s) → Q (.loc (r.length + 15)) (mkS p B (r ++ [x]))) :
    WP (callB .sorted [.loc (c + 15)] (mkS p B r)) Q E := by
  have hc' : (mkS p B r)[c + 15]? = _ := hc
  have k : Keep [] r (r ++ [O.list []]) := .app
  revert e
  unfold raw
  cases hs : s == 0 with
  | true =>
    intro e
    obtain ⟨a, rfl⟩ := map1 e
    · have ha := hp _ (List.mem_singleton.mpr rfl)
      refine wp_sort1 hc' (show (mkS p B r)[a + 15]? = _ from ha.2) (q _ ⟨hL, [(a, [-(o : Int)])], ?_, new_at, hp.keep .app noX⟩)
      unfold cls
      rw [hs]
      rfl
  | false =>
    intro e
    obtain ⟨a, b, rfl⟩ := map2 e
    · have ha := hp _ (List.mem_cons_self ..)
      have hb := hp _ (List.mem_cons_of_mem _ (List.mem_singleton.mpr rfl))
      refine wp_sort2 hc' (show (mkS p B r)[a + 15]? = some (.list (.int (-(o : Int)) :: [.int s])) from ha.2) (show (mkS p B r)[b + 15]? = some (.list (.int (-(s : Int)) :: [.int o])) from hb.2) (by omega) (q _ ?_)
      refine ⟨hL, cond (decide (-(s : Int) < -(o : Int))) [(b, [-(s : Int), (o : Int)]), (a, [-(o : Int), (s : Int)])] [(a, [-(o : Int), (s : Int)]), (b, [-(s : Int), (o : Int)])], ?_, ?_, ?_⟩
      · unfold cls
        rw [hs]
        cases decide (-(s : Int) < -(o : Int)) <;> rfl
      · rw [new_at]
        cases decide (-(s : Int) < -(o : Int)) <;> rfl
      · refine ListsAt.keep (X := []) (r := r) ?_ .app noX
        cases decide (-(s : Int) < -(o : Int)) with
        | true => exact List.forall_mem_cons.mpr ⟨hb, List.forall_mem_cons.mpr ⟨ha, fun _ m => nomatch m⟩⟩
        | false => exact List.forall_mem_cons.mpr ⟨ha, List.forall_mem_cons.mpr ⟨hb, fun _ m => nomatch m⟩⟩
inductive SrtI (L : Nat) (p : O × O × O) (B : Bk) (r : List O) (all l : List (List Int)) : List V → St → Prop
  | mk (r' : List O) (ps) (k : Keep [] r r') (e : ps.map (·.2) ++ l = all) (h : ListsAt L r' ps) : SrtI L p B r all l (ps.map locP) (mkS p B r')
theorem SrtI.step {L : Nat} {all l : List (List Int)} {c x : List Int} {v : V} {acc : List V} {σ : St} {Q : QV} {E : QE} (h : SrtI L p B r all (x :: l) acc σ) (hL : L ≤ r.length) (hall : all.length ≤ 1000) (hv : ∀ r', Keep [] r r' → itemsOf v (mkS p B r') = some (c.map .int)) (hl : c.length ≤ 60) (hx : W.sortI c = x)
    (q : ∀ w σ', acc.length ≤ 10000 → SrtI L p B r all l (acc ++ [w]) σ' → Q w σ') : WP (callB .sorted [v] σ) Q E := by
  cases h with
  | mk r' ps k e h =>
    have hlen := congrArg List.length e
    rw [List.length_append, List.length_map, List.length_cons] at hlen
    refine wp_sortN (hv r' k) hl hx (q _ _ (map_len (by omega)) ?_)
    show SrtI L p B r all l (ps.map locP ++ [locP (r'.length, x)]) (mkS p B (r' ++ [_]))
    rw [map_snoc]
    refine .mk _ (ps ++ [(r'.length, x)]) (k.trans .app) (by rw [List.map_append, List.append_assoc]; exact e) fun q m => ?_
    rcases List.mem_append.mp m with m | m
    · exact h.keep .app noX q m
    · cases List.mem_singleton.mp m
      exact ⟨Nat.le_trans hL k.1, new_at⟩
end
end QZ
namespace QZ
open PySem
structure DE where
  c : Nat
  n : Nat
  i : Nat
  o : Nat
  s : Nat
noncomputable def deV (de : DE) : V := .tup [.loc (de.c + 15), .loc (de.n + 15)]
noncomputable def noteV (t i : Nat) : V := .tup [natV t, natV i, .str (sx "wire")]
structure DeOk (B : Bk) (t : Nat) (op : Op) (i : Nat) (de : DE) : Prop where
  ix : de.i = i
  o : Has B (bitK t i) de.o
  s : ∃ x, Org B t op i x ∧ OrgV B x de.s
structure DeAt (L : Nat) (r : List O) (t : Nat) (de : DE) : Prop where
  c : ClauAt L r de.c (cls de.o de.s)
  le : L ≤ de.n
  n : r[de.n]? = some (.list (List.replicate (raw de.o de.s).length (noteV t de.i)))
theorem DeOk.ext {B B' : Bk} {n t i : Nat} {op : Op} {de : DE} (h : DeOk B t op i de) (x : Grw n B B') : DeOk B' t op i de := ⟨h.ix, h.o.ext x, h.s.imp fun _ q => ⟨q.1.ext x, q.2.ext x⟩⟩
theorem DeAt.keep {L t : Nat} {X : List Nat} {r r' : List O} {de : DE} (h : DeAt L r t de) (k : Keep X r r') (hX : ∀ x ∈ X, x < L) : DeAt L r' t de :=
  ⟨h.c.keep k hX, h.le, k.2 (fun q' => Nat.lt_irrefl _ (Nat.lt_of_lt_of_le (hX _ q') h.le)) h.n⟩
theorem Org.arg {B : Bk} {t i a j : Nat} {o : Op} (h : Org B t o i (some (a, j))) : ∃ k, B.key t = some k ∧ a ∈ k.args := by
  cases h with
  | lo k => exact ⟨_, k, List.mem_cons_of_mem _ (List.mem_singleton.mpr rfl)⟩
  | hi k => exact ⟨_, k, List.mem_cons_self ..⟩
  | cut k => exact ⟨_, k, List.mem_cons_self ..⟩
  | z0 k => exact ⟨_, k, List.mem_cons_self ..⟩
  | sg k => exact ⟨_, k, List.mem_cons_self ..⟩
theorem org_ne {B : Bk} {t i o s : Nat} {op : Op} {x : Option (Nat × Nat)} (F : Fine B) (h : Org B t op i x) (ho : Has B (bitK t i) o) (hs : OrgV B x s) : o ≠ s := by
  cases hs with
  | no => exact Nat.ne_of_gt ho.at'.1
  | @yes a j _ hs =>
    rintro rfl
    obtain ⟨k, hk, ha⟩ := h.arg
    have e : some (bitK t i) = some (bitK a j) := ho.at'.2.2.symm.trans hs.at'.2.2
    exact key_arg F hk ha (List.cons.inj (congrArg Key.args (Option.some.inj e))).1.symm
theorem raw_sorted {o s : Nat} (ho : 1 ≤ o) : ∀ c ∈ raw o s, W.sortI c = c ∧ c.length ≤ 60 := by
  unfold raw
  cases hs : s == 0 with
  | true => exact List.forall_mem_cons.mpr ⟨⟨rfl, Nat.le_of_ble_eq_true rfl⟩, fun _ m => nomatch m⟩
  | false =>
    have : s ≠ 0 := fun e => Bool.noConfusion (hs.symm.trans (beq_iff_eq.mpr e))
    refine List.forall_mem_cons.mpr ⟨⟨?_, Nat.le_of_ble_eq_true rfl⟩, List.forall_mem_cons.mpr ⟨⟨?_, Nat.le_of_ble_eq_true rfl⟩, fun _ m => nomatch m⟩⟩
    · exact if_neg (by omega)
    · exact if_neg (by omega)
section
variable {e : Addr → Option (List V)} {p : O × O × O}
inductive DueI (p : O × O × O) (B : Bk) (r : List O) (n t : Nat) (op : Op) (j : Nat) : Rho → St → Prop
  | mk (R : List O) (B' : Bk) (des : List DE) (a3 a4 a5 a6) (k : Keep [r.length] (r ++ [.list []]) R) (x : Grw (2 * j) B B') (hf : R[r.length]? = some (.list (des.map deV))) (hl : des.length = j) (hd : ∀ i de, des[i]? = some de → DeOk B' t op i de ∧ DeAt (r.length + 1) R t de) :
    DueI p B r n t op j [some (selfV n), some (natV t), some (.loc (r.length + 15)), a3, a4, a5, a6] (mkS p B' R)
theorem due_end {M : Mach} {p : O × O × O} {B2 : Bk} {L t j o s : Nat} {nn : V} {des : List DE} {R R1 : List O} {mS fl : Nat} {ps0 : List (Nat × List Int)} {N : Rho → St → Prop} {T : V → St → Prop} {E : Addr → Str → Rho → St → Prop} (k : Keep [] R R1) (hf : R[fl]? = some (.list (des.map deV))) (hdl : des.length ≤ 1000) (hS : R1[mS]? = some (.list (ps0.map locP))) (he : ps0.map (·.2) = raw o s) (hp : ListsAt L R1 ps0)
    (hL : L ≤ R1.length) (hfl : fl < L) (ho : 1 ≤ o) (hne : o ≠ s) (q : ∀ R', Keep [fl] R R' → ∀ c n, R'[fl]? = some (.list ((des ++ [DE.mk c n j o s]).map deV)) → DeAt L R' t (DE.mk c n j o s) → N [some nn, some (natV t), some (.loc (fl + 15)), some (natV j), some (natV o), some (natV s), some (.loc (mS + 15))] (mkS p B2 R')) :
    wpL (.cons (.exp (.meth (.var 2) 0 (.cons (.tup (.cons (.bi .sorted (.cons (.comp (.bi .sorted (.cons (.var 7) .nil)) (.var 7) (.expr (.var 6)) .nil 1) .nil)) (.cons (.bin .Mult (.lst (.cons (.tup (.cons (.var 1) (.cons (.var 3) (.cons (.lit (.str (sx "wire"))) .nil)))) .nil)) (.bi .len (.cons (.var 6) .nil))) .nil))) .nil))) .nil) M [some nn, some (natV t), some (.loc (fl + 15)), some (natV j), some (natV o), some (natV s), some (.loc (mS + 15))] (mkS p B2 R1) N T E := by
  have h0 := raw_sorted (s := s) ho
  have hl2 := raw_len o s
  have hpl : ps0.length ≤ 2 := by
    rw [← he, List.length_map] at hl2
    exact hl2
  refine OfP.mk (wp_src (show (mkS p B2 R1)[mS + 15]? = _ from hS)) (wr_lstM (f := locP) (l := ps0) (fun (l : List (Nat × List Int)) => SrtI L p B2 R1 (raw o s) (l.map Prod.snd)) (.mk R1 [] .refl he (fun _ m => nomatch m)) ?_ ?_ ?_)
  · intro l acc σ h
    cases h with
    | mk r' ps k' e' h => exact k'.2 nin0 hS
  · intro c l acc σ hc h
    have hs := h0 c.2 (he ▸ List.mem_map_of_mem hc)
    exact wt_turn (ρ' := [some nn, some (natV t), some (.loc (fl + 15)), some (natV j), some (natV o), some (natV s), some (.loc (mS + 15)), some (locP c)]) rfl (.t (SrtI.step h hL (by omega) (fun r' k' => congrArg (fun o : Option O => o.bind lst?) (show (mkS p B2 r')[c.1 + 15]? = _ from k'.2 nin0 (hp c hc).2)) hs.2 hs.1 fun w σ' hl h' => ⟨hl, h'⟩))
  · intro acc σ h
    cases h with
    | mk r2 ps k' e' h =>
      have e' := (List.append_nil _).symm.trans e'
      refine sort_cls (r := r2 ++ [O.list (ps.map locP)]) (c := r2.length) e' new_at (h.keep .app noX) (Nat.le_trans hL (k'.trans .app).1) hne fun x hc => ?_
      have k3 : Keep [] R1 (r2 ++ [O.list (ps.map locP)] ++ [x] ++ [O.list [noteV t j]]) := k'.trans (Keep.app.trans (Keep.app.trans .app))
      refine wp_len (show (mkS p B2 (r2 ++ [O.list (ps.map locP)] ++ [x] ++ [O.list [noteV t j]]))[mS + 15]? = _ from k3.2 nin0 hS) (map_len (by omega)) ?_
      refine wp_eq (mul_loc (n := (r2 ++ [O.list (ps.map locP)] ++ [x]).length + 15) (show (mkS p B2 (r2 ++ [O.list (ps.map locP)] ++ [x] ++ [O.list [noteV t j]]))[(r2 ++ [O.list (ps.map locP)] ++ [x]).length + 15]? = _ from new_at) (Nat.le_trans (map_len hpl) (by decide))) ?_
      rw [show (ps0.map locP).length = (raw o s).length by rw [List.length_map, ← he, List.length_map]]
      have main : ∀ R5 c5 n5, Keep [] R1 R5 → ClauAt L R5 c5 (cls o s) → L ≤ n5 → R5[n5]? = some (.list (List.replicate (raw o s).length (noteV t j))) →
          MB (.loc (fl + 15)) 0 (mkS p B2 R1) [deV ⟨c5, n5, j, o, s⟩] (mkS p B2 R5) (fun _ σ => N [some nn, some (natV t), some (.loc (fl + 15)), some (natV j), some (natV o), some (natV s), some (.loc (mS + 15))] σ) (fun c m σ => E c m [some nn, some (natV t), some (.loc (fl + 15)), some (natV j), some (natV o), some (natV s), some (.loc (mS + 15))] σ) := by
        intro R5 c5 n5 k4 hc5 hL5 hn5
        have hf5 := (k.trans k4).2 nin0 hf
        refine mb_append' (show (mkS p B2 R1)[fl + 15]? = _ from k.2 nin0 hf) (show (mkS p B2 R5)[fl + 15]? = _ from hf5) (map_len (by omega)) ?_
        have ks : Keep [fl] R5 (R5.set fl (.list (des.map deV ++ [deV ⟨c5, n5, j, o, s⟩]))) := .set (List.mem_singleton.mpr rfl)
        refine q _ (((k.trans k4).mono fun _ m => nomatch m).trans ks) c5 n5 ?_ (DeAt.keep (r := R5) ⟨hc5, hL5, hn5⟩ ks fun x m => List.mem_singleton.mp m ▸ hfl)
        rw [List.map_append]
        exact set_at hf5
      exact main _ _ _ (k3.trans .app) ((hc.keep (.app (g := [O.list [noteV t j]])) noX).keep (.app (g := [O.list (List.replicate (raw o s).length (noteV t j))])) noX) (Nat.le_trans hL k3.1) new_at
end
end QZ
namespace QZ
open PySem
section
variable {e : Addr → Option (List V)} {p : O × O × O}
theorem due_turn (d : Nat) {B B' : Bk} {r R : List O} {n m most told t w j : Nat} {rows : List V} {k : Key} {des : List DE} {a4 a5 a6 : Option V} {T : V → St → Prop} {E : Addr → Str → Rho → St → Prop} (hB : BR r n m most told rows) (hk : B.key t = some k) (hw : B.wid t = some w) (hj : j < w) (hwl : w ≤ 20) (hS : ∀ i, i < w → ∃ x, Org B t k.op i x) (hz : B.size + 200 < 8900)
    (kk : Keep [r.length] (r ++ [.list []]) R) (x : Grw (2 * j) B B') (hf : R[r.length]? = some (.list (des.map deV))) (hl : des.length = j) (hd : ∀ i de, des[i]? = some de → DeOk B' t k.op i de ∧ DeAt (r.length + 1) R t de) :
    wpL (.cons (.asg (.tup [4, 5]) (.tup (.cons (.meth (.attr (.var 0) 17) 41 (.cons (.var 3) (.cons (.var 1) .nil))) (.cons (.meth (.var 0) 49 (.cons (.var 1) (.cons (.meth (.attr (.var 0) 17) 25 (.cons (.var 1) .nil)) (.cons (.var 3) .nil)))) .nil)))) (.cons (.asg (.name 6) (.ite (.cmp (.var 5) (.cons .Eq (.lit (.int 0)) .nil)) (.lst (.cons (.lst (.cons (.bin .Sub (.lit (.int 0)) (.var 4)) .nil)) .nil)) (.lst (.cons (.lst (.cons (.bin .Sub (.lit (.int 0)) (.var 4)) (.cons (.var 5) .nil))) (.cons (.lst (.cons (.bin .Sub (.lit (.int 0)) (.var 5)) (.cons (.var 4) .nil))) .nil))))) (.cons (.exp (.meth (.var 2) 0 (.cons (.tup (.cons (.bi .sorted (.cons (.comp (.bi .sorted (.cons (.var 7) .nil)) (.var 7) (.expr (.var 6)) .nil 1) .nil)) (.cons (.bin .Mult (.lst (.cons (.tup (.cons (.var 1) (.cons (.var 3) (.cons (.lit (.str (sx "wire"))) .nil)))) .nil)) (.bi .len (.cons (.var 6) .nil))) .nil))) .nil))) .nil))) (mach e (d + 5)) [some (selfV n), some (natV t), some (.loc (r.length + 15)), some (natV j), a4, a5, a6] (mkS p B' R) (fun ρ σ => DueI p B r n t k.op (j + 1) ρ σ) T E := by
  have hRB : BR R n m most told rows := (hB.app (g := [.list []])).keep kk (nin1 (Nat.ne_of_lt hB.nlt)) (nin1 (Nat.ne_of_lt hB.mlt))
  have hlR : r.length + 1 ≤ R.length := Nat.le_trans (Nat.le_of_eq (List.length_append (as := r) (bs := [O.list []])).symm) kk.1
  obtain ⟨y, hy⟩ := hS j hj
  have hxz := x.sz
  refine OfP.mk hRB.g17 (bit_wp _ x.fine (by omega) (x.wid hw) hj fun o B1 x1 h1 => ?_)
  have hx1 := x1.sz
  refine hRB.fr (fun _ => rfl) (OfP.mk hRB.g17 ?_)
  refine wp_eq (op_is _ ((x.trans x1).key hk)) (source_wp (d + 1) hRB x1.fine (by omega) (hy.ext (x.trans x1)) fun s B2 x2 sv => ?_)
  have xx : Grw (2 * (j + 1)) B B2 := ((x.trans x1).trans x2).le (by omega)
  have ho := h1.ext x2
  have hne := org_ne x2.fine (hy.ext xx) ho sv
  have fin : ∀ R1 mS (ps0 : List (Nat × List Int)), Keep [] R R1 → R1[mS]? = some (.list (ps0.map locP)) → ps0.map (·.2) = raw o s → ListsAt (r.length + 1) R1 ps0 →
      wpL (.cons (.exp (.meth (.var 2) 0 (.cons (.tup (.cons (.bi .sorted (.cons (.comp (.bi .sorted (.cons (.var 7) .nil)) (.var 7) (.expr (.var 6)) .nil 1) .nil)) (.cons (.bin .Mult (.lst (.cons (.tup (.cons (.var 1) (.cons (.var 3) (.cons (.lit (.str (sx "wire"))) .nil)))) .nil)) (.bi .len (.cons (.var 6) .nil))) .nil))) .nil))) .nil) (mach e (d + 5)) [some (selfV n), some (natV t), some (.loc (r.length + 15)), some (natV j), some (natV o), some (natV s), some (.loc (mS + 15))] (mkS p B2 R1) (fun ρ σ => DueI p B r n t k.op (j + 1) ρ σ) T E := by
    intro R1 mS ps0 k1 hmS he hp
    refine due_end k1 hf (by omega) hmS he hp (Nat.le_trans hlR k1.1) (Nat.lt_succ_self _) ho.at'.1 hne fun R' k' c n' hf' hd' => ?_
    refine .mk R' B2 (des ++ [⟨c, n', j, o, s⟩]) _ _ _ _ (kk.trans k') xx hf' (by rw [List.length_append, hl]; rfl) fun i de hi => ?_
    by_cases q : i < des.length
    · rw [List.getElem?_append_left q] at hi
      exact ⟨(hd i de hi).1.ext (x1.trans x2), (hd i de hi).2.keep k' fun x m => List.mem_singleton.mp m ▸ Nat.lt_succ_self _⟩
    · rw [List.getElem?_append_right (Nat.le_of_not_lt q)] at hi
      have h1 := (List.getElem?_eq_some_iff.mp hi).1
      rw [List.length_singleton] at h1
      rw [show i - des.length = 0 by omega] at hi
      cases hi
      exact ⟨⟨(show j = i by omega), (show i = j by omega) ▸ ho, y, (show i = j by omega) ▸ hy.ext xx, sv⟩, hd'⟩
  by_cases hs : s = 0
  · subst hs
    refine cnd_yes rfl (EqP.mk (c := -(o : Int)) (by omega) ?_)
    refine fin (R ++ [O.list [.int (-(o : Int))]] ++ [O.list [.loc (R.length + 15)]]) (R ++ [O.list [.int (-(o : Int))]]).length [(R.length, [-(o : Int)])] (Keep.app.trans .app) new_at rfl ?_
    exact List.forall_mem_cons.mpr ⟨⟨hlR, app_at new_at⟩, fun _ m => nomatch m⟩
  · refine cnd_no (fun q => hs (Int.ofNat.inj q)) (EqP.mk (c := -(o : Int)) (by omega) (EqP.mk (c := -(s : Int)) (by omega) ?_))
    refine fin (R ++ [O.list [.int (-(o : Int)), natV s]] ++ [O.list [.int (-(s : Int)), natV o]] ++ [O.list [.loc (R.length + 15), .loc ((R ++ [O.list [.int (-(o : Int)), natV s]]).length + 15)]]) (R ++ [O.list [.int (-(o : Int)), natV s]] ++ [O.list [.int (-(s : Int)), natV o]]).length
      [(R.length, [-(o : Int), (s : Int)]), ((R ++ [O.list [.int (-(o : Int)), natV s]]).length, [-(s : Int), (o : Int)])] (Keep.app.trans (Keep.app.trans .app)) new_at ?_ ?_
    · unfold raw
      rw [beq_false_of_ne hs]
      rfl
    · exact List.forall_mem_cons.mpr ⟨⟨hlR, app_at (app_at new_at)⟩, List.forall_mem_cons.mpr ⟨⟨Nat.le_trans hlR (Keep.app (X := [])).1, app_at new_at⟩, fun _ m => nomatch m⟩⟩
theorem due_wp (d : Nat) {B : Bk} {r : List O} {n m most told t w : Nat} {rows : List V} {k : Key} {Q : QV} {E : QE} (hB : BR r n m most told rows) (F : Fine B) (hk : B.key t = some k) (hw : B.wid t = some w) (hwl : w ≤ 20) (hS : ∀ i, i < w → ∃ x, Org B t k.op i x) (hz : B.size + 200 < 8900)
    (q : ∀ (r' : List O) (des : List DE) (B' : Bk), Grw (2 * w) B B' → Keep [] r r' → r'[r.length]? = some (.list (des.map deV)) → des.length = w → (∀ i de, des[i]? = some de → DeOk B' t k.op i de ∧ DeAt (r.length + 1) r' t de) → Q (.loc (r.length + 15)) (mkS p B' r')) :
    WP (run (PPx e) (d + 6) 800 [selfV n, natV t] (mkS p B r)) Q E := by
  refine wp_fn (f := f__law_due) (ρ := [some (selfV n), some (natV t), none, none, none, none, none]) rfl rfl ?_
  refine OfP.mk (hB.app (g := [.list []])).g17 (wp_eq (width_is _ hw) (OfP.mk (wp_rng (by omega)) (wr_rng (n := w) (DueI p B r n t k.op) (.mk _ B [] _ _ _ _ .refl (Grw.refl F) new_at rfl fun i de h => nomatch h) ?_ ?_)))
  · intro j ρ σ hj h
    cases h with
    | mk R B' des a3 a4 a5 a6 kk x hf hl hd =>
      exact wf_turn (ρ' := [some (selfV n), some (natV t), some (.loc (r.length + 15)), some (natV j), a4, a5, a6]) rfl (due_turn d hB hk hw hj hwl hS hz kk x hf hl hd)
  · intro ρ σ h
    cases h with
    | mk R B' des a3 a4 a5 a6 kk x hf hl hd => exact q R des B' x (Keep.fresh .app kk) hf hl hd
end
end QZ
namespace QZ
open PySem
noncomputable def rawT (o s : Nat) : List (List Int) := cond (s == 0) [[-(o : Int)]] [[-(o : Int), (s : Int)], [(o : Int), -(s : Int)]]
noncomputable def wireR (t : Nat) (de : DE) : List V := (rawT de.o de.s).map (rowV t de.i (sx "wire"))
noncomputable def wires (t : Nat) (l : List DE) : List V := l.flatMap (wireR t)
theorem wires_cons (t : Nat) (de : DE) (l : List DE) : wires t (de :: l) = wireR t de ++ wires t l := List.flatMap_cons
theorem rawT_len (o s : Nat) : (rawT o s).length = (raw o s).length := by
  unfold rawT raw
  cases s == 0 <;> rfl
theorem tidy_two {a b : Int} (h1 : a ≠ -b) (h2 : a ≠ b) : tidy [] [a, b] = some [a, b] := by
  show tidy [a] [b] = some [a, b]
  show cond ((a == -b) || false) none (tidy (cond ((a == b) || false) [a] [a, b]) []) = some [a, b]
  rw [beq_false_of_ne h1, beq_false_of_ne h2]
  rfl
theorem tidied_raw {o s : Nat} (ho : 1 ≤ o) (hne : o ≠ s) : tidied (rawT o s) = rawT o s := by
  unfold rawT
  cases hs : s == 0 with
  | true => rfl
  | false =>
    have : s ≠ 0 := fun e => Bool.noConfusion (hs.symm.trans (beq_iff_eq.mpr e))
    show tidied [_, _] = [_, _]
    unfold tidied
    rw [List.filterMap_cons_some (tidy_two (by omega) (by omega)), List.filterMap_cons_some (tidy_two (by omega) (by omega))]
    rfl
section
variable {e : Addr → Option (List V)} {p : O × O × O} {B : Bk} {r : List O}
theorem wp_listT {σ : St} {l : List V} {Q : QV} {E : QE} (hl : l.length ≤ 10000) (q : Q (.loc σ.length) (σ ++ [O.list l])) : WP (callB .list [.tup l] σ) Q E :=
  wp_eq (show cond (decide (l.length ≤ 10000)) (Res.ok (V.loc σ.length) (σ ++ [O.list l])) .stuck = _ from if_dec hl) q
theorem same_wp (d : Nat) {a b : Nat} {σ : St} {Q : QV} {E : QE} (q : Q (.loc σ.length) (σ ++ [O.list [clauseV [-(a : Int), b], clauseV [(a : Int), -(b : Int)]]])) : WP (run (PPx e) (d + 1) 95 [natV a, natV b] σ) Q E :=
  wp_fn (f := f_same_clauses) (ρ := [some (natV a), some (natV b)]) rfl rfl q
inductive BitsI (p : O × O × O) (B : Bk) (r : List O) (des : List DE) (j : Nat) : List V → St → Prop
  | mk (B' : Bk) (x : Grw j B B') : BitsI p B r des j ((des.take j).map fun de => natV de.o) (mkS p B' r)
theorem bits_wp (d : Nat) {n m most told t w : Nat} {rows : List V} {op : Op} {des : List DE} {Q : QV} {E : QE} (hB : BR r n m most told rows) (F : Fine B) (hw : B.wid t = some w) (hwl : w ≤ 20) (hl : des.length = w) (hd : ∀ i de, des[i]? = some de → DeOk B t op i de) (hz : B.size + 200 < 8900)
    (q : ∀ B', Grw w B B' → Q (.loc (r.length + 15)) (mkS p B' (r ++ [.list (des.map fun de => natV de.o)]))) : WP (run (PPx e) (d + 4) 129 [selfV n, natV t] (mkS p B r)) Q E := by
  refine wp_fn (f := f_BitRows_bits_of) (ρ := [some (selfV n), some (natV t)]) rfl rfl (OfP.mk hB.g17 (wp_eq (width_is _ hw) (OfP.mk (wp_rng (by omega)) (wr_rng (n := w) (BitsI p B r des) (.mk B (Grw.refl F)) ?_ ?_))))
  · intro j acc σ hj h
    cases h with
    | mk B' x =>
      have hxz := x.sz
      have hj' : j < des.length := hl ▸ hj
      refine wt_turn (ρ' := [some (selfV n), some (natV t), some (natV j)]) rfl (.t (OfP.mk hB.g17 (bit_wp _ x.fine (by omega) (x.wid hw) hj fun v B2 x2 h2 => ⟨map_len (by rw [List.length_take]; omega), ?_⟩)))
      have hv := (((hd j _ (List.getElem?_eq_getElem hj')).ext (x.trans x2)).o).inj h2
      rw [← hv]
      have e' : (des.take j).map (fun de => natV de.o) ++ [natV (des[j]).o] = (des.take (j + 1)).map fun de => natV de.o := by
        rw [List.take_add_one, List.map_append, List.getElem?_eq_getElem hj']
        rfl
      rw [e']
      exact .mk B2 (x.trans x2)
  · intro acc σ h
    cases h with
    | mk B' x =>
      rw [List.take_of_length_le (Nat.le_of_eq hl)]
      exact q B' x
inductive WireI (p : O × O × O) (B : Bk) (r1 : List O) (n m t : Nat) (o a : V) (rows : List V) (des : List DE) (i : Nat) (l : List DE) : Rho → St → Prop
  | mk (r' : List O) (B' : Bk) (w : List V) (a4 a5 a6) (k : Keep [n, m] r1 r') (x : Grw i B B') (h : BR r' n m 200000 w.length w) (e : des.drop i = l) (ew : w ++ wires t l = rows ++ wires t des) (hl : w.length + 2 * l.length ≤ 8000) :
      WireI p B r1 n m t o a rows des i l [some (selfV n), some (natV t), some o, some a, a4, a5, a6] (mkS p B' r')
theorem wire_turn (d : Nat) {n m t i : Nat} {rows w : List V} {r1 r' : List O} {B' : Bk} {k : Key} {des l : List DE} {de : DE} {a : V} {a6 : Option V} {T : V → St → Prop} {E : Addr → Str → Rho → St → Prop} (hd : ∀ i de, des[i]? = some de → DeOk B t k.op i de) (hdl : des.length ≤ 20) (hz : B.size + 200 < 8900)
    (kk : Keep [n, m] r1 r') (x : Grw i B B') (h : BR r' n m 200000 w.length w) (e' : des.drop i = de :: l) (ew : w ++ wires t (de :: l) = rows ++ wires t des) (hl : w.length + 2 * (de :: l).length ≤ 8000) :
    wpL (.cons (.asg (.name 6) (.meth (.var 0) 49 (.cons (.var 1) (.cons (.var 2) (.cons (.var 4) .nil))))) (.cons (.ifs (.cmp (.var 6) (.cons .Eq (.lit (.int 0)) .nil)) (.cons (.exp (.meth (.var 0) 45 (.cons (.lst (.cons (.tup (.cons (.neg (.var 5)) .nil)) .nil)) (.cons (.var 1) (.cons (.var 4) (.cons (.lit (.str (sx "wire"))) .nil)))))) .nil) (.cons (.exp (.meth (.var 0) 45 (.cons (.call 95 (.cons (.var 5) (.cons (.var 6) .nil))) (.cons (.var 1) (.cons (.var 4) (.cons (.lit (.str (sx "wire"))) .nil)))))) .nil)) .nil)) (mach e (d + 5)) [some (selfV n), some (natV t), some (.str k.op.s), some a, some (natV i), some (natV de.o), a6] (mkS p B' r') (fun ρ σ => WireI p B r1 n m t (.str k.op.s) a rows des (i + 1) l ρ σ) T E := by
  have hi : des[i]? = some de := by
    have := congrArg (fun l : List DE => l[0]?) e'
    rw [List.getElem?_drop] at this
    exact this
  have e2 : des.drop (i + 1) = l := by
    rw [← List.drop_drop, e']
    rfl
  have hi' := (List.getElem?_eq_some_iff.mp hi).1
  obtain ⟨hix, hko, y, hy, hs⟩ := hd i de hi
  have hxz := x.sz
  rw [List.length_cons] at hl
  refine h.fr (fun _ => rfl) (source_wp (d + 1) h x.fine (by omega) (hy.ext x) fun v B2 x2 sv => ?_)
  cases (hs.ext (x.trans x2)).inj sv
  have ho := hko.at'.1
  have hne := org_ne x2.fine (hy.ext (x.trans x2)) (hko.ext (x.trans x2)) sv
  have fin : ∀ r2 kp (cs : List (List Int)), cs = rawT de.o de.s → Keep [] r' r2 → kp ≠ m → r2[kp]? = some (.list (cs.map clauseV)) → WP (run (PPx e) (d + 5) 157 [selfV n, .loc (kp + 15), natV t, natV i, .str (sx "wire")] (mkS p B2 r2)) (fun _ σ => WireI p B r1 n m t (.str k.op.s) a rows des (i + 1) l [some (selfV n), some (natV t), some (.str k.op.s), some a, some (natV i), some (natV de.o), some (natV de.s)] σ) (fun c m σ => E c m [some (selfV n), some (natV t), some (.str k.op.s), some a, some (natV i), some (natV de.o), some (natV de.s)] σ) := by
    intro r2 kp cs ecs k2 hkm hkp
    have h2 := h.keep k2 nin0 nin0
    have hlen : cs.length ≤ 2 := by rw [ecs, rawT_len]; exact raw_len _ _
    have htd : tidied cs = rawT de.o de.s := ecs ▸ tidied_raw ho hne
    refine put_wp (d + 3) (ms := Str.ofString "200000") h2 hkp hkm (by omega) ?_ (by omega) (by omega) (by decide +kernel) (fun r3 _ k3 b3 => ?_) fun r3 msg hx => ?_
    · rw [ecs]
      unfold rawT
      cases de.s == 0 <;> rfl
    · rw [htd] at b3
      refine .mk r3 B2 _ _ _ _ (kk.trans ((k2.mono fun _ m => nomatch m).trans k3)) (x.trans x2) b3 e2 ?_ ?_
      · rw [wires_cons, ← List.append_assoc] at ew
        rw [← hix]
        exact ew
      · rw [List.length_append, List.length_map, ← ecs]
        omega
    · rw [htd, ← ecs] at hx
      omega
  by_cases hs0 : de.s = 0
  · rw [hs0]
    refine cnd_yes rfl (h.fr (fun _ => rfl) ?_)
    rw [hs0] at fin
    exact fin (r' ++ [O.list [clauseV [-(de.o : Int)]]]) r'.length [[-(de.o : Int)]] rfl .app (Nat.ne_of_gt h.mlt) new_at
  · refine cnd_no (fun q => hs0 (Int.ofNat.inj q)) (h.fr (fun _ => rfl) (same_wp (e := e) (d + 4) ?_))
    refine fin (r' ++ [O.list [clauseV [-(de.o : Int), de.s], clauseV [(de.o : Int), -(de.s : Int)]]]) r'.length [[-(de.o : Int), de.s], [(de.o : Int), -(de.s : Int)]] ?_ .app (Nat.ne_of_gt h.mlt) new_at
    unfold rawT
    rw [beq_false_of_ne hs0]
    rfl
theorem wires_wp (d : Nat) {n m t w : Nat} {rows : List V} {k : Key} {des : List DE} {Q : QV} {E : QE} (hB : BR r n m 200000 rows.length rows) (F : Fine B) (hk : B.key t = some k) (hka : k.args.length ≤ 10) (hw : B.wid t = some w) (hwl : w ≤ 20) (hl : des.length = w) (hd : ∀ i de, des[i]? = some de → DeOk B t k.op i de) (hz : B.size + 300 < 8900) (hr : rows.length ≤ 7000)
    (q : ∀ r' B', Grw (2 * w) B B' → Keep [n, m] r r' → BR r' n m 200000 (rows ++ wires t des).length (rows ++ wires t des) → Q (.loc (r'.length + 15)) (mkS p B' (r' ++ [.list (k.args.map natV)]))) :
    WP (run (PPx e) (d + 6) 206 [selfV n, natV t, .str k.op.s] (mkS p B r)) Q E := by
  refine wp_fn (f := f_BitRows_open_wires) (ρ := [some (selfV n), some (natV t), some (.str k.op.s), none, none, none, none]) rfl rfl (OfP.mk hB.g17 (wp_eq (args_is _ hk) (hB.fr (fun _ => rfl) (bits_wp (d + 1) hB F hw hwl hl hd (by omega) fun B1 x1 => ?_))))
  have hz1 := x1.sz
  have hbl : r.length ∉ [n, m] := nin2 (Nat.ne_of_gt hB.nlt) (Nat.ne_of_gt hB.mlt)
  have hat : (r ++ [O.list (des.map fun de => natV de.o)])[r.length]? = some (.list (des.map fun de => natV de.o)) := new_at
  refine OfP.mk (wp_enm (show (mkS p B1 (r ++ [O.list (des.map fun de => natV de.o)]))[r.length + 15]? = _ from hat)) (wr_enlM (f := fun de : DE => natV de.o) (l := des) (WireI p B1 (r ++ [O.list (des.map fun de => natV de.o)]) n m t (.str k.op.s) (.tup (k.args.map natV)) rows des) (.mk _ B1 rows none none none .refl (Grw.refl x1.fine) hB.app rfl rfl (by omega)) ?_ ?_ ?_)
  · intro i l ρ σ h
    cases h with
    | mk r' B' w a4 a5 a6 kk x h e' ew hl => exact kk.2 hbl hat
  · intro i de l ρ σ hm h
    cases h with
    | mk r' B' w a4 a5 a6 kk x h e' ew hl' =>
      exact wf_turn (ρ' := [some (selfV n), some (natV t), some (.str k.op.s), some (.tup (k.args.map natV)), some (natV i), some (natV de.o), a6]) rfl (wire_turn d (fun i de q => (hd i de q).ext x1) (by omega) (by omega) kk x h e' ew hl')
  · intro ρ σ h
    cases h with
    | mk r' B' w a4 a5 a6 kk x h e' ew hl' =>
      have ew : w = _ := (List.append_nil _).symm.trans ew
      subst ew
      exact wp_listT (map_len (by omega)) (q r' B' ((x1.trans x).le (by omega)) (Keep.app.trans kk) h)
end
end QZ
namespace QZ
open PySem
noncomputable def words : List Str := [sx "bvadd", sx "bvnot", sx "rotate"]
theorem words_ne : (words.all fun wd => [Op.concat, Op.extract, Op.zext, Op.sext].all fun o => (PyData.strOk wd && PyData.strOk o.s) && !(wd == o.s)) = true := by decide +kernel
theorem words_ok : (words.all fun wd => decide (wd.length ≤ 1000)) = true := by decide +kernel
theorem word_ne {wd : Str} (hw : wd ∈ words) {o : Op} (ho : o ∈ [Op.concat, Op.extract, Op.zext, Op.sext]) {σ : St} : cmpop .Eq (.str wd) (.str o.s) σ = some false := by
  have q := Bool.and_eq_true_iff.mp (List.all_eq_true.mp (List.all_eq_true.mp words_ne wd hw) o ho)
  rw [str_eq q.1, (Bool.not_eq_true' _).mp q.2]
section
variable {e : Addr → Option (List V)} {p : O × O × O} {B : Bk} {r : List O}
theorem refuse_wp (d : Nat) {n m most told t a wa : Nat} {rows : List V} {k : Key} {as : List Nat} {wd : Str} {Q : QV} {E : QE} (hB : BR r n m most told rows) (hk : B.key t = some k) (ha : k.args = a :: as) (hw : B.wid a = some wa) (hwd : wd ∈ words) (x : ∀ s, E 67 s (mkS p B r)) :
    WP (run (PPx e) (d + 2) 213 [selfV n, natV t, .str wd, .int 0] (mkS p B r)) Q E := by
  have hat : (k.args.map natV)[0]? = some (natV a) := by rw [ha]; rfl
  have hl : wd.length ≤ 1000 := of_decide_eq_true (List.all_eq_true.mp words_ok wd hwd)
  refine wp_fn (f := f_BitRows_source_of) (ρ := [some (selfV n), some (natV t), some (.str wd), some (.int 0), none, none, none]) rfl rfl (OfP.mk hB.g17 (wp_eq (args_is _ hk) ?_))
  refine OfP.mk (word_ne hwd (o := .concat) (by decide)) (cnd_f rfl (OfP.mk (word_ne hwd (o := .extract) (by decide)) (cnd_f rfl ?_)))
  refine OfP.mk hB.g17 (OfP.mk (it_tup (i := 0) hat (by decide)) (wp_eq (width_is _ hw) ?_))
  refine OfP.mk (word_ne hwd (o := .zext) (by decide)) (cnd_f rfl (OfP.mk (word_ne hwd (o := .sext) (by decide)) (cnd_f rfl ?_)))
  exact OfP.mk (show strOf (.str wd) = some wd from if_pos hl) (OfP.mk rfl (x _))
theorem refused_wp (d : Nat) {n m most told t a wa : Nat} {rows : List V} {k : Key} {as : List Nat} {wd : Str} {Q : QV} {E : QE} (hB : BR r n m most told rows) (hk : B.key t = some k) (ha : k.args = a :: as) (hw : B.wid a = some wa) (hwd : wd ∈ words) (q : Q (.bool true) (mkS p B r)) :
    WP (run (PPx e) (d + 3) 807 [selfV n, natV t, .str wd] (mkS p B r)) Q E :=
  wp_fn (f := f__law_is_refused) (ρ := [some (selfV n), some (natV t), some (.str wd)]) rfl rfl (hB.fr (fun _ => rfl) (refuse_wp d hB hk ha hw hwd fun s => ⟨rfl, q⟩))
noncomputable def deckP (o : O) (cs : List Nat) (k : Nat) : O × O × O := (o, .list (cs.map natV), .dict .s [(.str (sx "given"), .loc 1), (.str (sx "many"), natV k)])
theorem deck_many {o : O} {cs : List Nat} {k : Nat} : getItem (.loc 2) (.str (sx "many")) (mkS (deckP o cs k) B r) = some (natV k) := g_dict (k := .s) (l := [(.str (sx "given"), .loc 1), (.str (sx "many"), natV k)]) rfl rfl (by kernel_rfl)
theorem deck_given {o : O} {cs : List Nat} {k : Nat} : getItem (.loc 2) (.str (sx "given")) (mkS (deckP o cs k) B r) = some (.loc 1) := g_dict (k := .s) (l := [(.str (sx "given"), .loc 1), (.str (sx "many"), natV k)]) rfl rfl (by kernel_rfl)
theorem deck_put {o : O} {cs : List Nat} {k : Nat} : setItem (.loc 2) (.str (sx "many")) (natV (k + 1)) (mkS (deckP o cs k) B r) = some (mkS (deckP o cs (k + 1)) B r) := by
  refine (s_dict (k := .s) (l := [(.str (sx "given"), .loc 1), (.str (sx "many"), natV k)]) rfl rfl (Nat.le_of_ble_eq_true rfl)).trans ?_
  rw [show putD (.str (sx "many")) (natV (k + 1)) [(.str (sx "given"), .loc 1), (.str (sx "many"), natV k)] = [(.str (sx "given"), .loc 1), (.str (sx "many"), natV (k + 1))] by kernel_rfl]
  rfl
theorem mul_nat {a b : Nat} {σ : St} (ha : a < 2 ^ 60) (hb : b < 2 ^ 60) : binop .Mult (natV a) (natV b) σ = .ok (natV (a * b)) σ := if_dec (show (a : Int).natAbs < 2 ^ 60 ∧ (b : Int).natAbs < 2 ^ 60 from ⟨ha, hb⟩)
theorem sq_nat {a : Nat} {σ : St} (ha : a < 2 ^ 60) : binop .Pow (natV a) (natV 2) σ = .ok (natV (a ^ 2)) σ :=
  (if_dec (show 0 ≤ (2 : Int) ∧ (2 : Int) ≤ 1000 ∧ (a : Int).natAbs < 2 ^ 60 from ⟨by decide, by decide, ha⟩)).trans (congrArg (fun i => Res.ok (V.int i) σ) (Int.natCast_pow a 2).symm)
theorem div_nat {n m : Nat} {σ : St} (h : m ≠ 0) (k : m < 2 ^ 30) : binop .FloorDiv (natV n) (natV m) σ = .ok (natV (n / m)) σ :=
  (if_dec (show (m : Int) ≠ 0 ∧ (m : Int).natAbs < 2 ^ 30 from ⟨fun e => h (Int.ofNat.inj e), k⟩)).trans (congrArg (fun i => Res.ok (V.int i) σ) (nat_fdiv n m))
theorem dealt_wp (d : Nat) {o : O} {cs : List Nat} {k many : Nat} {Q : QV} {E : QE} (hc : cs.length ≤ 100) (hk : k < 1000) (hm : 0 < many) (q : ∀ v, v < many → Q (natV v) (mkS (deckP o cs (k + 1)) B r)) :
    WP (run (PPx e) (d + 1) 776 [.loc 2, natV many] (mkS (deckP o cs k) B r)) Q E := by
  have hm0 : many ≠ 0 := Nat.ne_of_gt hm
  refine wp_fn (f := f__law_dealt) (ρ := [some (.loc 2), some (natV many)]) rfl rfl (OfP.mk deck_many (OfP.mk (a := natV (k + 1)) rfl (OfP.mk deck_put ?_)))
  refine OfP.mk deck_many (OfP.mk deck_given (wp_len (σ := mkS (deckP o cs (k + 1)) B r) (n := 1) (l := cs.map natV) rfl (map_len (by omega)) ?_))
  by_cases h : k < cs.length
  · refine cnd_yes (by rw [List.length_map]; omega) (OfP.mk deck_given (OfP.mk deck_many (EqP.mk (c := (k : Int)) (by omega) ?_)))
    refine OfP.mk (g_list (σ := mkS (deckP o cs (k + 1)) B r) (l := cs.map natV) (v := natV cs[k]) rfl (by rw [List.getElem?_map, List.getElem?_eq_getElem h]; rfl) (by omega)) ?_
    exact wp_eq (mod_nat hm0) (q _ (Nat.mod_lt _ hm))
  · refine cnd_no (by rw [List.length_map]; omega) (OfP.mk deck_many (wp_eq (mul_nat (a := 3) (b := k + 1) (by decide) (by omega)) (OfP.mk deck_many (wp_eq (sq_nat (a := k + 1) (by omega)) (wp_eq (div_nat (m := 5) (by decide) (by decide)) ?_)))))
    exact wp_eq (mod_nat (n := 3 * (k + 1) + (k + 1) ^ 2 / 5 + 2) (m := 41) (by decide)) (wp_eq (mod_nat hm0) (q _ (Nat.mod_lt _ hm)))
end
end QZ
namespace QZ
open PySem
theorem End.le {B : Bk} {n m t i : Nat} {x : Option (Nat × Nat)} (h : End B n t i x) (k : n ≤ m) : End B m t i x := by
  induction h generalizing m with
  | leaf h o => exact .leaf h o
  | no h => cases m with
    | zero => cases k
    | succ m => exact .no h
  | go h _ ih => cases m with
    | zero => cases k
    | succ m => exact .go h (ih (Nat.le_of_succ_le_succ k))
structure Mk (B : Bk) (n t : Nat) (ms : List (Option (Nat × Nat))) : Prop where
  wid : B.wid t = some ms.length
  e : ∀ i x, ms[i]? = some x → End B n t i x
theorem Mk.ext {B B' : Bk} {m n t : Nat} {ms : List (Option (Nat × Nat))} (h : Mk B n t ms) (x : Grw m B B') : Mk B' n t ms := ⟨x.wid h.wid, fun i y q => (h.e i y q).ext x⟩
theorem Mk.up {B : Bk} {m n t : Nat} {ms : List (Option (Nat × Nat))} (h : Mk B n t ms) (x : n ≤ m) : Mk B m t ms := ⟨h.wid, fun i y q => (h.e i y q).le x⟩
theorem Mk.org {B : Bk} {n t i : Nat} {k : Key} {ms : List (Option (Nat × Nat))} (h : Mk B n t ms) (hk : B.key t = some k) (ho : k.op.wire = true) (hi : i < ms.length) : ∃ x, Org B t k.op i x := by
  have h' := h.e i _ (List.getElem?_eq_getElem hi)
  generalize ms[i] = x at h'
  cases h' with
  | leaf h o =>
    cases hk.symm.trans h
    exact Bool.noConfusion (ho.symm.trans o)
  | no h =>
    obtain ⟨k', h1, rfl, h3⟩ := h.key
    cases hk.symm.trans h1
    exact ⟨_, h⟩
  | go h =>
    obtain ⟨k', h1, rfl, h3⟩ := h.key
    cases hk.symm.trans h1
    exact ⟨_, h⟩
noncomputable def leafs (t w : Nat) : List (Option (Nat × Nat)) := (List.range w).map fun i => some (t, i)
theorem leafs_len {t w : Nat} : (leafs t w).length = w := (List.length_map ..).trans List.length_range
theorem leaf_mk {B : Bk} {t w : Nat} {k : Key} (hk : B.key t = some k) (ho : k.op.wire = false) (hw : B.wid t = some w) : Mk B 0 t (leafs t w) := by
  refine ⟨leafs_len.symm ▸ hw, fun i x h => ?_⟩
  unfold leafs at h
  rw [List.getElem?_map] at h
  obtain ⟨j, h1, rfl⟩ := Option.map_eq_some_iff.mp h
  have hj := (List.getElem?_eq_some_iff.mp h1).1
  rw [List.length_range] at hj
  rw [List.getElem?_range hj] at h1
  cases h1
  exact .leaf hk ho
section
variable {B : Bk} {n t : Nat} {ma mb : List (Option (Nat × Nat))}
theorem mk_cat {a b s : Nat} (ha : Mk B n a ma) (hb : Mk B n b mb) (hk : B.key t = some ⟨.concat, [a, b], s, .i 0⟩) (hw : B.wid t = some (ma.length + mb.length)) : Mk B (n + 1) t (mb ++ ma) := by
  refine ⟨by rw [hw, List.length_append, Nat.add_comm], fun i x h => ?_⟩
  by_cases q : i < mb.length
  · rw [List.getElem?_append_left q] at h
    exact .go (.lo hk hb.wid q) (hb.e i x h)
  · rw [List.getElem?_append_right (Nat.le_of_not_lt q)] at h
    exact .go (.hi hk hb.wid ha.wid (by omega) (List.getElem?_eq_some_iff.mp h).1) (ha.e _ x h)
theorem mk_cut {a s h l : Nat} (ha : Mk B n a ma) (hk : B.key t = some ⟨.extract, [a], s, .p h l⟩) (hw : B.wid t = some (h - l + 1)) (h1 : l ≤ h) (h2 : h < ma.length) : Mk B (n + 1) t ((ma.take (h + 1)).drop l) := by
  refine ⟨by rw [hw, List.length_drop, List.length_take]; exact congrArg some (by omega), fun i x q => ?_⟩
  rw [List.getElem?_drop, List.getElem?_take] at q
  obtain ⟨q1, q2⟩ := ite_some q
  rw [Nat.add_comm] at q2
  exact .go (.cut hk ha.wid (by omega)) (ha.e _ x q2)
theorem mk_z {a s many : Nat} {m : Dt} (ha : Mk B n a ma) (hk : B.key t = some ⟨.zext, [a], s, m⟩) (hw : B.wid t = some (ma.length + many)) : Mk B (n + 1) t (ma ++ List.replicate many none) := by
  refine ⟨by rw [hw, List.length_append, List.length_replicate], fun i x h => ?_⟩
  by_cases q : i < ma.length
  · rw [List.getElem?_append_left q] at h
    exact .go (.z0 hk ha.wid q) (ha.e i x h)
  · rw [List.getElem?_append_right (Nat.le_of_not_lt q), List.getElem?_replicate] at h
    cases (ite_some h).2
    exact .no (.z1 hk ha.wid q)
theorem mk_s {a s many : Nat} {m : Dt} {y : Option (Nat × Nat)} {l : List (Option (Nat × Nat))} (ha : Mk B n a ma) (hk : B.key t = some ⟨.sext, [a], s, m⟩) (hw : B.wid t = some (ma.length + many)) (hl : ma = l ++ [y]) : Mk B (n + 1) t (ma ++ List.replicate many y) := by
  subst hl
  have hla : (l ++ [y]).length = l.length + 1 := List.length_append
  have hwa := ha.wid
  rw [hla] at hwa
  refine ⟨hw.trans (congrArg some (by rw [List.length_append (as := l ++ [y]), List.length_replicate])), fun i x h => .go (.sg hk hwa) (ha.e _ x ?_)⟩
  by_cases q : i < (l ++ [y]).length
  · rw [List.getElem?_append_left q] at h
    rw [Nat.min_eq_left (by omega)]
    exact h
  · rw [List.getElem?_append_right (Nat.le_of_not_lt q), List.getElem?_replicate] at h
    cases (ite_some h).2
    rw [Nat.min_eq_right (by omega), List.getElem?_append_right (Nat.le_refl _), Nat.sub_self]
    rfl
end
section
variable {e : Addr → Option (List V)} {p : O × O × O} {B : Bk} {r : List O}
theorem Grw.low {t w : Nat} {B' : Bk} (x : B'.K = B.K) (h : B.wid t = some w) : t ≤ B'.K.length := x.symm ▸ wid_le h
theorem concat_wp (d : Nat) {a b wa wb : Nat} {Q : QV} {E : QE} (F : Fine B) (hz : B.size < 8900) (ha : B.wid a = some wa) (hb : B.wid b = some wb) (h1 : 1 ≤ wa) (h2 : 1 ≤ wb) (h3 : wa + wb < 100)
    (q : ∀ v s B', Grw 3 B B' → B'.key v = some ⟨.concat, [a, b], s, .i 0⟩ → B'.wid v = some (wa + wb) → Q (natV v) (mkS p B' r)) : WP (run (PPx e) (d + 3) 715 [bankV, natV a, natV b] (mkS p B r)) Q E := by
  refine wp_fn (f := f_TermBank_concat) (ρ := [some bankV, some (natV a), some (natV b)]) rfl rfl (wp_eq (want_bits_is _ ha h1) (wp_eq (want_bits_is _ hb h2) ?_))
  refine wp_eq (width_is _ ha) (wp_eq (width_is _ hb) (srt_wp (d + 1) (w := wa + wb) F (by omega) (by omega) h3 fun s B1 x1 hs hl hK => ?_))
  have hx := x1.sz
  refine term_wp (d + 1) (k := fun s => ⟨.concat, [a, b], s, .i 0⟩) x1.fine (by omega) hs hl (fun c m => ?_) rfl rfl rfl rfl fun v B' x hk hw => q v s B' (x1.trans x) hk hw
  rcases List.mem_cons.mp m with rfl | m
  · exact Grw.low hK ha
  · exact List.mem_singleton.mp m ▸ Grw.low hK hb
theorem extract_wp (d : Nat) {h l a wa : Nat} {Q : QV} {E : QE} (F : Fine B) (hz : B.size < 8900) (ha : B.wid a = some wa) (h1 : l ≤ h) (h2 : h < wa) (h3 : wa < 100)
    (q : ∀ v s B', Grw 3 B B' → B'.key v = some ⟨.extract, [a], s, .p h l⟩ → B'.wid v = some (h - l + 1) → Q (natV v) (mkS p B' r)) : WP (run (PPx e) (d + 3) 722 [bankV, natV h, natV l, natV a] (mkS p B r)) Q E := by
  refine wp_fn (f := f_TermBank_extract) (ρ := [some bankV, some (natV h), some (natV l), some (natV a)]) rfl rfl (wp_eq (want_bits_is _ ha (by omega)) ?_)
  refine cnd_one (Int.natCast_nonneg _) (cnd_one (Int.ofNat_le.mpr h1) (wp_eq (width_is _ ha) (cnd_nno (Int.ofNat_lt.mpr h2) ?_)))
  refine EqP.mk (c := ((h - l : Nat) : Int)) (by omega) (srt_wp (d + 1) (w := h - l + 1) F (by omega) (by omega) (by omega) fun s B1 x1 hs hl hK => ?_)
  have hx := x1.sz
  exact term_wp (d + 1) (k := fun s => ⟨.extract, [a], s, .p h l⟩) x1.fine (by omega) hs hl (fun c m => List.mem_singleton.mp m ▸ Grw.low hK ha) rfl rfl rfl rfl fun v B' x hk hw => q v s B' (x1.trans x) hk hw
theorem zext_wp (d : Nat) {many a wa : Nat} {Q : QV} {E : QE} (F : Fine B) (hz : B.size < 8900) (ha : B.wid a = some wa) (h1 : 1 ≤ wa) (h2 : 1 ≤ many) (h3 : wa + many < 100)
    (q : ∀ v s B', Grw 3 B B' → B'.key v = some ⟨.zext, [a], s, .i many⟩ → B'.wid v = some (wa + many) → Q (natV v) (mkS p B' r)) : WP (run (PPx e) (d + 3) 729 [bankV, natV many, natV a] (mkS p B r)) Q E := by
  refine wp_fn (f := f_TermBank_zero_extend) (ρ := [some bankV, some (natV many), some (natV a)]) rfl rfl (wp_eq (want_bits_is _ ha h1) (cnd_no (by omega) (cnd_no (by omega) ?_)))
  refine wp_eq (width_is _ ha) (srt_wp (d + 1) (w := wa + many) F (by omega) (by omega) h3 fun s B1 x1 hs hl hK => ?_)
  have hx := x1.sz
  exact term_wp (d + 1) (k := fun s => ⟨.zext, [a], s, .i many⟩) x1.fine (by omega) hs hl (fun c m => List.mem_singleton.mp m ▸ Grw.low hK ha) rfl rfl rfl rfl fun v B' x hk hw => q v s B' (x1.trans x) hk hw
theorem sext_wp (d : Nat) {many a wa : Nat} {Q : QV} {E : QE} (F : Fine B) (hz : B.size < 8900) (ha : B.wid a = some wa) (h1 : 1 ≤ wa) (h2 : 1 ≤ many) (h3 : wa + many < 100)
    (q : ∀ v s B', Grw 3 B B' → B'.key v = some ⟨.sext, [a], s, .i many⟩ → B'.wid v = some (wa + many) → Q (natV v) (mkS p B' r)) : WP (run (PPx e) (d + 3) 736 [bankV, natV many, natV a] (mkS p B r)) Q E := by
  refine wp_fn (f := f_TermBank_sign_extend) (ρ := [some bankV, some (natV many), some (natV a)]) rfl rfl (wp_eq (want_bits_is _ ha h1) (cnd_no (by omega) (cnd_no (by omega) ?_)))
  refine wp_eq (width_is _ ha) (srt_wp (d + 1) (w := wa + many) F (by omega) (by omega) h3 fun s B1 x1 hs hl hK => ?_)
  have hx := x1.sz
  exact term_wp (d + 1) (k := fun s => ⟨.sext, [a], s, .i many⟩) x1.fine (by omega) hs hl (fun c m => List.mem_singleton.mp m ▸ Grw.low hK ha) rfl rfl rfl rfl fun v B' x hk hw => q v s B' (x1.trans x) hk hw
theorem num_wp (d : Nat) {n w : Nat} {Q : QV} {E : QE} (F : Fine B) (hz : B.size < 8900) (h1 : 1 ≤ w) (h2 : w < 100)
    (q : ∀ v k B', Grw 3 B B' → B'.key v = some k → k.op.wire = false → B'.wid v = some w → Q (natV v) (mkS p B' r)) : WP (run (PPx e) (d + 2) 694 [bankV, natV n, natV w] (mkS p B r)) Q E := by
  refine wp_fn (f := f_TermBank_bv_num) (ρ := [some bankV, some (natV n), some (natV w), none]) rfl rfl (srt_wp d F (by omega) h1 h2 fun s B1 x1 hs hl hK => ?_)
  have hx := x1.sz
  refine wp_eq (shl_nat (by omega)) (wp_eq (mod_nat (Nat.ne_of_gt (Nat.two_pow_pos w))) ?_)
  exact term_wp d (k := fun s => ⟨.bvnum, [], s, .i ((n % 2 ^ w : Nat) : Int)⟩) x1.fine (by omega) hs hl (fun c m => nomatch m) rfl rfl rfl rfl fun v B' x hk hw => q v _ B' (x1.trans x) hk rfl hw
theorem fresh_wp (d : Nat) {name : Str} {s w : Nat} {Q : QV} {E : QE} (F : Fine B) (hz : B.size < 8900) (hs : B.sw[s]? = some w) (hl : s < 10000)
    (q : ∀ v k B', Grw 4 B B' → B'.key v = some k → k.op.wire = false → B'.wid v = some w → Q (natV v) (mkS p B' r)) : WP (run (PPx e) (d + 2) 311 [bankV, .str name, natV s] (mkS p B r)) Q E := by
  have hz' := hz
  unfold Bk.size at hz'
  refine wp_fn (f := f_Bank_fresh_const) (ρ := [some bankV, some (.str name), some (natV s)]) rfl rfl ?_
  refine wp_fn (e := e) (d := d) (a := 297) (args := [bankV, .str name, .tup [], natV s]) (f := f_Bank_declare_fun) (ρ := [some bankV, some (.str name), some (.tup []), some (natV s)]) rfl rfl ?_
  refine mb_append (l := B.fn) rfl (by omega) (wp_eq (v := .tup []) rfl (mb_append (l := B.fa) rfl (by omega) (mb_append (l := B.fr) rfl (by omega) (wp_len (l := B.fn ++ [.str name]) rfl (by rw [List.length_append, List.length_singleton]; omega) ?_))))
  have x1 : Grw 3 B { B with fn := B.fn ++ [.str name], fa := B.fa ++ [.tup []], fr := B.fr ++ [natV s] } := by
    refine ⟨⟨F.sn, F.bv, F.ac⟩, ?_, ⟨[], (List.append_nil _).symm⟩, ⟨[], (List.append_nil _).symm⟩⟩
    show B.K.length + (B.sn.length + (B.bv.length + ((B.fn ++ [V.str name]).length + ((B.fa ++ [V.tup []]).length + (B.fr ++ [natV s]).length)))) ≤ B.K.length + (B.sn.length + (B.bv.length + (B.fn.length + (B.fa.length + B.fr.length)))) + 3
    rw [List.length_append, List.length_append, List.length_append, List.length_singleton, List.length_singleton, List.length_singleton]
    omega
  have hx := x1.sz
  exact EqP.mk sub1 (term_wp (B := { B with fn := B.fn ++ [.str name], fa := B.fa ++ [.tup []], fr := B.fr ++ [natV s] }) d (k := fun s => ⟨.app, [], s, .i B.fn.length⟩) x1.fine (by omega) hs hl (fun c m => nomatch m) rfl rfl rfl rfl fun v B' x hk hw => q v _ B' (x1.trans x) hk rfl hw)
end
end QZ
namespace QZ
open PySem
noncomputable def LeafT (B : Bk) (t : Nat) : Prop := ∃ k w, B.key t = some k ∧ k.op.wire = false ∧ B.wid t = some w ∧ 1 ≤ w ∧ w ≤ 3
theorem LeafT.ext {B B' : Bk} {n t : Nat} (h : LeafT B t) (x : Grw n B B') : LeafT B' t := by
  obtain ⟨k, w, h1, h2, h3, h4⟩ := h
  exact ⟨k, w, x.key h1, h2, x.wid h3, h4⟩
theorem leafs_succ {t w : Nat} : (leafs t w).map markV ++ [.tup [natV t, natV w]] = (leafs t (w + 1)).map markV := by
  unfold leafs
  rw [List.range_succ, List.map_append, List.map_append]
  rfl
section
variable {e : Addr → Option (List V)} {p : O × O × O} {B : Bk} {r : List O}
inductive LeafI (p : O × O × O) (B : Bk) (r : List O) (t j : Nat) : List V → St → Prop
  | mk : LeafI p B r t j ((leafs t j).map markV) (mkS p B r)
theorem leaf_loop {M : Mach} {a0 a1 a2 a3 : Option V} {t w : Nat} {N : List V → St → Prop} {T : V → St → Prop} {E : Addr → Str → List V → St → Prop} (hw : w ≤ 100) (h : N ((leafs t w).map markV) (mkS p B r)) :
    WR (loop (.rng 0 w) (turn M (.tup (.cons (.var 4) (.cons (.var 5) .nil))) (.var 5) .nil [a0, a1, a2, a3, some (natV t)] 1) [] (mkS p B r)) N T E := by
  refine wr_rng (n := w) (LeafI p B r t) .mk ?_ ?_
  · intro j acc σ hj h
    cases h
    exact wt_turn (ρ' := [a0, a1, a2, a3, some (natV t), some (natV j)]) rfl (.t ⟨map_len (by rw [leafs_len]; omega), leafs_succ.symm ▸ .mk⟩)
  · intro acc σ h'
    cases h'
    exact h
theorem leaf_wp (d : Nat) {o : O} {cs : List Nat} {k nl : Nat} {ts : List Nat} {Q : QV} {E : QE} (F : Fine B) (hz : B.size < 8900) (hc : cs.length ≤ 100) (hk : k < 900) (hn : r[nl]? = some (.list (ts.map natV))) (ht : ts.length = 2) (hts : ∀ t ∈ ts, LeafT B t)
    (q : ∀ t w k' B', 1 ≤ w → w ≤ 3 → Mk B' 0 t (leafs t w) → Grw 8 B B' → k' ≤ k + 2 → Q (.tup [natV t, .loc (r.length + 15)]) (mkS (deckP o cs k') B' (r ++ [O.list ((leafs t w).map markV)]))) :
    WP (run (PPx e) (d + 3) 781 [.loc 2, bankV, .loc (nl + 15)] (mkS (deckP o cs k) B r)) Q E := by
  refine wp_fn (f := f__law_leaf) (ρ := [some (.loc 2), some bankV, some (.loc (nl + 15)), none, none]) rfl rfl (dealt_wp (many := 3) (d + 1) hc (by omega) (by decide) fun v hv => ?_)
  by_cases h : v < 2
  · have hvl : v < ts.length := ht ▸ h
    obtain ⟨key, w, h1, h2, h3, h4, h5⟩ := hts _ (List.getElem_mem hvl)
    refine cnd_yes (by omega) (OfP.mk (g_list (v := natV ts[v]) (show (mkS (deckP o cs (k + 1)) B r)[nl + 15]? = _ from hn) (by rw [List.getElem?_map, List.getElem?_eq_getElem hvl]; rfl) (by omega)) (wp_eq (width_is _ h3) ?_))
    exact OfP.mk (wp_rng (n := w) (by omega)) (leaf_loop (by omega) (q _ w (k + 1) B h4 h5 (leaf_mk h1 h2 h3) ((Grw.refl F).le (Nat.zero_le _)) (by omega)))
  · refine cnd_no (by omega) (dealt_wp (many := 8) (d + 1) hc (by omega) (by decide) fun u hu => ?_)
    refine num_wp (n := u) (w := 3) d F hz (by decide) (by decide) fun t key B' x h1 h2 h3 => ?_
    exact OfP.mk (wp_rng (n := 3) (by decide)) (leaf_loop (w := 3) (by decide) (q t 3 (k + 2) B' (by decide) (by decide) (leaf_mk h1 h2 h3) (x.le (by decide)) (Nat.le_refl _)))
theorem add_locs {σ : St} {a b : Nat} {l k : List V} (h1 : σ[a]? = some (.list l)) (h2 : σ[b]? = some (.list k)) (hl : l.length + k.length ≤ 10000) : binop .Add (.loc a) (.loc b) σ = .ok (.loc σ.length) (σ ++ [O.list (l ++ k)]) :=
  (congrArg (fun o : Option O => ofO (o.bind lst?) fun l => ofO (listIn σ (.loc b)) fun m => cond (decide (l.length + m.length ≤ 10000)) (Res.ok (V.loc σ.length) (σ ++ [O.list (l ++ m)])) .stuck) h1).trans
    ((congrArg (fun o : Option O => ofO (o.bind lst?) fun m => cond (decide (l.length + m.length ≤ 10000)) (Res.ok (V.loc σ.length) (σ ++ [O.list (l ++ m)])) .stuck) h2).trans (if_dec hl))
theorem slice_is {ext : Addr → Option (List V)} {σ : St} {n a b : Nat} {l : List V} {lo hi : V} (h : σ[n]? = some (.list l)) (hl : l.length ≤ 10000) (ha : cut1 l.length 0 lo = some a) (hb : cut1 l.length l.length hi = some b) :
    slice ext (.loc n) lo hi σ = .ok (.loc σ.length) (σ ++ [O.list ((l.take b).drop a)]) :=
  (congrArg (fun o : Option O => ofO (o.bind lst?) fun l => ofO (cut1 l.length 0 lo) fun a => ofO (cut1 l.length l.length hi) fun b => cond (decide (l.length ≤ 10000)) (Res.ok (V.loc σ.length) (σ ++ [O.list ((l.take b).drop a)])) .stuck) h).trans
    ((congrArg (fun o : Option Nat => ofO o fun a => ofO (cut1 l.length l.length hi) fun b => cond (decide (l.length ≤ 10000)) (Res.ok (V.loc σ.length) (σ ++ [O.list ((l.take b).drop a)])) .stuck) ha).trans
      ((congrArg (fun o : Option Nat => ofO o fun b => cond (decide (l.length ≤ 10000)) (Res.ok (V.loc σ.length) (σ ++ [O.list ((l.take b).drop a)])) .stuck) hb).trans (if_dec hl)))
theorem clip_nat {n a : Nat} : clipAt n (a : Int) = min a n := by
  unfold clipAt
  rw [if_neg (by omega)]
  omega
theorem clip_last {n : Nat} : clipAt n (-1) = n - 1 := by
  unfold clipAt
  rw [if_pos (by decide)]
  omega
theorem cut_nat {n d a : Nat} (h : a ≤ n) : cut1 n d (natV a) = some a := congrArg some (clip_nat.trans (Nat.min_eq_left h))
theorem wp_lenM {σ : St} {n : Nat} {α : Type} {f : α → V} {l : List α} {Q : QV} {E : QE} (h : σ[n]? = some (.list (l.map f))) (hl : l.length ≤ 10000) (q : Q (natV l.length) σ) : WP (callB .len [.loc n] σ) Q E :=
  wp_len h (map_len hl) ((congrArg (fun n => Q (natV n) σ) (List.length_map f)).mpr q)
structure Joined (B : Bk) (t : Nat) : Prop where
  k : ∃ k a as wa, B.key t = some k ∧ k.args = a :: as ∧ k.args.length ≤ 10 ∧ B.wid a = some wa ∧ k.op.wire = true
theorem wired_wp (d : Nat) {o : O} {cs : List Nat} {k nl n t ml : Nat} {ts : List Nat} {ms : List (Option (Nat × Nat))} {Q : QV} {E : QE} (F : Fine B) (hz : B.size < 8800) (hc : cs.length ≤ 100) (hk : k < 800) (hn : r[nl]? = some (.list (ts.map natV))) (ht : ts.length = 2) (hts : ∀ t ∈ ts, LeafT B t)
    (hM : Mk B n t ms) (hms : r[ml]? = some (.list (ms.map markV))) (hm1 : 1 ≤ ms.length) (hm2 : ms.length ≤ 80)
    (q : ∀ t' ms' k' B' r' ml', Mk B' (n + 1) t' ms' → Joined B' t' → Grw 20 B B' → k' ≤ k + 5 → Keep [] r r' → r.length ≤ ml' → r'[ml']? = some (.list (ms'.map markV)) → 1 ≤ ms'.length → ms'.length ≤ ms.length + 3 → Q (.tup [natV t', .loc (ml' + 15)]) (mkS (deckP o cs k') B' r')) :
    WP (run (PPx e) (d + 4) 788 [.loc 2, bankV, .loc (nl + 15), .tup [natV t, .loc (ml + 15)]] (mkS (deckP o cs k) B r)) Q E := by
  have hml : (ms.map markV).length ≤ 80 := map_len hm2
  refine wp_fn (f := f__law_wired) (ρ := [some (.loc 2), some bankV, some (.loc (nl + 15)), some (.tup [natV t, .loc (ml + 15)]), none, none, none, none, none, none, none, none]) rfl rfl (dealt_wp (many := 4) (d + 2) hc (by omega) (by decide) fun way hway => ?_)
  by_cases h0 : way = 0
  · subst h0
    refine cnd_yes rfl (leaf_wp (d + 0) F (by omega) hc (by omega) hn ht hts fun u w k' B1 hw1 hw2 hL x1 hk' => ?_)
    have hx := x1.sz
    have hlm := leafs_len (t := u) (w := w)
    have e1 : (mkS (deckP o cs (k' + 1)) B1 (r ++ [O.list ((leafs u w).map markV)])).length = (r ++ [O.list ((leafs u w).map markV)]).length + 15 := rfl
    refine dealt_wp (many := 2) (d + 2) hc (by omega) (by decide) fun b hb => ?_
    have hM1 := hM.ext x1
    by_cases hb0 : b = 0
    · subst hb0
      refine cnd_yes rfl (concat_wp d x1.fine (by omega) hM1.wid hL.wid hm1 (by omega) (by omega) fun v s B2 x2 hk hw => ?_)
      refine wp_eq (add_locs (σ := mkS (deckP o cs (k' + 1)) B2 (r ++ [O.list ((leafs u w).map markV)])) (a := r.length + 15) (b := ml + 15) new_at (app_at hms) (by rw [List.length_map, List.length_map]; omega)) ?_
      rw [← List.map_append]
      exact q v _ (k' + 1) B2 (r ++ [O.list ((leafs u w).map markV)] ++ [O.list ((leafs u w ++ ms).map markV)]) _ (mk_cat (hM1.ext x2) ((hL.ext x2).up (Nat.zero_le _)) hk hw) ⟨_, _, _, _, hk, rfl, Nat.le_of_ble_eq_true rfl, x2.wid hM1.wid, rfl⟩ ((x1.trans x2).le (by decide)) (by omega) (Keep.app.trans .app) (Keep.app (X := [])).1 new_at (by rw [List.length_append]; omega) (by rw [List.length_append]; omega)
    · refine cnd_no (fun q => hb0 (Int.ofNat.inj q)) (concat_wp d x1.fine (by omega) hL.wid hM1.wid (by omega) hm1 (by omega) fun v s B2 x2 hk hw => ?_)
      refine wp_eq (add_locs (σ := mkS (deckP o cs (k' + 1)) B2 (r ++ [O.list ((leafs u w).map markV)])) (a := ml + 15) (b := r.length + 15) (app_at hms) new_at (by rw [List.length_map, List.length_map]; omega)) ?_
      rw [← List.map_append]
      exact q v _ (k' + 1) B2 (r ++ [O.list ((leafs u w).map markV)] ++ [O.list ((ms ++ leafs u w).map markV)]) _ (mk_cat ((hL.ext x2).up (Nat.zero_le _)) (hM1.ext x2) hk hw) ⟨_, _, _, _, hk, rfl, Nat.le_of_ble_eq_true rfl, x2.wid hL.wid, rfl⟩ ((x1.trans x2).le (by decide)) (by omega) (Keep.app.trans .app) (Keep.app (X := [])).1 new_at (by rw [List.length_append]; omega) (by rw [List.length_append]; omega)
  refine cnd_no (fun q => h0 (Int.ofNat.inj q)) ?_
  have hL0 : ∀ k', (mkS (deckP o cs k') B r)[ml + 15]? = some (.list (ms.map markV)) := fun _ => hms
  by_cases h1 : way = 1
  · subst h1
    refine cnd_yes rfl (wp_lenM (hL0 _) (by omega) (dealt_wp (d + 2) hc (by omega) hm1 fun l hl => ?_))
    refine wp_lenM (hL0 _) (by omega) (EqP.mk (c := ((ms.length - l : Nat) : Int)) (by omega) (dealt_wp (many := ms.length - l) (d + 2) hc (by omega) (by omega) fun b hb => ?_))
    refine extract_wp (h := l + b) d F (by omega) hM.wid (by omega) (by omega) (by omega) fun v s B2 x2 hk hw => ?_
    refine wp_eq (slice_is (σ := mkS (deckP o cs (k + 3)) B2 r) (n := ml + 15) (lo := natV l) (hi := natV (l + b + 1)) hms (by omega) (cut_nat (by rw [List.length_map]; omega)) (cut_nat (by rw [List.length_map]; omega))) ?_
    rw [← List.map_take, ← List.map_drop]
    have hd : ((ms.take (l + b + 1)).drop l).length = b + 1 := by rw [List.length_drop, List.length_take]; omega
    exact q v _ (k + 3) B2 (r ++ [O.list (((ms.take (l + b + 1)).drop l).map markV)]) _ (mk_cut (hM.ext x2) hk hw (by omega) (by omega)) ⟨_, _, _, _, hk, rfl, Nat.le_of_ble_eq_true rfl, x2.wid hM.wid, rfl⟩ (x2.le (by decide)) (by omega) .app (Nat.le_refl _) new_at (by omega) (by omega)
  refine cnd_no (fun q => h1 (Int.ofNat.inj q)) (dealt_wp (many := 3) (d + 2) hc (by omega) (by decide) fun b hb => ?_)
  refine at_int (k := fun i => wpL (.cons (.ifs (.cmp (.var 6) (.cons .Eq (.lit (.int 2)) .nil)) (.cons (.ret (.tup (.cons (.meth (.var 1) 38 (.cons (.var 11) (.cons (.var 4) .nil))) (.cons (.bin .Add (.var 5) (.bin .Mult (.lst (.cons (.lit .none) .nil)) (.var 11))) .nil)))) .nil) .nil) (.cons (.ret (.tup (.cons (.meth (.var 1) 39 (.cons (.var 11) (.cons (.var 4) .nil))) (.cons (.bin .Add (.var 5) (.bin .Mult (.slc (.var 5) (.neg (.lit (.int 1))) (.lit .none)) (.var 11))) .nil)))) .nil)) (mach e (d + 3)) [some (.loc 2), some bankV, some (.loc (nl + 15)), some (.tup [natV t, .loc (ml + 15)]), some (natV t), some (.loc (ml + 15)), some (natV way), none, none, none, none, some (.int i)] (mkS (deckP o cs (k + 2)) B r) (fun _ σ => Q .none σ) Q (fun c m _ σ => E c m σ)) (show (1 : Int) + (b : Int) = ((b + 1 : Nat) : Int) by omega) ?_
  by_cases h2 : way = 2
  · subst h2
    refine cnd_yes rfl (zext_wp (many := b + 1) d F (by omega) hM.wid hm1 (by omega) (by omega) fun v s B2 x2 hk hw => ?_)
    refine wp_eq (mul_loc (σ := mkS (deckP o cs (k + 2)) B2 (r ++ [O.list [V.none]])) (n := r.length + 15) (k := b + 1) (v := .none) new_at (by omega)) ?_
    refine wp_eq (add_locs (σ := mkS (deckP o cs (k + 2)) B2 (r ++ [O.list [V.none]] ++ [O.list (List.replicate (b + 1) .none)])) (a := ml + 15) (b := (r ++ [O.list [V.none]]).length + 15) (app_at (app_at hms)) new_at (by rw [List.length_replicate]; omega)) ?_
    rw [show List.replicate (b + 1) V.none = (List.replicate (b + 1) none).map markV from (List.map_replicate (f := markV) (a := none)).symm, ← List.map_append]
    exact q v _ (k + 2) B2 (r ++ [O.list [V.none]] ++ [O.list ((List.replicate (b + 1) none).map markV)] ++ [O.list ((ms ++ List.replicate (b + 1) none).map markV)]) _ (mk_z (hM.ext x2) hk hw) ⟨_, _, _, _, hk, rfl, Nat.le_of_ble_eq_true rfl, x2.wid hM.wid, rfl⟩ (x2.le (by decide)) (by omega) (Keep.app.trans (Keep.app.trans .app)) (Keep.trans (X := []) Keep.app Keep.app).1 new_at (by rw [List.length_append]; omega) (by rw [List.length_append, List.length_replicate]; omega)
  obtain ⟨l, y, hly⟩ : ∃ l y, ms = l ++ [y] := ⟨_, _, (List.dropLast_concat_getLast (List.ne_nil_of_length_pos hm1)).symm⟩
  refine cnd_no (fun q => h2 (Int.ofNat.inj q)) (sext_wp (many := b + 1) d F (by omega) hM.wid hm1 (by omega) (by omega) fun v s B2 x2 hk hw => ?_)
  refine wp_eq (slice_is (σ := mkS (deckP o cs (k + 2)) B2 r) (n := ml + 15) (a := (ms.map markV).length - 1) (lo := .int (-1)) (hi := .none) hms (by omega) (congrArg some clip_last) rfl) ?_
  have el : (((ms.map markV).take (ms.map markV).length).drop ((ms.map markV).length - 1)) = [markV y] := by
    rw [List.take_length, hly, List.map_append, List.length_append, List.length_map]
    exact List.drop_left' (List.length_map ..)
  rw [el]
  refine wp_eq (mul_loc (σ := mkS (deckP o cs (k + 2)) B2 (r ++ [O.list [markV y]])) (n := r.length + 15) (k := b + 1) (v := markV y) new_at (by omega)) ?_
  refine wp_eq (add_locs (σ := mkS (deckP o cs (k + 2)) B2 (r ++ [O.list [markV y]] ++ [O.list (List.replicate (b + 1) (markV y))])) (a := ml + 15) (b := (r ++ [O.list [markV y]]).length + 15) (app_at (app_at hms)) new_at (by rw [List.length_replicate]; omega)) ?_
  rw [show List.replicate (b + 1) (markV y) = (List.replicate (b + 1) y).map markV from List.map_replicate.symm, ← List.map_append]
  exact q v _ (k + 2) B2 (r ++ [O.list [markV y]] ++ [O.list ((List.replicate (b + 1) y).map markV)] ++ [O.list ((ms ++ List.replicate (b + 1) y).map markV)]) _ (mk_s (hM.ext x2) hk hw hly) ⟨_, _, _, _, hk, rfl, Nat.le_of_ble_eq_true rfl, x2.wid hM.wid, rfl⟩ (x2.le (by decide)) (by omega) (Keep.app.trans (Keep.app.trans .app)) (Keep.trans (X := []) Keep.app Keep.app).1 new_at (by rw [List.length_append]; omega) (by rw [List.length_append, List.length_replicate]; omega)
end
end QZ
namespace QZ
open PySem
theorem eqV_int {k : Nat} {i : Int} : eqV (k + 1) (.int i) (.int i) = some true := congrArg some (beq_self_eq_true i)
theorem eqV_str {s : Str} {k : Nat} (h : PyData.strOk s = true) : eqV (k + 1) (.str s) (.str s) = some true := (congrArg (cond · (some (s == s)) none) (Bool.and_eq_true_iff.mpr ⟨h, h⟩)).trans (congrArg some (beq_self_eq_true s))
theorem eqL_self {e : V → V → Option Bool} {l : List V} (h : ∀ v ∈ l, e v v = some true) : eqL e l l = some true := by
  induction l with
  | nil => rfl
  | cons a l ih =>
    show ((e a a).bind fun x => (eqL e l l).map fun y => x && y) = some true
    rw [h a (List.mem_cons_self ..), ih fun v q => h v (List.mem_cons_of_mem _ q)]
    rfl
theorem eq_note {σ : St} {t i : Nat} : eqO1 σ (noteV t i) (noteV t i) = some true :=
  eqL_self (List.forall_mem_cons.mpr ⟨eqV_int (k := 6), List.forall_mem_cons.mpr ⟨eqV_int (k := 6), List.forall_mem_cons.mpr ⟨eqV_str (k := 6) (by decide +kernel), fun _ q => nomatch q⟩⟩⟩)
theorem eq_mark {σ : St} {x : Option (Nat × Nat)} : eqO1 σ (markV x) (markV x) = some true := by
  cases x with
  | none => rfl
  | some q => exact eqL_self (List.forall_mem_cons.mpr ⟨eqV_int (k := 6), List.forall_mem_cons.mpr ⟨eqV_int (k := 6), fun _ q => nomatch q⟩⟩)
theorem nats_eq {σ : St} {l : List Nat} : ∀ v ∈ l.map natV, eqO1 σ v v = some true := fun v q => (List.mem_map.mp q).elim fun a q => q.2 ▸ eqV_int (k := 7)
theorem listIn_at {σ : St} {a : Nat} {l : List V} (h : σ[a]? = some (.list l)) : listIn σ (.loc a) = some l := congrArg (fun o : Option O => o.bind lst?) h
theorem eq_two {σ : St} {f : V → V → Option Bool} {a b : Nat} {l k : List V} (h1 : σ[a]? = some (.list l)) (h2 : σ[b]? = some (.list k)) (h : eqL f l k = some true) : ((listIn σ (.loc a)).bind fun l => (listIn σ (.loc b)).bind fun k => eqL f l k) = some true := by
  rw [listIn_at h1, listIn_at h2]
  exact h
theorem ne_locs {σ : St} {a b : Nat} {l : List V} (h1 : σ[a]? = some (.list l)) (h2 : σ[b]? = some (.list l)) (h : ∀ v ∈ l, eqO1 σ v v = some true) : cmpop .NotEq (.loc a) (.loc b) σ = some false := congrArg (Option.map (!·)) (eq_two h1 h2 (eqL_self h))
theorem eq_ints {σ : St} {a b : Nat} {l : List Int} (h1 : σ[a]? = some (.list (l.map .int))) (h2 : σ[b]? = some (.list (l.map .int))) : eqO1 σ (.loc a) (.loc b) = some true :=
  eq_two h1 h2 (eqL_self fun v q => (List.mem_map.mp q).elim fun i q => q.2 ▸ eqV_int (k := 7))
section
variable {p : O × O × O} {B : Bk} {r : List O}
theorem eq_cls {L L' : Nat} : ∀ {ps qs : List (Nat × List Int)}, ps.map (·.2) = qs.map (·.2) → ListsAt L r ps → ListsAt L' r qs → eqL (eqO1 (mkS p B r)) (ps.map locP) (qs.map locP) = some true
  | [], [], _, _, _ => rfl
  | x :: ps, y :: qs, e, h, k => by
    have h1 := h x (List.mem_cons_self ..)
    have k1 := k y (List.mem_cons_self ..)
    rw [← (show x.2 = y.2 from (List.cons.inj e).1)] at k1
    have e1 : eqO1 (mkS p B r) (locP x) (locP y) = some true := eq_ints (σ := mkS p B r) (a := x.1 + 15) (b := y.1 + 15) h1.2 k1.2
    show ((eqO1 (mkS p B r) (locP x) (locP y)).bind fun x => (eqL _ (ps.map locP) (qs.map locP)).map fun y => x && y) = some true
    rw [e1, eq_cls (List.cons.inj e).2 (fun q m => h q (List.mem_cons_of_mem _ m)) fun q m => k q (List.mem_cons_of_mem _ m)]
    rfl
theorem cls_ne {L L' a b : Nat} {cl : List (List Int)} (h : ClauAt L r a cl) (k : ClauAt L' r b cl) : cmpop .NotEq (.loc (a + 15)) (.loc (b + 15)) (mkS p B r) = some false := by
  obtain ⟨ps, h1, h2, h3⟩ := h.ps
  obtain ⟨qs, k1, k2, k3⟩ := k.ps
  exact congrArg (Option.map (!·)) (eq_two (σ := mkS p B r) (a := a + 15) (b := b + 15) h2 k2 (eq_cls (h1.trans k1.symm) h3 k3))
theorem wp_len' {σ : St} {n k : Nat} {l : List V} {Q : QV} {E : QE} (h : σ[n]? = some (.list l)) (hl : l.length ≤ 10000) (e : l.length = k) (q : Q (natV k) σ) : WP (callB .len [.loc n] σ) Q E := wp_len h hl (e ▸ q)
theorem slice_from {ext : Addr → Option (List V)} {σ : St} {n : Nat} {l k : List V} (h : σ[n]? = some (.list (l ++ k))) (hl : (l ++ k).length ≤ 10000) : slice ext (.loc n) (natV l.length) .none σ = .ok (.loc σ.length) (σ ++ [.list k]) := by
  refine (slice_is h hl (cut_nat (List.length_append ▸ Nat.le_add_right ..)) rfl).trans ?_
  rw [List.take_length, List.drop_left]
theorem slice_to {ext : Addr → Option (List V)} {σ : St} {n : Nat} {l k : List V} (h : σ[n]? = some (.list (l ++ k))) (hl : (l ++ k).length ≤ 10000) : slice ext (.loc n) .none (natV l.length) σ = .ok (.loc σ.length) (σ ++ [.list l]) := by
  refine (slice_is h hl rfl (cut_nat (List.length_append ▸ Nat.le_add_right ..))).trans ?_
  rw [List.take_left, List.drop_zero]
theorem rawT_sort {o s : Nat} (ho : 1 ≤ o) : (rawT o s).map W.sortI = raw o s ∧ ∀ c ∈ rawT o s, c.length ≤ 60 := by
  unfold rawT raw
  cases hs : s == 0 with
  | true => exact ⟨rfl, List.forall_mem_cons.mpr ⟨Nat.le_of_ble_eq_true rfl, fun _ m => nomatch m⟩⟩
  | false =>
    have : s ≠ 0 := fun e => Bool.noConfusion (hs.symm.trans (beq_iff_eq.mpr e))
    refine ⟨?_, List.forall_mem_cons.mpr ⟨Nat.le_of_ble_eq_true rfl, List.forall_mem_cons.mpr ⟨Nat.le_of_ble_eq_true rfl, fun _ m => nomatch m⟩⟩⟩
    show [W.sortI [-(o : Int), (s : Int)], W.sortI [(o : Int), -(s : Int)]] = [_, _]
    rw [show W.sortI [-(o : Int), (s : Int)] = [-(o : Int), (s : Int)] from if_neg (by omega), show W.sortI [(o : Int), -(s : Int)] = [-(s : Int), (o : Int)] from if_pos (by omega)]
inductive NoteI (p : O × O × O) (B : Bk) (r : List O) (v : V) (k : Nat) (l : List (List Int)) : List V → St → Prop
  | mk (j : Nat) (h : j + l.length = k) : NoteI p B r v k l (List.replicate j v) (mkS p B r)
theorem told_turn {M : Mach} {L t tl : Nat} {de : DE} {l : List DE} {a0 a1 a2 a3 a4 a5 a6 a7 a8 a9 a10 a14 : Option V} {N : Rho → St → Prop} {T : V → St → Prop} {E : Addr → Str → Rho → St → Prop} (hd : DeAt L r t de) (ho : 1 ≤ de.o) (hne : de.o ≠ de.s) (hL : L ≤ r.length)
    (ht : r[tl]? = some (.list (wireR t de ++ wires t l))) (hlen : (wireR t de ++ wires t l).length ≤ 9000) (q : ∀ r' tl' v14, Keep [] r r' → r'[tl']? = some (.list (wires t l)) → N [a0, a1, a2, a3, a4, a5, a6, a7, a8, a9, a10, some (.loc (tl' + 15)), some (.loc (de.c + 15)), some (.loc (de.n + 15)), v14] (mkS p B r')) :
    wpL (.cons (.asg (.tup [14, 11]) (.tup (.cons (.slc (.var 11) (.lit .none) (.bi .len (.cons (.var 13) .nil))) (.cons (.slc (.var 11) (.bi .len (.cons (.var 13) .nil)) (.lit .none)) .nil)))) (.cons (.ifs (.bop false (.cons (.cmp (.bi .sorted (.cons (.comp (.bi .sorted (.cons (.var 15) .nil)) (.tup [15, 16]) (.expr (.var 14)) .nil 2) .nil)) (.cons .NotEq (.var 12) .nil)) (.cons (.cmp (.comp (.var 16) (.tup [15, 16]) (.expr (.var 14)) .nil 2) (.cons .NotEq (.var 13) .nil)) .nil))) (.cons (.ret (.lit (.bool false))) .nil) .nil) .nil)) M [a0, a1, a2, a3, a4, a5, a6, a7, a8, a9, a10, some (.loc (tl + 15)), some (.loc (de.c + 15)), some (.loc (de.n + 15)), a14] (mkS p B r) N T E := by
  have hwl : (wireR t de).length = (raw de.o de.s).length := (List.length_map ..).trans (rawT_len ..)
  have hr2 := raw_len de.o de.s
  have hnl : (List.replicate (raw de.o de.s).length (noteV t de.i)).length = (wireR t de).length := List.length_replicate.trans hwl.symm
  obtain ⟨hsrt, hsm⟩ := rawT_sort (s := de.s) ho
  refine wp_len' (show (mkS p B r)[de.n + 15]? = _ from hd.n) (by omega) hnl (wp_eq (slice_to (show (mkS p B r)[tl + 15]? = _ from ht) (by omega)) ?_)
  refine wp_len' (σ := mkS p B (r ++ [O.list (wireR t de)])) (n := de.n + 15) (app_at hd.n) (by omega) hnl (wp_eq (slice_from (σ := mkS p B (r ++ [O.list (wireR t de)])) (n := tl + 15) (app_at ht) (by omega)) ?_)
  have h1 : (r ++ [O.list (wireR t de)] ++ [O.list (wires t l)])[r.length]? = some (.list ((rawT de.o de.s).map (rowV t de.i (sx "wire")))) := app_at new_at
  have h2 : (r ++ [O.list (wireR t de)] ++ [O.list (wires t l)])[(r ++ [O.list (wireR t de)]).length]? = some (.list (wires t l)) := new_at
  have k1 : Keep [] r (r ++ [O.list (wireR t de)] ++ [O.list (wires t l)]) := Keep.app.trans .app
  have main : ∀ r1 w1 w2, Keep [] r r1 → r1[w1]? = some (.list ((rawT de.o de.s).map (rowV t de.i (sx "wire")))) → r1[w2]? = some (.list (wires t l)) →
      wpL (.cons (.ifs (.bop false (.cons (.cmp (.bi .sorted (.cons (.comp (.bi .sorted (.cons (.var 15) .nil)) (.tup [15, 16]) (.expr (.var 14)) .nil 2) .nil)) (.cons .NotEq (.var 12) .nil)) (.cons (.cmp (.comp (.var 16) (.tup [15, 16]) (.expr (.var 14)) .nil 2) (.cons .NotEq (.var 13) .nil)) .nil))) (.cons (.ret (.lit (.bool false))) .nil) .nil) .nil) M [a0, a1, a2, a3, a4, a5, a6, a7, a8, a9, a10, some (.loc (w2 + 15)), some (.loc (de.c + 15)), some (.loc (de.n + 15)), some (.loc (w1 + 15))] (mkS p B r1) N T E := by
    intro r1 w1 w2 k1 h1 h2
    refine OfP.mk (wp_src (show (mkS p B r1)[w1 + 15]? = _ from h1)) (wr_lstM (f := rowV t de.i (sx "wire")) (l := rawT de.o de.s) (fun (l : List (List Int)) => SrtI L p B r1 (raw de.o de.s) (l.map W.sortI)) (.mk r1 [] .refl hsrt (fun _ m => nomatch m)) ?_ ?_ ?_)
    · intro l acc σ h
      cases h with
      | mk r' ps k' e' h => exact k'.2 nin0 h1
    · intro c l acc σ hc h
      exact wt_turn (ρ' := [a0, a1, a2, a3, a4, a5, a6, a7, a8, a9, a10, some (.loc (w2 + 15)), some (.loc (de.c + 15)), some (.loc (de.n + 15)), some (.loc (w1 + 15)), some (clauseV c), some (noteV t de.i)]) rfl
        (.t (SrtI.step h (Nat.le_trans hL k1.1) (by omega) (fun r' k' => rfl) (hsm c hc) rfl fun w σ' hl h' => ⟨hl, h'⟩))
    · intro acc σ h
      cases h with
      | mk r2 ps k2 e' h =>
        have e' := (List.append_nil _).symm.trans e'
        refine sort_cls (r := r2 ++ [O.list (ps.map locP)]) (c := r2.length) e' new_at (h.keep .app noX) (Nat.le_trans hL (k1.trans (k2.trans .app)).1) hne fun x hc => ?_
        have k3 : Keep [] r1 (r2 ++ [O.list (ps.map locP)] ++ [x]) := k2.trans (Keep.app.trans .app)
        have fin : ∀ r3 c3, Keep [] r1 r3 → ClauAt L r3 c3 (cls de.o de.s) → wpX (.bop false (.cons (.cmp (.lit (.loc (c3 + 15))) (.cons .NotEq (.var 12) .nil)) (.cons (.cmp (.comp (.var 16) (.tup [15, 16]) (.expr (.var 14)) .nil 2) (.cons .NotEq (.var 13) .nil)) .nil))) M [a0, a1, a2, a3, a4, a5, a6, a7, a8, a9, a10, some (.loc (w2 + 15)), some (.loc (de.c + 15)), some (.loc (de.n + 15)), some (.loc (w1 + 15))] (mkS p B r3)
            (fun v σ => Cnd (truth v) (T (.bool false) σ) (N [a0, a1, a2, a3, a4, a5, a6, a7, a8, a9, a10, some (.loc (w2 + 15)), some (.loc (de.c + 15)), some (.loc (de.n + 15)), some (.loc (w1 + 15))] σ)) NoE := by
          intro r3 c3 k3 hc3
          refine OfP.mk (cls_ne hc3 (hd.c.keep (k1.trans k3) noX)) (cnd_f rfl (OfP.mk (wp_src (show (mkS p B r3)[w1 + 15]? = _ from k3.2 nin0 h1)) (wr_lstM (f := rowV t de.i (sx "wire")) (l := rawT de.o de.s) (NoteI p B r3 (noteV t de.i) (rawT de.o de.s).length) (.mk 0 (Nat.zero_add _)) ?_ ?_ ?_)))
          · intro l acc σ h
            cases h with
            | mk j h => exact k3.2 nin0 h1
          · intro c l acc σ hc h
            cases h with
            | mk j h =>
              rw [List.length_cons, rawT_len] at h
              refine wt_turn (ρ' := [a0, a1, a2, a3, a4, a5, a6, a7, a8, a9, a10, some (.loc (w2 + 15)), some (.loc (de.c + 15)), some (.loc (de.n + 15)), some (.loc (w1 + 15)), some (clauseV c), some (noteV t de.i)]) rfl (.t ⟨by rw [List.length_replicate]; omega, ?_⟩)
              rw [← List.replicate_succ']
              exact .mk (j + 1) (by rw [rawT_len]; omega)
          · intro acc σ h
            cases h with
            | mk j h =>
              have h : j = (raw de.o de.s).length := h.trans (rawT_len ..)
              subst h
              exact OfP.mk (ne_locs (σ := mkS p B (r3 ++ [O.list (List.replicate (raw de.o de.s).length (noteV t de.i))])) (a := r3.length + 15) (b := de.n + 15) new_at (app_at ((k1.trans k3).2 nin0 hd.n)) fun v m => by cases List.eq_of_mem_replicate m; exact eq_note) (cnd_f rfl (q _ _ _ (k1.trans (k3.trans .app)) (app_at (k3.2 nin0 h2))))
        exact fin _ _ k3 hc
  exact main _ _ _ k1 h1 h2
end
end QZ
namespace QZ
open PySem
theorem wp_list {σ : St} {n : Nat} {l : List V} {Q : QV} {E : QE} (h : σ[n]? = some (.list l)) (hl : l.length ≤ 10000) (q : Q (.loc σ.length) (σ ++ [O.list l])) : WP (callB .list [.loc n] σ) Q E :=
  wp_eq ((congrArg (fun o : Option O => ofO (o.bind lst?) fun l => cond (decide (l.length ≤ 10000)) (Res.ok (V.loc σ.length) (σ ++ [O.list l])) .stuck) h).trans (if_dec hl)) q
theorem wires_len (t : Nat) : ∀ l : List DE, (wires t l).length ≤ 2 * l.length
  | [] => Nat.le_refl _
  | de :: l => by
    have h1 := wires_len t l
    have h2 : (wireR t de).length ≤ 2 := Nat.le_trans (Nat.le_of_eq ((List.length_map ..).trans (rawT_len ..))) (raw_len ..)
    rw [wires_cons, List.length_append, List.length_cons]
    omega
theorem word_at (j : Nat) : ∃ wd, wd ∈ words ∧ (words.map V.str)[j % 3]? = some (.str wd) := by
  have h : j % 3 < words.length := Nat.mod_lt _ (by decide)
  exact ⟨words[j % 3], List.getElem_mem h, by rw [List.getElem?_map, List.getElem?_eq_getElem h]; rfl⟩
section
variable {e : Addr → Option (List V)} {p : O × O × O} {B : Bk} {r : List O} {N : Rho → St → Prop} {T : V → St → Prop} {E : Addr → Str → Rho → St → Prop}
theorem lap4 {n m most told t tl j : Nat} {rows : List V} {a0 a1 a2 a3 a4 a8 a9 a10 a12 a13 a14 : Option V} (hB : BR r n m most told rows) (hk : Joined B t) (ht : r[tl]? = some (.list []))
    (q : N [a0, a1, a2, a3, a4, some (selfV n), some (natV j), some (natV t), a8, a9, a10, some (.loc (tl + 15)), a12, a13, a14] (mkS p B (r ++ [O.list []]))) :
    wpL (.cons (.ifs (.bop false (.cons (.cmp (.var 11) (.cons .NotEq (.lst .nil) .nil)) (.cons (.not (.call 807 (.cons (.var 5) (.cons (.var 7) (.cons (.item (.tup (.cons (.lit (.str (sx "bvadd"))) (.cons (.lit (.str (sx "bvnot"))) (.cons (.lit (.str (sx "rotate"))) .nil)))) (.bin .Mod (.var 6) (.lit (.int 3)))) .nil))))) .nil))) (.cons (.ret (.lit (.bool false))) .nil) .nil) .nil) (mach e 11) [a0, a1, a2, a3, a4, some (selfV n), some (natV j), some (natV t), a8, a9, a10, some (.loc (tl + 15)), a12, a13, a14] (mkS p B r) N T E := by
  obtain ⟨k, a, as, wa, hk, ha, -, hw, -⟩ := hk.k
  obtain ⟨wd, hwd, hat⟩ := word_at j
  refine OfP.mk (ne_locs (σ := mkS p B (r ++ [O.list []])) (a := tl + 15) (b := r.length + 15) (l := []) (app_at ht) new_at fun v m => nomatch m) (cnd_f rfl ?_)
  refine wp_eq (mod_nat (n := j) (m := 3) (by decide)) (OfP.mk (it_tup (l := words.map V.str) hat (Nat.lt_trans (Nat.mod_lt j (by decide)) (by decide : 3 < 10000))) ?_)
  exact refused_wp (e := e) (r := r ++ [O.list []]) 8 hB.app hk ha hw hwd (cnd_f rfl q)
inductive ToldI (p : O × O × O) (B : Bk) (r : List O) (t : Nat) (a0 a1 a2 a3 a4 a5 a6 a7 a8 a9 a10 : Option V) (l : List DE) : Rho → St → Prop
  | mk (r' : List O) (tl : Nat) (a12 a13 a14) (k : Keep [] r r') (h : r'[tl]? = some (.list (wires t l))) (hl : l.length ≤ 20) : ToldI p B r t a0 a1 a2 a3 a4 a5 a6 a7 a8 a9 a10 l [a0, a1, a2, a3, a4, a5, a6, a7, a8, a9, a10, some (.loc (tl + 15)), a12, a13, a14] (mkS p B r')
theorem lap3 {n m t dl j L : Nat} {rows : List V} {des : List DE} {a0 a1 a2 a3 a4 a8 a11 a12 a13 a14 : Option V} (hB : BR r n m 200000 (rows ++ wires t des).length (rows ++ wires t des)) (hr : rows.length ≤ 5000) (hk : Joined B t) (hdl : des.length ≤ 20) (hd : ∀ de ∈ des, DeAt L r t de ∧ 1 ≤ de.o ∧ de.o ≠ de.s) (hL : L ≤ r.length) (hdd : r[dl]? = some (.list (des.map deV)))
    (q : ∀ r' v9 v10 v11 v12 v13 v14, Keep [] r r' → N [a0, a1, a2, a3, a4, some (selfV n), some (natV j), some (natV t), a8, v9, v10, v11, v12, v13, v14] (mkS p B r')) :
    wpL (.cons (.asg (.name 11) (.slc (.attr (.var 5) 22) (.var 10) (.lit .none))) (.cons (.for (.tup [12, 13]) (.expr (.var 9)) (.cons (.asg (.tup [14, 11]) (.tup (.cons (.slc (.var 11) (.lit .none) (.bi .len (.cons (.var 13) .nil))) (.cons (.slc (.var 11) (.bi .len (.cons (.var 13) .nil)) (.lit .none)) .nil)))) (.cons (.ifs (.bop false (.cons (.cmp (.bi .sorted (.cons (.comp (.bi .sorted (.cons (.var 15) .nil)) (.tup [15, 16]) (.expr (.var 14)) .nil 2) .nil)) (.cons .NotEq (.var 12) .nil)) (.cons (.cmp (.comp (.var 16) (.tup [15, 16]) (.expr (.var 14)) .nil 2) (.cons .NotEq (.var 13) .nil)) .nil))) (.cons (.ret (.lit (.bool false))) .nil) .nil) .nil))) (.cons (.ifs (.bop false (.cons (.cmp (.var 11) (.cons .NotEq (.lst .nil) .nil)) (.cons (.not (.call 807 (.cons (.var 5) (.cons (.var 7) (.cons (.item (.tup (.cons (.lit (.str (sx "bvadd"))) (.cons (.lit (.str (sx "bvnot"))) (.cons (.lit (.str (sx "rotate"))) .nil)))) (.bin .Mod (.var 6) (.lit (.int 3)))) .nil))))) .nil))) (.cons (.ret (.lit (.bool false))) .nil) .nil) .nil))) (mach e 11) [a0, a1, a2, a3, a4, some (selfV n), some (natV j), some (natV t), a8, some (.loc (dl + 15)), some (natV rows.length), a11, a12, a13, a14] (mkS p B r) N T E := by
  have hwl := wires_len t des
  refine OfP.mk hB.g22 (wp_eq (slice_from (show (mkS p B r)[m + 15]? = _ from hB.rows') (by rw [List.length_append]; omega)) ?_)
  refine OfP.mk (wp_src (σ := mkS p B (r ++ [O.list (wires t des)])) (n := dl + 15) (app_at hdd)) (wr_lstM (f := deV) (l := des) (ToldI p B (r ++ [O.list (wires t des)]) t a0 a1 a2 a3 a4 (some (selfV n)) (some (natV j)) (some (natV t)) a8 (some (.loc (dl + 15))) (some (natV rows.length))) (.mk _ r.length _ _ _ .refl new_at hdl) ?_ ?_ ?_)
  · intro l ρ σ h
    cases h with
    | mk r' tl a12 a13 a14 k h hl => exact k.2 nin0 (app_at hdd)
  · intro de l ρ σ hm h
    cases h with
    | mk r' tl a12 a13 a14 k h hl =>
      obtain ⟨h1, h2, h3⟩ := hd de hm
      have k0 : Keep [] r r' := Keep.app.trans k
      rw [List.length_cons] at hl
      rw [wires_cons] at h
      refine wf_turn (ρ' := [a0, a1, a2, a3, a4, some (selfV n), some (natV j), some (natV t), a8, some (.loc (dl + 15)), some (natV rows.length), some (.loc (tl + 15)), some (.loc (de.c + 15)), some (.loc (de.n + 15)), a14]) rfl (told_turn (h1.keep k0 noX) h2 h3 (Nat.le_trans hL k0.1) h ?_ fun r2 tl2 v14 k2 h2 => .mk r2 tl2 _ _ _ (k.trans k2) h2 (by omega))
      have := wires_len t (de :: l)
      rw [wires_cons, List.length_cons] at this
      omega
  · intro ρ σ h
    cases h with
    | mk r' tl a12 a13 a14 k h hl =>
      have k0 : Keep [] r r' := Keep.app.trans k
      exact lap4 (hB.keep k0 nin0 nin0) hk h (q _ _ _ _ _ _ _ (k0.trans .app))
theorem lap2 {n m t j w : Nat} {rows : List V} {a0 a1 a3 a4 a8 a9 a10 a11 a12 a13 a14 : Option V} (hB : BR r n m 200000 rows.length rows) (hr : rows.length ≤ 4000) (F : Fine B) (hz : B.size + 400 < 8900) (hk : Joined B t) (hw : B.wid t = some w) (hwl : w ≤ 20) (hS : ∀ k, B.key t = some k → ∀ i, i < w → ∃ x, Org B t k.op i x)
    (q : ∀ r' B' rows' v9 v10 v11 v12 v13 v14, Keep [n, m] r r' → Grw 100 B B' → BR r' n m 200000 rows'.length rows' → rows'.length ≤ rows.length + 40 → N [a0, a1, some bankV, a3, a4, some (selfV n), some (natV j), some (natV t), a8, v9, v10, v11, v12, v13, v14] (mkS p B' r')) :
    wpL (.cons (.asg (.tup [9, 10]) (.tup (.cons (.call 800 (.cons (.var 5) (.cons (.var 7) .nil))) (.cons (.bi .len (.cons (.attr (.var 5) 22) .nil)) .nil)))) (.cons (.ifs (.cmp (.bi .list (.cons (.meth (.var 5) 48 (.cons (.var 7) (.cons (.meth (.var 2) 25 (.cons (.var 7) .nil)) .nil))) .nil)) (.cons .NotEq (.bi .list (.cons (.meth (.var 2) 26 (.cons (.var 7) .nil)) .nil)) .nil)) (.cons (.ret (.lit (.bool false))) .nil) .nil) (.cons (.asg (.name 11) (.slc (.attr (.var 5) 22) (.var 10) (.lit .none))) (.cons (.for (.tup [12, 13]) (.expr (.var 9)) (.cons (.asg (.tup [14, 11]) (.tup (.cons (.slc (.var 11) (.lit .none) (.bi .len (.cons (.var 13) .nil))) (.cons (.slc (.var 11) (.bi .len (.cons (.var 13) .nil)) (.lit .none)) .nil)))) (.cons (.ifs (.bop false (.cons (.cmp (.bi .sorted (.cons (.comp (.bi .sorted (.cons (.var 15) .nil)) (.tup [15, 16]) (.expr (.var 14)) .nil 2) .nil)) (.cons .NotEq (.var 12) .nil)) (.cons (.cmp (.comp (.var 16) (.tup [15, 16]) (.expr (.var 14)) .nil 2) (.cons .NotEq (.var 13) .nil)) .nil))) (.cons (.ret (.lit (.bool false))) .nil) .nil) .nil))) (.cons (.ifs (.bop false (.cons (.cmp (.var 11) (.cons .NotEq (.lst .nil) .nil)) (.cons (.not (.call 807 (.cons (.var 5) (.cons (.var 7) (.cons (.item (.tup (.cons (.lit (.str (sx "bvadd"))) (.cons (.lit (.str (sx "bvnot"))) (.cons (.lit (.str (sx "rotate"))) .nil)))) (.bin .Mod (.var 6) (.lit (.int 3)))) .nil))))) .nil))) (.cons (.ret (.lit (.bool false))) .nil) .nil) .nil))))) (mach e 11) [a0, a1, some bankV, a3, a4, some (selfV n), some (natV j), some (natV t), a8, a9, a10, a11, a12, a13, a14] (mkS p B r) N T E := by
  have hj := hk
  obtain ⟨k, a, as, wa, hk, ha, hka, hwa, hkw⟩ := hk.k
  refine due_wp 5 hB F hk hw hwl (hS k hk) (by omega) fun r1 des B1 x1 k1 hdl hdn hd => ?_
  have hz1 := x1.sz
  have hB1 := hB.keep k1 nin0 nin0
  refine OfP.mk hB1.g22 (wp_len (show (mkS p B1 r1)[m + 15]? = _ from hB1.rows') (by omega) ?_)
  refine hB1.fr (fun _ => rfl) (wp_eq (op_is _ (x1.key hk)) (wires_wp 5 hB1 x1.fine (x1.key hk) hka (x1.wid hw) hwl hdn (fun i de h => (hd i de h).1) (by omega) (by omega) fun r2 B2 x2 k2 b2 => ?_))
  have hal : (k.args.map natV).length ≤ 10 := map_len hka
  refine wp_list (σ := mkS p B2 (r2 ++ [O.list (k.args.map natV)])) (n := r2.length + 15) new_at (by omega) (wp_eq (args_is (r := r2 ++ [O.list (k.args.map natV)] ++ [O.list (k.args.map natV)]) _ ((x1.trans x2).key hk)) (wp_listT (by omega) ?_))
  refine OfP.mk (ne_locs (σ := mkS p B2 (r2 ++ [O.list (k.args.map natV)] ++ [O.list (k.args.map natV)] ++ [O.list (k.args.map natV)])) (a := (r2 ++ [O.list (k.args.map natV)]).length + 15) (b := (r2 ++ [O.list (k.args.map natV)] ++ [O.list (k.args.map natV)]).length + 15) (app_at new_at) new_at nats_eq) (cnd_f rfl ?_)
  have k3 : Keep [] r2 (r2 ++ [O.list (k.args.map natV)] ++ [O.list (k.args.map natV)] ++ [O.list (k.args.map natV)]) := Keep.app.trans (Keep.app.trans .app)
  have k4 : Keep [n, m] r1 (r2 ++ [O.list (k.args.map natV)] ++ [O.list (k.args.map natV)] ++ [O.list (k.args.map natV)]) := k2.trans (k3.mono fun _ m => nomatch m)
  have hX : ∀ x ∈ [n, m], x < r.length + 1 := fun x h => (List.mem_cons.mp h).elim (fun q => q ▸ Nat.lt_succ_of_lt hB.nlt) fun q => List.mem_singleton.mp q ▸ Nat.lt_succ_of_lt hB.mlt
  have hlr : r.length + 1 ≤ r1.length := get_lt hdl
  have hwl2 := wires_len t des
  refine lap3 (L := r.length + 1) (b2.keep k3 nin0 nin0) (by omega) ?_ (by omega) (fun de hm => ?_) (Nat.le_trans hlr k4.1) (k4.2 (nin2 (Nat.ne_of_gt hB.nlt) (Nat.ne_of_gt hB.mlt)) hdl) fun r5 v9 v10 v11 v12 v13 v14 k5 => ?_
  · exact ⟨k, a, as, wa, (x1.trans x2).key hk, ha, hka, (x1.trans x2).wid hwa, hkw⟩
  · obtain ⟨i, hi⟩ := List.getElem?_of_mem hm
    obtain ⟨h1, h2⟩ := hd i de hi
    obtain ⟨-, g2, x, g3, g4⟩ := h1
    exact ⟨h2.keep k4 hX, g2.at'.1, org_ne x1.fine g3 g2 g4⟩
  · exact q r5 B2 (rows ++ wires t des) _ _ _ _ _ _ ((k1.mono fun _ m => nomatch m).trans (k4.trans (k5.mono fun _ m => nomatch m))) ((x1.trans x2).le (by omega)) ((b2.keep k3 nin0 nin0).keep k5 nin0 nin0) (by rw [List.length_append]; omega)
end
end QZ
namespace QZ
open PySem
section
variable {e : Addr → Option (List V)} {p : O × O × O} {B : Bk} {r : List O}
inductive EndsI (p : O × O × O) (B : Bk) (r : List O) (ms : List (Option (Nat × Nat))) (j : Nat) : List V → St → Prop
  | mk (B' : Bk) (x : Grw (6 * j) B B') : EndsI p B r ms j ((ms.take j).map markV) (mkS p B' r)
theorem ends_wp {n m most told t jj w : Nat} {rows : List V} {ms : List (Option (Nat × Nat))} {a0 a1 a2 a3 a4 a6 a8 a9 a10 a11 a12 a13 a14 : Option V} {N : List V → St → Prop} {T : V → St → Prop} {E : Addr → Str → List V → St → Prop} (hB : BR r n m most told rows) (F : Fine B) (hz : B.size + 200 < 8900) (hM : Mk B jj t ms) (hl : ms.length = w) (hj : jj ≤ 6) (hm : w ≤ 20)
    (q : ∀ B', Grw 120 B B' → N (ms.map markV) (mkS p B' r)) :
    WR (loop (.rng 0 w) (turn (mach e 11) (.call 795 (.cons (.var 5) (.cons (.var 7) (.cons (.var 15) .nil)))) (.var 15) .nil [a0, a1, a2, a3, a4, some (selfV n), a6, some (natV t), a8, a9, a10, a11, a12, a13, a14] 1) [] (mkS p B r)) N T E := by
  refine wr_rng (n := w) (EndsI p B r ms) (.mk B (Grw.refl F)) ?_ ?_
  · intro j acc σ hj' h
    cases h with
    | mk B' x =>
      have hxz := x.sz
      have hjl : j < ms.length := hl ▸ hj'
      refine wt_turn (ρ' := [a0, a1, a2, a3, a4, some (selfV n), a6, some (natV t), a8, a9, a10, a11, a12, a13, a14, some (natV j)]) rfl (.t (end_wp 5 hB ((hM.e j _ (List.getElem?_eq_getElem hjl)).ext x) x.fine (by omega) (by omega) fun B2 x2 => ⟨map_len (by rw [List.length_take]; omega), ?_⟩))
      have e' : (ms.take j).map markV ++ [markV ms[j]] = (ms.take (j + 1)).map markV := by
        rw [List.take_add_one, List.map_append, List.getElem?_eq_getElem hjl]
        rfl
      rw [e']
      exact .mk B2 ((x.trans x2).le (by omega))
  · intro acc σ h
    cases h with
    | mk B' x =>
      rw [List.take_of_length_le (Nat.le_of_eq hl)]
      exact q B' (x.le (by omega))
end
section
variable {e : Addr → Option (List V)}
inductive LapI (A : Addr) (o : O) (cs : List Nat) (nl n m : Nat) (ts : List Nat) (j : Nat) : Rho → St → Prop
  | mk (r : List O) (B : Bk) (k t ml : Nat) (ms : List (Option (Nat × Nat))) (rows : List V) (a6 a7 a8 a9 a10 a11 a12 a13 a14) (hB : BR r n m 200000 rows.length rows) (F : Fine B) (hz : B.size ≤ 100 + 400 * j) (hk : k ≤ 20 + 5 * j) (hn : r[nl]? = some (.list (ts.map natV))) (hts : ∀ t ∈ ts, LeafT B t)
      (hM : Mk B j t ms) (hms : r[ml]? = some (.list (ms.map markV))) (hm1 : 1 ≤ ms.length) (hm2 : ms.length ≤ 3 + 3 * j) (hr : rows.length ≤ 60 * j) :
      LapI A o cs nl n m ts j [some (.ext A), some (.loc 2), some bankV, some (.loc (nl + 15)), some (.tup [natV t, .loc (ml + 15)]), some (selfV n), a6, a7, a8, a9, a10, a11, a12, a13, a14] (mkS (deckP o cs k) B r)
theorem lap_wp {A : Addr} {o : O} {cs : List Nat} {nl n m k t ml j : Nat} {ts : List Nat} {B : Bk} {r : List O} {ms : List (Option (Nat × Nat))} {rows : List V} {a7 a8 a9 a10 a11 a12 a13 a14 : Option V} {T : V → St → Prop} {E : Addr → Str → Rho → St → Prop} (hj : j < 4) (hc : cs.length ≤ 100) (ht : ts.length = 2) (hnl : nl ∉ [n, m])
    (hB : BR r n m 200000 rows.length rows) (F : Fine B) (hz : B.size ≤ 100 + 400 * j) (hk : k ≤ 20 + 5 * j) (hn : r[nl]? = some (.list (ts.map natV))) (hts : ∀ t ∈ ts, LeafT B t)
      (hM : Mk B j t ms) (hms : r[ml]? = some (.list (ms.map markV))) (hm1 : 1 ≤ ms.length) (hm2 : ms.length ≤ 3 + 3 * j) (hr : rows.length ≤ 60 * j) :
    wpL (.cons (.asg (.name 4) (.call 788 (.cons (.var 1) (.cons (.var 2) (.cons (.var 3) (.cons (.var 4) .nil)))))) (.cons (.asg (.tup [7, 8]) (.var 4)) (.cons (.ifs (.bop false (.cons (.cmp (.meth (.var 2) 29 (.cons (.var 7) .nil)) (.cons .NotEq (.bi .len (.cons (.var 8) .nil)) .nil)) (.cons (.cmp (.comp (.call 795 (.cons (.var 5) (.cons (.var 7) (.cons (.var 15) .nil)))) (.var 15) (.range (.cons (.bi .len (.cons (.var 8) .nil)) .nil)) .nil 1) (.cons .NotEq (.var 8) .nil)) .nil))) (.cons (.ret (.lit (.bool false))) .nil) .nil) (.cons (.asg (.tup [9, 10]) (.tup (.cons (.call 800 (.cons (.var 5) (.cons (.var 7) .nil))) (.cons (.bi .len (.cons (.attr (.var 5) 22) .nil)) .nil)))) (.cons (.ifs (.cmp (.bi .list (.cons (.meth (.var 5) 48 (.cons (.var 7) (.cons (.meth (.var 2) 25 (.cons (.var 7) .nil)) .nil))) .nil)) (.cons .NotEq (.bi .list (.cons (.meth (.var 2) 26 (.cons (.var 7) .nil)) .nil)) .nil)) (.cons (.ret (.lit (.bool false))) .nil) .nil) (.cons (.asg (.name 11) (.slc (.attr (.var 5) 22) (.var 10) (.lit .none))) (.cons (.for (.tup [12, 13]) (.expr (.var 9)) (.cons (.asg (.tup [14, 11]) (.tup (.cons (.slc (.var 11) (.lit .none) (.bi .len (.cons (.var 13) .nil))) (.cons (.slc (.var 11) (.bi .len (.cons (.var 13) .nil)) (.lit .none)) .nil)))) (.cons (.ifs (.bop false (.cons (.cmp (.bi .sorted (.cons (.comp (.bi .sorted (.cons (.var 15) .nil)) (.tup [15, 16]) (.expr (.var 14)) .nil 2) .nil)) (.cons .NotEq (.var 12) .nil)) (.cons (.cmp (.comp (.var 16) (.tup [15, 16]) (.expr (.var 14)) .nil 2) (.cons .NotEq (.var 13) .nil)) .nil))) (.cons (.ret (.lit (.bool false))) .nil) .nil) .nil))) (.cons (.ifs (.bop false (.cons (.cmp (.var 11) (.cons .NotEq (.lst .nil) .nil)) (.cons (.not (.call 807 (.cons (.var 5) (.cons (.var 7) (.cons (.item (.tup (.cons (.lit (.str (sx "bvadd"))) (.cons (.lit (.str (sx "bvnot"))) (.cons (.lit (.str (sx "rotate"))) .nil)))) (.bin .Mod (.var 6) (.lit (.int 3)))) .nil))))) .nil))) (.cons (.ret (.lit (.bool false))) .nil) .nil) .nil)))))))) (mach e 11) [some (.ext A), some (.loc 2), some bankV, some (.loc (nl + 15)), some (.tup [natV t, .loc (ml + 15)]), some (selfV n), some (natV j), a7, a8, a9, a10, a11, a12, a13, a14] (mkS (deckP o cs k) B r) (fun ρ σ => LapI A o cs nl n m ts (j + 1) ρ σ) T E := by
  refine wired_wp 7 F (by omega) hc (by omega) hn ht hts hM hms hm1 (by omega) fun t' ms' k' B1 r1 ml' hM1 hj1 x1 hk1 k1 hml1 hms1 hm3 hm4 => ?_
  have hz1 := x1.sz
  have hB1 := hB.keep k1 nin0 nin0
  refine wp_eq (width_is _ hM1.wid) (wp_lenM (show (mkS (deckP o cs k') B1 r1)[ml' + 15]? = _ from hms1) (by omega) (cnd_nno rfl ?_))
  refine wp_lenM (show (mkS (deckP o cs k') B1 r1)[ml' + 15]? = _ from hms1) (by omega) (OfP.mk (wp_rng (n := ms'.length) (by omega)) (ends_wp hB1 x1.fine (by omega) hM1 rfl (by omega) (by omega) fun B2 x2 => ?_))
  have hz2 := x2.sz
  refine OfP.mk (ne_locs (σ := mkS (deckP o cs k') B2 (r1 ++ [O.list (ms'.map markV)])) (a := r1.length + 15) (b := ml' + 15) new_at (app_at hms1) fun v m => (List.mem_map.mp m).elim fun x q => q.2 ▸ eq_mark) (cnd_f rfl ?_)
  have hj2 : Joined B2 t' := hj1.k.elim fun a h => h.elim fun b h => h.elim fun c h => h.elim fun d h => ⟨a, b, c, d, x2.key h.1, h.2.1, h.2.2.1, x2.wid h.2.2.2.1, h.2.2.2.2⟩
  have hM2 := hM1.ext x2
  have hml : ml' ∉ [n, m] := nin2 (Nat.ne_of_gt (Nat.lt_of_lt_of_le hB.nlt hml1)) (Nat.ne_of_gt (Nat.lt_of_lt_of_le hB.mlt hml1))
  refine lap2 (r := r1 ++ [O.list (ms'.map markV)]) hB1.app (by omega) x2.fine (by omega) hj2 hM2.wid (by omega) (fun kk hkk i hi => hM2.org hkk ?_ hi) fun r3 B3 rows' v9 v10 v11 v12 v13 v14 k3 x3 b3 hr3 => ?_
  · obtain ⟨kk', a, b, c, h1, -, -, -, h2⟩ := hj2.k
    cases hkk.symm.trans h1
    exact h2
  · have hz3 := x3.sz
    have k4 : Keep [n, m] r r3 := (k1.mono fun _ m => nomatch m).trans (Keep.app.trans k3)
    exact .mk r3 B3 k' t' ml' ms' rows' _ _ _ _ _ _ _ _ _ b3 x3.fine (by omega) (by omega) (k4.2 hnl hn) (fun t m => (((hts t m).ext x1).ext x2).ext x3) (hM2.ext x3) (k3.2 hml (app_at hms1)) hm3 (by omega) (by omega)
end
end QZ
namespace QZ
open PySem
theorem fine_start : Fine Bk.start := by
  refine ⟨rfl, fun w s h => (nomatch h), fun n k h a m => ?_⟩
  have hk : k ∈ Bk.start.K := List.mem_of_getElem? h
  rcases List.mem_cons.mp hk with rfl | hk
  · cases m
  · cases List.mem_singleton.mp hk
    cases m
theorem slice_ext {ext : Addr → Option (List V)} {A : Addr} {ns : List Int} (hx : ext A = some (ns.map V.int)) (hl : ns.length ≤ 63) : slice ext (.ext A) .none (.int 40) [] = .ok (.loc 0) [.list ((ns.take 40).map V.int)] := by
  have h3 : (ns.map V.int).length ≤ 63 := map_len hl
  refine (congrArg (fun o : Option (List V) => ofO o fun l => ofO (cut1 l.length l.length (.int 40)) fun b => cond (decide (l.length ≤ 10000)) (Res.ok (V.loc 0) [O.list ((l.take b).drop 0)]) .stuck) hx).trans ((if_dec (show (ns.map V.int).length ≤ 10000 by omega)).trans ?_)
  rw [show clipAt (ns.map V.int).length 40 = min 40 (ns.map V.int).length from clip_nat (a := 40), ← List.take_eq_take_min, List.map_take]
  rfl
section
variable {e : Addr → Option (List V)}
theorem mach_co {d : Nat} : (mach e d).co = run (PPx e) d := rfl
theorem start_wp {o1 o2 o3 : O} {Q : QV} {E : QE} (q : Q bankV (mkS (o1, o2, o3) Bk.start [])) : WP ((mach e 11).co 767 [] [o1, o2, o3]) Q E := by
  rw [mach_co]
  exact wp_eq (start_is 7) q
noncomputable def cut9 (c : Int) : Nat := c.natAbs % 99991
inductive CutI (w l : List Int) : List V → St → Prop
  | mk (a : List Int) (e : a ++ l = w) : CutI w l ((a.map cut9).map natV) [.list (w.map V.int)]
theorem deck_new {o : O} {cs : List Nat} {k : V → St → Prop} (q : k (.loc 2) [o, .list (cs.map natV), .dict .s [(.str (sx "given"), .loc 1), (.str (sx "many"), .int 0)]]) :
    cond (([(.str (sx "given"), .loc 1), (.str (sx "many"), .int 0)] : List (V × V)).all (fun p => keyOk .s p.1)) (k (.loc 2) ([o, .list (cs.map natV)] ++ [.dict .s (([(.str (sx "given"), .loc 1), (.str (sx "many"), .int 0)] : List (V × V)).foldl (fun d p => putD p.1 p.2 d) [])])) False := by
  rw [show ([(.str (sx "given"), .loc 1), (.str (sx "many"), .int 0)] : List (V × V)).foldl (fun d p => putD p.1 p.2 d) [] = [(.str (sx "given"), .loc 1), (.str (sx "many"), .int 0)] by kernel_rfl]
  exact q
inductive NamI (o : O) (cs : List Nat) (l : List Str) : List V → St → Prop
  | mk (ts : List Nat) (B : Bk) (F : Fine B) (hz : B.size ≤ 10 + 10 * ts.length) (h : ∀ t ∈ ts, LeafT B t) (hl : ts.length + l.length = 2) : NamI o cs l (ts.map natV) (mkS (deckP o cs ts.length) B [])
theorem law_rest {A : Addr} {o : O} {cs : List Nat} (hc : cs.length ≤ 100) : wpL (.cons (.asg (.name 3) (.comp (.meth (.var 2) 24 (.cons (.var 15) (.cons (.meth (.var 2) 32 (.cons (.bin .Add (.lit (.int 1)) (.call 776 (.cons (.var 1) (.cons (.lit (.int 3)) .nil)))) .nil)) .nil))) (.var 15) (.expr (.tup (.cons (.lit (.str (sx "x"))) (.cons (.lit (.str (sx "y"))) .nil)))) .nil 1)) (.cons (.asg (.name 4) (.call 781 (.cons (.var 1) (.cons (.var 2) (.cons (.var 3) .nil))))) (.cons (.asg (.name 5) (.call 237 (.cons (.var 2) .nil))) (.cons (.for (.var 6) (.range (.cons (.bin .Add (.lit (.int 1)) (.call 776 (.cons (.var 1) (.cons (.lit (.int 4)) .nil)))) .nil)) (.cons (.asg (.name 4) (.call 788 (.cons (.var 1) (.cons (.var 2) (.cons (.var 3) (.cons (.var 4) .nil)))))) (.cons (.asg (.tup [7, 8]) (.var 4)) (.cons (.ifs (.bop false (.cons (.cmp (.meth (.var 2) 29 (.cons (.var 7) .nil)) (.cons .NotEq (.bi .len (.cons (.var 8) .nil)) .nil)) (.cons (.cmp (.comp (.call 795 (.cons (.var 5) (.cons (.var 7) (.cons (.var 15) .nil)))) (.var 15) (.range (.cons (.bi .len (.cons (.var 8) .nil)) .nil)) .nil 1) (.cons .NotEq (.var 8) .nil)) .nil))) (.cons (.ret (.lit (.bool false))) .nil) .nil) (.cons (.asg (.tup [9, 10]) (.tup (.cons (.call 800 (.cons (.var 5) (.cons (.var 7) .nil))) (.cons (.bi .len (.cons (.attr (.var 5) 22) .nil)) .nil)))) (.cons (.ifs (.cmp (.bi .list (.cons (.meth (.var 5) 48 (.cons (.var 7) (.cons (.meth (.var 2) 25 (.cons (.var 7) .nil)) .nil))) .nil)) (.cons .NotEq (.bi .list (.cons (.meth (.var 2) 26 (.cons (.var 7) .nil)) .nil)) .nil)) (.cons (.ret (.lit (.bool false))) .nil) .nil) (.cons (.asg (.name 11) (.slc (.attr (.var 5) 22) (.var 10) (.lit .none))) (.cons (.for (.tup [12, 13]) (.expr (.var 9)) (.cons (.asg (.tup [14, 11]) (.tup (.cons (.slc (.var 11) (.lit .none) (.bi .len (.cons (.var 13) .nil))) (.cons (.slc (.var 11) (.bi .len (.cons (.var 13) .nil)) (.lit .none)) .nil)))) (.cons (.ifs (.bop false (.cons (.cmp (.bi .sorted (.cons (.comp (.bi .sorted (.cons (.var 15) .nil)) (.tup [15, 16]) (.expr (.var 14)) .nil 2) .nil)) (.cons .NotEq (.var 12) .nil)) (.cons (.cmp (.comp (.var 16) (.tup [15, 16]) (.expr (.var 14)) .nil 2) (.cons .NotEq (.var 13) .nil)) .nil))) (.cons (.ret (.lit (.bool false))) .nil) .nil) .nil))) (.cons (.ifs (.bop false (.cons (.cmp (.var 11) (.cons .NotEq (.lst .nil) .nil)) (.cons (.not (.call 807 (.cons (.var 5) (.cons (.var 7) (.cons (.item (.tup (.cons (.lit (.str (sx "bvadd"))) (.cons (.lit (.str (sx "bvnot"))) (.cons (.lit (.str (sx "rotate"))) .nil)))) (.bin .Mod (.var 6) (.lit (.int 3)))) .nil))))) .nil))) (.cons (.ret (.lit (.bool false))) .nil) .nil) .nil))))))))) (.cons (.ret (.lit (.bool true))) .nil))))) (mach e 11) [some (.ext A), some (.loc 2), some bankV, none, none, none, none, none, none, none, none, none, none, none, none] (mkS (deckP o cs 0) Bk.start []) (fun _ σ => V.none = .bool true) (fun v _ => v = .bool true) (fun c m _ σ => NoE c m σ) := by
  refine OfP.mk (a := .tup [.str (sx "x"), .str (sx "y")]) rfl (wr_tupM (f := V.str) (l := [sx "x", sx "y"]) (NamI o cs) (.mk [] Bk.start fine_start (by decide) (fun _ m => nomatch m) rfl) ?_ ?_)
  · intro name l acc σ hm h
    cases h with
    | mk ts B F hz h hl =>
      rw [List.length_cons] at hl
      refine wt_turn (ρ' := [some (.ext A), some (.loc 2), some bankV, none, none, none, none, none, none, none, none, none, none, none, none, some (.str name)]) rfl (.t (dealt_wp (many := 3) 10 hc (by omega) (by decide) fun v hv => ?_))
      refine srt_wp (w := 1 + v) 10 F (by omega) (by omega) (by omega) fun s B1 x1 hs hsl hK => ?_
      have hz1 := x1.sz
      refine fresh_wp 9 x1.fine (by omega) hs hsl fun t k B2 x2 h1 h2 h3 => ⟨map_len (by omega), ?_⟩
      have hz2 := x2.sz
      rw [map_snoc (f := natV)]
      have el : (ts ++ [t]).length = ts.length + 1 := List.length_append
      rw [← el]
      refine .mk (ts ++ [t]) B2 x2.fine (by omega) (fun u hu => ?_) (by omega)
      rcases List.mem_append.mp hu with hu | hu
      · exact ((h u hu).ext x1).ext x2
      · exact List.mem_singleton.mp hu ▸ ⟨k, 1 + v, h1, h2, h3, by omega, by omega⟩
  · intro acc σ h
    cases h with
    | mk ts B F hz h hl =>
      have hts : ts.length = 2 := hl
      rw [hts] at hz ⊢
      refine leaf_wp (k := 2) (nl := 0) (r := [O.list (ts.map natV)]) 8 F (by omega) hc (by decide) rfl hts h fun t w k B1 hw1 hw2 hM x1 hk => ?_
      have hz1 := x1.sz
      refine rows_wp (e := e) (r := [O.list (ts.map natV)] ++ [O.list ((leafs t w).map markV)]) (most := 200000) 9 (args := [bankV]) (Or.inr ⟨rfl, rfl⟩) fun r' k' b' => ?_
      refine dealt_wp (many := 4) 10 hc (by omega) (by decide) fun v hv => ?_
      refine OfP.mk (wp_rng (n := 1 + v) (by omega)) (wr_rng (n := 1 + v) (LapI A o cs 0 2 4 ts) ?_ ?_ ?_)
      · exact .mk r' B1 (k + 1) t 1 (leafs t w) [] none none none none none none none none none b' x1.fine (by omega) (by omega) (k'.2 nin0 rfl) (fun t m => (h t m).ext x1) hM (k'.2 nin0 rfl) (by rw [leafs_len]; exact hw1) (by rw [leafs_len]; omega) (Nat.zero_le _)
      · intro j ρ σ hj h
        cases h with
        | mk r B k t ml ms rows a6 a7 a8 a9 a10 a11 a12 a13 a14 hB F hz hk hn hts' hM hms hm1 hm2 hr =>
          exact wf_turn (ρ' := [some (.ext A), some (.loc 2), some bankV, some (.loc 15), some (.tup [natV t, .loc (ml + 15)]), some (selfV 2), some (natV j), a7, a8, a9, a10, a11, a12, a13, a14]) rfl (lap_wp (by omega) hc hts (by decide) hB F hz hk hn hts' hM hms hm1 hm2 hr)
      · intro ρ σ h
        cases h with
        | mk => exact rfl
theorem law_wp {A : Addr} {ns : List Int} (hx : e A = some (ns.map V.int)) (hns : ns.length ≤ 63) : WP (run (PPx e) 12 812 [.ext A] []) (fun v _ => v = .bool true) NoE := by
  refine wp_fn (f := f_law) (ρ := [some (.ext A), none, none, none, none, none, none, none, none, none, none, none, none, none, none]) rfl rfl ?_
  refine wp_eq (slice_ext hx hns) (OfP.mk (wp_src (n := 0) (l := (ns.take 40).map V.int) rfl) (wr_lstM (f := V.int) (l := ns.take 40) (CutI (ns.take 40)) (.mk [] rfl) ?_ ?_ ?_))
  · intro l acc σ h
    cases h with
    | mk a e' => rfl
  · intro c l acc σ hc h
    cases h with
    | mk a e' =>
      have hal : a.length ≤ 10000 := by
        have := congrArg List.length e'
        rw [List.length_append, List.length_take] at this
        omega
      refine wt_turn (ρ' := [some (.ext A), none, none, none, none, none, none, none, none, none, none, none, none, none, none, some (.int c)]) rfl (.t (wp_eq (v := natV c.natAbs) rfl (wp_eq (mod_nat (m := 99991) (by decide)) ⟨map_len (map_len hal), ?_⟩)))
      rw [map_snoc (f := natV), show c.natAbs % 99991 = cut9 c from rfl, map_snoc (f := cut9)]
      exact .mk (a ++ [c]) ((List.append_assoc ..).trans e')
  · intro acc σ h
    cases h with
    | mk a e' =>
      have e' : a = ns.take 40 := (List.append_nil _).symm.trans e'
      subst e'
      have hcl : ((ns.take 40).map cut9).length ≤ 100 := map_len (by rw [List.length_take]; omega)
      generalize (ns.take 40).map cut9 = cs at hcl ⊢
      generalize O.list ((ns.take 40).map V.int) = o
      refine deck_new (o := o) (cs := cs) (k := fun v σ => (wpXL (.cons (.call 767 .nil) .nil)).l (mach e 11) [some (.ext A), none, none, none, none, none, none, none, none, none, none, none, none, none, none] σ (fun vs σ => asgP (mach e 11) (.tup [1, 2]) (.tup (v :: vs)) [some (.ext A), none, none, none, none, none, none, none, none, none, none, none, none, none, none] σ fun ρ σ => wpL (.cons (.asg (.name 3) (.comp (.meth (.var 2) 24 (.cons (.var 15) (.cons (.meth (.var 2) 32 (.cons (.bin .Add (.lit (.int 1)) (.call 776 (.cons (.var 1) (.cons (.lit (.int 3)) .nil)))) .nil)) .nil))) (.var 15) (.expr (.tup (.cons (.lit (.str (sx "x"))) (.cons (.lit (.str (sx "y"))) .nil)))) .nil 1)) (.cons (.asg (.name 4) (.call 781 (.cons (.var 1) (.cons (.var 2) (.cons (.var 3) .nil))))) (.cons (.asg (.name 5) (.call 237 (.cons (.var 2) .nil))) (.cons (.for (.var 6) (.range (.cons (.bin .Add (.lit (.int 1)) (.call 776 (.cons (.var 1) (.cons (.lit (.int 4)) .nil)))) .nil)) (.cons (.asg (.name 4) (.call 788 (.cons (.var 1) (.cons (.var 2) (.cons (.var 3) (.cons (.var 4) .nil)))))) (.cons (.asg (.tup [7, 8]) (.var 4)) (.cons (.ifs (.bop false (.cons (.cmp (.meth (.var 2) 29 (.cons (.var 7) .nil)) (.cons .NotEq (.bi .len (.cons (.var 8) .nil)) .nil)) (.cons (.cmp (.comp (.call 795 (.cons (.var 5) (.cons (.var 7) (.cons (.var 15) .nil)))) (.var 15) (.range (.cons (.bi .len (.cons (.var 8) .nil)) .nil)) .nil 1) (.cons .NotEq (.var 8) .nil)) .nil))) (.cons (.ret (.lit (.bool false))) .nil) .nil) (.cons (.asg (.tup [9, 10]) (.tup (.cons (.call 800 (.cons (.var 5) (.cons (.var 7) .nil))) (.cons (.bi .len (.cons (.attr (.var 5) 22) .nil)) .nil)))) (.cons (.ifs (.cmp (.bi .list (.cons (.meth (.var 5) 48 (.cons (.var 7) (.cons (.meth (.var 2) 25 (.cons (.var 7) .nil)) .nil))) .nil)) (.cons .NotEq (.bi .list (.cons (.meth (.var 2) 26 (.cons (.var 7) .nil)) .nil)) .nil)) (.cons (.ret (.lit (.bool false))) .nil) .nil) (.cons (.asg (.name 11) (.slc (.attr (.var 5) 22) (.var 10) (.lit .none))) (.cons (.for (.tup [12, 13]) (.expr (.var 9)) (.cons (.asg (.tup [14, 11]) (.tup (.cons (.slc (.var 11) (.lit .none) (.bi .len (.cons (.var 13) .nil))) (.cons (.slc (.var 11) (.bi .len (.cons (.var 13) .nil)) (.lit .none)) .nil)))) (.cons (.ifs (.bop false (.cons (.cmp (.bi .sorted (.cons (.comp (.bi .sorted (.cons (.var 15) .nil)) (.tup [15, 16]) (.expr (.var 14)) .nil 2) .nil)) (.cons .NotEq (.var 12) .nil)) (.cons (.cmp (.comp (.var 16) (.tup [15, 16]) (.expr (.var 14)) .nil 2) (.cons .NotEq (.var 13) .nil)) .nil))) (.cons (.ret (.lit (.bool false))) .nil) .nil) .nil))) (.cons (.ifs (.bop false (.cons (.cmp (.var 11) (.cons .NotEq (.lst .nil) .nil)) (.cons (.not (.call 807 (.cons (.var 5) (.cons (.var 7) (.cons (.item (.tup (.cons (.lit (.str (sx "bvadd"))) (.cons (.lit (.str (sx "bvnot"))) (.cons (.lit (.str (sx "rotate"))) .nil)))) (.bin .Mod (.var 6) (.lit (.int 3)))) .nil))))) .nil))) (.cons (.ret (.lit (.bool false))) .nil) .nil) .nil))))))))) (.cons (.ret (.lit (.bool true))) .nil))))) (mach e 11) ρ σ (fun _ σ => V.none = .bool true) (fun v _ => v = .bool true) (fun c m _ σ => NoE c m σ)) (fun c m σ => NoE c m σ)) ?_
      refine start_wp (o1 := o) (o2 := .list (cs.map natV)) (o3 := .dict .s [(.str (sx "given"), .loc 1), (.str (sx "many"), .int 0)]) ?_
      exact law_rest hcl
end
end QZ
namespace QZ
open PySem PySem.W PySem.Calls PyProof.Rows
noncomputable def TT : Tab := ⟨[(Str.ofString "BOOL", .int 0), (Str.ofString "WIDEST", .int 4096), (Str.ofString "MOST_ROWS", .int 200000)], [(Str.ofString "same_clauses", 95), (Str.ofString "tidy_clause", 102), (Str.ofString "_law_dealt", 776), (Str.ofString "_law_leaf", 781), (Str.ofString "_law_wired", 788), (Str.ofString "_law_end", 795), (Str.ofString "_law_due", 800), (Str.ofString "_law_is_refused", 807), (Str.ofString "TermBank", 767), (Str.ofString "BitRows", 237), (Str.ofString "SortFault", 67), (Str.ofString "LimitFault", 86)], [67, 86]⟩
noncomputable def LL : LawD := ⟨TT, fnL, methL, initL, 666, .cons (.asg (.attr (.var 0) 16) (.dct .i .nil)) .nil, (767, 255), 812⟩
noncomputable abbrev pL := PySem.Challenge.pw_qz0035_02
noncomputable abbrev rowL := PySem.Challenge.rw_qz0035_02.row
noncomputable def qv : Program := view pL [0, 2, 3, 4, 6, 7, 8, 9, 11, 12, 13, 14, 15, 16, 18, 19, 20, 21, 22, 23, 24]
noncomputable def looseN : List Str := [Str.ofString "BitRows"]
noncomputable def XtL (s : Shared) : Bool := xlAt qv [] s && recOk (RowW.records rowL.toRowW) s
noncomputable def YtL (x : SharedT) : Bool := LL.chk pL (fragT x [2, 3, 25, 36, 37, 46, 47, 66, 67, 85, 86, 94, 95, 101, 102, 110, 116, 117, 128, 129, 156, 157, 205, 206, 212, 213, 236, 237, 254, 255, 296, 297, 310, 311, 345, 346, 352, 353, 366, 367, 373, 374, 387, 388, 408, 409, 453, 454, 558, 559, 647, 648, 654, 665, 666, 672, 673, 686, 687, 693, 694, 714, 715, 721, 722, 728, 729, 735, 736, 742, 743, 749, 750, 763, 764, 766, 767, 775, 776, 780, 781, 787, 788, 794, 795, 799, 800, 806, 807, 811, 812])
theorem q_and {a b : Bool} (h : a = true) (k : b = true) : (a && b) = true := Bool.and_eq_true_iff.mpr ⟨h, k⟩
noncomputable abbrev lawW := PySem.Challenge.rw_qz0035_02
noncomputable abbrev lawP := lawW.row.prog
theorem lk_1 : sreFenced lawP.main = true := by kernel_rfl
theorem lk_2 : ((moduleNames lawP.main.body).isEmpty || lookedIntoSs (moduleNames lawP.main.body) lawP.main.body) = true := by kernel_rfl
theorem lk_3 : namesResolve lawP = true := by kernel_rfl
theorem lk_4 : lawP.boundNames.all (fun n => !worldNames.contains n) = true := by kernel_rfl
theorem lk_5 : noRoadLSs { strict := !(importedModules lawP.main.body).all cThrough.contains, foot := none, bare := (["vars", "dir", "locals"] : List Str).filter (readsOut lawP lawP.main.body) } lawP.main.body = true := by kernel_rfl
theorem lk_6 : (namesMeet lawP lawP.main.body fun _ n => attrL n) = true := by kernel_rfl
theorem lk_ok : looksOpen lawP = true := by
  delta PySem.W.looksOpen
  exact q_and (q_and (q_and (q_and (q_and lk_1 lk_2) lk_3) lk_4) lk_5) lk_6
theorem part_ok : lawW.row.partSaid = true := by
  delta PySem.W.OpenRow.partSaid
  exact q_and (q_and (q_and (q_and (q_and (q_and (q_and (q_and (q_and (q_and (q_and (q_and (q_and lk_ok (by kernel_rfl)) (by kernel_rfl)) (by kernel_rfl)) (by kernel_rfl)) (by kernel_rfl)) (by kernel_rfl)) (by kernel_rfl)) (by kernel_rfl)) (by kernel_rfl)) (by kernel_rfl)) (by kernel_rfl)) (by kernel_rfl)) (by kernel_rfl)
theorem row_ok : lawW.row.wellSaid = true := by
  delta PySem.W.OpenRow.wellSaid
  exact q_and (q_and part_ok (by kernel_rfl)) (by kernel_rfl)
theorem said_2 : noRoadLSs { strict := true, foot := some lawW.bound', writes := lawW.writes, may := lawW.may } lawW.footing = true := by kernel_rfl
theorem said_3 : defStands lawW.about lawW.above = true := by kernel_rfl
theorem said_4 : lawW.namesIt = true := by kernel_rfl
theorem said_5 : ((["type", "isinstance", "issubclass", "getattr", "hasattr"] : List Str).all (fun n => lawW.about != [n])) = true := by kernel_rfl
theorem said_6 : lawW.bound'.all (fun n => !builtinNamed n || lawW.about == [n] || !lawW.reads n) = true := by kernel_rfl
theorem said_7 : (!lawW.writes || (lawW.prog.main.body.flatMap importedNames).all fun n => !lawW.reads n) = true := by kernel_rfl
theorem said_8 : ((lawW.prog.main.body.flatMap importedNames).all (fun n => !lawW.reads n || (drawsOf n lawW.prog.main.body).all fun mn => mn.2 != ("attrgetter" : Str) && mn.2 != ("methodcaller" : Str))) = true := by kernel_rfl
theorem said_9 : namesMeet lawW.prog lawW.footing (fun sc n => (!(["type", "isinstance", "issubclass", "getattr", "hasattr"] : List Str).contains n || sc.names.lookup n == some .globalImplicit) &&
    (lawW.may != some n || sc.kind == .module || sc.names.lookup n == some .globalImplicit)) = true := by kernel_rfl
theorem said_10 : lawW.own.contains lawW.name = true := by kernel_rfl
theorem said_11 : (lawW.own.eraseDups.length == lawW.own.length) = true := by kernel_rfl
theorem said_12 : lawW.own.all (fun n => !builtinNamed n) = true := by kernel_rfl
theorem said_13 : namesMeet lawW.prog lawW.above (fun _ n => !lawW.own.contains n) = true := by kernel_rfl
theorem said_14 : (namesMeet lawW.prog lawW.footing fun sc n => sc.kind == .module || sc.names.lookup n != some .globalExplicit) = true := by kernel_rfl
theorem said_ok : PySem.Challenge.rw_qz0035_02.wellSaid = true := by
  delta PySem.W.OpenLaw.wellSaid
  exact q_and (q_and (q_and (q_and (q_and (q_and (q_and (q_and (q_and (q_and (q_and (q_and (q_and (q_and (q_and (q_and (q_and (q_and row_ok (by kernel_rfl)) (by kernel_rfl)) (by kernel_rfl)) (by kernel_rfl)) (by kernel_rfl)) said_2) said_3) said_4) said_5) said_6) said_7) said_8) said_9) said_10) said_11) said_12) said_13) said_14
theorem head_ab (w : World) : headAB pL qv looseN XtL w 10210 = some (true, openGood qv looseN) := by kernel_rfl
theorem head_c (w : World) : headC pL YtL w 10210 = some true := by kernel_rfl
theorem dL_some : (defOf qv rowL.name).isSome = true := by kernel_rfl
noncomputable def dL := (defOf qv rowL.name).get dL_some
theorem dL_eq : defOf qv rowL.name = some (dL.1, dL.2) := (Option.some_get (x := defOf qv rowL.name) dL_some).symm
set_option maxHeartbeats 8000000 in
theorem head (W : WalkO qv looseN (PySem.W.XL qv []) (fun _ h => Seen LL pL h) rowL.toRowW dL.1 dL.2 fun f vs => call f vs) : PySem.Challenge.rw_qz0035_02.Holds := by
  w_on
  refine holds_law said_ok fun said => ?_
  refine PySem.W.holds_open (q := qv) (loose := looseN) (Xt := XtL) (XP := PySem.W.XL qv []) (Yf := lookP (Seen LL pL)) (Ya := fun _ => true) (YP := fun _ h => Seen LL pL h) (N := 10210) (d := dL.1) (kwd := dL.2) (headQ_of (fun x e => ⟨_, e, fragT_in⟩) head_ab head_c) (fun w s e => @of_decide_eq_true _ (Classical.propDecidable _) e) (fun w h h' k z => k.keeps z)
    (fun s e => xl_of s (Bool.and_eq_true_iff.mp e).1) PySem.W.XL.keeps dL_eq (by kernel_rfl) (by kernel_rfl) (fun s e => recFacts_of (Bool.and_eq_true_iff.mp e).2) (by rfl) said (by kernel_rfl) ⟨rfl, rfl, rfl, rfl, rfl, by decide +kernel⟩ ?_ W
  w_witness2
end QZ
namespace QZ
open PySem
theorem plain : LL.Plain := by
  intro A ns hns
  obtain ⟨v, σ, h1, rfl⟩ := wp_ex (law_wp (e := extOf A ns) (A := A) (if_pos rfl) hns)
  exact ⟨σ, h1⟩
end QZ
open PySem PySem.W PyProof.Rows
set_option maxHeartbeats 8000000 in
theorem PySem.Challenge.cw_qz0035_02_holds : PySem.Challenge.rw_qz0035_02.Holds :=
  QZ.head (by
  intro w s₀ s₁ mg mb G Y fa o pm cd doc dV kV ho hd hcd hD hmg hg args vals as hpre hlay hrd hwl hlo
  refine Ground.open G ?_
  intro T B D TE TW
  wrow_args hpre hlay hrd hwl hlo
  rename_i ns hs hl0 hl1 hr1 hl2 as1 as2 A vs as3 hL ra w1 r0 hI hr hc1 hc2
  refine QZ.law_join (L := QZ.LL) QZ.plain rfl (by decide +kernel) (by decide) QZ.sorted_ok T Y (by kernel_rfl) hmg hg hL hI (by omega) fun s' k1 k2 k3 => ?_
  refine GoodW.toG ⟨.inl ⟨.bool true, ofPy (.bool true), [], rfl, fun cls => ?_, ?_, ?_, fun _ => ⟨List.nodup_nil, fun a ha => nomatch ha⟩⟩, k1, k3, k2⟩
  · rfl
  · exact .bool true
  · kernel_rfl)
