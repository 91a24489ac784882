import PyProof.Rows.All
import Wide.All
import OpenK.AllK
import Wide.FinOn
import Lean
import PySem.Challenge.RW_nn0049_01
open PySem PySem.W PyProof.Rows
set_option Elab.async false
set_option maxRecDepth 100000
set_option linter.unusedVariables false
namespace Mine
inductive V where
  | none
  | bool (b : Bool)
  | int (i : Int)
  | str (s : List Nat)
  | rng (n : Nat)
  | tuple (vs : List V)
  | list (vs : List V)
  | dict (es : List (V × V))
  | inst (c : Nat) (fs : List (Nat × V)) (n : Option Nat)
inductive COp where
  | eq | ne | lt | gt | ge | in_ | notin
inductive Bif where
  | len | range | list | tuple | sorted | any | int
inductive M where
  | cst (v : V)
  | var (x : Nat)
  | tup (es : List M)
  | lst (es : List M)
  | add (a b : M)
  | mul (a b : M)
  | fdiv (a b : M)
  | fmod (a b : M)
  | neg (a : M)
  | cmp (op : COp) (a b : M)
  | not (a : M)
  | and (es : List M)
  | or (es : List M)
  | ite (c a b : M)
  | attr (a : M) (f : Nat)
  | idx (a i : M)
  | upto (a u : M)
  | frm (a l : M)
  | comp (elt : M) (x : Nat) (it : M) (cs : List M)
  | dcomp (k v : M) (x : Nat) (it : M)
  | call (f : Nat) (as : List M)
  | meth (a : M) (m : Nat) (as : List M)
  | form (as : List M)
  | iset (a : M)
  | bif (b : Bif) (a : M)
  | split (a b : M)
  | lstrip (a b : M)
  | get (d k z : M)
  | bad
inductive S where
  | asg (x : Nat) (e : M)
  | newL (x : Nat)
  | newD (x : Nat)
  | asgT (xs : List Nat) (e : M)
  | setA (x : Nat) (f : Nat) (e : M)
  | setI (x : Nat) (k : M) (v : M)
  | app (x : Nat) (e : M)
  | ife (c : M) (a b : List S)
  | forI (x : Nat) (e : M) (b : List S)
  | forT (xs : List Nat) (e : M) (b : List S)
  | ret (e : M)
  | cont
noncomputable def oP {α β γ : Type} (x : Option (α × β)) (F : α → β → Option γ) : Option γ := match x with
  | some (u, s) => F u s
  | none => none
noncomputable def o1 {α γ : Type} (x : Option α) (F : α → Option γ) : Option γ := match x with
  | some u => F u
  | none => none
noncomputable def oI {γ : Type} (b : Bool) (x : Option γ) : Option γ := match b with
  | true => x
  | false => none
noncomputable def oC {γ : Type} (b : Bool) (x y : γ) : γ := match b with
  | true => x
  | false => y
noncomputable def oE {α γ : Type} (x : Option α) (y : γ) (F : α → γ) : γ := match x with
  | some u => F u
  | none => y
noncomputable def wBool {γ : Type} (e : V) (F : Bool → Option γ) : Option γ := @V.casesOn (fun _ => Option γ) e none (fun b => F b) (fun _ => none) (fun _ => none) (fun _ => none) (fun _ => none) (fun _ => none) (fun _ => none) (fun _ _ _ => none)
noncomputable def wInt {γ : Type} (e : V) (F : Int → Option γ) : Option γ := @V.casesOn (fun _ => Option γ) e none (fun _ => none) (fun b => F b) (fun _ => none) (fun _ => none) (fun _ => none) (fun _ => none) (fun _ => none) (fun _ _ _ => none)
noncomputable def wList {γ : Type} (e : V) (F : List V → Option γ) : Option γ := @V.casesOn (fun _ => Option γ) e none (fun _ => none) (fun _ => none) (fun _ => none) (fun _ => none) (fun _ => none) (fun b => F b) (fun _ => none) (fun _ _ _ => none)
noncomputable def wDict {γ : Type} (e : V) (F : List (V × V) → Option γ) : Option γ := @V.casesOn (fun _ => Option γ) e none (fun _ => none) (fun _ => none) (fun _ => none) (fun _ => none) (fun _ => none) (fun _ => none) (fun b => F b) (fun _ _ _ => none)
noncomputable def wInst {γ : Type} (e : V) (F : Nat → List (Nat × V) → Option Nat → Option γ) : Option γ := @V.casesOn (fun _ => Option γ) e none (fun _ => none) (fun _ => none) (fun _ => none) (fun _ => none) (fun _ => none) (fun _ => none) (fun _ => none) (fun c fs n => F c fs n)
noncomputable def wStr {γ : Type} (e : V) (F : List Nat → Option γ) : Option γ := @V.casesOn (fun _ => Option γ) e none (fun _ => none) (fun _ => none) (fun b => F b) (fun _ => none) (fun _ => none) (fun _ => none) (fun _ => none) (fun _ _ _ => none)
noncomputable def wTup {γ : Type} (e : V) (F : List V → Option γ) : Option γ := @V.casesOn (fun _ => Option γ) e none (fun _ => none) (fun _ => none) (fun _ => none) (fun _ => none) (fun b => F b) (fun _ => none) (fun _ => none) (fun _ _ _ => none)
noncomputable def wNat {γ : Type} (i : Int) (F : Nat → Option γ) : Option γ := @Int.casesOn (fun _ => Option γ) i F fun _ => none
noncomputable def w1 {α γ : Type} (l : List α) (F : α → Option γ) : Option γ := @List.casesOn α (fun _ => Option γ) l none fun a r => @List.casesOn α (fun _ => Option γ) r (F a) fun _ _ => none
noncomputable def on3 {α : Type} (l : List α) (F : α → α → α → Bool) : Bool := @List.casesOn α (fun _ => Bool) l false fun a r => @List.casesOn α (fun _ => Bool) r false fun b r => @List.casesOn α (fun _ => Bool) r false fun c r => @List.casesOn α (fun _ => Bool) r (F a b c) fun _ _ => false
section
variable {α β γ : Type} {z : γ} {G : Prop}
theorem ff (h : false = true) : G := by cases h
theorem nn {a : α} (h : none = some a) : G := by cases h
theorem oP_c {x : Option (α × β)} {F : α → β → Option γ} (h : oP x F = some z) (k : ∀ u s, x = some (u, s) → F u s = some z → G) : G :=
  @Option.casesOn _ (fun x' => x = x' → oP x' F = some z → G) x (fun _ (h : none = some z) => nn h) (fun p e h => k p.1 p.2 e h) rfl h
theorem o1_c {x : Option α} {F : α → Option γ} (h : o1 x F = some z) (k : ∀ u, x = some u → F u = some z → G) : G :=
  @Option.casesOn _ (fun x' => x = x' → o1 x' F = some z → G) x (fun _ (h : none = some z) => nn h) k rfl h
theorem oI_c {b : Bool} {x : Option γ} (h : oI b x = some z) (k : b = true → x = some z → G) : G :=
  @Bool.casesOn (fun b' => b = b' → oI b' x = some z → G) b (fun _ (h : none = some z) => nn h) k rfl h
theorem oC_c {b : Bool} {x y : γ} (h : oC b x y = z) (k : b = true → x = z → G) (l : b = false → y = z → G) : G :=
  @Bool.casesOn (fun b' => b = b' → oC b' x y = z → G) b l k rfl h
theorem oE_c {x : Option α} {y : γ} {F : α → γ} (h : oE x y F = z) (k : x = none → y = z → G) (l : ∀ u, x = some u → F u = z → G) : G :=
  @Option.casesOn _ (fun x' => x = x' → oE x' y F = z → G) x k l rfl h
theorem wBool_c {e : V} {F : Bool → Option γ} (h : wBool e F = some z) (k : ∀ b, e = .bool b → F b = some z → G) : G :=
  @V.casesOn (fun e' => e = e' → wBool e' F = some z → G) e (fun _ (h : none = some z) => nn h) k (fun _ _ (h : none = some z) => nn h) (fun _ _ (h : none = some z) => nn h) (fun _ _ (h : none = some z) => nn h) (fun _ _ (h : none = some z) => nn h) (fun _ _ (h : none = some z) => nn h) (fun _ _ (h : none = some z) => nn h) (fun _ _ _ _ (h : none = some z) => nn h) rfl h
theorem wInt_c {e : V} {F : Int → Option γ} (h : wInt e F = some z) (k : ∀ b, e = .int b → F b = some z → G) : G :=
  @V.casesOn (fun e' => e = e' → wInt e' F = some z → G) e (fun _ (h : none = some z) => nn h) (fun _ _ (h : none = some z) => nn h) k (fun _ _ (h : none = some z) => nn h) (fun _ _ (h : none = some z) => nn h) (fun _ _ (h : none = some z) => nn h) (fun _ _ (h : none = some z) => nn h) (fun _ _ (h : none = some z) => nn h) (fun _ _ _ _ (h : none = some z) => nn h) rfl h
theorem wList_c {e : V} {F : List V → Option γ} (h : wList e F = some z) (k : ∀ b, e = .list b → F b = some z → G) : G :=
  @V.casesOn (fun e' => e = e' → wList e' F = some z → G) e (fun _ (h : none = some z) => nn h) (fun _ _ (h : none = some z) => nn h) (fun _ _ (h : none = some z) => nn h) (fun _ _ (h : none = some z) => nn h) (fun _ _ (h : none = some z) => nn h) (fun _ _ (h : none = some z) => nn h) k (fun _ _ (h : none = some z) => nn h) (fun _ _ _ _ (h : none = some z) => nn h) rfl h
theorem wDict_c {e : V} {F : List (V × V) → Option γ} (h : wDict e F = some z) (k : ∀ b, e = .dict b → F b = some z → G) : G :=
  @V.casesOn (fun e' => e = e' → wDict e' F = some z → G) e (fun _ (h : none = some z) => nn h) (fun _ _ (h : none = some z) => nn h) (fun _ _ (h : none = some z) => nn h) (fun _ _ (h : none = some z) => nn h) (fun _ _ (h : none = some z) => nn h) (fun _ _ (h : none = some z) => nn h) (fun _ _ (h : none = some z) => nn h) k (fun _ _ _ _ (h : none = some z) => nn h) rfl h
theorem wInst_c {e : V} {F : Nat → List (Nat × V) → Option Nat → Option γ} (h : wInst e F = some z) (k : ∀ c fs n, e = .inst c fs n → F c fs n = some z → G) : G :=
  @V.casesOn (fun e' => e = e' → wInst e' F = some z → G) e (fun _ (h : none = some z) => nn h) (fun _ _ (h : none = some z) => nn h) (fun _ _ (h : none = some z) => nn h) (fun _ _ (h : none = some z) => nn h) (fun _ _ (h : none = some z) => nn h) (fun _ _ (h : none = some z) => nn h) (fun _ _ (h : none = some z) => nn h) (fun _ _ (h : none = some z) => nn h) k rfl h
theorem s1 {a c : α} (h : some a = some c) (k : a = c → G) : G := k (Option.some.inj h)
theorem sE {a c : α} {b d : β} (h : some (a, b) = some (c, d)) (k : a = c → b = d → G) : G := s1 h fun h => k (congrArg Prod.fst h) (congrArg Prod.snd h)
theorem wStr_c {e : V} {F : List Nat → Option γ} (h : wStr e F = some z) (k : ∀ b, e = .str b → F b = some z → G) : G :=
  @V.casesOn (fun e' => e = e' → wStr e' F = some z → G) e (fun _ (h : none = some z) => nn h) (fun _ _ (h : none = some z) => nn h) (fun _ _ (h : none = some z) => nn h) k (fun _ _ (h : none = some z) => nn h) (fun _ _ (h : none = some z) => nn h) (fun _ _ (h : none = some z) => nn h) (fun _ _ (h : none = some z) => nn h) (fun _ _ _ _ (h : none = some z) => nn h) rfl h
theorem wNat_c {i : Int} {F : Nat → Option γ} (h : wNat i F = some z) (k : ∀ n, i = .ofNat n → F n = some z → G) : G :=
  @Int.casesOn (fun i' => i = i' → wNat i' F = some z → G) i k (fun _ _ (h : none = some z) => nn h) rfl h
theorem w1_c {l : List α} {F : α → Option γ} (h : w1 l F = some z) (k : ∀ a, l = [a] → F a = some z → G) : G :=
  @List.casesOn α (fun l' => l = l' → w1 l' F = some z → G) l (fun _ (h : none = some z) => nn h) (fun a r => @List.casesOn α (fun r => l = a :: r → w1 (a :: r) F = some z → G) r (k a) fun _ _ _ (h : none = some z) => nn h) rfl h
theorem on3_c {l : List α} {F : α → α → α → Bool} (h : on3 l F = true) (k : ∀ a b c, l = [a, b, c] → F a b c = true → G) : G := by
  cases l with
  | nil => exact ff h
  | cons a r => cases r with
    | nil => exact ff h
    | cons b r => cases r with
      | nil => exact ff h
      | cons c r => cases r with
        | nil => exact k a b c rfl h
        | cons => exact ff h
end
section
variable {a b c d e f g : Bool} {G : Prop}
theorem bL (h : (a && b) = true) : a = true := by cases a; exact h; rfl
theorem bR (h : (a && b) = true) : b = true := by cases a; exact ff h; exact h
theorem b2 (h : (a && b) = true) (k : a = true → b = true → G) : G := k (bL h) (bR h)
theorem b3 (h : (a && b && c) = true) (k : a = true → b = true → c = true → G) : G := b2 (bL h) fun x y => k x y (bR h)
theorem b4 (h : (a && b && c && d) = true) (k : a = true → b = true → c = true → d = true → G) : G := b3 (bL h) fun x y z => k x y z (bR h)
theorem b5 (h : (a && b && c && d && e) = true) (k : a = true → b = true → c = true → d = true → e = true → G) : G := b4 (bL h) fun x y z u => k x y z u (bR h)
theorem b6 (h : (a && b && c && d && e && f) = true) (k : a = true → b = true → c = true → d = true → e = true → f = true → G) : G := b5 (bL h) fun x y z u v => k x y z u v (bR h)
theorem bN (h : (!a) = true) : a = false := by cases a; rfl; exact ff h
end
noncomputable def vBool (e : V) (F : Bool → Bool) : Bool := @V.casesOn (fun _ => Bool) e false (fun b => F b) (fun _ => false) (fun _ => false) (fun _ => false) (fun _ => false) (fun _ => false) (fun _ => false) (fun _ _ _ => false)
theorem vBool_c {e : V} {F : Bool → Bool} {G : Prop} (h : vBool e F = true) (k : ∀ b, e = .bool b → F b = true → G) : G :=
  @V.casesOn (fun e' => e = e' → vBool e' F = true → G) e (fun _ (h : false = true) => ff h) k (fun _ _ (h : false = true) => ff h) (fun _ _ (h : false = true) => ff h) (fun _ _ (h : false = true) => ff h) (fun _ _ (h : false = true) => ff h) (fun _ _ (h : false = true) => ff h) (fun _ _ (h : false = true) => ff h) (fun _ _ _ _ (h : false = true) => ff h) rfl h
noncomputable def vInt (e : V) (F : Int → Bool) : Bool := @V.casesOn (fun _ => Bool) e false (fun _ => false) (fun b => F b) (fun _ => false) (fun _ => false) (fun _ => false) (fun _ => false) (fun _ => false) (fun _ _ _ => false)
theorem vInt_c {e : V} {F : Int → Bool} {G : Prop} (h : vInt e F = true) (k : ∀ b, e = .int b → F b = true → G) : G :=
  @V.casesOn (fun e' => e = e' → vInt e' F = true → G) e (fun _ (h : false = true) => ff h) (fun _ _ (h : false = true) => ff h) k (fun _ _ (h : false = true) => ff h) (fun _ _ (h : false = true) => ff h) (fun _ _ (h : false = true) => ff h) (fun _ _ (h : false = true) => ff h) (fun _ _ (h : false = true) => ff h) (fun _ _ _ _ (h : false = true) => ff h) rfl h
noncomputable def vStr (e : V) (F : List Nat → Bool) : Bool := @V.casesOn (fun _ => Bool) e false (fun _ => false) (fun _ => false) (fun b => F b) (fun _ => false) (fun _ => false) (fun _ => false) (fun _ => false) (fun _ _ _ => false)
theorem vStr_c {e : V} {F : List Nat → Bool} {G : Prop} (h : vStr e F = true) (k : ∀ b, e = .str b → F b = true → G) : G :=
  @V.casesOn (fun e' => e = e' → vStr e' F = true → G) e (fun _ (h : false = true) => ff h) (fun _ _ (h : false = true) => ff h) (fun _ _ (h : false = true) => ff h) k (fun _ _ (h : false = true) => ff h) (fun _ _ (h : false = true) => ff h) (fun _ _ (h : false = true) => ff h) (fun _ _ (h : false = true) => ff h) (fun _ _ _ _ (h : false = true) => ff h) rfl h
noncomputable def vNone (e : V) : Bool := @V.casesOn (fun _ => Bool) e true (fun _ => false) (fun _ => false) (fun _ => false) (fun _ => false) (fun _ => false) (fun _ => false) (fun _ => false) (fun _ _ _ => false)
theorem vNone_c {e : V} (h : vNone e = true) : e = .none :=
  @V.casesOn (fun e' => e = e' → vNone e' = true → e = .none) e (fun h _ => h) (fun _ _ (h : false = true) => ff h) (fun _ _ (h : false = true) => ff h) (fun _ _ (h : false = true) => ff h) (fun _ _ (h : false = true) => ff h) (fun _ _ (h : false = true) => ff h) (fun _ _ (h : false = true) => ff h) (fun _ _ (h : false = true) => ff h) (fun _ _ _ _ (h : false = true) => ff h) rfl h
noncomputable def leqN : List Nat → List Nat → Bool
  | [], [] => true
  | a :: r, b :: t => Nat.beq a b && leqN r t
  | [], _ :: _ => false
  | _ :: _, [] => false
mutual
noncomputable def veq : V → V → Bool
  | .none, .none => true
  | .bool a, .bool b => a == b
  | .bool a, .int j => (if a then 1 else 0) == j
  | .int i, .bool b => i == (if b then 1 else 0)
  | .int i, .int j => i == j
  | .str x, .str y => leqN x y
  | .list xs, .list ys => veqs xs ys
  | .tuple xs, .tuple ys => veqs xs ys
  | _, _ => false
noncomputable def veqs : List V → List V → Bool
  | [], [] => true
  | a :: r, b :: t => veq a b && veqs r t
  | _, _ => false
end
noncomputable def okStr (s : List Nat) : Bool := s.all (fun c => Nat.blt c 0x110000) && Nat.ble s.length 1000
noncomputable def plain : Nat → V → Bool
  | _, .none => true
  | _, .bool _ => true
  | _, .int _ => true
  | _, .str s => okStr s
  | k + 1, .tuple vs => vs.all (plain k)
  | k + 1, .list vs => vs.all (plain k)
  | _, _ => false
noncomputable def small {α : Type} (l : List α) : Bool := Nat.ble l.length 1000
noncomputable def isI (v : V) : Bool := @V.casesOn (fun _ => Bool) v false (fun _ => false) (fun _ => true) (fun _ => false) (fun _ => false) (fun _ => false) (fun _ => false) (fun _ => false) (fun _ _ _ => false)
noncomputable def isTup3 (v : V) : Bool := @V.casesOn (fun _ => Bool) v false (fun _ => false) (fun _ => false) (fun _ => false) (fun _ => false) (fun vs => on3 vs fun a b c => isI a && isI b && isI c) (fun _ => false) (fun _ => false) (fun _ _ _ => false)
noncomputable def isStrV (v : V) : Bool := @V.casesOn (fun _ => Bool) v false (fun _ => false) (fun _ => false) okStr (fun _ => false) (fun _ => false) (fun _ => false) (fun _ => false) (fun _ _ _ => false)
noncomputable def isIntV (v : V) : Bool := @V.casesOn (fun _ => Bool) v false (fun _ => false) (fun i => decide (-1000000 ≤ i) && decide (i ≤ 1000000)) (fun _ => false) (fun _ => false) (fun _ => false) (fun _ => false) (fun _ => false) (fun _ _ _ => false)
noncomputable def ltN : List Nat → List Nat → Bool
  | [], [] => false
  | [], _ :: _ => true
  | _ :: _, [] => false
  | a :: r, b :: t => if Nat.blt a b then true else if Nat.beq a b then ltN r t else false
noncomputable def lt3 (a b c d e f : Int) : Bool := if a == d then (if b == e then decide (c < f) else decide (b < e)) else decide (a < d)
noncomputable def tup3 (v : V) (F : Int → Int → Int → Bool) : Bool := @V.casesOn (fun _ => Bool) v false (fun _ => false) (fun _ => false) (fun _ => false) (fun _ => false) (fun vs => on3 vs fun a b c => vInt a fun a => vInt b fun b => vInt c fun c => F a b c) (fun _ => false) (fun _ => false) (fun _ _ _ => false)
noncomputable def ltV (u v : V) : Bool := @V.casesOn (fun _ => Bool) u false (fun _ => false) (fun i => vInt v fun j => decide (i < j)) (fun x => vStr v fun y => ltN x y) (fun _ => false) (fun vs => tup3 (.tuple vs) fun a b c => tup3 v fun d e f => lt3 a b c d e f) (fun _ => false) (fun _ => false) (fun _ _ _ => false)
noncomputable def kasRun {α : Type} (lt : Nat → Nat → Bool) : KasT α → α
  | .ret a => a
  | .ask i j k => kasRun lt (k (lt i j))
noncomputable def sortL (vs : List V) : List V :=
  if Nat.blt vs.length 2 then vs
  else (kasRun (fun i j => ltV (vs.getD i .none) (vs.getD j .none)) (kas_sort vs.length)).toList.map fun i => vs.getD i .none
noncomputable def insV (x : V) : List V → List V
  | [] => [x]
  | y :: r => if ltV y x then y :: insV x r else x :: y :: r
noncomputable def isortV : List V → List V
  | [] => []
  | x :: r => insV x (isortV r)
noncomputable def sortV (vs : List V) : Option (List V) :=
  if Nat.blt vs.length 64 then
    if vs.all isIntV || vs.all isStrV then some (isortV vs)
    else if vs.all isTup3 then some (sortL vs)
    else none
  else none
noncomputable def keyOk (v : V) : Bool := isIntV v || isStrV v || isTup3 v
noncomputable def sameKind (u v : V) : Bool := @V.casesOn (fun _ => Bool) u false (fun _ => false) (fun _ => isI v) (fun _ => vStr v fun _ => true) (fun _ => false) (fun _ => @V.casesOn (fun _ => Bool) v false (fun _ => false) (fun _ => false) (fun _ => false) (fun _ => false) (fun _ => true) (fun _ => false) (fun _ => false) (fun _ _ _ => false)) (fun _ => false) (fun _ => false) (fun _ _ _ => false)
noncomputable def seek (es : List (V × V)) (k : V) : Bool := keyOk k && es.all (fun e => keyOk e.1 && sameKind e.1 k)
noncomputable def dget : List (V × V) → V → Option V
  | [], _ => none
  | e :: r, k => if veq e.1 k then some e.2 else dget r k
noncomputable def dput : List (V × V) → V → V → List (V × V)
  | [], k, v => [(k, v)]
  | e :: r, k, v => if veq e.1 k then (e.1, v) :: r else e :: dput r k v
noncomputable def fget : List (Nat × V) → Nat → Option V
  | [], _ => none
  | e :: r, k => if Nat.beq e.1 k then some e.2 else fget r k
noncomputable def fput : List (Nat × V) → Nat → V → List (Nat × V)
  | [], k, v => [(k, v)]
  | e :: r, k, v => if Nat.beq e.1 k then (e.1, v) :: r else e :: fput r k v
noncomputable def fdel : List (Nat × V) → Nat → List (Nat × V)
  | [], _ => []
  | e :: r, k => if Nat.beq e.1 k then fdel r k else e :: fdel r k
noncomputable def pre : List Nat → List Nat → Bool
  | [], _ => true
  | _ :: _, [] => false
  | a :: r, b :: t => Nat.beq a b && pre r t
noncomputable def partOf (y : List Nat) : List Nat → Bool
  | [] => pre y []
  | b :: t => pre y (b :: t) || partOf y t
noncomputable def splitGo (c : Nat) : List Nat → List Nat → List (List Nat)
  | acc, [] => [acc.reverse]
  | acc, x :: r => if Nat.beq x c then acc.reverse :: splitGo c [] r else splitGo c (x :: acc) r
noncomputable def lstripGo (cs : List Nat) : List Nat → List Nat
  | [] => []
  | x :: r => if cs.any (Nat.beq x) then lstripGo cs r else x :: r
noncomputable def intTab : List (List Nat × Nat) := [([56], 8), ([49, 54], 16), ([51, 50], 32), ([54, 52], 64), ([49, 50, 56], 128), ([48], 0)]
noncomputable def intLook (s : List Nat) : List (List Nat × Nat) → Option Nat
  | [] => none
  | e :: r => if leqN e.1 s then some e.2 else intLook s r
noncomputable def intOf (s : List Nat) : Option Nat := intLook s intTab
noncomputable def neL (x y : List V) : Option Bool := @List.casesOn V (fun _ => Option Bool) x (@List.casesOn V (fun _ => Option Bool) y none fun _ _ => some false) fun _ _ => @List.casesOn V (fun _ => Option Bool) y (some false) fun _ _ => none
noncomputable def eqV (a b : V) : Option Bool := oC (plain 8 a && plain 8 b) (some (veq a b)) (wList a fun x => wList b fun y => neL x y)
noncomputable def inL (a : V) (vs : List V) : Option Bool := oI (plain 8 a && vs.all (plain 8) && small vs) (some (vs.any fun v => veq v a))
noncomputable def inV (a b : V) : Option Bool := @V.casesOn (fun _ => Option Bool) b none (fun _ => none) (fun _ => none) (fun y => wStr a fun x => oI (okStr x && okStr y) (some (partOf x y))) (fun _ => none) (inL a) (inL a) (fun es => oI (seek es a) (some (dget es a).isSome)) (fun _ _ _ => none)
noncomputable def cmpI (a b : V) (F : Int → Int → Bool) : Option V := wInt a fun i => wInt b fun j => some (.bool (F i j))
noncomputable def cmpV (op : COp) (a b : V) : Option V := @COp.casesOn (fun _ => Option V) op (o1 (eqV a b) fun c => some (.bool c)) (o1 (eqV a b) fun c => some (.bool (!c))) (cmpI a b fun i j => decide (i < j)) (cmpI a b fun i j => decide (j < i)) (cmpI a b fun i j => decide (j ≤ i))
  (o1 (inV a b) fun c => some (.bool c)) (o1 (inV a b) fun c => some (.bool (!c)))
noncomputable def addV (a b : V) : Option V := @V.casesOn (fun _ => Option V) a none (fun _ => none) (fun i => wInt b fun j => some (.int (i + j))) (fun x => wStr b fun y => oI (okStr x && okStr y) (some (.str (x ++ y)))) (fun _ => none) (fun _ => none) (fun x => wList b fun y => oI (small x && small y) (some (.list (x ++ y)))) (fun _ => none) (fun _ _ _ => none)
noncomputable def mulV (a b : V) : Option V := wInt a fun a => wInt b fun b => oI (isIntV (.int a) && isIntV (.int b)) (some (.int (a * b)))
noncomputable def fdivV (a b : V) : Option V := wInt a fun a => wInt b fun b => oI (!(b == 0) && isIntV (.int b)) (some (.int (a.fdiv b)))
noncomputable def fmodV (a b : V) : Option V := wInt a fun a => wInt b fun b => oI (!(b == 0)) (some (.int (a.fmod b)))
noncomputable def negV (a : V) : Option V := wInt a fun a => some (.int (-a))
noncomputable def nth (vs : List V) (i : Int) : Option V := @Int.casesOn (fun _ => Option V) i (fun k => oI (small vs) (vs[k]?)) fun k => oI (small vs && Nat.ble (k + 1) vs.length) (vs[vs.length - (k + 1)]?)
noncomputable def idxV (a i : V) : Option V := @V.casesOn (fun _ => Option V) a none (fun _ => none) (fun _ => none) (fun s => wInt i fun i => wNat i fun k => oI (okStr s) (o1 (s[k]?) fun c => some (.str [c]))) (fun _ => none) (fun vs => wInt i fun i => nth vs i) (fun vs => wInt i fun i => wNat i fun k => oI (small vs) (vs[k]?)) (fun es => oI (seek es i) (dget es i)) (fun _ _ _ => none)
noncomputable def uptoV (a i : V) : Option V := @V.casesOn (fun _ => Option V) a none (fun _ => none) (fun _ => none) (fun s => wInt i fun i => wNat i fun k => oI (okStr s && Nat.ble k 1000) (some (.str (s.take k)))) (fun _ => none) (fun _ => none) (fun vs => wInt i fun i => wNat i fun k => oI (small vs && Nat.ble k 1000) (some (.list (vs.take k)))) (fun _ => none) (fun _ _ _ => none)
noncomputable def frmV (a i : V) : Option V := wStr a fun s => wInt i fun i => wNat i fun k => oI (okStr s && Nat.ble k 1000) (some (.str (s.drop k)))
noncomputable def intsFrom : Nat → Nat → List V
  | _, 0 => []
  | i, n + 1 => .int (.ofNat i) :: intsFrom (i + 1) n
noncomputable def items (v : V) : Option (List V) := @V.casesOn (fun _ => Option (List V)) v none (fun _ => none) (fun _ => none) (fun _ => none) (fun n => oI (Nat.ble n 1000) (some (intsFrom 0 n))) (fun vs => oI (small vs) (some vs)) (fun vs => oI (small vs) (some vs)) (fun es => oI (small es) (some (es.map (·.1)))) (fun _ _ _ => none)
noncomputable def anyB : List V → Option Bool
  | [] => some false
  | v :: r => wBool v fun b => o1 (anyB r) fun c => some (b || c)
noncomputable def lenV (v : V) : Option V := @V.casesOn (fun _ => Option V) v none (fun _ => none) (fun _ => none) (fun s => oI (okStr s) (some (.int (.ofNat s.length)))) (fun _ => none) (fun vs => oI (small vs) (some (.int (.ofNat vs.length)))) (fun vs => oI (small vs) (some (.int (.ofNat vs.length)))) (fun _ => none) (fun _ _ _ => none)
noncomputable def tupV (v : V) : Option V := @V.casesOn (fun _ => Option V) v none (fun _ => none) (fun _ => none) (fun _ => none) (fun _ => none) (fun vs => some (.tuple vs)) (fun vs => oI (small vs) (some (.tuple vs))) (fun _ => none) (fun _ _ _ => none)
noncomputable def bifV (b : Bif) (v : V) : Option V := @Bif.casesOn (fun _ => Option V) b (lenV v) (wInt v fun i => wNat i fun n => oI (Nat.ble n 1000) (some (.rng n))) (o1 (items v) fun vs => some (.list vs)) (tupV v)
  (wList v fun vs => o1 (sortV vs) fun vs => some (.list vs)) (wList v fun vs => oI (small vs) (o1 (anyB vs) fun b => some (.bool b))) (wStr v fun s => oI (okStr s) (o1 (intOf s) fun n => some (.int (.ofNat n))))
noncomputable def splitV (a b : V) : Option V := wStr a fun s => wStr b fun t => w1 t fun c => oI (okStr s && Nat.blt c 128) (some (.list ((splitGo c [] s).map .str)))
noncomputable def lstripV (a b : V) : Option V := wStr a fun s => wStr b fun cs => oI (okStr s && okStr cs) (some (.str (lstripGo cs s)))
noncomputable def getV (d k z : V) : Option V := wDict d fun es => oI (seek es k) (some ((dget es k).getD z))
structure Fn where
  params : List Nat
  body : List S
structure Prg where
  fn : Nat → Option Fn
  meth : Nat → Nat → Option Nat
structure Rho where
  ρ : List (Nat × V)
  w : Option (Nat × V)
noncomputable def Rho.set (r : Rho) (x : Nat) (v : V) : Rho :=
  ⟨fput r.ρ x v, match r.w with | some (y, u) => if Nat.beq y x then none else some (y, u) | none => none⟩
noncomputable def Rho.sets : Rho → List Nat → List V → Option Rho
  | r, [], [] => some r
  | r, x :: xs, v :: vs => (r.set x v).sets xs vs
  | _, _, _ => none
noncomputable def Rho.own (r : Rho) (x : Nat) (v : V) : Option Rho := match r.w with
  | none => some ⟨fdel r.ρ x, some (x, v)⟩
  | some (y, _) => if Nat.beq y x then some ⟨r.ρ, some (x, v)⟩ else none
noncomputable abbrev Nums := List Int
inductive Fl where
  | next (r : Rho)
  | cont (r : Rho)
  | ret (v : V)
structure Rn where
  e : M → Rho → Nums → Option (V × Nums)
  s : List S → Rho → Nums → Option (Fl × Nums)
  c : Nat → List V → Nums → Option (V × Nums)
noncomputable def wDone {γ : Type} (v : V) (F : Nat → List (Nat × V) → Option γ) : Option γ := wInst v fun _ fs n => o1 n fun ℓ => F ℓ fs
noncomputable def oB {γ : Type} (x : Option (V × Nums)) (T E : Nums → Option γ) : Option γ := oP x fun v σ => wBool v fun b => oC b (T σ) (E σ)
noncomputable def fF {γ : Type} (f : Fl) (σ : Nums) (F G : Rho → Nums → Option γ) (H : V → Nums → Option γ) : Option γ := match f with
  | .next r => F r σ
  | .cont r => G r σ
  | .ret v => H v σ
noncomputable def oF {γ : Type} (x : Option (Fl × Nums)) (F G : Rho → Nums → Option γ) (H : V → Nums → Option γ) : Option γ := oP x fun f σ => fF f σ F G H
noncomputable def wOwn {γ : Type} (w : Option (Nat × V)) (x : Nat) (F : V → Option γ) : Option γ := oP w fun y u => oI (Nat.beq y x) (F u)
noncomputable def evs (f : M → Nums → Option (V × Nums)) : List M → Nums → Option (List V × Nums)
  | [], σ => some ([], σ)
  | a :: r, σ => oP (f a σ) fun v σ => oP (evs f r σ) fun vs σ => some (v :: vs, σ)
noncomputable def andE (f : M → Nums → Option (V × Nums)) : List M → Nums → Option (V × Nums)
  | [], _ => none
  | [a], σ => oP (f a σ) fun v σ => wBool v fun b => some (.bool b, σ)
  | a :: b :: r, σ => oB (f a σ) (fun σ => andE f (b :: r) σ) fun σ => some (.bool false, σ)
noncomputable def orE (f : M → Nums → Option (V × Nums)) : List M → Nums → Option (V × Nums)
  | [], _ => none
  | [a], σ => oP (f a σ) fun v σ => wBool v fun b => some (.bool b, σ)
  | a :: b :: r, σ => oB (f a σ) (fun σ => some (.bool true, σ)) fun σ => orE f (b :: r) σ
noncomputable def tstE (f : M → Nums → Option (V × Nums)) (cs : List M) (σ : Nums) : Option (V × Nums) := match cs with
  | [] => some (.bool true, σ)
  | c :: cs => andE f (c :: cs) σ
noncomputable def compL (f : M → Rho → Nums → Option (V × Nums)) (elt : M) (x : Nat) (cs : List M) (ρ : List (Nat × V)) : List V → Nums → Option (List V × Nums)
  | [], σ => some ([], σ)
  | v :: r, σ => oB (tstE (fun m σ => f m ⟨fput ρ x v, none⟩ σ) cs σ)
      (fun σ => oP (f elt ⟨fput ρ x v, none⟩ σ) fun u σ => oP (compL f elt x cs ρ r σ) fun us σ => some (u :: us, σ))
      fun σ => compL f elt x cs ρ r σ
noncomputable def dcompL (f : M → Rho → Nums → Option (V × Nums)) (k v : M) (x : Nat) (ρ : List (Nat × V)) : List V → List (V × V) → Nums → Option (List (V × V) × Nums)
  | [], es, σ => some (es, σ)
  | i :: r, es, σ => oP (f k ⟨fput ρ x i, none⟩ σ) fun kv σ => oP (f v ⟨fput ρ x i, none⟩ σ) fun vv σ => oI (seek es kv) (dcompL f k v x ρ r (dput es kv vv) σ)
namespace N
noncomputable abbrev name := 0
noncomputable abbrev kinds := 1
noncomputable abbrev opcode := 2
noncomputable abbrev escape := 3
noncomputable abbrev digit := 4
noncomputable abbrev size := 5
noncomputable abbrev must := 6
noncomputable abbrev is_wide := 7
noncomputable abbrev number := 8
noncomputable abbrev places := 9
noncomputable abbrev forms := 10
noncomputable abbrev by_name := 11
noncomputable abbrev by_code := 12
noncomputable abbrev self := 13
noncomputable abbrev form := 14
noncomputable abbrev code := 15
noncomputable abbrev codesOf := 100
noncomputable abbrev form_init := 101
end N
noncomputable def keyGp : V → Bool
  | .str _ => true
  | .tuple _ => true
  | _ => false
noncomputable def putEach (es : List (V × V)) (ks : List V) (form : V) : Option (List (V × V)) := match ks with
  | [] => some es
  | k :: r => oI (keyGp k && seek es k && small es) (oE (dget es k) (putEach (es ++ [(k, .list [form])]) r form) fun w => wList w fun l => oI (small l) (putEach (dput es k (.list (l ++ [form]))) r form))
noncomputable def isetL (f : V → Nums → Option (V × Nums)) : Nat → List V → List (V × V) → List (V × V) → Nums → Option (List (V × V) × List (V × V) × Nums)
  | _, [], bn, bc, σ => some (bn, bc, σ)
  | i, v :: r, bn, bc, σ => wDone v fun ℓ fs => o1 (fget fs N.name) fun nm => o1 (putEach bn [nm] v) fun bn => oP (f v (σ.set ℓ (.ofNat i))) fun w σ => wList w fun ks => oI (small ks) (o1 (putEach bc ks v) fun bc => isetL f (i + 1) r bn bc σ)
noncomputable def varOf (m : M) : Option Nat := @M.casesOn (fun _ => Option Nat) m (fun _ => none) (fun x => some x) (fun _ => none) (fun _ => none) (fun _ _ => none) (fun _ _ => none) (fun _ _ => none) (fun _ _ => none) (fun _ => none) (fun _ _ _ => none) (fun _ => none) (fun _ => none) (fun _ => none) (fun _ _ _ => none) (fun _ _ => none) (fun _ _ => none) (fun _ _ => none) (fun _ _ => none) (fun _ _ _ _ => none) (fun _ _ _ _ => none) (fun _ _ => none) (fun _ _ _ => none) (fun _ => none) (fun _ => none) (fun _ _ => none) (fun _ _ => none) (fun _ _ => none) (fun _ _ _ => none) none
noncomputable def trW (m : M) (w : Option (Nat × V)) : Option V := o1 (varOf m) fun x => wOwn w x some
noncomputable def tr (f : M → Rho → Nums → Option (V × Nums)) (m : M) (r : Rho) (σ : Nums) : Option (V × Nums) := oE (trW m r.w) (f m r σ) fun v => some (v, σ)
noncomputable def attrV (σ : Nums) (fs : List (Nat × V)) (f : Nat) (n : Option Nat) : Option V := match n with
  | some ℓ => oC (Nat.beq f N.number) ((σ[ℓ]?).map .int) (fget fs f)
  | none => fget fs f
noncomputable def wRaw {γ : Type} (v : V) (F : Nat → List (Nat × V) → Option γ) : Option γ := wInst v fun c fs n => oE n (F c fs) fun _ => none
noncomputable def stepE (P : Prg) (R : Rn) (m : M) (r : Rho) (σ : Nums) : Option (V × Nums) := match m with
  | .cst v => some (v, σ)
  | .var x => o1 (fget r.ρ x) fun v => some (v, σ)
  | .tup es => oP (evs (fun m σ => R.e m r σ) es σ) fun vs σ => oI (small vs) (some (.tuple vs, σ))
  | .lst es => oP (evs (fun m σ => R.e m r σ) es σ) fun vs σ => oI (small vs) (some (.list vs, σ))
  | .add a b => bin addV a b
  | .mul a b => bin mulV a b
  | .fdiv a b => bin fdivV a b
  | .fmod a b => bin fmodV a b
  | .neg a => oP (R.e a r σ) fun u σ => o1 (negV u) fun z => some (z, σ)
  | .cmp op a b => oP (R.e a r σ) fun u σ => oP (tr R.e b r σ) fun v σ => o1 (cmpV op u v) fun z => some (z, σ)
  | .not a => oP (R.e a r σ) fun v σ => wBool v fun b => some (.bool (!b), σ)
  | .and es => andE (fun m σ => R.e m r σ) es σ
  | .or es => orE (fun m σ => R.e m r σ) es σ
  | .ite c a b => oB (R.e c r σ) (fun σ => R.e a r σ) fun σ => R.e b r σ
  | .attr a f => oP (tr R.e a r σ) fun v σ => wInst v fun _ fs n => o1 (attrV σ fs f n) fun v => some (v, σ)
  | .idx a i => bin idxV a i
  | .upto a u => bin uptoV a u
  | .frm a l => bin frmV a l
  | .comp elt x it cs => oP (R.e it r σ) fun v σ => o1 (items v) fun vs => oP (compL R.e elt x cs r.ρ vs σ) fun us σ => some (.list us, σ)
  | .dcomp k v x it => oP (R.e it r σ) fun u σ => o1 (items u) fun vs => oP (dcompL R.e k v x r.ρ vs [] σ) fun es σ => some (.dict es, σ)
  | .call f as => oP (evs (fun m σ => R.e m r σ) as σ) fun vs σ => R.c f vs σ
  | .meth a m as => oP (R.e a r σ) fun v σ => wInst v fun c fs n => o1 (P.meth c m) fun f => oP (evs (fun m σ => R.e m r σ) as σ) fun vs σ => R.c f (.inst c fs n :: vs) σ
  | .form as => oP (evs (fun m σ => R.e m r σ) as σ) fun vs σ => oP (R.c N.form_init (.inst 0 [] none :: vs) σ) fun v σ => wRaw v fun c fs => oI (Nat.beq c 0) (o1 (fget fs N.number) fun w => wInt w fun i =>
      some (.inst 0 (fdel fs N.number) (some σ.length), σ ++ [i]))
  | .iset a => oP (R.e a r σ) fun v σ => wList v fun vs => oI (small vs) (oP (isetL (fun v σ => R.c N.codesOf [v] σ) 0 vs [] [] σ) fun bn p =>
      some (.inst 1 [(N.forms, .list vs), (N.by_name, .dict bn), (N.by_code, .dict p.1)] none, p.2))
  | .bif b a => oP (tr R.e a r σ) fun v σ => o1 (bifV b v) fun z => some (z, σ)
  | .split a b => bin splitV a b
  | .lstrip a b => bin lstripV a b
  | .get d k z => oP (R.e d r σ) fun dv σ => oP (R.e k r σ) fun kv σ => oP (R.e z r σ) fun zv σ => o1 (getV dv kv zv) fun v => some (v, σ)
  | .bad => none
where
  bin (g : V → V → Option V) (a b : M) : Option (V × Nums) := oP (R.e a r σ) fun u σ => oP (R.e b r σ) fun v σ => o1 (g u v) fun z => some (z, σ)
noncomputable def forL (body : Rho → Nums → Option (Fl × Nums)) (bind : V → Rho → Option Rho) : List V → Rho → Nums → Option (Fl × Nums)
  | [], r, σ => some (.next r, σ)
  | v :: vs, r, σ => o1 (bind v r) fun r => oF (body r σ) (fun r σ => forL body bind vs r σ) (fun r σ => forL body bind vs r σ) fun v σ => some (.ret v, σ)
noncomputable def seqV : V → Option (List V)
  | .list vs => if small vs then some vs else none
  | .tuple vs => if small vs then some vs else none
  | _ => none
noncomputable def bindT (xs : List Nat) (v : V) (r : Rho) : Option Rho := match seqV v with
  | some vs => r.sets xs vs
  | none => none
noncomputable def isRaw : V → Bool
  | .inst c _ .none => !(Nat.beq c 1)
  | _ => false
noncomputable def stepS1 (R : Rn) (st : S) (r : Rho) (σ : Nums) : Option (Fl × Nums) := match st with
  | .asg x e => oP (R.e e r σ) fun v σ => some (.next (r.set x v), σ)
  | .newL x => o1 (r.own x (.list [])) fun r => some (.next r, σ)
  | .newD x => o1 (r.own x (.dict [])) fun r => some (.next r, σ)
  | .asgT xs e => oP (R.e e r σ) fun v σ => o1 (bindT xs v r) fun r => some (.next r, σ)
  | .setA x f e => oP (R.e e r σ) fun v σ => wOwn r.w x fun u => wRaw u fun c fs => oI (Nat.beq c 0) (some (.next ⟨r.ρ, some (x, .inst c (fput fs f v) none)⟩, σ))
  | .setI x k e => oP (R.e e r σ) fun v σ => oP (R.e k r σ) fun kv σ => wOwn r.w x fun u => wDict u fun es => oI (seek es kv && small es) (some (.next ⟨r.ρ, some (x, .dict (dput es kv v))⟩, σ))
  | .app x e => oP (R.e e r σ) fun v σ => wOwn r.w x fun u => wList u fun vs => oI (small vs) (some (.next ⟨r.ρ, some (x, .list (vs ++ [v]))⟩, σ))
  | .ife c a b => oB (R.e c r σ) (fun σ => R.s a r σ) fun σ => R.s b r σ
  | .forI x e b => oP (R.e e r σ) fun v σ => o1 (items v) fun vs => forL (fun r σ => R.s b r σ) (fun v r => some (r.set x v)) vs r σ
  | .forT xs e b => oP (R.e e r σ) fun v σ => o1 (items v) fun vs => forL (fun r σ => R.s b r σ) (bindT xs) vs r σ
  | .ret e => oP (tr R.e e r σ) fun v σ => oC (isRaw v) none (some (.ret v, σ))
  | .cont => some (.cont r, σ)
noncomputable def stepS (R : Rn) : List S → Rho → Nums → Option (Fl × Nums)
  | [], r, σ => some (.next r, σ)
  | st :: rest, r, σ => oF (stepS1 R st r σ) (fun r σ => stepS R rest r σ) (fun r σ => some (.cont r, σ)) fun v σ => some (.ret v, σ)
noncomputable def initC (R : Rn) (d : Fn) (vs : List V) (σ : Nums) : Option (V × Nums) := match vs with
  | self :: vs => o1 ((Rho.mk [] (some (N.self, self))).sets d.params.tail vs) fun r => oF (R.s d.body r σ) (fun r σ => oP r.w fun _ v => some (v, σ)) (fun _ _ => none) fun _ _ => none
  | [] => none
noncomputable def stepC (P : Prg) (R : Rn) (f : Nat) (vs : List V) (σ : Nums) : Option (V × Nums) := o1 (P.fn f) fun d => oC (Nat.beq f N.form_init) (initC R d vs σ)
  (o1 ((Rho.mk [] none).sets d.params vs) fun r => oF (R.s d.body r σ) (fun _ _ => none) (fun _ _ => none) fun v σ => some (v, σ))
noncomputable def stepR (P : Prg) (R : Rn) : Rn := ⟨stepE P R, stepS R, stepC P R⟩
noncomputable def run (P : Prg) : Nat → Rn
  | 0 => ⟨fun _ _ _ => none, fun _ _ _ => none, fun _ _ _ => none⟩
  | n + 1 => stepR P (run P n)
section
variable {α β γ : Type} {z : γ} {G : Prop}
theorem wRaw_c {v : V} {F : Nat → List (Nat × V) → Option γ} (h : wRaw v F = some z) (k : ∀ c fs, v = .inst c fs none → F c fs = some z → G) : G :=
  wInst_c h fun c fs n e h => oE_c h (fun hn h => k c fs (hn ▸ e) h) fun _ _ h => nn h
theorem wDone_c {v : V} {F : Nat → List (Nat × V) → Option γ} (h : wDone v F = some z) (k : ∀ c fs ℓ, v = .inst c fs (some ℓ) → F ℓ fs = some z → G) : G :=
  wInst_c h fun c fs n e h => o1_c h fun ℓ e2 h => k c fs ℓ (e2 ▸ e) h
theorem wOwn_c {w : Option (Nat × V)} {x : Nat} {F : V → Option γ} (h : wOwn w x F = some z) (k : ∀ u, w = some (x, u) → F u = some z → G) : G :=
  oP_c h fun y u e h => oI_c h fun hb h => k u (Nat.eq_of_beq_eq_true hb ▸ e) h
theorem oB_c {x : Option (V × Nums)} {T E : Nums → Option γ} (h : oB x T E = some z) (k : ∀ σ, x = some (.bool true, σ) → T σ = some z → G) (l : ∀ σ, x = some (.bool false, σ) → E σ = some z → G) : G :=
  oP_c h fun v σ e h => wBool_c h fun b hv h => oC_c h (fun hb h => k σ (hb ▸ hv ▸ e) h) fun hb h => l σ (hb ▸ hv ▸ e) h
theorem oF_c {x : Option (Fl × Nums)} {F K : Rho → Nums → Option γ} {H : V → Nums → Option γ} (h : oF x F K H = some z) (k1 : ∀ r σ, x = some (.next r, σ) → F r σ = some z → G) (k2 : ∀ r σ, x = some (.cont r, σ) → K r σ = some z → G)
    (k3 : ∀ v σ, x = some (.ret v, σ) → H v σ = some z → G) : G :=
  oP_c h fun f σ e h => @Fl.casesOn (fun f' => x = some (f', σ) → fF f' σ F K H = some z → G) f (fun r => k1 r σ) (fun r => k2 r σ) (fun v => k3 v σ) e h
theorem varOf_c {m : M} {x : Nat} (h : varOf m = some x) : m = .var x :=
  @M.casesOn (fun m' => m = m' → varOf m' = some x → m = .var x) m (fun _ _ (h : none = some x) => nn h) (fun y e h => e.trans (congrArg M.var (Option.some.inj h))) (fun _ _ (h : none = some x) => nn h) (fun _ _ (h : none = some x) => nn h) (fun _ _ _ (h : none = some x) => nn h) (fun _ _ _ (h : none = some x) => nn h) (fun _ _ _ (h : none = some x) => nn h) (fun _ _ _ (h : none = some x) => nn h) (fun _ _ (h : none = some x) => nn h) (fun _ _ _ _ (h : none = some x) => nn h) (fun _ _ (h : none = some x) => nn h) (fun _ _ (h : none = some x) => nn h) (fun _ _ (h : none = some x) => nn h) (fun _ _ _ _ (h : none = some x) => nn h) (fun _ _ _ (h : none = some x) => nn h) (fun _ _ _ (h : none = some x) => nn h) (fun _ _ _ (h : none = some x) => nn h) (fun _ _ _ (h : none = some x) => nn h) (fun _ _ _ _ _ (h : none = some x) => nn h) (fun _ _ _ _ _ (h : none = some x) => nn h) (fun _ _ _ (h : none = some x) => nn h) (fun _ _ _ _ (h : none = some x) => nn h) (fun _ _ (h : none = some x) => nn h) (fun _ _ (h : none = some x) => nn h) (fun _ _ _ (h : none = some x) => nn h) (fun _ _ _ (h : none = some x) => nn h) (fun _ _ _ (h : none = some x) => nn h) (fun _ _ _ _ (h : none = some x) => nn h) (fun _ (h : none = some x) => nn h) rfl h
theorem tr_c {f : M → Rho → Nums → Option (V × Nums)} {m : M} {r : Rho} {σ : Nums} {z : V × Nums} (h : tr f m r σ = some z) (k : ∀ x v, m = .var x → r.w = some (x, v) → z = (v, σ) → G) (l : f m r σ = some z → G) : G :=
  oE_c h (fun _ h => l h) fun v e h => o1_c e fun x hm e => wOwn_c e fun u hw hu => k x v (varOf_c hm) (Option.some.inj hu ▸ hw) (Option.some.inj h).symm
theorem bin_c {R : Rn} {r : Rho} {σ σ' : Nums} {g : V → V → Option V} {a b : M} {v : V} (h : stepE.bin R r σ g a b = some (v, σ')) (k : ∀ u σ1 w, R.e a r σ = some (u, σ1) → R.e b r σ1 = some (w, σ') → g u w = some v → G) : G :=
  oP_c h fun u σ1 e1 h => oP_c h fun w σ2 e2 h => o1_c h fun z e3 h => sE h fun h1 h2 => k u σ1 w e1 (h2 ▸ e2) (h1 ▸ e3)
end
end Mine
namespace Mine
noncomputable def f_pairs_of : Fn := ⟨[18], [
  (.newD 16),
  (.forI 17 (.split (.var 18) (.cst (.str [32]))) [(.asgT [19, 20] (.split (.var 17) (.cst (.str [58])))), (.setI 16 (.var 19) (.var 20))]),
  (.ret (.var 16))]⟩
noncomputable def f_canonical : Fn := ⟨[0], [
  (.asg 21 (.call 102 [(.cst (.str [115, 97, 108, 58, 115, 104, 108, 32, 108, 111, 111, 112, 122, 58, 108, 111, 111, 112, 101, 32, 108, 111, 111, 112, 110, 122, 58, 108, 111, 111, 112, 110, 101, 32, 114, 101, 112, 101, 58, 114, 101, 112, 32, 114, 101, 112, 122, 58, 114, 101, 112, 32, 114, 101, 112, 110, 122, 58, 114, 101, 112, 110, 101]))])),
  (.ife (.cmp .in_ (.var 0) (.var 21)) [(.ret (.idx (.var 21) (.var 0)))] []),
  (.asg 22 (.call 102 [(.cst (.str [99, 58, 98, 32, 110, 97, 101, 58, 98, 32, 110, 98, 58, 97, 101, 32, 110, 99, 58, 97, 101, 32, 122, 58, 101, 32, 110, 122, 58, 110, 101, 32, 110, 97, 58, 98, 101, 32, 110, 98, 101, 58, 97, 32, 112, 101, 58, 112, 32, 112, 111, 58, 110, 112, 32, 110, 103, 101, 58, 108, 32, 110, 108, 58, 103, 101, 32, 110, 103, 58, 108, 101, 32, 110, 108, 101, 58, 103]))])),
  (.forI 23 (.tup [(.cst (.str [106])), (.cst (.str [115, 101, 116])), (.cst (.str [99, 109, 111, 118]))]) [(.ife (.and [(.cmp .eq (.upto (.var 0) (.bif .len (.var 23))) (.var 23)), (.cmp .in_ (.frm (.var 0) (.bif .len (.var 23))) (.var 22))]) [(.ret (.add (.var 23) (.idx (.var 22) (.frm (.var 0) (.bif .len (.var 23))))))] [])]),
  (.ret (.var 0))]⟩
noncomputable def f_aliases_of : Fn := ⟨[0], [
  (.newL 24),
  (.asg 21 (.call 102 [(.cst (.str [115, 97, 108, 58, 115, 104, 108, 32, 108, 111, 111, 112, 122, 58, 108, 111, 111, 112, 101, 32, 108, 111, 111, 112, 110, 122, 58, 108, 111, 111, 112, 110, 101, 32, 114, 101, 112, 101, 58, 114, 101, 112, 32, 114, 101, 112, 122, 58, 114, 101, 112, 32, 114, 101, 112, 110, 122, 58, 114, 101, 112, 110, 101]))])),
  (.forI 25 (.var 21) [(.ife (.cmp .eq (.idx (.var 21) (.var 25)) (.var 0)) [(.app 24 (.var 25))] [])]),
  (.asg 22 (.call 102 [(.cst (.str [99, 58, 98, 32, 110, 97, 101, 58, 98, 32, 110, 98, 58, 97, 101, 32, 110, 99, 58, 97, 101, 32, 122, 58, 101, 32, 110, 122, 58, 110, 101, 32, 110, 97, 58, 98, 101, 32, 110, 98, 101, 58, 97, 32, 112, 101, 58, 112, 32, 112, 111, 58, 110, 112, 32, 110, 103, 101, 58, 108, 32, 110, 108, 58, 103, 101, 32, 110, 103, 58, 108, 101, 32, 110, 108, 101, 58, 103]))])),
  (.forI 23 (.tup [(.cst (.str [106])), (.cst (.str [115, 101, 116])), (.cst (.str [99, 109, 111, 118]))]) [(.ife (.cmp .eq (.upto (.var 0) (.bif .len (.var 23))) (.var 23)) [(.forI 25 (.var 22) [(.ife (.cmp .eq (.idx (.var 22) (.var 25)) (.frm (.var 0) (.bif .len (.var 23)))) [(.app 24 (.add (.var 23) (.var 25)))] [])])] [])]),
  (.ret (.bif .sorted (.var 24)))]⟩
noncomputable def f_codes_of : Fn := ⟨[14], [
  (.ife (.not (.meth (.var 14) 26 [])) [(.ret (.lst [(.tup [(.attr (.var 14) 6), (.attr (.var 14) 3), (.attr (.var 14) 2)])]))] []),
  (.ret (.comp (.tup [(.attr (.var 14) 6), (.attr (.var 14) 3), (.add (.attr (.var 14) 2) (.var 8))]) 8 (.bif .range (.cst (.int 8))) []))]⟩
noncomputable def f_InstructionSet_told : Fn := ⟨[13], [
  (.ret (.bif .tuple (.comp (.meth (.var 14) 27 []) 14 (.attr (.var 13) 10) [])))]⟩
noncomputable def f_InstructionSet_find : Fn := ⟨[13, 0], [
  (.ret (.bif .list (.get (.attr (.var 13) 11) (.var 0) (.lst []))))]⟩
noncomputable def f_InstructionSet_has : Fn := ⟨[13, 0], [
  (.ret (.cmp .in_ (.var 0) (.attr (.var 13) 11)))]⟩
noncomputable def f_InstructionSet_at : Fn := ⟨[13, 6, 3, 2], [
  (.ret (.bif .list (.get (.attr (.var 13) 12) (.tup [(.var 6), (.var 3), (.var 2)]) (.lst []))))]⟩
noncomputable def f_InstructionSet_names : Fn := ⟨[13], [
  (.ret (.bif .sorted (.bif .list (.attr (.var 13) 11))))]⟩
noncomputable def f_InstructionSet_codes : Fn := ⟨[13], [
  (.ret (.bif .sorted (.bif .list (.attr (.var 13) 12))))]⟩
noncomputable def f_InstructionSet_counts : Fn := ⟨[13, 0], [
  (.ret (.bif .sorted (.bif .list (.dcomp (.bif .len (.attr (.var 14) 1)) (.cst (.bool true)) 14 (.get (.attr (.var 13) 11) (.var 0) (.lst []))))))]⟩
noncomputable def f_InstructionSet_memory_sizes : Fn := ⟨[13, 0], [
  (.newD 28),
  (.forI 14 (.get (.attr (.var 13) 11) (.var 0) (.lst [])) [(.ife (.cmp .ge (.meth (.var 14) 29 []) (.cst (.int 0))) [(.setI 28 (.meth (.var 14) 29 []) (.cst (.bool true)))] [])]),
  (.ret (.bif .sorted (.bif .list (.var 28))))]⟩
noncomputable def f_told_size : Fn := ⟨[14], [
  (.ret (.ite (.or [(.cmp .in_ (.attr (.var 14) 5) (.tup [(.cst (.int 0)), (.cst (.int 8))])), (.attr (.var 14) 7)]) (.cst (.int 0)) (.attr (.var 14) 5)))]⟩
noncomputable def f_part_of_modrm : Fn := ⟨[14], [
  (.ife (.not (.meth (.var 14) 30 [])) [(.ret (.tup [(.lst [(.cst (.int 0)), (.cst (.int 1)), (.cst (.int 2)), (.cst (.int 3)), (.cst (.int 4)), (.cst (.int 5)), (.cst (.int 6)), (.cst (.int 7))]), (.lst [(.cst (.int 0)), (.cst (.int 1))])]))] []),
  (.asg 31 (.ite (.cmp .ge (.attr (.var 14) 4) (.cst (.int 0))) (.lst [(.attr (.var 14) 4)]) (.lst [(.cst (.int 0)), (.cst (.int 1)), (.cst (.int 2)), (.cst (.int 3)), (.cst (.int 4)), (.cst (.int 5)), (.cst (.int 6)), (.cst (.int 7))]))),
  (.ret (.tup [(.var 31), (.ite (.meth (.var 14) 32 []) (.lst [(.cst (.int 0))]) (.lst [(.cst (.int 0)), (.cst (.int 1))]))]))]⟩
noncomputable def f_sizes_meet : Fn := ⟨[33, 25], [
  (.ife (.or [(.attr (.var 33) 7), (.attr (.var 25) 7)]) [(.ife (.and [(.attr (.var 33) 7), (.attr (.var 25) 7)]) [(.ret (.cmp .eq (.cmp .eq (.attr (.var 33) 5) (.cst (.int 16))) (.cmp .eq (.attr (.var 25) 5) (.cst (.int 16)))))] []), (.asgT [34, 35] (.ite (.attr (.var 33) 7) (.tup [(.var 33), (.var 25)]) (.tup [(.var 25), (.var 33)]))), (.ife (.cmp .eq (.call 113 [(.var 35)]) (.cst (.int 0))) [(.ret (.cst (.bool true)))] []), (.ret (.cmp .eq (.cmp .eq (.attr (.var 34) 5) (.cst (.int 16))) (.cmp .eq (.attr (.var 35) 5) (.cst (.int 16)))))] []),
  (.ret (.or [(.cmp .eq (.call 113 [(.var 33)]) (.call 113 [(.var 25)])), (.cmp .eq (.call 113 [(.var 33)]) (.cst (.int 0))), (.cmp .eq (.call 113 [(.var 25)]) (.cst (.int 0)))]))]⟩
noncomputable def f_clashes : Fn := ⟨[36], [
  (.newL 24),
  (.forI 15 (.meth (.var 36) 37 []) [(.ife (.cmp .eq (.var 15) (.tup [(.cst (.int 0)), (.cst (.int 0)), (.cst (.int 144))])) [.cont] []), (.asg 38 (.idx (.attr (.var 36) 12) (.var 15))), (.forI 39 (.bif .range (.bif .len (.var 38))) [(.forI 40 (.bif .range (.var 39)) [(.asgT [31, 41] (.call 114 [(.idx (.var 38) (.var 40))])), (.asgT [21, 42] (.call 114 [(.idx (.var 38) (.var 39))])), (.ife (.or [(.not (.bif .any (.comp (.cmp .in_ (.var 4) (.var 21)) 4 (.var 31) []))), (.not (.bif .any (.comp (.cmp .in_ (.var 43) (.var 42)) 43 (.var 41) [])))]) [.cont] []), (.ife (.call 115 [(.idx (.var 38) (.var 40)), (.idx (.var 38) (.var 39))]) [(.app 24 (.tup [(.attr (.idx (.var 38) (.var 40)) 0), (.attr (.idx (.var 38) (.var 39)) 0), (.var 15)]))] [])])])]),
  (.ret (.var 24))]⟩
noncomputable def f_is_fixed : Fn := ⟨[44], [
  (.ret (.cmp .in_ (.var 44) (.tup [(.cst (.str [97, 108])), (.cst (.str [97, 120])), (.cst (.str [101, 97, 120])), (.cst (.str [114, 97, 120])), (.cst (.str [99, 108])), (.cst (.str [100, 120]))])))]⟩
noncomputable def f_is_immediate : Fn := ⟨[44], [
  (.ret (.cmp .in_ (.cst (.str [105, 109, 109])) (.var 44)))]⟩
noncomputable def f_is_relative : Fn := ⟨[44], [
  (.ret (.cmp .eq (.upto (.var 44) (.cst (.int 3))) (.cst (.str [114, 101, 108]))))]⟩
noncomputable def f_takes_memory : Fn := ⟨[44], [
  (.ret (.or [(.cmp .eq (.upto (.var 44) (.cst (.int 1))) (.cst (.str [109]))), (.cmp .eq (.upto (.var 44) (.cst (.int 2))) (.cst (.str [114, 109]))), (.cmp .eq (.upto (.var 44) (.cst (.int 2))) (.cst (.str [120, 109])))]))]⟩
noncomputable def f_kind_size : Fn := ⟨[44], [
  (.ife (.or [(.cmp .in_ (.var 44) (.tup [(.cst (.str [109])), (.cst (.str [111, 110, 101]))])), (.call 118 [(.var 44)]), (.call 119 [(.var 44)])]) [(.ret (.cst (.int 0)))] []),
  (.ife (.call 117 [(.var 44)]) [(.ret (.idx .bad (.var 44)))] []),
  (.ife (.cmp .eq (.var 44) (.cst (.str [120]))) [(.ret (.cst (.int 128)))] []),
  (.ret (.bif .int (.lstrip (.var 44) (.cst (.str [114, 109, 111, 120])))))]⟩
noncomputable def f_slot_of : Fn := ⟨[44], [
  (.ife (.or [(.call 117 [(.var 44)]), (.cmp .eq (.var 44) (.cst (.str [111, 110, 101])))]) [(.ret (.cst (.str [102, 105, 120, 101, 100])))] []),
  (.ife (.call 118 [(.var 44)]) [(.ret (.cst (.str [105, 109, 109])))] []),
  (.ife (.call 119 [(.var 44)]) [(.ret (.cst (.str [114, 101, 108])))] []),
  (.ife (.call 120 [(.var 44)]) [(.ret (.cst (.str [114, 109])))] []),
  (.ret (.ite (.cmp .eq (.upto (.var 44) (.cst (.int 1))) (.cst (.str [111]))) (.cst (.str [112, 108, 117, 115])) (.cst (.str [114, 101, 103]))))]⟩
noncomputable def f_Form_init : Fn := ⟨[13, 0, 1, 2, 3, 4, 5, 6, 7], [
  (.setA 13 0 (.var 0)),
  (.setA 13 1 (.bif .tuple (.var 1))),
  (.setA 13 2 (.var 2)),
  (.setA 13 3 (.var 3)),
  (.setA 13 4 (.var 4)),
  (.setA 13 5 (.var 5)),
  (.setA 13 6 (.var 6)),
  (.setA 13 7 (.var 7)),
  (.setA 13 8 (.neg (.cst (.int 1)))),
  (.setA 13 9 (.bif .tuple (.comp (.call 122 [(.var 44)]) 44 (.attr (.var 13) 1) [])))]⟩
noncomputable def f_Form_told : Fn := ⟨[13], [
  (.ret (.tup [(.attr (.var 13) 0), (.attr (.var 13) 1), (.attr (.var 13) 2), (.attr (.var 13) 3), (.attr (.var 13) 4), (.attr (.var 13) 5), (.attr (.var 13) 6), (.attr (.var 13) 7)]))]⟩
noncomputable def f_Form_has_modrm : Fn := ⟨[13], [
  (.ret (.or [(.cmp .ge (.attr (.var 13) 4) (.cst (.int 0))), (.cmp .in_ (.cst (.str [114, 109])) (.attr (.var 13) 9)), (.cmp .in_ (.cst (.str [114, 101, 103])) (.attr (.var 13) 9))]))]⟩
noncomputable def f_Form_has_plus : Fn := ⟨[13], [
  (.ret (.cmp .in_ (.cst (.str [112, 108, 117, 115])) (.attr (.var 13) 9)))]⟩
noncomputable def f_Form_memory_size : Fn := ⟨[13], [
  (.forI 44 (.attr (.var 13) 1) [(.ife (.call 120 [(.var 44)]) [(.ret (.call 121 [(.var 44)]))] [])]),
  (.ret (.neg (.cst (.int 1))))]⟩
noncomputable def f_Form_needs_memory : Fn := ⟨[13], [
  (.ret (.bif .any (.comp (.cmp .eq (.upto (.var 44) (.cst (.int 1))) (.cst (.str [109]))) 44 (.attr (.var 13) 1) [])))]⟩
noncomputable def f_law_menu : Fn := ⟨[8], [
  (.asg 45 (.lst [(.tup [(.tup [(.cst (.str [114, 109, 51, 50])), (.cst (.str [114, 51, 50]))]), (.cst (.int 32)), (.cst (.bool false))]), (.tup [(.tup [(.cst (.str [114, 109, 49, 54])), (.cst (.str [114, 49, 54]))]), (.cst (.int 16)), (.cst (.bool false))]), (.tup [(.tup [(.cst (.str [114, 109, 54, 52])), (.cst (.str [114, 54, 52]))]), (.cst (.int 64)), (.cst (.bool false))]), (.tup [(.tup [(.cst (.str [114, 109, 56])), (.cst (.str [114, 56]))]), (.cst (.int 8)), (.cst (.bool false))])])),
  (.asg 45 (.add (.var 45) (.lst [(.tup [(.tup [(.cst (.str [120])), (.cst (.str [120, 109, 49, 50, 56]))]), (.cst (.int 0)), (.cst (.bool false))]), (.tup [(.tup [(.cst (.str [120])), (.cst (.str [109, 54, 52]))]), (.cst (.int 0)), (.cst (.bool false))]), (.tup [(.tup [(.cst (.str [114, 109, 54, 52]))]), (.cst (.int 64)), (.cst (.bool true))]), (.tup [(.tup [(.cst (.str [111, 54, 52]))]), (.cst (.int 64)), (.cst (.bool true))])]))),
  (.asg 45 (.add (.var 45) (.lst [(.tup [(.tup [(.cst (.str [111, 49, 54]))]), (.cst (.int 16)), (.cst (.bool false))]), (.tup [(.tup []), (.cst (.int 0)), (.cst (.bool false))]), (.tup [(.tup [(.cst (.str [101, 97, 120])), (.cst (.str [105, 109, 109, 51, 50]))]), (.cst (.int 32)), (.cst (.bool false))]), (.tup [(.tup [(.cst (.str [114, 51, 50])), (.cst (.str [109]))]), (.cst (.int 32)), (.cst (.bool false))])]))),
  (.asg 45 (.add (.var 45) (.lst [(.tup [(.tup [(.cst (.str [109, 51, 50])), (.cst (.str [114, 51, 50]))]), (.cst (.int 32)), (.cst (.bool false))]), (.tup [(.tup [(.cst (.str [114, 109, 51, 50])), (.cst (.str [117, 105, 109, 109, 56]))]), (.cst (.int 32)), (.cst (.bool false))])]))),
  (.ret (.idx (.var 45) (.fmod (.var 8) (.cst (.int 14)))))]⟩
noncomputable def f_law_row : Fn := ⟨[46], [
  (.asgT [1, 5, 7] (.call 128 [(.var 46)])),
  (.asg 8 (.fdiv (.var 46) (.cst (.int 14)))),
  (.asg 15 (.idx (.tup [(.cst (.int 16)), (.cst (.int 144)), (.cst (.int 147)), (.cst (.int 19))]) (.fmod (.var 8) (.cst (.int 4))))),
  (.ife (.and [(.cmp .ne (.var 1) (.tup [])), (.cmp .eq (.idx (.idx (.var 1) (.cst (.int 0))) (.cst (.int 0))) (.cst (.str [111])))]) [(.asg 15 (.mul (.fdiv (.var 15) (.cst (.int 8))) (.cst (.int 8))))] []),
  (.asg 4 (.neg (.cst (.int 1)))),
  (.ife (.or [(.and [(.cmp .gt (.bif .len (.var 1)) (.cst (.int 0))), (.cmp .eq (.upto (.idx (.var 1) (.cst (.int 0))) (.cst (.int 2))) (.cst (.str [114, 109]))), (.cmp .ne (.idx (.idx (.var 1) (.neg (.cst (.int 1)))) (.cst (.int 0))) (.cst (.str [114])))]), (.cmp .eq (.var 1) (.tup [(.cst (.str [114, 109, 54, 52]))]))]) [(.asg 4 (.idx (.tup [(.neg (.cst (.int 1))), (.cst (.int 0)), (.cst (.int 1))]) (.fmod (.fdiv (.var 8) (.cst (.int 24))) (.cst (.int 3)))))] []),
  (.ret (.form [(.idx (.tup [(.cst (.str [111, 110, 101])), (.cst (.str [116, 119, 111])), (.cst (.str [115, 105, 120]))]) (.fmod (.fdiv (.var 8) (.cst (.int 72))) (.cst (.int 3)))), (.var 1), (.var 15), (.fmod (.fdiv (.var 8) (.cst (.int 4))) (.cst (.int 2))), (.var 4), (.var 5), (.idx (.tup [(.cst (.int 0)), (.cst (.int 102)), (.cst (.int 243))]) (.fmod (.fdiv (.var 8) (.cst (.int 8))) (.cst (.int 3)))), (.var 7)]))]⟩
noncomputable def f_law_spans : Fn := ⟨[38], [
  (.ife (.and [(.cmp .ne (.attr (.var 38) 1) (.tup [])), (.cmp .eq (.idx (.idx (.attr (.var 38) 1) (.cst (.int 0))) (.cst (.int 0))) (.cst (.str [111])))]) [(.ret (.comp (.tup [(.attr (.var 38) 6), (.attr (.var 38) 3), (.add (.attr (.var 38) 2) (.var 47))]) 47 (.bif .range (.cst (.int 8))) []))] []),
  (.ret (.lst [(.tup [(.attr (.var 38) 6), (.attr (.var 38) 3), (.attr (.var 38) 2)])]))]⟩
noncomputable def f_law_fits : Fn := ⟨[38, 49, 50, 43, 48], [
  (.ife (.and [(.cmp .ge (.attr (.var 38) 4) (.cst (.int 0))), (.cmp .ne (.attr (.var 38) 4) (.var 48))]) [(.ret (.cst (.bool false)))] []),
  (.ife (.and [(.cmp .eq (.var 43) (.cst (.int 1))), (.cmp .ne (.comp (.var 44) 44 (.attr (.var 38) 1) [(.cmp .eq (.idx (.var 44) (.cst (.int 0))) (.cst (.str [109])))]) (.lst []))]) [(.ret (.cst (.bool false)))] []),
  (.ife (.or [(.cmp .eq (.attr (.var 38) 5) (.cst (.int 0))), (.cmp .eq (.attr (.var 38) 5) (.cst (.int 8)))]) [(.ret (.cst (.bool true)))] []),
  (.ife (.attr (.var 38) 7) [(.ret (.not (.var 49)))] []),
  (.ife (.var 50) [(.ret (.cmp .eq (.attr (.var 38) 5) (.cst (.int 64))))] []),
  (.ret (.cmp .eq (.attr (.var 38) 5) (.ite (.var 49) (.cst (.int 16)) (.cst (.int 32)))))]⟩
noncomputable def f_law_meet : Fn := ⟨[33, 25, 41, 51], [
  (.forI 49 (.tup [(.cst (.bool false)), (.cst (.bool true))]) [(.forI 50 (.tup [(.cst (.bool false)), (.cst (.bool true))]) [(.forI 43 (.var 41) [(.forI 48 (.var 51) [(.ife (.and [(.call 131 [(.var 33), (.var 49), (.var 50), (.var 43), (.var 48)]), (.call 131 [(.var 25), (.var 49), (.var 50), (.var 43), (.var 48)])]) [(.ret (.cst (.bool true)))] [])])])])]),
  (.ret (.cst (.bool false)))]⟩
noncomputable def f_law_sizes : Fn := ⟨[45, 0], [
  (.newL 24),
  (.forI 38 (.var 45) [(.forI 44 (.attr (.var 38) 1) [(.forI 17 (.split (.cst (.str [114, 109, 56, 58, 56, 32, 114, 109, 49, 54, 58, 49, 54, 32, 114, 109, 51, 50, 58, 51, 50, 32, 114, 109, 54, 52, 58, 54, 52, 32, 120, 109, 49, 50, 56, 58, 49, 50, 56, 32, 109, 54, 52, 58, 54, 52, 32, 109, 51, 50, 58, 51, 50, 32, 109, 58, 48])) (.cst (.str [32]))) [(.ife (.and [(.cmp .eq (.attr (.var 38) 0) (.var 0)), (.cmp .eq (.idx (.split (.var 17) (.cst (.str [58]))) (.cst (.int 0))) (.var 44)), (.cmp .notin (.bif .int (.idx (.split (.var 17) (.cst (.str [58]))) (.cst (.int 1)))) (.var 24))]) [(.app 24 (.bif .int (.idx (.split (.var 17) (.cst (.str [58]))) (.cst (.int 1)))))] [])])])]),
  (.ret (.bif .sorted (.var 24)))]⟩
noncomputable def f_law_set_right : Fn := ⟨[45, 55], [
  (.asg 52 (.comp (.call 130 [(.var 38)]) 38 (.var 45) [])),
  (.newL 53),
  (.forI 54 (.var 52) [(.forI 15 (.var 54) [(.ife (.cmp .notin (.var 15) (.var 53)) [(.app 53 (.var 15))] [])])]),
  (.asg 53 (.bif .sorted (.var 53))),
  (.ife (.or [(.cmp .ne (.comp (.attr (.var 38) 8) 38 (.var 45) []) (.bif .list (.bif .range (.bif .len (.var 45))))), (.cmp .ne (.meth (.var 55) 37 []) (.var 53))]) [(.ret (.cst (.bool false)))] []),
  (.ife (.cmp .ne (.meth (.var 55) 27 []) (.bif .tuple (.comp (.meth (.var 38) 27 []) 38 (.var 45) []))) [(.ret (.cst (.bool false)))] []),
  (.forI 0 (.tup [(.cst (.str [111, 110, 101])), (.cst (.str [116, 119, 111])), (.cst (.str [115, 105, 120])), (.cst (.str [116, 101, 110]))]) [(.asg 56 (.comp (.attr (.var 38) 8) 38 (.var 45) [(.cmp .eq (.attr (.var 38) 0) (.var 0))])), (.ife (.or [(.cmp .ne (.comp (.attr (.var 38) 8) 38 (.meth (.var 55) 57 [(.var 0)]) []) (.var 56)), (.cmp .ne (.meth (.var 55) 58 [(.var 0)]) (.cmp .ne (.var 56) (.lst []))), (.cmp .ne (.cmp .in_ (.var 0) (.meth (.var 55) 59 [])) (.cmp .ne (.var 56) (.lst [])))]) [(.ret (.cst (.bool false)))] []), (.ife (.cmp .ne (.meth (.var 55) 60 [(.var 0)]) (.comp (.var 61) 61 (.bif .range (.cst (.int 4))) [(.cmp .ne (.comp (.var 38) 38 (.var 45) [(.and [(.cmp .eq (.attr (.var 38) 0) (.var 0)), (.cmp .eq (.bif .len (.attr (.var 38) 1)) (.var 61))])]) (.lst []))])) [(.ret (.cst (.bool false)))] []), (.ife (.cmp .ne (.meth (.var 55) 62 [(.var 0)]) (.call 133 [(.var 45), (.var 0)])) [(.ret (.cst (.bool false)))] [])]),
  (.newL 63),
  (.forI 15 (.var 53) [(.asg 64 (.comp (.var 47) 47 (.bif .range (.bif .len (.var 45))) [(.cmp .in_ (.var 15) (.idx (.var 52) (.var 47)))])), (.ife (.cmp .ne (.comp (.attr (.var 38) 8) 38 (.meth (.var 55) 47 [(.idx (.var 15) (.cst (.int 0))), (.idx (.var 15) (.cst (.int 1))), (.idx (.var 15) (.cst (.int 2)))]) []) (.var 64)) [(.ret (.cst (.bool false)))] []), (.forI 65 (.bif .range (.bif .len (.var 64))) [(.forI 66 (.bif .range (.var 65)) [(.asgT [33, 25] (.tup [(.idx (.var 45) (.idx (.var 64) (.var 66))), (.idx (.var 45) (.idx (.var 64) (.var 65)))])), (.ife (.and [(.cmp .ne (.var 15) (.tup [(.cst (.int 0)), (.cst (.int 0)), (.cst (.int 144))])), (.call 132 [(.var 33), (.var 25), (.tup [(.cst (.int 0)), (.cst (.int 1))]), (.tup [(.cst (.int 0)), (.cst (.int 1))])])]) [(.app 63 (.tup [(.attr (.var 33) 0), (.attr (.var 25) 0), (.var 15)]))] [])])])]),
  (.ret (.and [(.cmp .eq (.call 116 [(.var 55)]) (.var 63)), (.cmp .eq (.meth (.var 55) 47 [(.cst (.int 242)), (.cst (.int 0)), (.cst (.int 16))]) (.lst [])), (.cmp .eq (.meth (.var 55) 59 []) (.bif .sorted (.meth (.var 55) 59 [])))]))]⟩
noncomputable def f_law_names_right : Fn := ⟨[46], [
  (.forT [16, 67] (.tup [(.tup [(.cst (.str [98, 58, 99, 44, 110, 97, 101, 32, 97, 101, 58, 110, 98, 44, 110, 99, 32, 101, 58, 122, 32, 110, 101, 58, 110, 122, 32, 98, 101, 58, 110, 97, 32, 97, 58, 110, 98, 101, 32, 112, 58, 112, 101, 32, 110, 112, 58, 112, 111, 32, 108, 58, 110, 103, 101, 32, 103, 101, 58, 110, 108, 32, 108, 101, 58, 110, 103, 32, 103, 58, 110, 108, 101, 32, 111, 58, 32, 110, 111, 58, 32, 115, 58, 32, 110, 115, 58])), (.tup [(.cst (.str [106])), (.cst (.str [115, 101, 116])), (.cst (.str [99, 109, 111, 118]))])]), (.tup [(.cst (.str [115, 104, 108, 58, 115, 97, 108, 32, 108, 111, 111, 112, 101, 58, 108, 111, 111, 112, 122, 32, 108, 111, 111, 112, 110, 101, 58, 108, 111, 111, 112, 110, 122, 32, 114, 101, 112, 58, 114, 101, 112, 101, 44, 114, 101, 112, 122, 32, 114, 101, 112, 110, 101, 58, 114, 101, 112, 110, 122, 32, 109, 111, 118, 58, 32, 106, 109, 112, 58, 32, 106, 114, 99, 120, 122, 58, 32, 115, 101, 116, 117, 112, 58, 32, 99, 109, 111, 118, 58, 32, 108, 111, 111, 112, 58])), (.tup [(.cst (.str []))])])]) [(.asg 17 (.idx (.split (.var 16) (.cst (.str [32]))) (.fmod (.var 46) (.bif .len (.split (.var 16) (.cst (.str [32]))))))), (.asg 23 (.idx (.var 67) (.fmod (.fdiv (.var 46) (.cst (.int 7))) (.bif .len (.var 67))))), (.asgT [0, 68] (.split (.var 17) (.cst (.str [58])))), (.asg 0 (.add (.var 23) (.var 0))), (.asg 21 (.bif .sorted (.comp (.add (.var 23) (.var 33)) 33 (.split (.var 68) (.cst (.str [44]))) [(.cmp .ne (.var 33) (.cst (.str [])))]))), (.ife (.or [(.cmp .ne (.call 103 [(.var 0)]) (.var 0)), (.cmp .ne (.call 104 [(.var 0)]) (.var 21))]) [(.ret (.cst (.bool false)))] []), (.forI 33 (.var 21) [(.ife (.or [(.cmp .ne (.call 103 [(.var 33)]) (.var 0)), (.cmp .ne (.call 104 [(.var 33)]) (.lst []))]) [(.ret (.cst (.bool false)))] [])])]),
  (.ret (.cst (.bool true)))]⟩
noncomputable def f_law : Fn := ⟨[70], [
  (.asg 69 (.upto (.var 70) (.cst (.int 4)))),
  (.ife (.cmp .eq (.var 69) (.lst [])) [(.asg 69 (.lst [(.cst (.int 6))]))] []),
  (.asg 45 (.comp (.call 129 [(.var 46)]) 46 (.var 69) [])),
  (.ife (.or [(.not (.call 134 [(.var 45), (.iset (.var 45))])), (.not (.call 135 [(.idx (.var 69) (.cst (.int 0)))]))]) [(.ret (.cst (.bool false)))] []),
  (.forI 38 (.var 45) [(.asgT [31, 41] (.call 114 [(.var 38)])), (.asg 71 (.and [(.cmp .eq (.comp (.var 44) 44 (.attr (.var 38) 1) [(.or [(.cmp .in_ (.upto (.var 44) (.cst (.int 1))) (.tup [(.cst (.str [109])), (.cst (.str [120]))])), (.cmp .eq (.upto (.var 44) (.cst (.int 1))) (.cst (.str [114])))])]) (.lst [])), (.cmp .lt (.attr (.var 38) 4) (.cst (.int 0)))])), (.ife (.cmp .ne (.var 31) (.ite (.cmp .ge (.attr (.var 38) 4) (.cst (.int 0))) (.lst [(.attr (.var 38) 4)]) (.lst [(.cst (.int 0)), (.cst (.int 1)), (.cst (.int 2)), (.cst (.int 3)), (.cst (.int 4)), (.cst (.int 5)), (.cst (.int 6)), (.cst (.int 7))]))) [(.ret (.cst (.bool false)))] []), (.ife (.cmp .ne (.var 41) (.ite (.or [(.var 71), (.cmp .eq (.comp (.var 44) 44 (.attr (.var 38) 1) [(.cmp .eq (.idx (.var 44) (.cst (.int 0))) (.cst (.str [109])))]) (.lst []))]) (.lst [(.cst (.int 0)), (.cst (.int 1))]) (.lst [(.cst (.int 0))]))) [(.ret (.cst (.bool false)))] []), (.asg 72 (.form [(.attr (.var 38) 0), (.tup []), (.cst (.int 0)), (.cst (.int 0)), (.neg (.cst (.int 1))), (.attr (.var 38) 5), (.cst (.int 0)), (.attr (.var 38) 7)])), (.asg 73 (.form [(.attr (.idx (.var 45) (.cst (.int 0))) 0), (.tup []), (.cst (.int 0)), (.cst (.int 0)), (.neg (.cst (.int 1))), (.attr (.idx (.var 45) (.cst (.int 0))) 5), (.cst (.int 0)), (.attr (.idx (.var 45) (.cst (.int 0))) 7)])), (.ife (.or [(.cmp .ne (.call 115 [(.var 72), (.var 73)]) (.call 132 [(.var 72), (.var 73), (.tup [(.cst (.int 0))]), (.tup [(.cst (.int 0))])])), (.cmp .ne (.call 115 [(.var 73), (.var 72)]) (.call 115 [(.var 72), (.var 73)]))]) [(.ret (.cst (.bool false)))] [])]),
  (.ret (.cst (.bool true)))]⟩
noncomputable def fnL : List (Nat × Fn) := [(100, f_codes_of), (101, f_Form_init), (102, f_pairs_of), (103, f_canonical), (104, f_aliases_of), (105, f_InstructionSet_told), (106, f_InstructionSet_find), (107, f_InstructionSet_has), (108, f_InstructionSet_at), (109, f_InstructionSet_names), (110, f_InstructionSet_codes), (111, f_InstructionSet_counts), (112, f_InstructionSet_memory_sizes), (113, f_told_size), (114, f_part_of_modrm), (115, f_sizes_meet), (116, f_clashes), (117, f_is_fixed), (118, f_is_immediate), (119, f_is_relative), (120, f_takes_memory), (121, f_kind_size), (122, f_slot_of), (123, f_Form_told), (124, f_Form_has_modrm), (125, f_Form_has_plus), (126, f_Form_memory_size), (127, f_Form_needs_memory), (128, f_law_menu), (129, f_law_row), (130, f_law_spans), (131, f_law_fits), (132, f_law_meet), (133, f_law_sizes), (134, f_law_set_right), (135, f_law_names_right), (136, f_law)]
noncomputable def fnTab (f : Nat) : Option Fn := fnL.lookup f
noncomputable def methL : List ((Nat × Nat) × Nat) := [((1, 27), 105), ((1, 57), 106), ((1, 58), 107), ((1, 47), 108), ((1, 59), 109), ((1, 37), 110), ((1, 60), 111), ((1, 62), 112), ((0, 27), 123), ((0, 30), 124), ((0, 26), 125), ((0, 29), 126), ((0, 32), 127)]
noncomputable def methTab (c m : Nat) : Option Nat := methL.lookup (c, m)
noncomputable def prg : Prg := ⟨fnTab, methTab⟩
noncomputable def namesL : List String := ["name", "kinds", "opcode", "escape", "digit", "size", "must", "is_wide", "number", "places", "forms", "by_name", "by_code", "self", "form", "code", "table", "word", "text", "key", "value", "others", "conditions", "stem", "found", "other", "has_plus", "told", "sizes", "memory_size", "has_modrm", "digits", "needs_memory", "one", "wide", "plain", "iset", "codes", "row", "high", "low", "mods", "other_mods", "mod", "kind", "rows", "cell", "at", "three", "narrow", "w", "threes", "spans", "codes_due", "span", "made", "due", "find", "has", "names", "counts", "many", "memory_sizes", "clashes_due", "under", "upper", "lower", "stems", "more", "cells", "script", "bare", "alike", "first_one"]
noncomputable def fnNames : List (Nat × String) := [(100, "codes_of"), (102, "pairs_of"), (103, "canonical"), (104, "aliases_of"), (113, "told_size"), (114, "part_of_modrm"), (115, "sizes_meet"), (116, "clashes"), (117, "is_fixed"), (118, "is_immediate"), (119, "is_relative"), (120, "takes_memory"), (121, "kind_size"), (122, "slot_of"), (128, "_law_menu"), (129, "_law_row"), (130, "_law_spans"), (131, "_law_fits"), (132, "_law_meet"), (133, "_law_sizes"), (134, "_law_set_right"), (135, "_law_names_right"), (136, "law")]
end Mine
namespace Mine
noncomputable def nm (i : Nat) : Str := Str.ofString (namesL.getD i "")
structure FR where
  a : Addr
  dx : Addr
  fs : List (Nat × V)
  ok : ∀ e ∈ fs, e.1 < 13 ∧ e.1 ≠ 8
structure Cfg where
  prog : Program
  w : World
  K : Frag
  H : Heap
  mg : Str → Option Value
  mb : Str → Option Value
  c0 : Addr
  c1 : Addr
  fa : Nat → Addr
noncomputable abbrev Cfg.sk (C : Cfg) : PySem.KeyKind C.prog C.w Str := PySem.strKind C.prog C.w
noncomputable abbrev Cfg.ik (C : Cfg) : PySem.KeyKind C.prog C.w Int := PySem.intKind C.prog C.w
noncomputable abbrev Cfg.tk (C : Cfg) : HeapKind C.prog C.w (List Int) := tupleKind C.ik
noncomputable def OkA (D : List FR) (X : Addr → Prop) (a : Addr) : Prop := ¬ X a ∧ ∀ r ∈ D, r.dx ≠ a
noncomputable def OkV (D : List FR) (X : Addr → Prop) (v : Value) : Prop := ∀ a, v = .ref a → OkA D X a
mutual
inductive VT (C : Cfg) (D : List FR) (X : Addr → Prop) (h : Heap) : V → Value → Prop
  | none : VT C D X h .none .none
  | bool (b : Bool) : VT C D X h (.bool b) (.bool b)
  | int (i : Int) (t : Tok) : VT C D X h (.int i) (.int i t)
  | str {l : List Nat} {s : Str} (t : Tok) (e : s.cps.toList = l) : VT C D X h (.str l) (.str s t)
  | rng {n : Nat} {a : Addr} {t u v : Tok} (e : IsRange h a 0 n 1 t u v) : VT C D X h (.rng n) (.ref a)
  | tuple {vs : List V} {a : Addr} {items : Array Value} (e : IsTup h a items) (r : VRs C D X h vs items.toList) : VT C D X h (.tuple vs) (.ref a)
  | list {vs : List V} {a : Addr} {items : Array Value} (e : h.IsList a items) (r : VRs C D X h vs items.toList) : VT C D X h (.list vs) (.ref a)
  | dictS {es : List (V × V)} {a : Addr} {kvs : List (Str × Value)} (e : h.DictOf C.sk a kvs) (lo : C.H.get? a = .none) (r : KS C D X h es kvs) : VT C D X h (.dict es) (.ref a)
  | dictI {es : List (V × V)} {a : Addr} {kvs : List (Int × Value)} (e : h.DictOf C.ik a kvs) (lo : C.H.get? a = .none) (r : KI C D X h es kvs) : VT C D X h (.dict es) (.ref a)
  | dictT {es : List (V × V)} {a : Addr} {kvs : List (List Int × Addr × Value)} (e : h.DictOfH C.tk a kvs) (lo : C.H.get? a = .none) (r : KT C D X h es kvs) : VT C D X h (.dict es) (.ref a)
  | form {l : Nat} {r : FR} (e : D[l]? = some r) : VT C D X h (.inst 0 r.fs (some l)) (.ref r.a)
  | iset {fs : List (Nat × V)} {a dx : Addr} {od : Obj} (e : h.get? a = some (instObj C.c1 dx)) (e2 : h.get? dx = some od) (k : OkA D X dx) (sh : ∀ m, (methTab 1 m).isSome = true → lookIn (nm m) od = some none) (r : FS C D X h fs od) : VT C D X h (.inst 1 fs none) (.ref a)
inductive VRs (C : Cfg) (D : List FR) (X : Addr → Prop) (h : Heap) : List V → List Value → Prop
  | nil : VRs C D X h [] []
  | cons {v : V} {p : Value} {vs : List V} {ps : List Value} (a : VT C D X h v p) (k : OkV D X p) (r : VRs C D X h vs ps) : VRs C D X h (v :: vs) (p :: ps)
inductive KS (C : Cfg) (D : List FR) (X : Addr → Prop) (h : Heap) : List (V × V) → List (Str × Value) → Prop
  | nil : KS C D X h [] []
  | cons {v : V} {p : Value} {x : Str} {l : List Nat} {vs : List (V × V)} {ps : List (Str × Value)} (e : x.cps.toList = l) (a : VT C D X h v p) (k : OkV D X p) (r : KS C D X h vs ps) : KS C D X h ((.str l, v) :: vs) ((x, p) :: ps)
inductive KI (C : Cfg) (D : List FR) (X : Addr → Prop) (h : Heap) : List (V × V) → List (Int × Value) → Prop
  | nil : KI C D X h [] []
  | cons {v : V} {p : Value} {x : Int} {vs : List (V × V)} {ps : List (Int × Value)} (a : VT C D X h v p) (k : OkV D X p) (r : KI C D X h vs ps) : KI C D X h ((.int x, v) :: vs) ((x, p) :: ps)
inductive KT (C : Cfg) (D : List FR) (X : Addr → Prop) (h : Heap) : List (V × V) → List (List Int × Addr × Value) → Prop
  | nil : KT C D X h [] []
  | cons {v : V} {p : Value} {x : List Int} {b : Addr} {vs : List (V × V)} {ps : List (List Int × Addr × Value)} (kb : OkA D X b) (a : VT C D X h v p) (k : OkV D X p) (r : KT C D X h vs ps) : KT C D X h ((.tuple (x.map .int), v) :: vs) ((x, b, p) :: ps)
inductive FS (C : Cfg) (D : List FR) (X : Addr → Prop) (h : Heap) : List (Nat × V) → Obj → Prop
  | nil {od : Obj} : FS C D X h [] od
  | cons {f : Nat} {v : V} {p : Value} {fs : List (Nat × V)} {od : Obj} (e : lookIn (nm f) od = some (some p)) (a : VT C D X h v p) (k : OkV D X p) (r : FS C D X h fs od) : FS C D X h ((f, v) :: fs) od
end
noncomputable def VR (C : Cfg) (D : List FR) (X : Addr → Prop) (h : Heap) (v : V) (p : Value) : Prop := VT C D X h v p ∧ OkV D X p
theorem OkV.none {D : List FR} {X : Addr → Prop} : OkV D X .none := fun _ e => nomatch e
theorem OkV.bool {D : List FR} {X : Addr → Prop} {b : Bool} : OkV D X (.bool b) := fun _ e => nomatch e
theorem OkV.int {D : List FR} {X : Addr → Prop} {i : Int} {t : Tok} : OkV D X (.int i t) := fun _ e => nomatch e
theorem OkV.str {D : List FR} {X : Addr → Prop} {i : Str} {t : Tok} : OkV D X (.str i t) := fun _ e => nomatch e
theorem OkV.ref {D : List FR} {X : Addr → Prop} {a : Addr} (h : OkA D X a) : OkV D X (.ref a) := fun _ e => by cases e; exact h
theorem VR.bool {C : Cfg} {D : List FR} {X : Addr → Prop} {h : Heap} (b : Bool) : VR C D X h (.bool b) (.bool b) := ⟨.bool b, .bool⟩
theorem VR.int {C : Cfg} {D : List FR} {X : Addr → Prop} {h : Heap} (i : Int) (t : Tok) : VR C D X h (.int i) (.int i t) := ⟨.int i t, .int⟩
theorem VR.str {C : Cfg} {D : List FR} {X : Addr → Prop} {h : Heap} {l : List Nat} {s : Str} (t : Tok) (e : s.cps.toList = l) : VR C D X h (.str l) (.str s t) := ⟨.str t e, .str⟩
theorem VR.none {C : Cfg} {D : List FR} {X : Addr → Prop} {h : Heap} : VR C D X h .none .none := ⟨.none, .none⟩
structure Ext (W : Addr → Prop) (D : List FR) (h : Heap) (D' : List FR) (h' : Heap) : Prop where
  alive : ∀ a o, h.get? a = some o → ∃ o', h'.get? a = some o'
  grow : ∃ ex, D' = D ++ ex ∧ ∀ r ∈ ex, h.get? r.dx = none
  keep : ∀ a o, h.get? a = some o → (∀ r ∈ D, r.dx ≠ a) → ¬ W a → h'.get? a = some o
noncomputable abbrev Nope : Addr → Prop := fun _ => False
theorem not_none {h : Heap} {a : Addr} {o : Obj} (e : h.get? a = some o) : ¬ h.get? a = none := fun e' => nomatch e.symm.trans e'
theorem Ext.refl {W : Addr → Prop} {D : List FR} {h : Heap} : Ext W D h D h := ⟨fun _ o e => ⟨o, e⟩, ⟨[], by simp, by simp⟩, fun _ _ e _ _ => e⟩
theorem Ext.fresh {W : Addr → Prop} {D D' : List FR} {h h' : Heap} {a : Addr} (x : Ext W D h D' h') (e : h'.get? a = none) : h.get? a = none := by
  cases hq : h.get? a with
  | none => rfl
  | some o => obtain ⟨o', e'⟩ := x.alive a o hq; exact absurd e (not_none e')
theorem Ext.trans {W W' : Addr → Prop} {D D1 D2 : List FR} {h h1 h2 : Heap} (x : Ext W D h D1 h1) (y : Ext W' D1 h1 D2 h2) (hw : ∀ a, W' a → W a ∨ h.get? a = none) : Ext W D h D2 h2 := by
  have xf : ∀ a, h1.get? a = none → h.get? a = none := fun a e => x.fresh e
  obtain ⟨s1, ⟨e1, rfl, f1⟩, k1⟩ := x
  obtain ⟨s2, ⟨e2, rfl, f2⟩, k2⟩ := y
  refine ⟨fun a o e => let ⟨o1, e1⟩ := s1 a o e; s2 a o1 e1, ⟨e1 ++ e2, by simp, ?_⟩, ?_⟩
  · intro r hr
    rcases List.mem_append.mp hr with hr | hr
    · exact f1 r hr
    · exact xf _ (f2 r hr)
  · intro a o e hd hw'
    refine k2 a o (k1 a o e hd hw') ?_ ?_
    · intro r hr
      rcases List.mem_append.mp hr with hr | hr
      · exact hd r hr
      · intro e3; exact not_none e (e3 ▸ f1 r hr)
    · intro hx
      rcases hw a hx with h3 | h3
      · exact hw' h3
      · exact not_none e h3
theorem Ext.weak {W W' : Addr → Prop} {D D1 : List FR} {h h1 : Heap} (x : Ext W D h D1 h1) (hw : ∀ a, W a → W' a ∨ h.get? a = none) : Ext W' D h D1 h1 :=
  ⟨x.alive, x.grow, fun a o e hd hw' => x.keep a o e hd fun h3 => (hw a h3).elim hw' fun h4 => not_none e h4⟩
theorem Ext.of_keeps {W : Addr → Prop} {D : List FR} {h h' : Heap} (k : ∀ a o, h.get? a = some o → h'.get? a = some o) : Ext W D h D h' :=
  ⟨fun a o e => ⟨o, k a o e⟩, ⟨[], by simp, by simp⟩, fun a o e _ _ => k a o e⟩
theorem Ext.get {W : Addr → Prop} {D : List FR} {h : Heap} {D' : List FR} {h' : Heap} {l : Nat} {r : FR} (x : Ext W D h D' h') (e : D[l]? = some r) : D'[l]? = some r := by
  obtain ⟨_, ⟨e1, rfl, _⟩, _⟩ := x
  rw [List.getElem?_append_left (by rw [List.getElem?_eq_some_iff] at e; exact e.1)]; exact e
structure Mono (D : List FR) (X : Addr → Prop) (h : Heap) (D' : List FR) (X' : Addr → Prop) (h' : Heap) : Prop where
  get : ∀ (l : Nat) (r : FR), D[l]? = some r → D'[l]? = some r
  keep : ∀ a o, OkA D X a → h.get? a = some o → h'.get? a = some o
  ok : ∀ a o, OkA D X a → h.get? a = some o → OkA D' X' a
  okf : ∀ (l : Nat) (r : FR), D[l]? = some r → OkA D X r.a → OkA D' X' r.a
noncomputable def Fat (D : List FR) (h : Heap) : Prop := ∀ (l : Nat) (r : FR), D[l]? = some r → ∃ o, h.get? r.a = some o
theorem Ext.mono {W : Addr → Prop} {D : List FR} {h : Heap} {D' : List FR} {h' : Heap} {X : Addr → Prop} {X' : Addr → Prop} (x : Ext W D h D' h') (f : Fat D h) (hw : ∀ a, W a → X a ∨ h.get? a = none) (hx : ∀ a, X' a → X a ∨ h.get? a = none) : Mono D X h D' X' h' := by
  have ok : ∀ a o, h.get? a = some o → OkA D X a → OkA D' X' a := by
    intro a o e hk
    refine ⟨fun h3 => (hx a h3).elim hk.1 (not_none e), ?_⟩
    obtain ⟨_, ⟨e1, rfl, f1⟩, _⟩ := x
    intro r hr
    rcases List.mem_append.mp hr with hr | hr
    · exact hk.2 r hr
    · intro e3; exact not_none e (e3 ▸ f1 r hr)
  refine ⟨fun l r e => x.get e, fun a o hk e => x.keep a o e hk.2 fun h3 => (hw a h3).elim hk.1 (not_none e), fun a o hk e => ok a o e hk, fun l r e hk => let ⟨o, ho⟩ := f l r e; ok _ o ho hk⟩
theorem IsTup.mono {h : Heap} {h' : Heap} {a : Addr} {items : Array Value} (e : IsTup h a items) (k : ∀ o, h.get? a = some o → h'.get? a = some o) : IsTup h' a items := by
  obtain ⟨o, ho, r⟩ := e; exact ⟨o, k o ho, r⟩
theorem IsList.mono {h h' : Heap} {a items} (e : h.IsList a items) (k : ∀ o, h.get? a = some o → h'.get? a = some o) : h'.IsList a items := by
  obtain ⟨o, ho, r⟩ := e; exact ⟨o, k o ho, r⟩
theorem DictOf.mono {prog w K} [DecidableEq K] {kd : PySem.KeyKind prog w K} {h h' : Heap} {a kvs} (e : h.DictOf kd a kvs) (k : ∀ o, h.get? a = some o → h'.get? a = some o) : h'.DictOf kd a kvs := by
  obtain ⟨o, es, ep, ho, r⟩ := e; exact ⟨o, es, ep, k o ho, r⟩
theorem DictOfH.mono {C : Cfg} {h h' : Heap} {a kvs} (e : h.DictOfH C.tk a kvs) (k : ∀ o, h.get? a = some o → h'.get? a = some o) (k2 : ∀ x ∈ kvs, ∀ o, h.get? x.2.1 = some o → h'.get? x.2.1 = some o) : h'.DictOfH C.tk a kvs := by
  obtain ⟨o, es, ep, ho, c, d, l, i, n⟩ := e
  refine ⟨o, es, ep, k o ho, c, d, l, fun x hx => ?_, n⟩
  obtain ⟨o', it, m, g1, g2⟩ := i x hx
  exact ⟨o', it, m, k2 x hx o' g1, g2⟩
theorem IsRange.mono {h h' : Heap} {a : Addr} {i j k : Int} {t u v : Tok} (e : IsRange h a i j k t u v) (kk : ∀ o, h.get? a = some o → h'.get? a = some o) : IsRange h' a i j k t u v := kk _ e
theorem VT.top {C : Cfg} {D : List FR} {X : Addr → Prop} {h : Heap} {v : V} {a : Addr} (x : VT C D X h v (.ref a)) : (∃ o, h.get? a = some o) ∨ ∃ (l : Nat) (r : FR), D[l]? = some r ∧ r.a = a := by
  cases x with
  | rng e => exact .inl ⟨_, e⟩
  | tuple e => obtain ⟨o, ho, _⟩ := e; exact .inl ⟨o, ho⟩
  | list e => obtain ⟨o, ho, _⟩ := e; exact .inl ⟨o, ho⟩
  | dictS e _ _ => obtain ⟨o, _, _, ho, _⟩ := e; exact .inl ⟨o, ho⟩
  | dictI e _ _ => obtain ⟨o, _, _, ho, _⟩ := e; exact .inl ⟨o, ho⟩
  | dictT e _ _ => obtain ⟨o, _, _, ho, _⟩ := e; exact .inl ⟨o, ho⟩
  | form e => exact .inr ⟨_, _, e, rfl⟩
  | iset e _ _ _ _ => exact .inl ⟨_, e⟩
theorem OkV.mono {C : Cfg} {D : List FR} {X : Addr → Prop} {h : Heap} {D' : List FR} {X' : Addr → Prop} {h' : Heap} {v : V} {p : Value} (m : Mono D X h D' X' h') (x : VT C D X h v p) (k : OkV D X p) : OkV D' X' p := by
  intro a e
  subst e
  have ka := k a rfl
  rcases x.top with ⟨o, ho⟩ | ⟨l, r, e, rfl⟩
  · exact m.ok a o ka ho
  · exact m.okf l r e ka
section
variable {C : Cfg} {D D' : List FR} {X X' : Addr → Prop} {h h' : Heap} {G : Prop}
theorem pc {α : Type} {x x' : α} {r r' : List α} (e : x :: r = x' :: r') (k : x = x' → r = r' → G) : G := k (List.cons.inj e).1 (List.cons.inj e).2
theorem VRs.nil_c {ps : List Value} (x : VRs C D X h [] ps) : ps = [] := by cases x; rfl
theorem VRs.cons_c {v : V} {vs : List V} {ps : List Value} (x : VRs C D X h (v :: vs) ps) (k : ∀ p ps', ps = p :: ps' → VT C D X h v p → OkV D X p → VRs C D X h vs ps' → G) : G := by
  cases x with
  | cons a o r => exact k _ _ rfl a o r
theorem VRs.ind {M : List V → List Value → Prop} (n : M [] []) (c : ∀ v p vs ps, VT C D X h v p → OkV D X p → VRs C D X h vs ps → M vs ps → M (v :: vs) (p :: ps)) {vs : List V} : ∀ {ps}, VRs C D X h vs ps → M vs ps := by
  induction vs with
  | nil => exact fun x => x.nil_c ▸ n
  | cons v vs ih => exact fun x => x.cons_c fun p ps' e a o r => e ▸ c v p vs ps' a o r (ih r)
theorem KS.nil_c {ps : List (Str × Value)} (x : KS C D X h [] ps) : ps = [] := by cases x; rfl
theorem KS.cons_c {y : V × V} {es : List (V × V)} {ps : List (Str × Value)} (x : KS C D X h (y :: es) ps) (k : ∀ z ps', y.1 = .str z.1.cps.toList → ps = z :: ps' → VT C D X h y.2 z.2 → OkV D X z.2 → KS C D X h es ps' → G) : G := by
  cases x with
  | cons e a o r => exact k (_, _) _ (congrArg V.str e.symm) rfl a o r
theorem KS.ind {M : List (V × V) → List (Str × Value) → Prop} (n : M [] []) (c : ∀ v z es ps, VT C D X h v z.2 → OkV D X z.2 → KS C D X h es ps → M es ps → M ((.str z.1.cps.toList, v) :: es) (z :: ps)) {es : List (V × V)} : ∀ {ps}, KS C D X h es ps → M es ps := by
  induction es with
  | nil => exact fun x => x.nil_c ▸ n
  | cons y es ih => exact fun x => x.cons_c fun z ps' e1 e a o r => e ▸ (show y = (.str z.1.cps.toList, y.2) from e1 ▸ rfl) ▸ c y.2 z es ps' a o r (ih r)
theorem KI.nil_c {ps : List (Int × Value)} (x : KI C D X h [] ps) : ps = [] := by cases x; rfl
theorem KI.cons_c {y : V × V} {es : List (V × V)} {ps : List (Int × Value)} (x : KI C D X h (y :: es) ps) (k : ∀ z ps', y.1 = .int z.1 → ps = z :: ps' → VT C D X h y.2 z.2 → OkV D X z.2 → KI C D X h es ps' → G) : G := by
  cases x with
  | cons a o r => exact k (_, _) _ rfl rfl a o r
theorem KI.ind {M : List (V × V) → List (Int × Value) → Prop} (n : M [] []) (c : ∀ v z es ps, VT C D X h v z.2 → OkV D X z.2 → KI C D X h es ps → M es ps → M ((.int z.1, v) :: es) (z :: ps)) {es : List (V × V)} : ∀ {ps}, KI C D X h es ps → M es ps := by
  induction es with
  | nil => exact fun x => x.nil_c ▸ n
  | cons y es ih => exact fun x => x.cons_c fun z ps' e1 e a o r => e ▸ (show y = (.int z.1, y.2) from e1 ▸ rfl) ▸ c y.2 z es ps' a o r (ih r)
theorem KT.nil_c {ps : List (List Int × Addr × Value)} (x : KT C D X h [] ps) : ps = [] := by cases x; rfl
theorem KT.cons_c {y : V × V} {es : List (V × V)} {ps : List (List Int × Addr × Value)} (x : KT C D X h (y :: es) ps) (k : ∀ z ps', y.1 = .tuple (z.1.map .int) → ps = z :: ps' → OkA D X z.2.1 → VT C D X h y.2 z.2.2 → OkV D X z.2.2 → KT C D X h es ps' → G) : G := by
  cases x with
  | cons kb a o r => exact k (_, _, _) _ rfl rfl kb a o r
theorem KT.ind {M : List (V × V) → List (List Int × Addr × Value) → Prop} (n : M [] []) (c : ∀ v z es ps, OkA D X z.2.1 → VT C D X h v z.2.2 → OkV D X z.2.2 → KT C D X h es ps → M es ps → M ((.tuple (z.1.map .int), v) :: es) (z :: ps)) {es : List (V × V)} : ∀ {ps}, KT C D X h es ps → M es ps := by
  induction es with
  | nil => exact fun x => x.nil_c ▸ n
  | cons y es ih => exact fun x => x.cons_c fun z ps' e1 e kb a o r => e ▸ (show y = (.tuple (z.1.map .int), y.2) from e1 ▸ rfl) ▸ c y.2 z es ps' kb a o r (ih r)
theorem FS.cons_c {y : Nat × V} {fs : List (Nat × V)} {od : Obj} (x : FS C D X h (y :: fs) od) (k : ∀ p, lookIn (nm y.1) od = some (some p) → VT C D X h y.2 p → OkV D X p → FS C D X h fs od → G) : G := by
  cases x with
  | cons e a o r => exact k _ e a o r
theorem FS.ind {od : Obj} {M : List (Nat × V) → Prop} (n : M []) (c : ∀ y p fs, lookIn (nm y.1) od = some (some p) → VT C D X h y.2 p → OkV D X p → FS C D X h fs od → M fs → M (y :: fs)) {fs : List (Nat × V)} : FS C D X h fs od → M fs := by
  induction fs with
  | nil => exact fun _ => n
  | cons y fs ih => exact fun x => x.cons_c fun p e a o r => c y p fs e a o r (ih r)
theorem KT.keys (m : Mono D X h D' X' h') {es : List (V × V)} {ps : List (List Int × Addr × Value)} (x : KT C D X h es ps) : ∀ x ∈ ps, ∀ o, h.get? x.2.1 = some o → h'.get? x.2.1 = some o :=
  x.ind (M := fun _ ps => ∀ x ∈ ps, ∀ o, h.get? x.2.1 = some o → h'.get? x.2.1 = some o) (fun _ hx => nomatch hx) fun _ z _ _ kb _ _ _ ih x hx => (List.mem_cons.mp hx).elim (fun e o ho => m.keep _ o (e ▸ kb) ho) (ih x)
theorem DictOfH.alive {a : Addr} {kvs : List (List Int × Addr × Value)} (e : h.DictOfH C.tk a kvs) (x : List Int × Addr × Value) (hx : x ∈ kvs) : ∃ o, h.get? x.2.1 = some o :=
  e.elim fun _ e => e.elim fun _ e => e.elim fun _ e => (e.2.2.2.2.1 x hx).elim fun o e => e.elim fun _ e => e.elim fun _ e => ⟨o, e.1⟩
theorem VT.mono {v : V} {p : Value} (m : Mono D X h D' X' h') (kp : ∀ a o, p = .ref a → h.get? a = some o → h'.get? a = some o) (x : VT C D X h v p) : VT C D' X' h' v p := by
  have q : ∀ {p}, OkV D X p → ∀ a o, p = .ref a → h.get? a = some o → h'.get? a = some o := fun k b o e => m.keep b o (k b e)
  exact @VT.rec C D X h (fun v p _ => (∀ a o, p = .ref a → h.get? a = some o → h'.get? a = some o) → VT C D' X' h' v p) (fun vs ps _ => VRs C D' X' h' vs ps) (fun vs ps _ => KS C D' X' h' vs ps) (fun vs ps _ => KI C D' X' h' vs ps)
    (fun vs ps _ => (∀ x ∈ ps, ∃ o, h.get? x.2.1 = some o) → KT C D' X' h' vs ps) (fun fs od _ => FS C D' X' h' fs od)
    (fun _ => .none) (fun b _ => .bool b) (fun i t _ => .int i t) (fun t e _ => .str t e) (fun e kp => .rng (IsRange.mono e (kp _ · rfl))) (fun e _ r kp => .tuple (IsTup.mono e (kp _ · rfl)) r) (fun e _ r kp => .list (IsList.mono e (kp _ · rfl)) r)
    (fun e lo _ r kp => .dictS (DictOf.mono e (kp _ · rfl)) lo r) (fun e lo _ r kp => .dictI (DictOf.mono e (kp _ · rfl)) lo r) (fun e lo r0 r kp => .dictT (DictOfH.mono e (kp _ · rfl) (r0.keys m)) lo (r (DictOfH.alive e))) (fun e _ => .form (m.get _ _ e)) (fun e e2 k sh _ r kp => .iset (kp _ _ rfl e) (m.keep _ _ k e2) (m.ok _ _ k e2) sh r)
    .nil (fun a k _ a' r' => .cons (a' (q k)) (OkV.mono m a k) r') .nil (fun e a k _ a' r' => .cons e (a' (q k)) (OkV.mono m a k) r') .nil (fun a k _ a' r' => .cons (a' (q k)) (OkV.mono m a k) r')
    (fun _ => .nil) (fun kb a k _ a' r' hh => .cons ((hh _ List.mem_cons_self).elim (m.ok _ · kb)) (a' (q k)) (OkV.mono m a k) (r' fun x hx => hh x (List.mem_cons_of_mem _ hx))) .nil (fun e a k _ a' r' => .cons e (a' (q k)) (OkV.mono m a k) r') v p x kp
theorem VT.up {v : V} {p : Value} (m : Mono D X h D' X' h') (a : VT C D X h v p) (k : OkV D X p) : VT C D' X' h' v p := a.mono m fun b o e => m.keep b o (k b e)
theorem VRs.mono {vs : List V} {ps : List Value} (m : Mono D X h D' X' h') (x : VRs C D X h vs ps) : VRs C D' X' h' vs ps := x.ind (M := fun vs ps => VRs C D' X' h' vs ps) .nil fun _ _ _ _ a k _ ih => .cons (a.up m k) (OkV.mono m a k) ih
theorem KT.mono {es : List (V × V)} {ps : List (List Int × Addr × Value)} (m : Mono D X h D' X' h') (hh : ∀ x ∈ ps, ∃ o, h.get? x.2.1 = some o) (x : KT C D X h es ps) : KT C D' X' h' es ps :=
  x.ind (M := fun es ps => (∀ x ∈ ps, ∃ o, h.get? x.2.1 = some o) → KT C D' X' h' es ps) (fun _ => .nil) (fun _ _ _ _ kb a k _ ih hh => .cons ((hh _ List.mem_cons_self).elim (m.ok _ · kb)) (a.up m k) (OkV.mono m a k) (ih fun x hx => hh x (List.mem_cons_of_mem _ hx))) hh
theorem FS.mono {fs : List (Nat × V)} {od : Obj} (m : Mono D X h D' X' h') (x : FS C D X h fs od) : FS C D' X' h' fs od := x.ind (M := fun fs => FS C D' X' h' fs od) .nil fun _ _ _ e a k _ ih => .cons e (a.up m k) (OkV.mono m a k) ih
end
end Mine
namespace Mine
inductive FormAt (C : Cfg) (D : List FR) (X : Addr → Prop) (σ : Nums) (h : Heap) (l : Nat) (r : FR) : Prop
  | mk (n : Int) (t : Tok) (es : List DictEntry) (ep : Nat) (num : σ[l]? = some n) (at1 : h.get? r.a = some (instObj C.c0 r.dx)) (at2 : h.get? r.dx = some (dictOf es ep)) (few : es.length ≤ 20)
    (nr : getL (nm N.number) es = some (some (.int n t))) (mt : ∀ m, (methTab 0 m).isSome = true → getL (nm m) es = some none) (fs : FS C D X h r.fs (dictOf es ep)) (ok : OkA D X r.a)
structure Inv (C : Cfg) (D : List FR) (X : Addr → Prop) (σ : Nums) (s : Shared) : Prop where
  base : ∀ b o, C.H.get? b = some o → s.heap.get? b = some o
  len : σ.length = D.length
  form : ∀ (l : Nat) (r : FR), D[l]? = some r → FormAt C D X σ s.heap l r
  dxX : ∀ r ∈ D, ¬ X r.dx
  dxlo : ∀ r ∈ D, C.H.get? r.dx = none
  apart : ∀ (i j : Nat) (r r' : FR), D[i]? = some r → D[j]? = some r' → r.dx = r'.dx → i = j
  Xlt : ∀ a, X a → ∃ o, s.heap.get? a = some o
  Xlo : ∀ a, X a → C.H.get? a = none
section
variable {C : Cfg} {D D' : List FR} {X X' : Addr → Prop} {σ σ' : Nums} {h h' : Heap} {l : Nat} {r : FR}
theorem FormAt.a1 (x : FormAt C D X σ h l r) : h.get? r.a = some (instObj C.c0 r.dx) := by cases x; assumption
theorem FormAt.okA (x : FormAt C D X σ h l r) : OkA D X r.a := by cases x; assumption
theorem FormAt.a2 (x : FormAt C D X σ h l r) : ∃ es ep, h.get? r.dx = some (dictOf es ep) ∧ getL (nm N.number) es ≠ none := by
  cases x with
  | mk n t es ep a1 a2 a3 a4 a5 => exact ⟨es, ep, a3, fun e => nomatch e.symm.trans a5⟩
theorem FormAt.dx (x : FormAt C D X σ h l r) : ∃ o, h.get? r.dx = some o := x.a2.elim fun _ e => e.elim fun _ e => ⟨_, e.1⟩
theorem FormAt.mono (x : FormAt C D X σ h l r) (m : Mono D X h D' X' h') (hr : D[l]? = some r) (k1 : ∀ o, h.get? r.a = some o → h'.get? r.a = some o) (k2 : ∀ o, h.get? r.dx = some o → h'.get? r.dx = some o) (hs : ∀ n, σ[l]? = some n → σ'[l]? = some n) : FormAt C D' X' σ' h' l r := by
  cases x with
  | mk n t es ep a1 a2 a3 a4 a5 a6 a7 a8 => exact ⟨n, t, es, ep, hs n a1, k1 _ a2, k2 _ a3, a4, a5, a6, FS.mono m a7, m.okf l r hr a8⟩
end
theorem Inv.fat {C : Cfg} {D : List FR} {X : Addr → Prop} {σ : Nums} {s : Shared} (I : Inv C D X σ s) : Fat D s.heap := fun l r e => ⟨_, (I.form l r e).a1⟩
theorem Inv.dxlt {C : Cfg} {D : List FR} {X : Addr → Prop} {σ : Nums} {s : Shared} (I : Inv C D X σ s) : ∀ r ∈ D, ∃ o, s.heap.get? r.dx = some o := fun r hr =>
  (List.mem_iff_getElem?.mp hr).elim fun l e => (I.form l r e).dx
theorem Inv.keeps {C : Cfg} {D : List FR} {X : Addr → Prop} {σ : Nums} {s s' : Shared} (I : Inv C D X σ s) (k : ∀ a o, s.heap.get? a = some o → s'.heap.get? a = some o) : Inv C D X σ s' :=
  ⟨fun b o e => k _ _ (I.base b o e), I.len, fun l r e => (I.form l r e).mono (Ext.mono (Ext.of_keeps (W := Nope) k) I.fat (fun _ f => f.elim) (fun _ h => .inl h)) e (k _) (k _) fun _ h => h, I.dxX, I.dxlo, I.apart, fun a ha => (I.Xlt a ha).elim fun o e => ⟨o, k a o e⟩, I.Xlo⟩
theorem fresh_ok {C : Cfg} {D : List FR} {X : Addr → Prop} {σ : Nums} {s : Shared} (I : Inv C D X σ s) {a : Addr} (h : s.heap.get? a = none) : OkA D X a :=
  ⟨fun x => let ⟨_, e⟩ := I.Xlt a x; not_none e h, fun r hr e => let ⟨_, e'⟩ := I.dxlt r hr; not_none e' (e ▸ h)⟩
theorem get_size (h : Heap) : h.get? h.objs.size = none := by
  cases e : h.get? h.objs.size with
  | none => rfl
  | some o => exact absurd (Heap.lt_size e) (Nat.lt_irrefl _)
theorem get_keep {h h' : Heap} (k : ∀ a o, h.get? a = some o → h'.get? a = some o) {a : Addr} (e : h'.get? a = none) : h.get? a = none := by
  cases hq : h.get? a with
  | none => rfl
  | some o => exact absurd e (not_none (k a o hq))
theorem Inv.setX {C : Cfg} {D : List FR} {X X' : Addr → Prop} {σ : Nums} {s : Shared} (I : Inv C D X σ s) (hx : ∀ a, X' a → X a ∨ ((∃ o, s.heap.get? a = some o) ∧ C.H.get? a = none ∧ (∀ r ∈ D, r.dx ≠ a)))
    (m : Mono D X s.heap D X' s.heap) : Inv C D X' σ s := by
  exact ⟨I.base, I.len, fun l r e => (I.form l r e).mono m e (fun _ h => h) (fun _ h => h) fun _ h => h, fun r hr hx' => (hx _ hx').elim (I.dxX r hr) fun h => h.2.2 r hr rfl, I.dxlo, I.apart, fun a ha => (hx _ ha).elim (I.Xlt a) fun h => h.1, fun a ha => (hx _ ha).elim (I.Xlo a) fun h => h.2.1⟩
theorem Inv.less {C : Cfg} {D : List FR} {X X' : Addr → Prop} {σ : Nums} {s : Shared} (I : Inv C D X σ s) (hx : ∀ a, X' a → X a) : Inv C D X' σ s :=
  I.setX (fun a h => .inl (hx a h)) ((Ext.refl (W := Nope)).mono I.fat (fun _ f => f.elim) (fun a h => .inl (hx a h)))
structure Pst (C : Cfg) (D : List FR) (X W : Addr → Prop) (s : Shared) (D' : List FR) (σ' : Nums) (s' : Shared) : Prop where
  same : ∃ h' t', s' = { s with heap := h', toks := t' }
  ext : Ext W D s.heap D' s'.heap
  ns : ∀ a, W a → ∀ m, s.heap.Ns a m → s'.heap.Ns a m
  inv : Inv C D' X σ' s'
section
variable {C : Cfg} {D D' D1 D2 : List FR} {X W W' : Addr → Prop} {σ σ' σ1 σ2 : Nums} {s s' s1 s2 : Shared}
theorem Pst.refl (I : Inv C D X σ s) : Pst C D X W s D σ s := ⟨⟨_, _, rfl⟩, .refl, fun _ _ _ h => h, I⟩
theorem Pst.trans (a : Pst C D X W s D1 σ1 s1) (b : Pst C D1 X W s1 D2 σ2 s2) : Pst C D X W s D2 σ2 s2 := by
  obtain ⟨h1, t1, rfl⟩ := a.same
  obtain ⟨h2, t2, rfl⟩ := b.same
  exact ⟨⟨h2, t2, rfl⟩, a.ext.trans b.ext fun _ h => .inl h, fun x hx m h => b.ns x hx m (a.ns x hx m h), b.inv⟩
theorem Pst.tok (I : Inv C D X σ s) (h' : Heap) (t : Nat) (k : ∀ a o, s.heap.get? a = some o → h'.get? a = some o) : Pst C D X W s D σ { s with heap := h', toks := t } :=
  ⟨⟨_, _, rfl⟩, .of_keeps k, fun _ _ _ h => h.keeps k, I.keeps k⟩
theorem Pst.toks (I : Inv C D X σ s) (t : Nat) : Pst C D X W s D σ { s with toks := t } :=
  ⟨⟨s.heap, t, rfl⟩, .refl, fun _ _ _ h => h, I.keeps (fun _ _ e => e)⟩
theorem Pst.up (a : Pst C D X Nope s D' σ' s') (hw : ∀ b, W b → ∀ r ∈ D, r.dx ≠ b) : Pst C D X W s D' σ' s' :=
  ⟨a.same, a.ext.weak fun _ f => f.elim, fun b hb _ h => h.elim fun o e => e.elim fun es e => e.elim fun ep e => ⟨o, es, ep, a.ext.keep b o e.1 (hw b hb) fun f => f, e.2⟩, a.inv⟩
theorem Pst.mono (a : Pst C D X W s D' σ' s') (I : Inv C D X σ s) (hw : ∀ b, W b → X b) : Mono D X s.heap D' X s'.heap :=
  a.ext.mono I.fat (fun b h => .inl (hw b h)) (fun _ h => .inl h)
theorem VT.step {v : V} {p : Value} (x : VT C D X s.heap v p) (a : Pst C D X W s D' σ' s') (I : Inv C D X σ s) (hw : ∀ b, W b → X b) (hp : ∀ b, p = .ref b → ¬ W b ∧ ∀ r ∈ D, r.dx ≠ b) : VT C D' X s'.heap v p :=
  x.mono (a.mono I hw) fun b o e g => a.ext.keep b o g (hp b e).2 (hp b e).1
theorem VR.step {v : V} {p : Value} (x : VR C D X s.heap v p) (a : Pst C D X W s D' σ' s') (I : Inv C D X σ s) (hw : ∀ b, W b → X b) : VR C D' X s'.heap v p :=
  ⟨x.1.step a I hw fun b e => ⟨fun h => (x.2 b e).1 (hw b h), (x.2 b e).2⟩, OkV.mono (a.mono I hw) x.1 x.2⟩
theorem VRs.step {v : List V} {p : List Value} (x : VRs C D X s.heap v p) (a : Pst C D X W s D' σ' s') (I : Inv C D X σ s) (hw : ∀ b, W b → X b) : VRs C D' X s'.heap v p := x.mono (a.mono I hw)
inductive GvP (C : Cfg) (D : List FR) (X W : Addr → Prop) (s : Shared) (v : V) (σ' : Nums) (p : Value) (s' : Shared) : Prop
  | mk (D' : List FR) (P : Pst C D X W s D' σ' s') (V : VR C D' X s'.heap v p)
inductive GbP (C : Cfg) (D : List FR) (X W : Addr → Prop) (s : Shared) (b : Bool) (σ' : Nums) (p : Bool) (s' : Shared) : Prop
  | mk (e : p = b) (D' : List FR) (P : Pst C D X W s D' σ' s')
theorem GvP.c {v : V} {p : Value} {G : Prop} (x : GvP C D X W s v σ' p s') (k : ∀ D', Pst C D X W s D' σ' s' → VR C D' X s'.heap v p → G) : G := by cases x with | mk D' P V => exact k D' P V
theorem GbP.c {b p : Bool} {G : Prop} (x : GbP C D X W s b σ' p s') (k : p = b → ∀ D', Pst C D X W s D' σ' s' → G) : G := by cases x with | mk e D' P => exact k e D' P
noncomputable def Gv (C : Cfg) (A : Around) (D : List FR) (X W : Addr → Prop) (s : Shared) (v : V) (σ' : Nums) (t : Sem Value) : Prop :=
  wpAny (model C.prog C.w) A t (GvP C D X W s v σ') (fun _ _ => False) s
noncomputable def Gb (C : Cfg) (A : Around) (D : List FR) (X W : Addr → Prop) (s : Shared) (b : Bool) (σ' : Nums) (t : Sem Bool) : Prop :=
  wpAny (model C.prog C.w) A t (GbP C D X W s b σ') (fun _ _ => False) s
variable {A : Around} {v : V} {t : Sem Value}
theorem Gv.use {Q : Value → Shared → Prop} (h : Gv C A D X W s v σ' t)
    (hk : ∀ p D' s', Pst C D X W s D' σ' s' → VR C D' X s'.heap v p → Q p s') : wpAny (model C.prog C.w) A t Q (fun _ _ => False) s :=
  wpAny_mono h (fun p s' x => x.c fun D' a b => hk p D' s' a b) fun _ _ f => f
theorem Gb.use {b : Bool} {t : Sem Bool} {Q : Bool → Shared → Prop} (h : Gb C A D X W s b σ' t)
    (hk : ∀ D' s', Pst C D X W s D' σ' s' → Q b s') : wpAny (model C.prog C.w) A t Q (fun _ _ => False) s :=
  wpAny_mono h (fun p s' x => x.c fun e D' a => e ▸ hk D' s' a) fun _ _ f => f
theorem Gv.post (a : Pst C D X W s D1 σ1 s1) {p : Value} {s' : Shared} (h : GvP C D1 X W s1 v σ' p s') : GvP C D X W s v σ' p s' :=
  h.c fun D' b c => ⟨D', a.trans b, c⟩
theorem Gv.then (a : Pst C D X W s D1 σ1 s1) (h : Gv C A D1 X W s1 v σ' t) : wpAny (model C.prog C.w) A t (GvP C D X W s v σ') (fun _ _ => False) s1 :=
  wpAny_mono h (fun _ _ x => Gv.post a x) fun _ _ f => f
theorem Gb.then {b : Bool} {t : Sem Bool} (a : Pst C D X W s D1 σ1 s1) (h : Gb C A D1 X W s1 b σ' t) : wpAny (model C.prog C.w) A t (GbP C D X W s b σ') (fun _ _ => False) s1 :=
  wpAny_mono h (fun _ _ x => x.c fun e D' x => ⟨e, D', a.trans x⟩) fun _ _ f => f
end
end Mine
namespace Mine
mutual
noncomputable def toD : V → PyData
  | .none => .none
  | .bool b => .bool b
  | .int i => .int i
  | .str s => .str ⟨s.toArray⟩
  | .tuple vs => .tuple (toDs vs)
  | .list vs => .list (toDs vs)
  | .rng _ => .none
  | .dict _ => .none
  | .inst _ _ _ => .none
noncomputable def toDs : List V → List PyData
  | [] => []
  | v :: r => toD v :: toDs r
end
theorem str_eta {s : Str} {l : List Nat} (e : s.cps.toList = l) : s = ⟨l.toArray⟩ := by
  cases s; subst e; simp
theorem okStr_strOk {l : List Nat} (h : okStr l = true) : PyData.strOk ⟨l.toArray⟩ = true := by
  show (l.toArray.all fun c => decide (c < 0x110000)) = true
  rw [List.all_toArray]
  exact List.all_eq_true.mpr fun x hx => decide_eq_true (Nat.blt_eq.mp (List.all_eq_true.mp (bL h) x hx))
inductive Rd (h : Heap) (k : Nat) (v : V) (p : Value) : Prop
  | mk (as : List Addr) (r : Reads h p (toD v) as) (c : (toD v).canLay0 = true) (d : (toD v).depth ≤ k)
inductive RdL (h : Heap) (k : Nat) (vs : List V) (ps : List Value) : Prop
  | mk (as : List Addr) (r : ReadsAll h ps (toDs vs) as) (c : PyData.canLayAll0 (toDs vs) = true) (d : PyData.depthAll (toDs vs) ≤ k)
theorem readsAll_of {C : Cfg} {D : List FR} {X : Addr → Prop} {h : Heap} {k : Nat} (ih : ∀ v p, VT C D X h v p → plain k v = true → Rd h k v p) {vs : List V} {ps : List Value} (x : VRs C D X h vs ps) (hp : vs.all (plain k) = true) : RdL h k vs ps :=
  x.ind (M := fun vs ps => vs.all (plain k) = true → RdL h k vs ps) (fun _ => ⟨[], .nil, rfl, Nat.zero_le _⟩) (fun v p vs ps a _ _ ihr hp => by
    cases ih v p a (bL hp) with
    | mk as r1 c1 d1 => cases ihr (bR hp) with
      | mk bs r2 c2 d2 => exact ⟨as ++ bs, .cons r1 r2, (show ((toD v).canLay0 && PyData.canLayAll0 (toDs vs)) = true by rw [c1, c2]; rfl), Nat.max_le.mpr ⟨d1, d2⟩⟩) hp
theorem reads_one {C : Cfg} {D : List FR} {X : Addr → Prop} {h : Heap} {k : Nat} {v : V} {p : Value} (ih : ∀ j, k = j + 1 → ∀ v p, VT C D X h v p → plain j v = true → Rd h j v p) (x : VT C D X h v p) (hp : plain k v = true) : Rd h k v p := by
  cases x with
  | none => exact ⟨_, .none, rfl, Nat.zero_le _⟩
  | bool b => exact ⟨_, .bool b, rfl, Nat.zero_le _⟩
  | int i t => exact ⟨_, .int i t, rfl, Nat.zero_le _⟩
  | str t e => rw [str_eta e]; exact ⟨_, .str _ t, okStr_strOk (by cases k <;> exact hp), Nat.zero_le _⟩
  | tuple e r =>
    cases k with
    | zero => exact ff hp
    | succ k => cases readsAll_of (ih k rfl) r hp with
      | mk as r1 c1 d1 => exact e.elim fun o e => e.2.2.elim fun n h3 => ⟨as, .tuple e.1 e.2.1 h3 r1, c1, Nat.succ_le_succ d1⟩
  | list e r =>
    cases k with
    | zero => exact ff hp
    | succ k => cases readsAll_of (ih k rfl) r hp with
      | mk as r1 c1 d1 => exact e.elim fun o e => e.2.2.elim fun n h3 => ⟨_, .list e.1 e.2.1 h3 r1, c1, Nat.succ_le_succ d1⟩
  | rng => cases k <;> exact ff hp
  | dictS => cases k <;> exact ff hp
  | dictI => cases k <;> exact ff hp
  | dictT => cases k <;> exact ff hp
  | form => cases k <;> exact ff hp
  | iset => cases k <;> exact ff hp
theorem reads_of {C : Cfg} {D : List FR} {X : Addr → Prop} {h : Heap} (k : Nat) : ∀ (v : V) (p : Value), VT C D X h v p → plain k v = true → Rd h k v p := by
  induction k with
  | zero => exact fun v p => reads_one fun _ e => nomatch e
  | succ k ih => exact fun v p => reads_one fun j e => Nat.succ.inj e ▸ ih
theorem leqN_eq (x : List Nat) : ∀ (y : List Nat), leqN x y = decide (x = y) := by
  induction x with
  | nil => intro y; cases y <;> rfl
  | cons a r ih =>
    intro y
    cases y with
    | nil => rfl
    | cons b t =>
      show (Nat.beq a b && leqN r t) = _
      rw [ih t]
      by_cases h : a = b
      · subst h; simp
      · have : Nat.beq a b = false := by
          cases hb : Nat.beq a b
          · rfl
          · exact absurd (Nat.eq_of_beq_eq_true hb) h
        simp [this, h]
theorem str_beq' (x y : List Nat) : ((⟨x.toArray⟩ : Str) == ⟨y.toArray⟩) = decide (x = y) := by
  by_cases h : x = y
  · subst h; simp
  · rw [decide_eq_false h]
    refine beq_eq_false_iff_ne.mpr fun e => h ?_
    injection e with e
    exact List.toArray_inj e
theorem veqs_eqv {P : V → Bool} (ih : ∀ a b, P a = true → P b = true → veq a b = PyData.eqv (toD a) (toD b)) (a : List V) : ∀ (b : List V), a.all P = true → b.all P = true → veqs a b = PyData.eqvAll (toDs a) (toDs b) := by
  induction a with
  | nil => intro b _ _; cases b <;> rfl
  | cons x r ihr =>
    intro b ha hb
    cases b with
    | nil => rfl
    | cons y t =>
      show (veq x y && veqs r t) = (PyData.eqv (toD x) (toD y) && PyData.eqvAll (toDs r) (toDs t))
      rw [ih x y (bL ha) (bL hb), ihr t (bR ha) (bR hb)]
theorem veq_eqv (k : Nat) : ∀ (a b : V), plain k a = true → plain k b = true → veq a b = PyData.eqv (toD a) (toD b) := by
  induction k with
  | zero =>
    intro a b ha hb
    cases a with
    | str x => cases b with
      | str y => exact (leqN_eq x y).trans (str_beq' x y).symm
      | _ => first | rfl | exact ff hb
    | none => cases b <;> first | rfl | exact ff hb
    | bool => cases b <;> first | rfl | exact ff hb
    | int => cases b <;> first | rfl | exact ff hb
    | _ => exact ff ha
  | succ k ih =>
    intro a b ha hb
    cases a with
    | str x => cases b with
      | str y => exact (leqN_eq x y).trans (str_beq' x y).symm
      | _ => first | rfl | exact ff hb
    | none => cases b <;> first | rfl | exact ff hb
    | bool => cases b <;> first | rfl | exact ff hb
    | int => cases b <;> first | rfl | exact ff hb
    | tuple x => cases b with
      | tuple y => exact veqs_eqv ih x y ha hb
      | _ => first | rfl | exact ff hb
    | list x => cases b with
      | list y => exact veqs_eqv ih x y ha hb
      | _ => first | rfl | exact ff hb
    | _ => exact ff ha
structure Room (A : Around) : Prop where
  handled : A.handled = none
  units : A.units + 200 < cLine
  depth : A.depth + 20 < recursionLimit
theorem any_veq {a : V} (ha : plain 8 a = true) (vs : List V) (h : vs.all (plain 8) = true) : (vs.any fun v => veq v a) = ((toDs vs).any fun y => PyData.eqv y (toD a)) := by
  induction vs with
  | nil => rfl
  | cons v r ih =>
    show (veq v a || r.any fun v => veq v a) = (PyData.eqv (toD v) (toD a) || (toDs r).any fun y => PyData.eqv y (toD a))
    rw [veq_eqv 8 v a (bL h) ha, ih (bR h)]
section
variable {C : Cfg} {A : Around} {D : List FR} {X W : Addr → Prop} {σ : Nums} {s : Shared}
theorem VRs.length {h : Heap} {vs : List V} {ps : List Value} (x : VRs C D X h vs ps) : vs.length = ps.length := x.ind (M := fun vs ps => vs.length = ps.length) rfl fun _ _ _ _ _ _ _ e => congrArg (· + 1) e
section
variable {h : Heap} {p : Value} {G : Prop}
theorem VT.bool_c {b : Bool} (x : VT C D X h (.bool b) p) : p = .bool b := by cases x; rfl
theorem VT.int_c {i : Int} (x : VT C D X h (.int i) p) (k : ∀ t, p = .int i t → G) : G := by cases x with | int _ t => exact k t rfl
theorem VT.str_c {l : List Nat} (x : VT C D X h (.str l) p) (k : ∀ s t, s.cps.toList = l → p = .str s t → G) : G := by cases x with | str t e => exact k _ t e rfl
theorem VT.rng_c {n : Nat} (x : VT C D X h (.rng n) p) (k : ∀ a t u v, p = .ref a → IsRange h a 0 n 1 t u v → G) : G := by cases x with | rng e => exact k _ _ _ _ rfl e
theorem VT.tuple_c {vs : List V} (x : VT C D X h (.tuple vs) p) (k : ∀ a it, p = .ref a → IsTup h a it → VRs C D X h vs it.toList → G) : G := by cases x with | tuple e r => exact k _ _ rfl e r
theorem VT.list_c {vs : List V} (x : VT C D X h (.list vs) p) (k : ∀ a it, p = .ref a → h.IsList a it → VRs C D X h vs it.toList → G) : G := by cases x with | list e r => exact k _ _ rfl e r
theorem VT.dict_c {es : List (V × V)} (x : VT C D X h (.dict es) p) (kS : ∀ a kvs, p = .ref a → h.DictOf C.sk a kvs → C.H.get? a = .none → KS C D X h es kvs → G) (kI : ∀ a kvs, p = .ref a → h.DictOf C.ik a kvs → C.H.get? a = .none → KI C D X h es kvs → G)
    (kT : ∀ a kvs, p = .ref a → h.DictOfH C.tk a kvs → C.H.get? a = .none → KT C D X h es kvs → G) : G := by
  cases x with
  | dictS e lo r => exact kS _ _ rfl e lo r
  | dictI e lo r => exact kI _ _ rfl e lo r
  | dictT e lo r => exact kT _ _ rfl e lo r
theorem VT.inst_c {c : Nat} {fs : List (Nat × V)} {n : Option Nat} (x : VT C D X h (.inst c fs n) p) (kF : ∀ l r, c = 0 → fs = r.fs → n = some l → p = .ref r.a → D[l]? = some r → G)
    (kI : ∀ a dx od, c = 1 → n = .none → p = .ref a → h.get? a = some (instObj C.c1 dx) → h.get? dx = some od → OkA D X dx → (∀ m, (methTab 1 m).isSome = true → lookIn (nm m) od = some .none) → FS C D X h fs od → G) : G := by
  cases x with
  | form e => exact kF _ _ rfl rfl rfl rfl e
  | iset e e2 k sh r => exact kI _ _ _ rfl rfl rfl e e2 k sh r
end
noncomputable def Cop : COp → CmpOp
  | .eq => .Eq | .ne => .NotEq | .lt => .Lt | .gt => .Gt | .ge => .GtE | .in_ => .In | .notin => .NotIn
theorem gb_bool (I : Inv C D X σ s) (b : Bool) : GvP C D X W s (.bool b) σ (.bool b) s := ⟨D, .refl I, .bool b⟩
theorem neL_c {x y : List V} {b : Bool} {G : Prop} (h : neL x y = some b) (k : b = false → x.length ≠ y.length → G) : G := by
  cases x with
  | nil => cases y with
    | nil => exact nn h
    | cons => exact s1 h fun h => k h.symm fun e => nomatch e
  | cons => cases y with
    | nil => exact s1 h fun h => k h.symm fun e => nomatch e
    | cons => exact nn h
theorem eqV_c {u v : V} {b : Bool} {G : Prop} (h : eqV u v = some b) (k1 : plain 8 u = true → plain 8 v = true → b = PyData.eqv (toD u) (toD v) → G) (k2 : ∀ x y, u = .list x → v = .list y → b = false → x.length ≠ y.length → G) : G :=
  oC_c h (fun hp h => k1 (bL hp) (bR hp) (s1 h fun h => h.symm.trans (veq_eqv 8 u v (bL hp) (bR hp)))) fun _ h => wList_c h fun x hx h => wList_c h fun y hy h => neL_c h (k2 x y hx hy)
theorem VRs.sizes {h : Heap} {x y : List V} {a b : Array Value} (r : VRs C D X h x a.toList) (t : VRs C D X h y b.toList) (hl : x.length ≠ y.length) : (a.size != b.size) = true := by
  rw [bne_iff_ne]
  exact fun e => hl (r.length.trans (e.trans t.length.symm))
theorem eqV_sound (I : Inv C D X σ s) (R : Room A) {u v : V} {pu pv : Value} {b : Bool} (hu : VT C D X s.heap u pu) (hv : VT C D X s.heap v pv) (e : eqV u v = some b) :
    Gv C A D X W s (.bool b) σ (compareOp .Eq pu pv) := by
  refine eqV_c e (fun h1 h2 hb => ?_) fun x y hx hy hb hl => ?_
  · cases reads_of 8 u pu hu h1 with
    | mk as r1 c1 d1 => cases reads_of 8 v pv hv h2 with
      | mk bs r2 c2 d2 => exact SeqAt.compareEq_reads r1 r2 c1 c2 (by have := R.units; have := Nat.min_le_left (toD u).depth (toD v).depth; omega) (hb ▸ gb_bool I _)
  · subst hx; subst hy
    exact hu.list_c fun a1 i1 ha e1 r1 => hv.list_c fun a2 i2 hb' e2 r2 => by
      rw [ha, hb', hb]
      exact SeqAt.eq_list_lengthsAt e1 e2 (r1.sizes r2 hl) (by have := R.units; omega) (gb_bool I _)
theorem neV_sound (I : Inv C D X σ s) (R : Room A) {u v : V} {pu pv : Value} {b : Bool} (hu : VT C D X s.heap u pu) (hv : VT C D X s.heap v pv) (e : eqV u v = some b) :
    Gv C A D X W s (.bool (!b)) σ (compareOp .NotEq pu pv) := by
  refine eqV_c e (fun h1 h2 hb => ?_) fun x y hx hy hb hl => ?_
  · cases reads_of 8 u pu hu h1 with
    | mk as r1 c1 d1 => cases reads_of 8 v pv hv h2 with
      | mk bs r2 c2 d2 => exact SeqAt.compareNe_reads r1 r2 c1 c2 (by have := R.units; have := Nat.min_le_left (toD u).depth (toD v).depth; omega) (hb ▸ gb_bool I _)
  · subst hx; subst hy
    exact hu.list_c fun a1 i1 ha e1 r1 => hv.list_c fun a2 i2 hb' e2 r2 => by
      rw [ha, hb', hb]
      exact SeqAt.RcNeAt.lists_lengths e1 e2 (r1.sizes r2 hl) (by have := R.units; omega) C.prog C.w _ _ (gb_bool I _)
end
end Mine
namespace Mine
inductive NilD (h : Heap) (a : Addr) : Prop
  | mk (o : Obj) (es : Array DictEntry) (ep : Nat) (ho : h.get? a = some o) (c : o.ExactDict) (d : o.data = .dict es ep) (e : es.toList = [])
theorem NilD.of {prog : Program} {w : World} {K : Type} [DecidableEq K] {kd : PySem.KeyKind prog w K} {h : Heap} {a : Addr} (e : h.DictOf kd a []) : NilD h a :=
  e.elim fun o e => e.elim fun es e => e.elim fun ep e => ⟨o, es, ep, e.1, e.2.1, e.2.2.1, List.eq_nil_of_length_eq_zero e.2.2.2.2.1.length⟩
theorem NilD.to {prog : Program} {w : World} {K : Type} [DecidableEq K] {kd : PySem.KeyKind prog w K} {h : Heap} {a : Addr} (e : NilD h a) : h.DictOf kd a [] := by
  cases e with
  | mk o es ep ho c d e => exact ⟨o, es, ep, ho, c, d, fun x hx => (fun hx : x ∈ es.toList => by rw [e] at hx; exact nomatch hx) (Array.mem_toList_iff.mpr hx), by rw [e]; exact .nil, .nil⟩
section
variable {C : Cfg} {A : Around} {D : List FR} {X W : Addr → Prop} {σ : Nums} {s : Shared} {h : Heap} {G : Prop} {es : List (V × V)} {k : V} {p pk : Value}
theorem NilD.ofH {a : Addr} (e : h.DictOfH C.tk a []) : NilD h a :=
  e.elim fun o e => e.elim fun es e => e.elim fun ep e => ⟨o, es, ep, e.1, e.2.1, e.2.2.1, e.2.2.2.1⟩
theorem NilD.toH {a : Addr} (e : NilD h a) : h.DictOfH C.tk a [] := by
  cases e with
  | mk o es ep ho c d e => exact ⟨o, es, ep, ho, c, d, e, ⟨fun x hx => (List.not_mem_nil hx).elim, List.nodup_nil⟩⟩
theorem KS.nilOf {kvs : List (Str × Value)} (x : KS C D X h es kvs) (e : seek es k = true) (hk : ∀ l, sameKind (.str l) k = false) : es = [] ∧ kvs = [] := by
  cases es with
  | nil => exact ⟨rfl, x.nil_c⟩
  | cons y es => exact x.cons_c fun z _ e1 _ _ _ _ => ff ((hk _).symm.trans (e1 ▸ bR (bL (bR e))))
theorem KI.nilOf {kvs : List (Int × Value)} (x : KI C D X h es kvs) (e : seek es k = true) (hk : ∀ l, sameKind (.int l) k = false) : es = [] ∧ kvs = [] := by
  cases es with
  | nil => exact ⟨rfl, x.nil_c⟩
  | cons y es => exact x.cons_c fun z _ e1 _ _ _ _ => ff ((hk _).symm.trans (e1 ▸ bR (bL (bR e))))
theorem KT.nilOf {kvs : List (List Int × Addr × Value)} (x : KT C D X h es kvs) (e : seek es k = true) (hk : ∀ l, sameKind (.tuple l) k = false) : es = [] ∧ kvs = [] := by
  cases es with
  | nil => exact ⟨rfl, x.nil_c⟩
  | cons y es => exact x.cons_c fun z _ e1 _ _ _ _ _ => ff ((hk _).symm.trans (e1 ▸ bR (bL (bR e))))
theorem VT.dictS_c {l : List Nat} (x : VT C D X h (.dict es) p) (e : seek es (.str l) = true) (g : ∀ a kvs, p = .ref a → h.DictOf C.sk a kvs → C.H.get? a = .none → KS C D X h es kvs → G) : G :=
  x.dict_c g (fun a kvs ha d lo r => have n := r.nilOf e fun _ => rfl; g a [] ha (NilD.of (n.2 ▸ d)).to lo (n.1 ▸ .nil)) fun a kvs ha d lo r => have n := r.nilOf e fun _ => rfl; g a [] ha (NilD.ofH (n.2 ▸ d)).to lo (n.1 ▸ .nil)
theorem VT.dictI_c {l : Int} (x : VT C D X h (.dict es) p) (e : seek es (.int l) = true) (g : ∀ a kvs, p = .ref a → h.DictOf C.ik a kvs → C.H.get? a = .none → KI C D X h es kvs → G) : G :=
  x.dict_c (fun a kvs ha d lo r => have n := r.nilOf e fun _ => rfl; g a [] ha (NilD.of (n.2 ▸ d)).to lo (n.1 ▸ .nil)) g fun a kvs ha d lo r => have n := r.nilOf e fun _ => rfl; g a [] ha (NilD.ofH (n.2 ▸ d)).to lo (n.1 ▸ .nil)
theorem VT.dictT_c {l : List V} (x : VT C D X h (.dict es) p) (e : seek es (.tuple l) = true) (g : ∀ a kvs, p = .ref a → h.DictOfH C.tk a kvs → C.H.get? a = .none → KT C D X h es kvs → G) : G :=
  x.dict_c (fun a kvs ha d lo r => have n := r.nilOf e fun _ => rfl; g a [] ha (NilD.of (n.2 ▸ d)).toH lo (n.1 ▸ .nil)) (fun a kvs ha d lo r => have n := r.nilOf e fun _ => rfl; g a [] ha (NilD.of (n.2 ▸ d)).toH lo (n.1 ▸ .nil)) g
theorem veqs_ints (x : List Int) : ∀ y : List Int, veqs (x.map .int) (y.map .int) = decide (x = y) := by
  induction x with
  | nil => intro y; cases y <;> rfl
  | cons a r ih =>
    intro y
    cases y with
    | nil => rfl
    | cons b t =>
      show (decide (a = b) && veqs (r.map .int) (t.map .int)) = _
      rw [ih t, ← Bool.decide_and]
      exact decide_eq_decide.mpr ⟨fun e => e.1 ▸ e.2 ▸ rfl, fun e => pc e .intro⟩
inductive Got (C : Cfg) (D : List FR) (X : Addr → Prop) (h : Heap) : Option V → Option Value → Prop
  | no : Got C D X h none none
  | yes {v : V} {p : Value} (x : VR C D X h v p) : Got C D X h (some v) (some p)
section
variable {o : Option V} {q : Option Value} {v z : V} {pz : Value}
theorem Got.isSome (x : Got C D X h o q) : o.isSome = q.isSome := by cases x <;> rfl
theorem Got.getD (x : Got C D X h o q) (y : VR C D X h z pz) : VR C D X h (o.getD z) (q.getD pz) := by
  cases x with
  | no => exact y
  | yes x => exact x
theorem Got.some_c (x : Got C D X h o q) (e : o = some v) (g : ∀ p, q = some p → VR C D X h v p → G) : G := by
  cases x with
  | no => exact nn e
  | yes x => exact g _ rfl (Option.some.inj e ▸ x)
theorem Got.step {α : Type} {b b' : Bool} {y : α} {r : Option α} (F : Option α → Option Value) (hb : b = b') (x : Got C D X h (some v) (F (some y))) (ih : Got C D X h o (F r)) : Got C D X h (if b then some v else o) (F (match (generalizing := false) b' with | true => some y | false => r)) := by
  cases hb; cases b
  · exact ih
  · exact x
end
theorem str_eq {x : Str} {l : List Nat} : x.cps.toList = l ↔ x = ⟨l.toArray⟩ := ⟨str_eta, fun e => e ▸ rfl⟩
theorem KS.get {l : List Nat} {kvs : List (Str × Value)} (x : KS C D X h es kvs) : Got C D X h (dget es (.str l)) (valueAt kvs ⟨l.toArray⟩) :=
  x.ind (M := fun es kvs => Got C D X h (dget es (.str l)) (valueAt kvs ⟨l.toArray⟩)) .no fun _ _ _ _ a o _ ih => Got.step (Option.map fun y : Str × Value => y.2) ((leqN_eq _ l).trans (decide_eq_decide.mpr str_eq)) (.yes ⟨a, o⟩) ih
theorem KI.get {l : Int} {kvs : List (Int × Value)} (x : KI C D X h es kvs) : Got C D X h (dget es (.int l)) (valueAt kvs l) :=
  x.ind (M := fun es kvs => Got C D X h (dget es (.int l)) (valueAt kvs l)) .no fun _ _ _ _ a o _ ih => Got.step (Option.map fun y : Int × Value => y.2) rfl (.yes ⟨a, o⟩) ih
theorem KT.get {l : List Int} {kvs : List (List Int × Addr × Value)} (x : KT C D X h es kvs) : Got C D X h (dget es (.tuple (l.map .int))) ((atKey kvs l).map (·.2)) :=
  x.ind (M := fun es kvs => Got C D X h (dget es (.tuple (l.map .int))) ((atKey kvs l).map (·.2))) .no fun _ _ _ _ _ a o _ ih => Got.step (fun r => Option.map (fun y : Addr × Value => y.2) (Option.map (fun y : List Int × Addr × Value => y.2) r)) (veqs_ints _ l) (.yes ⟨a, o⟩) ih
theorem KS.len {kvs : List (Str × Value)} (x : KS C D X h es kvs) : kvs.length = es.length := x.ind (M := fun es kvs => kvs.length = es.length) rfl fun _ _ _ _ _ _ _ ih => congrArg (· + 1) ih
theorem KI.len {kvs : List (Int × Value)} (x : KI C D X h es kvs) : kvs.length = es.length := x.ind (M := fun es kvs => kvs.length = es.length) rfl fun _ _ _ _ _ _ _ ih => congrArg (· + 1) ih
theorem KT.len {kvs : List (List Int × Addr × Value)} (x : KT C D X h es kvs) : kvs.length = es.length := x.ind (M := fun es kvs => kvs.length = es.length) rfl fun _ _ _ _ _ _ _ _ ih => congrArg (· + 1) ih
theorem isStr_of {l : List Nat} (x : VT C D X h (.str l) p) : C.sk.is ⟨l.toArray⟩ p = true := x.str_c fun s t e hp => hp ▸ str_eta e ▸ beq_self_eq_true s
theorem isInt_of {l : Int} (x : VT C D X h (.int l) p) : C.ik.is l p = true := x.int_c fun t hp => hp ▸ decide_eq_true (p := l = l) rfl
theorem itemsAre_of (l : List Int) : ∀ {ps : List Value}, VRs C D X h (l.map .int) ps → ItemsAre C.ik l ps := by
  induction l with
  | nil => exact fun r => r.nil_c ▸ .nil
  | cons i l ih => exact fun r => r.cons_c fun _ _ e a _ r => e ▸ .cons (isInt_of a) (ih r)
theorem isKey_of {l : List Int} (x : VT C D X h (.tuple (l.map .int)) p) : ∃ b, p = .ref b ∧ C.tk.is h l b :=
  x.tuple_c fun a it hp e r => e.elim fun o e => e.2.2.elim fun n e3 => ⟨a, hp, o, it, n, e.1, e.2.1, e3, itemsAre_of l r⟩
theorem isI_c {v : V} (e : isI v = true) (g : ∀ i, v = .int i → G) : G := by
  cases v with
  | int i => exact g i rfl
  | _ => exact ff e
theorem keyOk_c (e : keyOk k = true) (gS : ∀ l, k = .str l → G) (gI : ∀ i, k = .int i → G) (gT : ∀ l : List Int, k = .tuple (l.map .int) → G) : G := by
  cases k with
  | int i => exact gI i rfl
  | str l => exact gS l rfl
  | tuple vs => exact on3_c (F := fun a b c => isI a && isI b && isI c) (show on3 vs _ = true from e) fun a b c h e => b3 e fun x y z => isI_c x fun i hi => isI_c y fun j hj => isI_c z fun k hk => gT [i, j, k] (h ▸ hi ▸ hj ▸ hk ▸ rfl)
  | _ => exact ff e
theorem key_c (hk : VT C D X h k pk) (hd : VT C D X h (.dict es) p) (e : seek es k = true) (gS : ∀ a kvs l, k = .str l → p = .ref a → h.DictOf C.sk a kvs → C.H.get? a = .none → KS C D X h es kvs → C.sk.is ⟨l.toArray⟩ pk = true → G)
    (gI : ∀ a kvs i, k = .int i → p = .ref a → h.DictOf C.ik a kvs → C.H.get? a = .none → KI C D X h es kvs → C.ik.is i pk = true → G)
    (gT : ∀ a kvs l b, k = .tuple (l.map .int) → p = .ref a → pk = .ref b → h.DictOfH C.tk a kvs → C.H.get? a = .none → KT C D X h es kvs → C.tk.is h l b → G) : G :=
  keyOk_c (bL e) (fun l hl => VT.dictS_c hd (hl ▸ e) fun a kvs ha d lo r => gS a kvs l hl ha d lo r (isStr_of (hl ▸ hk))) (fun l hl => VT.dictI_c hd (hl ▸ e) fun a kvs ha d lo r => gI a kvs l hl ha d lo r (isInt_of (hl ▸ hk)))
    fun l hl => VT.dictT_c hd (hl ▸ e) fun a kvs ha d lo r => (isKey_of (hl ▸ hk)).elim fun b hb => gT a kvs l b hl ha hb.1 d lo r hb.2
end
end Mine
namespace Mine
theorem beq_dec (a b : Nat) : Nat.beq a b = decide (a = b) := by
  cases hb : Nat.beq a b
  · exact (decide_eq_false fun e : a = b => Bool.false_ne_true (hb.symm.trans (e ▸ Nat.beq_refl a))).symm
  · exact (decide_eq_true (Nat.eq_of_beq_eq_true hb)).symm
theorem pre_eq (y : List Nat) : ∀ (x : List Nat), pre y x = decide (x.take y.length = y) := by
  induction y with
  | nil => exact fun x => (decide_eq_true rfl).symm
  | cons a r ih =>
    intro x
    cases x with
    | nil => rfl
    | cons b t =>
      show (Nat.beq a b && pre r t) = decide (b :: t.take r.length = a :: r)
      rw [beq_dec, ih, ← Bool.decide_and]
      exact decide_eq_decide.mpr ⟨fun e => e.1 ▸ congrArg (a :: ·) e.2, fun e => pc e fun x y => ⟨x.symm, y⟩⟩
theorem part_step {b : Nat} {t y : List Nat} : (∃ i, i + y.length ≤ (b :: t).length ∧ ((b :: t).drop i).take y.length = y) ↔ (b :: t).take y.length = y ∨ ∃ i, i + y.length ≤ t.length ∧ (t.drop i).take y.length = y :=
  ⟨fun h => h.elim fun i => @Nat.casesOn (fun i => i + y.length ≤ (b :: t).length ∧ ((b :: t).drop i).take y.length = y → _) i (fun h => .inl h.2) fun i h => .inr ⟨i, Nat.le_of_succ_le_succ (Nat.succ_add .. ▸ h.1), h.2⟩,
    fun h => h.elim (fun h => ⟨0, by rw [Nat.zero_add, ← h]; exact List.length_take_le' .., h⟩) fun h => h.elim fun i h => ⟨i + 1, Nat.succ_add .. ▸ Nat.succ_le_succ h.1, h.2⟩⟩
theorem partOf_iff (y x : List Nat) : partOf y x = true ↔ ∃ i, i + y.length ≤ x.length ∧ (x.drop i).take y.length = y := by
  induction x with
  | nil =>
    show pre y [] = true ↔ _
    rw [pre_eq, decide_eq_true_eq]
    exact ⟨fun h => ⟨0, by rw [← h, List.take_nil]; exact Nat.le_refl _, h⟩, fun h => h.elim fun i h => by rw [List.drop_nil] at h; exact h.2⟩
  | cons b t ih =>
    show (pre y (b :: t) || partOf y t) = true ↔ _
    rw [Bool.or_eq_true, pre_eq, decide_eq_true_eq, ih, part_step]
theorem len_of (l : List Nat) : (⟨l.toArray⟩ : Str).length = l.length := List.size_toArray ..
theorem subAt_iff (x y : List Nat) (i : Nat) : Builtin.Str.subAt ⟨x.toArray⟩ ⟨y.toArray⟩ i = true ↔ (x.drop i).take y.length = y := by
  unfold Builtin.Str.subAt
  rw [len_of, List.extract_toArray, List.extract_eq_take_drop, Nat.add_sub_cancel_left, beq_iff_eq]
  exact ⟨fun e => List.toArray_inj e, fun e => congrArg List.toArray e⟩
theorem occ_part (x y : List Nat) : (!(Builtin.Str.occurrences ⟨x.toArray⟩ ⟨y.toArray⟩ 0 (⟨x.toArray⟩ : Str).length 1).isEmpty) = partOf y x := by
  rw [Bool.eq_iff_iff, StrLaws.found_iff, partOf_iff, len_of, len_of]
  exact exists_congr fun i => and_congr_right fun _ => subAt_iff x y i
section
variable {C : Cfg} {A : Around} {D : List FR} {X W : Addr → Prop} {σ : Nums} {s : Shared} {G : Prop}
theorem notSys (hs : ∃ o, C.H.get? sysModules = some o) {a : Addr} (h : C.H.get? a = none) : (a == sysModules) = false :=
  beq_eq_false_iff_ne.mpr fun e => hs.elim fun o e' => not_none e' (e ▸ h)
theorem small_le {α : Type} {l : List α} (h : small l = true) : l.length ≤ 1000 := Nat.le_of_ble_eq_true h
theorem gb_toks (I : Inv C D X σ s) (b : Bool) (t : Nat) : GvP C D X W s (.bool b) σ (.bool b) { s with toks := t } := ⟨D, .toks I t, .bool b⟩
theorem gi_toks (I : Inv C D X σ s) (i : Int) (k : Tok) (t : Nat) : GvP C D X W s (.int i) σ (.int i k) { s with toks := t } := ⟨D, .toks I t, .int i k⟩
theorem in1_room (R : Room A) : C.tk.room A.in1 := tupleKind_room_in1 (by have := R.units; omega)
noncomputable def Gin (C : Cfg) (A : Around) (D : List FR) (X W : Addr → Prop) (s : Shared) (b : Bool) (σ : Nums) (pu pv : Value) : Prop :=
  Gv C A D X W s (.bool b) σ (compareOp .In pu pv) ∧ Gv C A D X W s (.bool (!b)) σ (compareOp .NotIn pu pv)
theorem inD_sound (I : Inv C D X σ s) (R : Room A) (hsm : ∃ o, C.H.get? sysModules = some o) {u : V} {es : List (V × V)} {pu pv : Value} (hu : VT C D X s.heap u pu) (hv : VT C D X s.heap (.dict es) pv) (e : seek es u = true) :
    Gin C A D X W s (dget es u).isSome σ pu pv :=
  key_c hu hv e (fun a kvs l hl ha d lo r is => by rw [hl, ha, r.get.isSome]; exact ⟨wpAny_in_of is (notSys hsm lo) d.mapOf (gb_toks I _ _), wpAny_notIn_of is (notSys hsm lo) d.mapOf (gb_toks I _ _)⟩)
    (fun a kvs l hl ha d lo r is => by rw [hl, ha, r.get.isSome]; exact ⟨wpAny_in_of is (notSys hsm lo) d.mapOf (gb_toks I _ _), wpAny_notIn_of is (notSys hsm lo) d.mapOf (gb_toks I _ _)⟩)
    fun a kvs l b hl ha hb d lo r is => by rw [hl, ha, hb, r.get.isSome, Option.isSome_map]; exact ⟨wpAny_in_heap (in1_room R) is (notSys hsm lo) d (gb_toks I _ _), wpAny_notIn_heap (in1_room R) is (notSys hsm lo) d (gb_toks I _ _)⟩
theorem inL_c {a : V} {vs : List V} {b : Bool} (h : inL a vs = some b) (g : plain 8 a = true → vs.all (plain 8) = true → b = vs.any (fun v => veq v a) → G) : G :=
  oI_c h fun h1 h2 => b3 h1 fun x y _ => g x y (Option.some.inj h2).symm
theorem inV_c {a v : V} {b : Bool} (h : inV a v = some b) (gS : ∀ x y, a = .str x → v = .str y → b = partOf x y → G) (gT : ∀ vs, v = .tuple vs → inL a vs = some b → G) (gL : ∀ vs, v = .list vs → inL a vs = some b → G)
    (gD : ∀ es, v = .dict es → seek es a = true → b = (dget es a).isSome → G) : G := by
  cases v with
  | str y => exact wStr_c h fun x hx h => oI_c h fun _ h => gS x y hx rfl (Option.some.inj h).symm
  | tuple vs => exact gT vs rfl h
  | list vs => exact gL vs rfl h
  | dict es => exact oI_c h fun h1 h => gD es rfl h1 (Option.some.inj h).symm
  | _ => exact nn h
theorem in_room (R : Room A) {m n : Nat} (h : n ≤ 8) : A.units + 1 + min m n < cLine := by have := R.units; have := Nat.min_le_right m n; omega
theorem inV_sound (I : Inv C D X σ s) (R : Room A) (hsm : ∃ o, C.H.get? sysModules = some o) {u v : V} {pu pv : Value} {b : Bool} (hu : VT C D X s.heap u pu) (hv : VT C D X s.heap v pv) (e : inV u v = some b) : Gin C A D X W s b σ pu pv :=
  inV_c e (fun x y hx hy hb => (show VT C D X s.heap (.str x) pu from hx ▸ hu).str_c fun s1 t1 e1 h1 => (show VT C D X s.heap (.str y) pv from hy ▸ hv).str_c fun s2 t2 e2 h2 => by
      rw [hb, h1, h2, str_eta e1, str_eta e2, ← occ_part]; exact ⟨in_str (gb_bool I _), notIn_str (gb_bool I _)⟩)
    (fun vs hv' h => inL_c h fun h1 h2 hb => (show VT C D X s.heap (.tuple vs) pv from hv' ▸ hv).tuple_c fun a it ha el r => by
      cases reads_of 8 u pu hu h1 with
      | mk as r1 c1 d1 => cases readsAll_of (reads_of 8) r h2 with
        | mk bs r2 c2 d2 => rw [hb, ha, any_veq h1 vs h2]; exact el.elim fun o g => g.2.2.elim fun n g3 => ⟨SeqAt.in_tuple_reads (.tuple g.1 g.2.1 g3 r2) r1 c2 c1 (in_room R d1) (gb_bool I _), SeqAt.notIn_tuple_reads (.tuple g.1 g.2.1 g3 r2) r1 c2 c1 (in_room R d1) (gb_bool I _)⟩)
    (fun vs hv' h => inL_c h fun h1 h2 hb => (show VT C D X s.heap (.list vs) pv from hv' ▸ hv).list_c fun a it ha el r => by
      cases reads_of 8 u pu hu h1 with
      | mk as r1 c1 d1 => cases readsAll_of (reads_of 8) r h2 with
        | mk bs r2 c2 d2 => rw [hb, ha, any_veq h1 vs h2]; exact el.elim fun o g => g.2.2.elim fun n g3 => ⟨SeqAt.in_list_reads (.list g.1 g.2.1 g3 r2) r1 c2 c1 (in_room R d1) (gb_bool I _), SeqAt.notIn_list_reads (.list g.1 g.2.1 g3 r2) r1 c2 c1 (in_room R d1) (gb_bool I _)⟩)
    fun es hv' h hb => hb ▸ inD_sound I R hsm hu (hv' ▸ hv) h
theorem cmpI_c {u v z : V} {F : Int → Int → Bool} {pu pv : Value} (h : cmpI u v F = some z) (hu : VT C D X s.heap u pu) (hv : VT C D X s.heap v pv) (g : ∀ i j t t', pu = .int i t → pv = .int j t' → z = .bool (F i j) → G) : G :=
  wInt_c h fun i hi h => wInt_c h fun j hj h => (show VT C D X s.heap (.int i) pu from hi ▸ hu).int_c fun t ht => (show VT C D X s.heap (.int j) pv from hj ▸ hv).int_c fun t' ht' => g i j t t' ht ht' (Option.some.inj h).symm
theorem cmpV_sound (I : Inv C D X σ s) (R : Room A) (hsm : ∃ o, C.H.get? sysModules = some o) {op : COp} {u v z : V} {pu pv : Value} (hu : VT C D X s.heap u pu) (hv : VT C D X s.heap v pv) (e : cmpV op u v = some z) :
    Gv C A D X W s z σ (compareOp (Cop op) pu pv) := by
  cases op with
  | eq => exact o1_c e fun b hb h => s1 h fun h => h ▸ eqV_sound I R hu hv hb
  | ne => exact o1_c e fun b hb h => s1 h fun h => h ▸ neV_sound I R hu hv hb
  | lt => exact cmpI_c e hu hv fun i j t t' h1 h2 h => h1 ▸ h2 ▸ h ▸ lt_int (gb_bool I _)
  | gt => exact cmpI_c e hu hv fun i j t t' h1 h2 h => h1 ▸ h2 ▸ h ▸ gt_int (gb_bool I _)
  | ge => exact cmpI_c e hu hv fun i j t t' h1 h2 h => h1 ▸ h2 ▸ h ▸ ge_int (gb_bool I _)
  | in_ => exact o1_c e fun b hb h => s1 h fun h => h ▸ (inV_sound I R hsm hu hv hb).1
  | notin => exact o1_c e fun b hb h => s1 h fun h => h ▸ (inV_sound I R hsm hu hv hb).2
end
end Mine
namespace Mine
noncomputable def RawD (h : Heap) (d : Addr) (es : Array DictEntry) (ep : Nat) : Prop := ∃ o, h.get? d = some o ∧ o.ExactDict ∧ o.data = .dict es ep
theorem RawD.mono {h h' : Heap} {d : Addr} {es : Array DictEntry} {ep : Nat} (x : RawD h d es ep) (k : ∀ o, h.get? d = some o → h'.get? d = some o) : RawD h' d es ep := let ⟨o, ho, r⟩ := x; ⟨o, k o ho, r⟩
theorem RawD.typeIs {s : Shared} {d : Addr} {es : Array DictEntry} {ep : Nat} (x : RawD s.heap d es ep) : s.TypeIs (.ref d) "dict" := let ⟨o, ho, c, _⟩ := x; ⟨o, ho, c.1⟩
theorem RawD.lt {h : Heap} {d : Addr} {es : Array DictEntry} {ep : Nat} (x : RawD h d es ep) : d < h.objs.size := let ⟨_, ho, _⟩ := x; Heap.lt_size ho
section
variable {prog : Program} {w : World} {A : Around} {E : Value → Shared → Prop} {s : Shared}
theorem iter_raw {d : Addr} {es : Array DictEntry} {ep : Nat} {Q : Value → Shared → Prop} (hd : (d == sysModules) = false) (hm : RawD s.heap d es ep)
    (hQ : Q (.ref s.heap.objs.size) { s with heap := s.heap.push { cls := .type "dict_keyiterator", data := .fields #[.ref d, .int 0 0, .int es.size 0, .int ep 0] } }) :
    wpAny (model prog w) A (pyIter (.ref d)) Q E s := by
  have hT := hm.typeIs
  obtain ⟨o, ho, hc, hdat⟩ := hm
  refine wpAny_pyIter_slot hT PySem.F.slot_dict_iter (wpAny_call_entry PySem.F.slot_dict_iter hT PySem.F.entry_dict_iter ?_ (PySem.F.args_dict_iter_1 _))
  unfold Builtin.«dict.__iter__»
  refine wpAny_bind ?_
  unfold Builtin.Dict.dictSlotNone
  refine wpAny_bind (wpAny_notOrdered_dict hT ?_)
  show wpAny _ _ (pure (Value.ref d)) _ _ s
  refine wpAny_pure ?_
  show wpAny _ _ (Builtin.Dict.showsAll d >>= _) _ _ s
  unfold Builtin.Dict.showsAll
  rw [if_neg (by rw [hd]; exact Bool.false_ne_true)]
  refine wpAny_bind (wpAny_pure ?_)
  refine wpAny_bind (wpAny_dictEntries ho hdat ?_)
  refine wpAny_bind (wpAny_dictEpoch ho hdat ?_)
  refine wpAny_bind (wpAny_newObj_type (wpAny_pure ⟨_, rfl, "dict_keyiterator", _, ⟨_, Heap.get?_push_size _ rfl, rfl⟩, PySem.F.slot_dict_keyiterator_next.lookup, ?_⟩))
  simpa [rawInt] using hQ
theorem next_raw {it d : Addr} {i ep : Nat} {es : Array DictEntry} {Q : Option Value → Shared → Prop} (hit : s.heap.IsKeyIter it d i es.size ep) (hm : RawD s.heap d es ep) (hlt : i < es.size)
    (hQ : ∀ h', h'.IsKeyIter it d (i + 1) es.size ep → Heap.SameBut it s.heap h' → Q (some es[i].key) { s with heap := h' }) :
    wpAny (model prog w) A (pyNext (.ref it)) Q E s := by
  obtain ⟨o, ho, hc, hd⟩ := id hit
  obtain ⟨od, hod, hcd, hdd⟩ := id hm
  unfold pyNext
  refine wpAny_bind (wpAny_attempt (wpAny_callSpecial?_slot (name := Str.ofString "__next__") hit.typeIs PySem.F.slot_dict_keyiterator_next
    (wpAny_call_entry PySem.F.slot_dict_keyiterator_next hit.typeIs PySem.F.entry_dict_keyiterator_next ?_ (PySem.F.args_dict_keyiterator_next_1 _))))
  refine wpAny_bind (wpAny_pure ?_)
  refine wpAny_bind ?_
  refine wpAny_bind ?_
  first | refine wpAny_bind (wpAny_typeNameOfWhole_keyiter hit.typeIs (wpAny_pure ?_)) | refine wpAny_bind (wpAny_typeNameOf_keyiter hit.typeIs (wpAny_pure ?_))
  refine wpAny_bind (wpAny_fieldsOf ho hd ?_)
  have hown : Builtin.Dict_items.ownsTuple "dict_keyiterator" = false := by decide
  simp only [hown, Bool.false_eq_true, if_false]
  show wpAny _ _ (if (Value.ref d == Value.none) = true then _ else _) _ _ s
  rw [if_neg (show ¬ ((Value.ref d == Value.none) = true) from Bool.false_ne_true)]
  refine wpAny_bind (wpAny_pure ?_)
  refine wpAny_bind (wpAny_dictEntries hod hdd ?_)
  rw [if_neg (by simp)]
  refine wpAny_bind (wpAny_pure ?_)
  refine wpAny_bind (wpAny_dictEpoch hod hdd ?_)
  rw [if_neg (by simp)]
  refine wpAny_pure ?_
  simp only [show ¬ ((i : Int) < 0) from by omega, if_false, Int.toNat_natCast, Array.getElem?_eq_getElem hlt]
  refine wpAny_bind ?_
  first | refine wpAny_bind (wpAny_typeNameOfWhole_keyiter hit.typeIs (wpAny_pure ?_)) | refine wpAny_bind (wpAny_typeNameOf_keyiter hit.typeIs (wpAny_pure ?_))
  refine wpAny_bind (wpAny_isOneOf_keyiter hit.typeIs ?_)
  show wpAny _ _ (setField (.ref it) 1 (rawInt ((i : Int) + 1)) >>= _) _ _ s
  refine wpAny_bind (wpAny_setField ho hd (by simp) ?_)
  have hit' : (s.heap.update it (Obj.mapFields (·.setIfInBounds 1 (rawInt ((i : Int) + 1))))).IsKeyIter it d (i + 1) es.size ep :=
    ⟨_, Heap.get?_update_self _ ho (Obj.isFreed_of_fields (Obj.data_mapFields hd _)), (Obj.cls_mapFields ..).trans hc, by rw [Obj.data_mapFields hd]; simp [rawInt]⟩
  refine wpAny_bind (wpAny_holding ?_)
  refine wpAny_bind (wpAny_isOneOf_keyiter (s := { s with heap := s.heap.update it (Obj.mapFields (·.setIfInBounds 1 (rawInt ((i : Int) + 1)))) }) hit'.typeIs ?_)
  show wpAny _ _ (pure es[i].key) _ _ _
  exact wpAny_pure (wpAny_pure ⟨_, rfl, wpAny_pure (hQ _ hit' (Heap.SameBut.update ..))⟩)
theorem end_raw {it d : Addr} {ep : Nat} {es : Array DictEntry} {Q : Option Value → Shared → Prop} (hh : A.handled = none) (hit : s.heap.IsKeyIter it d es.size es.size ep) (hm : RawD s.heap d es ep)
    (hQ : ∀ h', Heap.ExtBut it s.heap h' → Q none { s with heap := h' }) : wpAny (model prog w) A (pyNext (.ref it)) Q E s := by
  obtain ⟨o, ho, hc, hd⟩ := id hit
  obtain ⟨od, hod, hcd, hdd⟩ := id hm
  unfold pyNext
  refine wpAny_bind (wpAny_attempt (wpAny_callSpecial?_slot (name := Str.ofString "__next__") hit.typeIs PySem.F.slot_dict_keyiterator_next
    (wpAny_call_entry PySem.F.slot_dict_keyiterator_next hit.typeIs PySem.F.entry_dict_keyiterator_next ?_ (PySem.F.args_dict_keyiterator_next_1 _))))
  refine wpAny_bind (wpAny_pure ?_)
  refine wpAny_bind ?_
  refine wpAny_bind ?_
  first | refine wpAny_bind (wpAny_typeNameOfWhole_keyiter hit.typeIs (wpAny_pure ?_)) | refine wpAny_bind (wpAny_typeNameOf_keyiter hit.typeIs (wpAny_pure ?_))
  refine wpAny_bind (wpAny_fieldsOf ho hd ?_)
  have hown : Builtin.Dict_items.ownsTuple "dict_keyiterator" = false := by decide
  simp only [hown, Bool.false_eq_true, if_false]
  show wpAny _ _ (if (Value.ref d == Value.none) = true then _ else _) _ _ s
  rw [if_neg (show ¬ ((Value.ref d == Value.none) = true) from Bool.false_ne_true)]
  refine wpAny_bind (wpAny_pure ?_)
  refine wpAny_bind (wpAny_dictEntries hod hdd ?_)
  rw [if_neg (by simp)]
  refine wpAny_bind (wpAny_pure ?_)
  refine wpAny_bind (wpAny_dictEpoch hod hdd ?_)
  rw [if_neg (by simp)]
  refine wpAny_pure ?_
  simp only [show ¬ ((es.size : Int) < 0) from by omega, if_false, Int.toNat_natCast, Array.getElem?_eq_none (Nat.le_refl es.size)]
  refine wpAny_bind ?_
  first | refine wpAny_bind (wpAny_typeNameOfWhole_keyiter hit.typeIs (wpAny_pure ?_)) | refine wpAny_bind (wpAny_typeNameOf_keyiter hit.typeIs (wpAny_pure ?_))
  show wpAny _ _ (setField (.ref it) 0 .none >>= _) _ _ s
  refine wpAny_bind (wpAny_setField ho hd (by simp) ?_)
  show wpAny _ _ (newExc (.type "StopIteration") [] >>= _) _ _ _
  refine wpAny_bind ?_
  simp only [newExc, newTuple]
  refine wpAny_bind (wpAny_newObj_type ?_ (by size_fits))
  refine wpAny_bind (m := firstArgMember _ _) (wpAny_of_eq (a := Value.none) (by first | rfl | (simp only [firstArgMember]; rfl)) ?_)
  refine wpAny_newObj_type ?_ (by size_fits)
  simp only [raiseNew]
  refine wpAny_bind (wpAny_handled ?_)
  rw [show A.in1.handled = none from hh]
  refine wpAny_bind (wpAny_pure (wpAny_throw ?_))
  refine wpAny_bind (wpAny_isInstance (T := "StopIteration") (b := true) ⟨_, Heap.get?_push_size _ rfl, rfl⟩ isSubtype_stop ?_)
  exact wpAny_pure (hQ _ (((Heap.SameBut.update ..).extBut.push _).push _))
theorem walks_raw (hh : A.handled = none) (I d : Addr) (hne : d ≠ I) (es : Array DictEntry) (ep : Nat) :
    Walks prog w A I [I, d] [I] es.size (fun i v => es[i]?.map (·.key) = some v) (fun i h => h.IsKeyIter I d i es.size ep ∧ RawD h d es ep) where
  sub := fun b hb => by simp at hb; simp [hb]
  frame := fun _ _ _ st hk => ⟨st.1.at fun o e => hk I (by simp) o e, st.2.mono fun o e => hk d (by simp) o e⟩
  item := fun i s Q E hi st hQ => by
    refine next_raw st.1 st.2 hi fun h' hit' hs' => ?_
    exact hQ _ h' s.toks (by simp [hi]) ⟨hit', st.2.mono fun o e => hs'.extBut d o hne e⟩ fun b o hb e => hs'.extBut b o (fun h => hb (by simp [h])) e
  done := fun s Q E st hQ => end_raw hh st.1 st.2 fun h' he' => hQ h' s.toks fun b o hb e => he' b o (fun h => hb (by simp [h])) e
  self := fun _ _ _ _ st hQ => wpAny_pyIter_keyiter st.1 hQ
theorem src_raw {d : Addr} {es : Array DictEntry} {ep : Nat} (lo : (d == sysModules) = false) : KdlSrc prog w "dict" d d es.size (fun i v => es[i]?.map (·.key) = some v) (fun h => RawD h d es ep) where
  type := fun _ hm => hm.typeIs
  there := fun _ hm => ⟨hm.lt, hm.lt⟩
  keep := fun _ _ hm hk => hm.mono fun o e => hk d (.inl rfl) o e
  notList := by decide
  notTuple := by decide
  hint := fun _ _ _ _ hm hq => kdl_hint_dict hm.typeIs hq
  iter := fun _ _ hh hm => ⟨_, _, (fun _ _ hq => iter_raw lo hm hq), walks_raw hh _ d (Nat.ne_of_lt hm.lt) es ep, ⟨⟨_, Heap.get?_push_size _ rfl, rfl, rfl⟩, hm.mono fun _ e => Heap.get?_push_of_some _ e⟩⟩
end
end Mine
namespace Mine
section
variable {C : Cfg} {A : Around} {D : List FR} {X W : Addr → Prop} {σ : Nums} {s : Shared} {h : Heap} {G : Prop} {vs : List V} {ps : List Value}
theorem VRs.con {v : V} {p : Value} (x : VR C D X h v p) (r : VRs C D X h vs ps) : VRs C D X h (v :: vs) (p :: ps) := .cons x.1 x.2 r
theorem VRs.get (x : VRs C D X h vs ps) {i : Nat} {p : Value} (e : ps[i]? = some p) : ∃ v, vs[i]? = some v ∧ VR C D X h v p :=
  x.ind (M := fun vs ps => ∀ i p, ps[i]? = some p → ∃ v, vs[i]? = some v ∧ VR C D X h v p) (fun _ _ e => nn e)
    (fun v p vs ps a o _ ih i => @Nat.casesOn (fun i => ∀ q, (p :: ps)[i]? = some q → ∃ u, (v :: vs)[i]? = some u ∧ VR C D X h u q) i (fun q e => ⟨v, rfl, s1 e fun e => e ▸ ⟨a, o⟩⟩) ih) i p e
theorem VRs.get' (x : VRs C D X h vs ps) {i : Nat} {v : V} (e : vs[i]? = some v) : ∃ p, ps[i]? = some p ∧ VR C D X h v p :=
  x.ind (M := fun vs ps => ∀ i v, vs[i]? = some v → ∃ p, ps[i]? = some p ∧ VR C D X h v p) (fun _ _ e => nn e)
    (fun v p vs ps a o _ ih i => @Nat.casesOn (fun i => ∀ u, (v :: vs)[i]? = some u → ∃ q, (p :: ps)[i]? = some q ∧ VR C D X h u q) i (fun q e => ⟨p, rfl, s1 e fun e => e ▸ ⟨a, o⟩⟩) ih) i v e
theorem VRs.of_get (vs : List V) : ∀ {ps : List Value}, ps.length = vs.length → (∀ (i : Nat) (p : Value), ps[i]? = some p → ∃ v, vs[i]? = some v ∧ VR C D X h v p) → VRs C D X h vs ps := by
  induction vs with
  | nil => exact fun {ps} e g => List.eq_nil_of_length_eq_zero e ▸ .nil
  | cons v vs ih =>
    intro ps e g
    cases ps with
    | nil => exact nomatch e
    | cons p ps => exact (g 0 p rfl).elim fun u hu => s1 hu.1 fun e1 => .cons (e1 ▸ hu.2.1) hu.2.2 (ih (Nat.succ.inj e) fun i => g (i + 1))
theorem VRs.size {it : Array Value} (r : VRs C D X h vs it.toList) : vs.length = it.size := r.length
theorem ints_get (n : Nat) : ∀ a i : Nat, i < n → (intsFrom a n)[i]? = some (.int (.ofNat (a + i))) := by
  induction n with
  | zero => exact fun a i h => nomatch h
  | succ n ih => exact fun a i => @Nat.casesOn (fun i => i < n + 1 → (intsFrom a (n + 1))[i]? = some (.int (.ofNat (a + i)))) i (fun _ => rfl) fun i h => (ih (a + 1) i (Nat.lt_of_succ_lt_succ h)).trans (by rw [Nat.succ_add]; rfl)
theorem ints_len (n : Nat) : ∀ a, (intsFrom a n).length = n := by
  induction n with
  | zero => exact fun _ => rfl
  | succ n ih => exact fun a => congrArg (· + 1) (ih (a + 1))
theorem rangeSize_up (n : Nat) : Builtin.Range.rangeSize 0 n 1 = n := by
  unfold Builtin.Range.rangeSize
  rw [if_pos (by decide)]
  split <;> omega
theorem small_up (n : Nat) (hn : n ≤ 1000) : Builtin.Range.small 0 n 1 = true := by
  unfold Builtin.Range.small
  rw [rangeSize_up]
  unfold Builtin.Range.rangeFitsLong
  simp only [Bool.and_eq_true, Bool.or_eq_true, decide_eq_true_eq]
  refine ⟨⟨⟨⟨by decide, by omega⟩, by decide⟩, by omega⟩, .inr ?_⟩
  rw [if_pos (by decide)]
  simp only [Bool.and_eq_true, decide_eq_true_eq]
  omega
theorem Pairs.c {K : Type} [DecidableEq K] {kd : PySem.KeyKind C.prog C.w K} {l : List DictEntry} {z : K × Value} {r : List (K × Value)} (x : Pairs kd l (z :: r)) (g : ∀ e l', l = e :: l' → kd.is z.1 e.key = true → Pairs kd l' r → G) : G := by
  cases x with
  | cons a _ b => exact g _ _ rfl a b
theorem Pairs.n {K : Type} [DecidableEq K] {kd : PySem.KeyKind C.prog C.w K} {l : List DictEntry} (x : Pairs kd l []) : l = [] := by cases x; rfl
theorem is_str {x : Str} {p : Value} (e : C.sk.is x p = true) : VR C D X h (.str x.cps.toList) p := (Value.isStrOf_shape e).elim fun t ht => ht ▸ .str t rfl
theorem is_int {x : Int} {p : Value} (e : C.ik.is x p = true) : VR C D X h (.int x) p := (Value.isInt_shape e).elim fun t ht => ht ▸ .int x t
noncomputable def keysV (es : List (V × V)) : List V := es.map (·.1)
noncomputable def keysE (l : List DictEntry) : List Value := l.map (·.key)
theorem KS.keysOf {es : List (V × V)} {kvs : List (Str × Value)} (x : KS C D X h es kvs) {l : List DictEntry} (y : Pairs C.sk l kvs) : VRs C D X h (keysV es) (keysE l) :=
  x.ind (M := fun es kvs => ∀ l, Pairs C.sk l kvs → VRs C D X h (keysV es) (keysE l)) (fun l y => Pairs.n y ▸ .nil) (fun _ _ _ _ _ _ _ ih l y => Pairs.c y fun e l' hl is y => hl ▸ .con (is_str is) (ih l' y)) l y
theorem KI.keysOf {es : List (V × V)} {kvs : List (Int × Value)} (x : KI C D X h es kvs) {l : List DictEntry} (y : Pairs C.ik l kvs) : VRs C D X h (keysV es) (keysE l) :=
  x.ind (M := fun es kvs => ∀ l, Pairs C.ik l kvs → VRs C D X h (keysV es) (keysE l)) (fun l y => Pairs.n y ▸ .nil) (fun _ _ _ _ _ _ _ ih l y => Pairs.c y fun e l' hl is y => hl ▸ .con (is_int is) (ih l' y)) l y
theorem VRs.ofItems {l : List Int} {ps : List Value} (x : ItemsAre C.ik l ps) : VRs C D X h (l.map .int) ps := by
  induction x with
  | nil => exact .nil
  | cons h1 _ ih => exact .con (is_int h1) ih
theorem isKey_tup {l : List Int} {b : Addr} (x : C.tk.is h l b) : VT C D X h (.tuple (l.map .int)) (.ref b) := x.elim fun o x => x.elim fun it x => x.elim fun n x => .tuple ⟨o, x.1, x.2.1, n, x.2.2.1⟩ (VRs.ofItems x.2.2.2)
theorem KT.keysOf {es : List (V × V)} {kvs : List (List Int × Addr × Value)} (x : KT C D X h es kvs) (is : ∀ x ∈ kvs, C.tk.is h x.1 x.2.1) : VRs C D X h (keysV es) (keysE (kvs.map (entryOfKey C.tk))) :=
  x.ind (M := fun (es : List (V × V)) (kvs : List (List Int × Addr × Value)) => (∀ x ∈ kvs, C.tk.is h x.1 x.2.1) → VRs C D X h (keysV es) (keysE (kvs.map (entryOfKey C.tk)))) (fun _ => .nil)
    (fun _ _ _ _ kb _ _ _ ih is => .cons (isKey_tup (is _ List.mem_cons_self)) (.ref kb) (ih fun x hx => is x (List.mem_cons_of_mem _ hx))) is
inductive RawK (C : Cfg) (D : List FR) (X : Addr → Prop) (h : Heap) (es : List (V × V)) (p : Value) : Prop
  | mk (a : Addr) (hp : p = .ref a) (lo : C.H.get? a = none) (ents : Array DictEntry) (ep : Nat) (rd : RawD h a ents ep) (r : VRs C D X h (keysV es) (keysE ents.toList))
theorem VT.raw {es : List (V × V)} {p : Value} (x : VT C D X h (.dict es) p) : RawK C D X h es p :=
  x.dict_c (fun a kvs ha e lo r => e.elim fun o e => e.elim fun ents e => e.elim fun ep e => ⟨a, ha, lo, ents, ep, ⟨o, e.1, e.2.1, e.2.2.1⟩, r.keysOf e.2.2.2.2.1⟩)
    (fun a kvs ha e lo r => e.elim fun o e => e.elim fun ents e => e.elim fun ep e => ⟨a, ha, lo, ents, ep, ⟨o, e.1, e.2.1, e.2.2.1⟩, r.keysOf e.2.2.2.2.1⟩)
    fun a kvs ha e lo r => e.elim fun o e => e.elim fun ents e => e.elim fun ep e => ⟨a, ha, lo, ents, ep, ⟨o, e.1, e.2.1, e.2.2.1⟩, e.2.2.2.1 ▸ r.keysOf e.2.2.2.2.1⟩
theorem walks_lt {prog : Program} {w : World} {A : Around} {I : Addr} {fp wr : List Addr} {n : Nat} {P : Nat → Value → Prop} {St : Nat → Heap → Prop} (W : Walks prog w A I fp wr n P St) : Walks prog w A I fp wr n (fun i v => i < n ∧ P i v) St where
  sub := W.sub
  frame := W.frame
  item := fun i s Q E hi st hQ => W.item i s Q E hi st fun v h' tk p => hQ v h' tk ⟨hi, p⟩
  done := W.done
  self := W.self
noncomputable def owners : List String := ["enumerate", "zip", "dict_itemiterator", "dict_reverseitemiterator", "odict_iterator", "itertools.zip_longest", "itertools.pairwise"]
inductive Alv (h : Heap) (I : Addr) : Prop
  | mk (o : Obj) (n : String) (fs : Array Value) (ho : h.get? I = some o) (c : o.cls = .type n) (d : o.data = .fields fs) (e : owners.contains n = false)
theorem Alv.of {I : Addr} {n : String} {fs : Array Value} (e : owners.contains n = false) (x : ∃ o, h.get? I = some o ∧ o.cls = .type n ∧ o.data = .fields fs) : Alv h I := x.elim fun o x => ⟨o, n, fs, x.1, x.2.1, x.2.2, e⟩
theorem Alv.ex {I : Addr} (x : Alv h I) : ∃ o, h.get? I = some o := by cases x; exact ⟨_, by assumption⟩
structure ItS (C : Cfg) (A : Around) (D : List FR) (X : Addr → Prop) (h : Heap) (pv : Value) (vs : List V) (I : Addr) (P : Nat → Value → Prop) (St : Nat → Heap → Prop) (fp : List Addr) : Prop where
  walks : Walks C.prog C.w A I fp [I] vs.length P St
  fp : ∀ b ∈ fp, b = I ∨ pv = .ref b
  item : ∀ (i : Nat) (p : Value), P i p → ∃ v, vs[i]? = some v ∧ VR C D X h v p
  alive : ∀ (i : Nat) (h' : Heap), St i h' → Alv h' I
noncomputable def OnIt (C : Cfg) (A : Around) (D : List FR) (X : Addr → Prop) (s : Shared) (vs : List V) (pv : Value) (Q : Value → Shared → Prop) : Prop :=
  ∀ o P St fp, o.isFreed = false → ItS C A D X s.heap pv vs s.heap.objs.size P St fp → St 0 (s.heap.push o) → Q (.ref s.heap.objs.size) { s with heap := s.heap.push o }
theorem fp2 {I a : Addr} {p : Value} (ha : p = .ref a) : ∀ b ∈ [I, a], b = I ∨ p = .ref b := fun b hb => (List.mem_cons.mp hb).imp_right fun h => ha.trans (congrArg Value.ref (List.mem_singleton.mp h).symm)
theorem push_keep (h : Heap) (o : Obj) : ∀ a o', h.get? a = some o' → (h.push o).get? a = some o' := fun _ _ e => Heap.get?_push_of_some _ e
theorem items_c {v : V} (e : items v = some vs) (gR : ∀ n, v = .rng n → n ≤ 1000 → vs = intsFrom 0 n → G) (gT : v = .tuple vs → small vs = true → G) (gL : v = .list vs → small vs = true → G) (gD : ∀ es, v = .dict es → small es = true → vs = keysV es → G) : G := by
  cases v with
  | rng n => exact oI_c e fun h e => gR n rfl (Nat.le_of_ble_eq_true h) (Option.some.inj e).symm
  | tuple us => exact oI_c e fun h e => s1 e fun e => gT (e ▸ rfl) (e ▸ h)
  | list us => exact oI_c e fun h e => s1 e fun e => gL (e ▸ rfl) (e ▸ h)
  | dict es => exact oI_c e fun h e => gD es rfl h (Option.some.inj e).symm
  | _ => exact nn e
theorem iter_sound (R : Room A) (hsm : ∃ o, C.H.get? sysModules = some o) {v : V} {pv : Value} (x : VT C D X s.heap v pv) (e : items v = some vs) {E : Value → Shared → Prop} {Q : Value → Shared → Prop} (q : OnIt C A D X s vs pv Q) :
    wpAny (model C.prog C.w) A (pyIter pv) Q E s :=
  items_c e
    (fun n hv hn hvs => (show VT C D X s.heap (.rng n) pv from hv ▸ x).rng_c fun a t u w ha el => by
      rw [ha]
      exact wpAny_pyIter_range el (small_up n hn) (q _ (fun i p => i < n ∧ ∃ t, p = .int (0 + (i : Int) * 1) t) (fun i h => IsRangeIter h s.heap.objs.size (0 + (i : Int) * 1) ((n : Int) - i) 1) [s.heap.objs.size] rfl
        ⟨by rw [hvs, ints_len]; exact walks_lt (Walks.range R.handled _ 0 1 n), fun b hb => .inl (List.mem_singleton.mp hb), fun i p hp => hp.2.elim fun t ht => ⟨_, by rw [hvs]; exact ints_get n 0 i hp.1, by rw [ht, Int.mul_one, Int.zero_add, Nat.zero_add]; exact .int _ t⟩, fun _ _ st => ⟨_, _, _, st, rfl, rfl, rfl⟩⟩
        (by rw [rangeSize_up]; exact Heap.get?_push_size _ rfl)))
    (fun hv _ => (show VT C D X s.heap (.tuple vs) pv from hv ▸ x).tuple_c fun a it ha el r => by
      rw [ha]
      exact wpAny_pyIter_tuple el (q _ (fun i p => it[i]? = some p) (fun i h' => h'.IsTupleIter s.heap.objs.size a i ∧ h'.IsTuple a it) [s.heap.objs.size, a] rfl
        ⟨by rw [r.size]; exact Walks.tuple R.handled _ _ (el.elim fun o e => Nat.ne_of_lt (Heap.lt_size e.1)) _, fp2 ha, fun i p hp => r.get ((Array.getElem?_toList ..).trans hp), fun _ _ st => .of rfl st.1⟩ ⟨⟨_, Heap.get?_push_size _ rfl, rfl, rfl⟩, IsTup.mono el (push_keep _ _ _)⟩))
    (fun hv _ => (show VT C D X s.heap (.list vs) pv from hv ▸ x).list_c fun a it ha el r => by
      rw [ha]
      exact wpAny_pyIter_list el (q _ (fun i p => it[i]? = some p) (fun i h' => h'.IsListIter s.heap.objs.size a i ∧ h'.IsList a it) [s.heap.objs.size, a] rfl
        ⟨by rw [r.size]; exact Walks.list R.handled _ _ (el.elim fun o e => Nat.ne_of_lt (Heap.lt_size e.1)) _, fp2 ha, fun i p hp => r.get ((Array.getElem?_toList ..).trans hp), fun _ _ st => .of rfl st.1⟩ ⟨⟨_, Heap.get?_push_size _ rfl, rfl, rfl⟩, IsList.mono el (push_keep _ _ _)⟩))
    fun es hv _ hvs => by
      cases (show VT C D X s.heap (.dict es) pv from hv ▸ x).raw with
      | mk a ha lo ents ep rd r =>
        rw [ha]
        exact iter_raw (notSys hsm lo) rd (q _ (fun i v => ents[i]?.map (·.key) = some v) (fun i h => h.IsKeyIter s.heap.objs.size a i ents.size ep ∧ RawD h a ents ep) [s.heap.objs.size, a] rfl
          ⟨by rw [hvs, r.length, keysE, List.length_map]; exact walks_raw R.handled _ _ (Nat.ne_of_lt rd.lt) _ _, fp2 ha, fun i p hp => by rw [hvs]; exact r.get (by rw [keysE, List.getElem?_map, Array.getElem?_toList]; exact hp), fun _ _ st => .of rfl st.1⟩ ⟨⟨_, Heap.get?_push_size _ rfl, rfl, rfl⟩, rd.mono (push_keep _ _ _)⟩)
theorem fresh_list (I : Inv C D X σ s) {items : Array Value} (r : VRs C D X s.heap vs items.toList) {h' : Heap} (t : Nat) (a : Addr) (ha : s.heap.get? a = none) (k : ∀ a o, s.heap.get? a = some o → h'.get? a = some o) (hl : h'.IsList a items) :
    GvP C D X W s (.list vs) σ (.ref a) { s with heap := h', toks := t } :=
  ⟨D, .tok I h' t k, .list hl (r.mono ((Ext.of_keeps (W := Nope) k).mono I.fat (fun _ f => f.elim) fun _ h => .inl h)), .ref (fresh_ok I ha)⟩
theorem fresh_tup (I : Inv C D X σ s) {items : Array Value} (r : VRs C D X s.heap vs items.toList) {h' : Heap} (t : Nat) (a : Addr) (ha : s.heap.get? a = none) (k : ∀ a o, s.heap.get? a = some o → h'.get? a = some o) (hl : IsTup h' a items) :
    GvP C D X W s (.tuple vs) σ (.ref a) { s with heap := h', toks := t } :=
  ⟨D, .tok I h' t k, .tuple hl (r.mono ((Ext.of_keeps (W := Nope) k).mono I.fat (fun _ f => f.elim) fun _ h => .inl h)), .ref (fresh_ok I ha)⟩
theorem push_list (I : Inv C D X σ s) {items : Array Value} (r : VRs C D X s.heap vs items.toList) (t : Nat) : GvP C D X W s (.list vs) σ (.ref s.heap.objs.size) { s with heap := s.heap.push { cls := .type "list", data := .seq items }, toks := t } :=
  fresh_list I r t _ (get_size _) (push_keep _ _) ⟨_, Heap.get?_push_size _ rfl, rfl, _, rfl⟩
theorem push_tup (I : Inv C D X σ s) {items : Array Value} (r : VRs C D X s.heap vs items.toList) (t : Nat) : GvP C D X W s (.tuple vs) σ (.ref s.heap.objs.size) { s with heap := s.heap.push { cls := .type "tuple", data := .seq items }, toks := t } :=
  fresh_tup I r t _ (get_size _) (push_keep _ _) ⟨_, Heap.get?_push_size _ rfl, rfl, _, rfl⟩
theorem small_line {α : Type} {l : List α} (h : small l = true) : l.length ≤ sizeLine := sizeLine_eq ▸ Nat.le_trans (small_le h) (by decide)
end
end Mine
namespace Mine
section
variable {C : Cfg} {A : Around} {D : List FR} {X W : Addr → Prop} {σ : Nums} {s : Shared} {G : Prop} {v z : V} {pv : Value}
theorem okStr_len {l : List Nat} (h : okStr l = true) : l.length ≤ 1000 := Nat.le_of_ble_eq_true (bR h)
theorem fits {n : Nat} (h : n ≤ 1000) : ¬ ((n : Int) ≥ 2 ^ 63) := by omega
theorem fits' {n : Nat} (h : n ≤ 1000) : (n : Int) < 2 ^ 63 := Int.not_le.mp (fits h)
theorem line_of {n : Nat} (h : n ≤ 1000) : n ≤ sizeLine := sizeLine_eq ▸ Nat.le_trans h (by decide)
theorem lenV_c (e : lenV v = some z) (gS : ∀ l, v = .str l → okStr l = true → z = .int (.ofNat l.length) → G) (gT : ∀ l, v = .tuple l → small l = true → z = .int (.ofNat l.length) → G) (gL : ∀ l, v = .list l → small l = true → z = .int (.ofNat l.length) → G) : G := by
  cases v with
  | str l => exact oI_c e fun h e => gS l rfl h (Option.some.inj e).symm
  | tuple l => exact oI_c e fun h e => gT l rfl h (Option.some.inj e).symm
  | list l => exact oI_c e fun h e => gL l rfl h (Option.some.inj e).symm
  | _ => exact nn e
theorem len_sound (I : Inv C D X σ s) (x : VT C D X s.heap v pv) (e : bifV .len v = some z) : Gv C A D X W s z σ (call (.builtin "len") [pv]) :=
  lenV_c e
    (fun l hv h hz => (show VT C D X s.heap (.str l) pv from hv ▸ x).str_c fun y t el ha => by rw [hz, ha, str_eta el, ← len_of]; exact len_str (fits (len_of l ▸ okStr_len h)) (gi_toks I _ _ _))
    (fun l hv h hz => (show VT C D X s.heap (.tuple l) pv from hv ▸ x).tuple_c fun a it ha el r => by rw [hz, ha, r.size]; exact len_tuple el (fits' (r.size ▸ small_le h)) (gi_toks I _ _ _))
    fun l hv h hz => (show VT C D X s.heap (.list l) pv from hv ▸ x).list_c fun a it ha el r => by rw [hz, ha, r.size]; exact PyProof.Rows.len_list el (fits' (r.size ▸ small_le h)) (gi_toks I _ _ _)
theorem range_sound (I : Inv C D X σ s) (x : VT C D X s.heap v pv) (e : bifV .range v = some z) : Gv C A D X W s z σ (call (.type "range") [pv]) :=
  wInt_c e fun i hi e => wNat_c e fun n hn e => oI_c e fun _ e => (show VT C D X s.heap (.int (.ofNat n)) pv from hn ▸ hi ▸ x).int_c fun t ht => by
    rw [← Option.some.inj e, ht]
    exact call_range_1 ⟨D, .tok I _ _ (push_keep _ _), .rng (Heap.get?_push_size _ rfl), .ref (fresh_ok I (get_size _))⟩
theorem VRs.of_items {h : Heap} {vs : List V} {acc : Array Value} {P : Nat → Value → Prop} (hi : ItemsOf P acc vs.length) (g : ∀ i p, i < vs.length → P i p → ∃ v, vs[i]? = some v ∧ VR C D X h v p) : VRs C D X h vs acc.toList :=
  .of_get vs hi.1 fun i p hp => g i p (hi.1 ▸ (List.getElem?_eq_some_iff.mp hp).1) (hi.2 i p ((Array.getElem?_toList ..).symm.trans hp))
theorem list_sound (I : Inv C D X σ s) (R : Room A) (hsm : ∃ o, C.H.get? sysModules = some o) (x : VT C D X s.heap v pv) (e : bifV .list v = some z) : Gv C A D X W s z σ (call (.type "list") [pv]) :=
  o1_c e fun vs hv e => Option.some.inj e ▸ items_c hv
    (fun n hv hn hvs => (show VT C D X s.heap (.rng n) pv from hv ▸ x).rng_c fun a t u w ha el => by
      rw [ha, hvs]
      exact call_list_range R.handled el (small_up n hn) (rangeSize_up n) (Nat.le_trans hn (by decide)) fun h' tk acc c' k hg hi => fresh_list I (.of_items (P := fun i v => ∃ t, v = .int (0 + (i : Int) * 1) t) (by rw [ints_len]; exact hi) fun i p hl hp => hp.elim fun t ht => ⟨_, ints_get n 0 i (ints_len n 0 ▸ hl), by rw [ht, Int.mul_one, Int.zero_add, Nat.zero_add]; exact .int _ t⟩) tk _ (get_size _) k ⟨_, hg, rfl, _, rfl⟩)
    (fun hv hs => (show VT C D X s.heap (.tuple vs) pv from hv ▸ x).tuple_c fun a it ha el r => by
      rw [ha]
      exact el.elim fun o el => el.2.2.elim fun n hd => call_list_seq _ (.inr rfl) el.1 el.2.1 hd (fun h' c' k hg => fresh_list I r s.toks _ (get_size _) k ⟨_, hg, rfl, _, rfl⟩) (r.size ▸ small_line hs))
    (fun hv hs => (show VT C D X s.heap (.list vs) pv from hv ▸ x).list_c fun a it ha el r => by
      rw [ha]
      exact el.elim fun o el => el.2.2.elim fun n hd => call_list_seq _ (.inl rfl) el.1 el.2.1 hd (fun h' c' k hg => fresh_list I r s.toks _ (get_size _) k ⟨_, hg, rfl, _, rfl⟩) (r.size ▸ small_line hs))
    fun es hv hs hvs => by
      cases (show VT C D X s.heap (.dict es) pv from hv ▸ x).raw with
      | mk a ha lo ents ep rd r =>
        have hz : ents.size = (keysV es).length := (r.length.trans (List.length_map ..)).symm
        rw [ha, hvs]
        exact kdl_call (src_raw (notSys hsm lo)) R.handled rd (hz.trans (List.length_map ..) ▸ small_line hs) fun h' tk acc c' k hg hi => fresh_list I (.of_items (P := fun i v => ents[i]?.map (·.key) = some v) (hz ▸ hi) fun i p _ hp => r.get (by rw [keysE, List.getElem?_map, Array.getElem?_toList]; exact hp)) tk _ (get_size _) k ⟨_, hg, rfl, _, rfl⟩
theorem tupV_c (e : tupV v = some z) (gT : ∀ l, v = .tuple l → z = .tuple l → G) (gL : ∀ l, v = .list l → small l = true → z = .tuple l → G) : G := by
  cases v with
  | tuple l => exact gT l rfl (Option.some.inj e).symm
  | list l => exact oI_c e fun h e => gL l rfl h (Option.some.inj e).symm
  | _ => exact nn e
theorem tuple_sound (I : Inv C D X σ s) (x : VT C D X s.heap v pv) (hk : OkV D X pv ∨ ∀ vs, v ≠ .tuple vs) (e : bifV .tuple v = some z) : Gv C A D X W s z σ (call (.type "tuple") [pv]) :=
  tupV_c e (fun l hv hz => hk.elim (fun hk => (show VT C D X s.heap (.tuple l) pv from hv ▸ x).tuple_c fun a it ha el r => by rw [hz, ha]; exact call_tuple_tup el ⟨D, .refl I, .tuple el r, ha ▸ hk⟩) fun hk => (hk l hv).elim)
    fun l hv hs hz => (show VT C D X s.heap (.list l) pv from hv ▸ x).list_c fun a it ha el r => by
      rw [hz, ha]
      exact call_tuple_list el (fun h' k => fresh_tup I r s.toks _ (get_keep k (get_size _)) (fun a o e => Heap.get?_push_of_some _ (k a o e)) ⟨_, Heap.get?_push_size _ rfl, rfl, _, rfl⟩) (r.size ▸ small_line hs)
inductive Anys (ps : List Value) (b : Bool) : Prop
  | mk (all : ∀ p ∈ ps, ∃ b, p = .bool b) (any : ps.any (fun p => p == .bool true) = b)
theorem any_vals {vs : List V} {ps : List Value} (x : VRs C D X s.heap vs ps) {b : Bool} (e : anyB vs = some b) : Anys ps b :=
  x.ind (M := fun vs ps => ∀ b, anyB vs = some b → Anys ps b) (fun b e => ⟨fun p hp => (nomatch hp), Option.some.inj e⟩)
    (fun v p vs ps a o _ ih b e => wBool_c e fun c hc e => o1_c e fun d hd e => by
      have hp := (show VT C D X s.heap (.bool c) p from hc ▸ a).bool_c
      cases ih d hd with
      | mk h1 h2 => exact ⟨fun q hq => (List.mem_cons.mp hq).elim (fun e => ⟨c, e.trans hp⟩) (h1 q), by rw [← Option.some.inj e, List.any_cons, h2, hp]; cases c <;> rfl⟩) b e
theorem any_range (ps : List Value) (f : Value → Bool) : (List.range ps.length).any (fun i => f (ps.getD i .none)) = ps.any f := by
  induction ps with
  | nil => rfl
  | cons p r ih => rw [List.length_cons, List.range_succ_eq_map, List.any_cons, List.any_cons, List.any_map]; exact congrArg (f p || ·) ih
theorem any_true {it : Array Value} {b : Bool} (x : Anys it.toList b) {prog : Program} {w : World} {A : Around} : TruthOf prog w A (fun i p => it[i]? = some p) fun i => it.toList.getD i .none == .bool true := by
  intro i p s' Q E hp hq
  cases x with
  | mk h1 h2 =>
    have hp := (Array.getElem?_toList ..).trans hp
    exact (h1 p (List.mem_of_getElem? hp)).elim fun c hc => by
      have e : it.toList.getD i .none = .bool c := by rw [List.getD_eq_getElem?_getD, hp, hc]; rfl
      rw [hc]
      exact wpAny_truthy_bool ((show (it.toList.getD i .none == .bool true) = c by rw [e]; cases c <;> rfl) ▸ hq)
theorem any_sound (I : Inv C D X σ s) (R : Room A) (x : VT C D X s.heap v pv) (e : bifV .any v = some z) : Gv C A D X W s z σ (call (.builtin "any") [pv]) :=
  wList_c e fun vs hv e => oI_c e fun _ e => o1_c e fun b hb e => (show VT C D X s.heap (.list vs) pv from hv ▸ x).list_c fun a it ha el r => by
    have av := any_vals r hb
    rw [← Option.some.inj e, ha]
    exact call_any_walk (wpAny_pyIter_list el ⟨s.heap.objs.size, [s.heap.objs.size, a], [s.heap.objs.size], it.size, _, _, fun i => it.toList.getD i .none == .bool true, rfl, Walks.list (A := A.in1) R.handled _ _ (el.elim fun o e => Nat.ne_of_lt (Heap.lt_size e.1)) it,
      ⟨⟨_, Heap.get?_push_size _ rfl, rfl, rfl⟩, IsList.mono el (push_keep _ _ _)⟩, any_true av, fun h' tk k => by
        rw [show (List.range it.size).any (fun i => it.toList.getD i .none == .bool true) = b from (any_range it.toList _).trans (av.rec fun _ h => h)]
        exact ⟨D, .tok I h' tk fun c o e => k c o (fun h => Nat.ne_of_lt (Heap.lt_size e) (List.mem_singleton.mp h)) (push_keep _ _ _ _ e), .bool b⟩⟩)
theorem intTab_ok : ∀ e ∈ intTab, PySem.intText? ⟨e.1.toArray⟩ = some (e.2 : Int) ∧ e.1.length ≤ 3 := by decide +kernel
theorem intLook_mem {l : List Nat} {n : Nat} (t : List (List Nat × Nat)) (e : intLook l t = some n) : (l, n) ∈ t := by
  induction t with
  | nil => exact nn e
  | cons x r ih =>
    have e : (if leqN x.1 l then some x.2 else intLook l r) = some n := e
    rw [leqN_eq] at e
    by_cases h : x.1 = l
    · rw [decide_eq_true h, if_pos rfl] at e
      exact h ▸ Option.some.inj e ▸ List.mem_cons_self
    · rw [decide_eq_false h, if_neg Bool.false_ne_true] at e
      exact List.mem_cons_of_mem _ (ih e)
theorem int_sound (I : Inv C D X σ s) (x : VT C D X s.heap v pv) (e : bifV .int v = some z) : Gv C A D X W s z σ (call (.type "int") [pv]) :=
  wStr_c e fun l hv e => oI_c e fun _ e => o1_c e fun n hn e => (show VT C D X s.heap (.str l) pv from hv ▸ x).str_c fun y t el ha => by
    have hm := intTab_ok _ (intLook_mem _ hn)
    rw [← Option.some.inj e, ha, str_eta el]
    exact KIN.call_text hm.1 (by rw [len_of]; exact Nat.le_trans hm.2 (by decide)) (gi_toks I _ _ _)
end
end Mine
namespace Mine
section
variable {α : Type}
noncomputable def insG (lt : α → α → Bool) (x : α) : List α → List α
  | [] => [x]
  | y :: r => if lt y x then y :: insG lt x r else x :: y :: r
noncomputable def isortG (lt : α → α → Bool) : List α → List α
  | [] => []
  | x :: r => insG lt x (isortG lt r)
theorem insG_perm (lt : α → α → Bool) (x : α) : ∀ l, (insG lt x l).Perm (x :: l)
  | [] => .refl _
  | y :: r => by
    rw [insG]
    split
    · exact ((insG_perm lt x r).cons y).trans (.swap x y r)
    · exact .refl _
theorem isortG_perm (lt : α → α → Bool) : ∀ l, (isortG lt l).Perm l
  | [] => .refl _
  | x :: r => (insG_perm lt x _).trans ((isortG_perm lt r).cons x)
structure Ord (lt : α → α → Bool) : Prop where
  asym : ∀ a b, lt a b = true → lt b a = false
  trans : ∀ a b c, lt b a = false → lt c b = false → lt c a = false
  anti : ∀ a b, lt b a = false → lt a b = false → a = b
theorem insG_sorted {lt : α → α → Bool} (o : Ord lt) (x : α) : ∀ l, l.Pairwise (fun a b => lt b a = false) → (insG lt x l).Pairwise (fun a b => lt b a = false)
  | [], _ => by simp [insG]
  | y :: r, h => by
    rw [insG]
    rw [List.pairwise_cons] at h
    split
    · rename_i hy
      rw [List.pairwise_cons]
      refine ⟨fun z hz => ?_, insG_sorted o x r h.2⟩
      rcases List.mem_cons.mp ((insG_perm lt x r).mem_iff.mp hz) with rfl | hz
      · exact o.asym _ _ hy
      · exact h.1 z hz
    · rename_i hy
      rw [List.pairwise_cons]
      refine ⟨fun z hz => ?_, List.pairwise_cons.mpr h⟩
      rcases List.mem_cons.mp hz with rfl | hz
      · simpa using hy
      · exact o.trans _ _ _ (by simpa using hy) (h.1 z hz)
theorem isortG_sorted {lt : α → α → Bool} (o : Ord lt) : ∀ l, (isortG lt l).Pairwise (fun a b => lt b a = false)
  | [] => .nil
  | x :: r => insG_sorted o x _ (isortG_sorted o r)
theorem isortG_unique {lt : α → α → Bool} (o : Ord lt) {l l' : List α} (p : l'.Perm l) (s : l'.Pairwise (fun a b => lt b a = false)) : l' = isortG lt l :=
  List.Perm.eq_of_pairwise (le := fun a b => lt b a = false) (fun a b _ _ h1 h2 => o.anti a b h1 h2) s (isortG_sorted o l) (p.trans (isortG_perm lt l).symm)
theorem insG_map {f : α → V} {lt : α → α → Bool} (h : ∀ a b, ltV (f a) (f b) = lt a b) (x : α) : ∀ l : List α, insV (f x) (l.map f) = (insG lt x l).map f
  | [] => rfl
  | y :: r => by
    simp only [List.map_cons, insV, insG, h]
    split
    · rw [List.map_cons, insG_map h x r]
    · rfl
theorem isortG_map {f : α → V} {lt : α → α → Bool} (h : ∀ a b, ltV (f a) (f b) = lt a b) : ∀ l : List α, isortV (l.map f) = (isortG lt l).map f
  | [] => rfl
  | x :: r => by rw [List.map_cons, isortV, isortG_map h r, insG_map h, isortG]
end
noncomputable def ltI (a b : Int) : Bool := decide (a < b)
theorem ordI : Ord ltI := ⟨fun a b h => by simp [ltI] at *; omega, fun a b c h1 h2 => by simp [ltI] at *; omega, fun a b h1 h2 => by simp [ltI] at *; omega⟩
theorem ltN_eq : ∀ (x y : List Nat), ltN x y = Spec.ltCps x y
  | [], [] => rfl
  | [], _ :: _ => rfl
  | _ :: _, [] => rfl
  | a :: r, b :: t => by
    have hb : Nat.blt a b = decide (a < b) := by
      rw [Bool.eq_iff_iff]; simp [Nat.blt_eq]
    have he : Nat.beq a b = (a == b) := by
      rw [Bool.eq_iff_iff]; simp
    rw [ltN, Spec.ltCps, hb, he, ltN_eq r t]
    by_cases h : a < b
    · simp [h]
    · simp only [h, decide_false, Bool.false_eq_true, if_false, Bool.false_or]
      by_cases h2 : a = b
      · subst h2; simp
      · have : (a == b) = false := by simpa using h2
        simp [this]
theorem ltN_lt : ∀ (x y : List Nat), ltN x y = decide (x < y)
  | [], [] => by simp [ltN]
  | [], _ :: _ => by simp [ltN]
  | _ :: _, [] => by simp [ltN]
  | a :: r, b :: t => by
    have hb : Nat.blt a b = decide (a < b) := by
      rw [Bool.eq_iff_iff]; simp [Nat.blt_eq]
    have he : Nat.beq a b = decide (a = b) := by
      rw [Bool.eq_iff_iff]; simp
    rw [ltN, hb, he, ltN_lt r t]
    rw [Bool.eq_iff_iff, decide_eq_true_eq (p := a :: r < b :: t), List.cons_lt_cons_iff]
    by_cases h : a < b
    · simp [h]
    · by_cases h2 : a = b
      · subst h2; simp
      · simp [h, h2]
theorem ordN : Ord ltN := by
  refine ⟨fun a b h => ?_, fun a b c h1 h2 => ?_, fun a b h1 h2 => ?_⟩
  · simp only [ltN_lt, decide_eq_true_eq, decide_eq_false_iff_not] at *; exact List.lt_asymm h
  · simp only [ltN_lt, decide_eq_false_iff_not, List.not_lt] at *; exact List.le_trans h1 h2
  · simp only [ltN_lt, decide_eq_false_iff_not, List.not_lt] at *; exact List.le_antisymm h1 h2
theorem risingS_pair : ∀ (l : List Str) (x : Str), risingS x l = true → (x :: l).Pairwise (fun a b => ltN b.cps.toList a.cps.toList = false)
  | [], x, _ => by simp
  | y :: r, x, h => by
    simp only [risingS, Bool.and_eq_true, Bool.not_eq_true', ← ltN_eq] at h
    have ih := risingS_pair r y h.2
    rw [List.pairwise_cons]
    refine ⟨fun z hz => ?_, ih⟩
    rcases List.mem_cons.mp hz with rfl | hz
    · exact h.1
    · exact ordN.trans _ _ _ h.1 ((List.pairwise_cons.mp ih).1 z hz)
theorem sortedS_pair {l : List Str} (h : sortedS l = true) : l.Pairwise (fun a b => ltN b.cps.toList a.cps.toList = false) := by
  cases l with
  | nil => exact .nil
  | cons x r => exact risingS_pair r x h
end Mine
namespace Mine
section
variable {α : Type}
inductive OkT (n : Nat) (P : α → Prop) : KasT α → Prop
  | ret {a : α} (h : P a) : OkT n P (.ret a)
  | ask {i j : Nat} {k : Bool → KasT α} (hi : i < n) (hj : j < n) (h : ∀ b, OkT n P (k b)) : OkT n P (.ask i j k)
theorem OkT.bind {β : Type} {n : Nat} {P : α → Prop} {R : β → Prop} {f : α → KasT β} (hf : ∀ a, P a → OkT n R (f a)) {t : KasT α} (h : OkT n P t) : OkT n R (t.bind f) := by
  induction h with
  | ret h => exact hf _ h
  | ask hi hj _ ih => exact .ask hi hj ih
theorem kas_wp_run {n : Nat} {P : α → Prop} {cmp : Nat → Nat → (Bool → Shared → Prop) → Shared → Prop} {lt : Nat → Nat → Bool} {s : Shared}
    (hc : ∀ i j, i < n → j < n → ∀ C : Bool → Shared → Prop, C (lt i j) s → cmp i j C s) {t : KasT α} {Q : α → Shared → Prop} (h : OkT n P t) : (P (kasRun lt t) → Q (kasRun lt t) s) → t.kasWp cmp Q s := by
  induction h with
  | ret h => exact fun q => q h
  | ask hi hj _ ih => exact fun q => hc _ _ hi hj _ (ih _ q)
end
noncomputable def Lt (n : Nat) (p : Array Nat) : Prop := p.size = n ∧ ∀ x ∈ p, x < n
theorem Lt.perm {n : Nat} {p q : Array Nat} (h : Lt n p) (e : q.Perm p) : Lt n q := ⟨e.size_eq.trans h.1, fun x hx => h.2 x (e.mem_iff.mp hx)⟩
theorem Lt.at {n : Nat} {p : Array Nat} (h : Lt n p) (h0 : 0 < n) (k : Nat) : p.getD k 0 < n := by
  rw [Array.getD_eq_getD_getElem?]
  cases e : p[k]? with
  | none => exact h0
  | some x => exact h.2 x (Array.mem_of_getElem? e)
theorem Lt.rev {n : Nat} {p : Array Nat} (h : Lt n p) (i j : Nat) : Lt n (kas_rev p i j) := h.perm (mirror_perm ..)
theorem Lt.bub {n : Nat} {p : Array Nat} (h : Lt n p) (i j : Nat) : Lt n (bubble p i j) := h.perm (bubble_perm ..)
section
variable {n : Nat} {α : Type} {P : α → Prop}
theorem OkT.ite {c : Prop} [Decidable c] {x y : KasT α} (h1 : OkT n P x) (h2 : OkT n P y) : OkT n P (if c then x else y) := by
  by_cases h : c
  · rw [if_pos h]; exact h1
  · rw [if_neg h]; exact h2
variable (h0 : 0 < n)
include h0
theorem ok_asc {p : Array Nat} (h : Lt n p) (f : Nat) : ∀ (m : Nat), OkT n (fun _ => True) (kas_asc p f m) := by
  induction f with
  | zero => exact fun _ => .ret trivial
  | succ f ih => exact fun m => .ask (h.at h0 _) (h.at h0 _) fun c => .ite (.ret trivial) (ih _)
theorem ok_desc (f : Nat) : ∀ (p : Array Nat) (m q : Nat), Lt n p → OkT n (fun r => Lt n r.1) (kas_desc f p m q) := by
  induction f with
  | zero => exact fun _ _ _ h => .ret h
  | succ f ih => exact fun p m q h => .ask (h.at h0 _) (h.at h0 _) fun c => .ite (.ite (ih _ _ _ (h.rev _ _)) (ih _ _ _ h)) (.ask (h.at h0 _) (h.at h0 _) fun d => .ite (.ret h) (ih _ _ _ h))
theorem ok_tail3 {p : Array Nat} (h : Lt n p) (m r : Nat) : OkT n (fun r => Lt n r.2) (kas_tail3 m r p) := OkT.bind (R := fun r => Lt n r.2) (f := fun m' => KasT.ret (m', kas_rev p 0 m)) (fun _ _ => .ret (h.rev 0 m)) (ok_asc h0 (h.rev _ _) _ _)
theorem ok_descPart {p : Array Nat} (h : Lt n p) (m r : Nat) : OkT n (fun r => Lt n r.2) (kas_descPart m r p) :=
  OkT.bind (fun a ha => .ite (ok_tail3 h0 (ha.rev _ _) _ _) (ok_tail3 h0 ha _ _)) (ok_desc h0 _ _ _ _ h)
theorem ok_count {p : Array Nat} (h : Lt n p) (r : Nat) : OkT n (fun r => Lt n r.2) (kas_count r p) :=
  OkT.bind (R := fun r : Nat × Array Nat => Lt n r.2) (fun a _ => .ite (.ret h) (.ite (.ask (h.at h0 _) (h.at h0 _) fun c => .ite (.ret h) (ok_descPart h0 (h.rev _ _) _ _)) (ok_descPart h0 h _ _))) (ok_asc h0 h _ _)
theorem ok_place {p : Array Nat} (h : Lt n p) (k : Nat) (f : Nat) : ∀ (l r : Nat), OkT n (fun _ => True) (kas_place p k f l r) := by
  induction f with
  | zero => exact fun _ _ => .ret trivial
  | succ f ih => exact fun l r => .ite (.ret trivial) (.ask (h.at h0 _) (h.at h0 _) fun c => .ite (ih _ _) (ih _ _))
theorem ok_bin (f : Nat) : ∀ (p : Array Nat) (k : Nat), Lt n p → OkT n (Lt n) (kas_bin f p k) := by
  induction f with
  | zero => exact fun _ _ h => .ret h
  | succ f ih => exact fun p k h => OkT.bind (fun l _ => ih _ _ (h.bub _ _)) (ok_place h0 h k _ _ _)
theorem ok_sort : OkT n (Lt n) (kas_sort n) :=
  OkT.bind (fun r h => .ite (ok_bin h0 _ _ _ h) (.ret h)) (ok_count h0 ⟨by rw [List.size_toArray, List.length_range], fun x hx => List.mem_range.mp (List.mem_toArray.mp hx)⟩ n)
end
section
variable {prog : Program} {w : World} {A : Around} {E : Value → Shared → Prop} {s : Shared}
theorem sorted_few {l : Addr} {vs : List Value} {Q : Value → Shared → Prop} (hl : s.heap.IsList l vs.toArray) (h2 : vs.length < 2)
    (h : ∀ h' : Heap, (∀ b o, s.heap.get? b = some o → h'.get? b = some o) → (∃ e, h'.get? (s.heap.objs.size + 1) = some (seqObj "list" vs.toArray e)) → Q (.ref (s.heap.objs.size + 1)) { s with heap := h' }) :
    wpAny (model prog w) A (call (.builtin "sorted") [.ref l]) Q E s := by
  refine Calls.call_function_entry kind_sorted plain_sorted entry_sorted (args_sorted1 _) ?_
  unfold Builtin.«sorted»
  refine wpAny_bind (m := checkCount "sorted" 1 1 _) (wpAny_pure ?_)
  refine wpAny_bind (collect_list hl ?_ (by rw [sizeLine_eq]; omega))
  refine wpAny_bind (wpAny_newList ?_ (by rw [sizeLine_eq]; omega))
  have hsz : ((s.heap.push (seqObj "list" #[] 0)).update s.heap.objs.size (Obj.mapSeq (· ++ vs.toArray))).objs.size = s.heap.objs.size + 1 := by
    rw [Heap.size_update, size_push']
  have hoL : (((s.heap.push (seqObj "list" #[] 0)).update s.heap.objs.size (Obj.mapSeq (· ++ vs.toArray))).push (seqObj "list" vs.toArray 0)).get? (s.heap.objs.size + 1) = some (seqObj "list" vs.toArray 0) := by
    rw [← hsz]; exact Heap.get?_push_size _ rfl
  have old : ∀ b o, s.heap.get? b = some o → (sortedAll s.heap vs vs.toArray).get? b = some o := fun b o e => sortedAll_old e
  have new := sortedAll_at s.heap vs vs.toArray
  show wpAny _ _ _ _ _ { s with heap := ((s.heap.push (seqObj "list" #[] 0)).update s.heap.objs.size (Obj.mapSeq (· ++ vs.toArray))).push (seqObj "list" vs.toArray 0) }
  rw [hsz]
  unfold sortedAll at old new
  generalize ((s.heap.push (seqObj "list" #[] 0)).update s.heap.objs.size (Obj.mapSeq (· ++ vs.toArray))).push (seqObj "list" vs.toArray 0) = g at *
  refine wpAny_bind (wpAny_holding (wpAny_call_entry slot_list_sort ⟨_, hoL, rfl⟩ entry_list_sort ?_ (args_list_sort _)))
  rw [list_sort_plain]
  have ha := Heap.lt_size hoL
  refine wpAny_bind (listItems_at hoL rfl ?_)
  refine wpAny_bind (listUpdate_at hoL rfl ?_ (by rw [List.size_toArray, sizeLine_eq]; omega) (Nat.zero_le _))
  obtain ⟨e1, ho1⟩ : ∃ e1, (g.update (s.heap.objs.size + 1) (Obj.mapSeq fun _ => (#[] : Array Value))).get? (s.heap.objs.size + 1) = some (seqObj "list" #[] e1) := ⟨_, get?_update_seq hoL (fun _ => #[])⟩
  refine wpAny_bind (seqEpoch_at ho1 rfl ?_)
  refine wpAny_bind (wpAny_newTuple ?_ (by show vs.length ≤ _; rw [sizeLine_eq]; omega))
  refine wpAny_bind (wpAny_newList ?_ (Nat.zero_le _))
  refine wpAny_holding ?_
  have ho6 : (((g.update (s.heap.objs.size + 1) (Obj.mapSeq fun _ => (#[] : Array Value))).push (seqObj "tuple" vs.toArray 0)).push (seqObj "list" #[] 0)).get? (s.heap.objs.size + 1) = some (seqObj "list" #[] e1) :=
    Heap.get?_push_of_some _ (Heap.get?_push_of_some _ ho1)
  show wpAny (model prog w) _ _ _ _ { s with heap := ((g.update (s.heap.objs.size + 1) (Obj.mapSeq fun _ => (#[] : Array Value))).push (seqObj "tuple" vs.toArray 0)).push (seqObj "list" #[] 0) }
  dsimp only
  have hn : vs.toArray.size < 2 := by rw [List.size_toArray]; exact h2
  rw [if_pos hn, if_pos hn]
  refine wpAny_bind (wpAny_pure ?_)
  rw [StateT.run_pure]
  refine wpAny_bind (wpAny_pure ?_)
  dsimp only
  have hz : (arrOf (SortSt.mk' general' (vs.toArray.zip vs.toArray) #[] 7 none)).map (·.2) = vs.toArray := by
    show (vs.toArray.zip vs.toArray).map (·.2) = vs.toArray
    apply Array.toList_inj.mp
    rw [Array.toList_map, Array.toList_zip]
    exact List.map_snd_zip (Nat.le_refl _)
  rw [hz]
  refine wpAny_bind (seqEpoch_at ho6 rfl ?_)
  refine wpAny_bind (listUpdate_at ho6 rfl ?_ (Nat.zero_le _) (by rw [List.size_toArray, sizeLine_eq]; omega))
  simp only [bne_self_eq_false, Bool.false_eq_true, if_false]
  refine wpAny_pure ⟨_, rfl, wpAny_pure ⟨_, rfl, ?_⟩⟩
  exact h _ old new
end
theorem Inv.change {C : Cfg} {D : List FR} {X W : Addr → Prop} {σ : Nums} {s s' : Shared} (I : Inv C D X σ s) (hw : ∀ b, W b → X b) (k : ∀ a o, s.heap.get? a = some o → ¬ W a → s'.heap.get? a = some o)
    (al : ∀ a, W a → ∀ o, s.heap.get? a = some o → ∃ o', s'.heap.get? a = some o') : Inv C D X σ s' ∧ Ext W D s.heap D s'.heap := by
  have alive : ∀ a o, s.heap.get? a = some o → ∃ o', s'.heap.get? a = some o' := fun a o e => (Classical.em (W a)).elim (fun h => al a h o e) fun h => ⟨o, k a o e h⟩
  have x : Ext W D s.heap D s'.heap := ⟨alive, ⟨[], (List.append_nil _).symm, fun _ h => nomatch h⟩, fun a o e _ h => k a o e h⟩
  exact ⟨⟨fun b o e => k _ _ (I.base b o e) fun h => not_none e (I.Xlo b (hw b h)), I.len, fun l r e => (I.form l r e).mono (x.mono I.fat (fun b h => .inl (hw b h)) fun _ h => .inl h) e (fun o g => k _ _ g fun h => (I.form l r e).okA.1 (hw _ h)) (fun o g => k _ _ g fun h => I.dxX r (List.mem_of_getElem? e) (hw _ h)) fun _ h => h,
    I.dxX, I.dxlo, I.apart, fun a ha => (I.Xlt a ha).elim fun o e => alive a o e, I.Xlo⟩, x⟩
theorem Ns.uniq {h : Heap} {a : Addr} {m m' : Str → Option Value} (x : h.Ns a m) (y : h.Ns a m') : m = m' :=
  x.elim fun o x => x.elim fun es x => x.elim fun ep x => y.elim fun o' y => y.elim fun es' y => y.elim fun ep' y => by
    have e1 : o = o' := Option.some.inj (x.1.symm.trans y.1)
    have e2 := (x.2.1.symm.trans (e1 ▸ y.2.1) : Data.dict es ep = Data.dict es' ep')
    injection e2 with e2
    exact funext fun k => (x.2.2.2 k).symm.trans (e2 ▸ y.2.2.2 k)
section
variable {C : Cfg} {A : Around} {D : List FR} {X : Addr → Prop} {σ : Nums} {s : Shared} {h : Heap} {G : Prop} {vs : List V} {ps : List Value}
theorem isIntV_c {v : V} (e : isIntV v = true) (g : ∀ i, v = .int i → G) : G := by
  cases v with
  | int i => exact g i rfl
  | _ => exact ff e
theorem isStrV_c {v : V} (e : isStrV v = true) (g : ∀ l, v = .str l → G) : G := by
  cases v with
  | str i => exact g i rfl
  | _ => exact ff e
theorem intsAre_of (x : VRs C D X h vs ps) (e : vs.all isIntV = true) : ∃ ns : List Int, vs = ns.map .int ∧ IntsAre ps ns :=
  x.ind (M := fun vs ps => vs.all isIntV = true → ∃ ns : List Int, vs = ns.map .int ∧ IntsAre ps ns) (fun _ => ⟨[], rfl, .nil⟩)
    (fun v p vs ps a _ _ ih e => isIntV_c (bL e) fun i hi => (show VT C D X h (.int i) p from hi ▸ a).int_c fun t ht => (ih (bR e)).elim fun ns hn => ⟨i :: ns, hi ▸ hn.1 ▸ rfl, ht ▸ .cons i t hn.2⟩) e
theorem strsAre_of (x : VRs C D X h vs ps) (e : vs.all isStrV = true) : ∃ ns : List Str, vs = ns.map (fun x => .str x.cps.toList) ∧ StrsAre ps ns :=
  x.ind (M := fun vs ps => vs.all isStrV = true → ∃ ns : List Str, vs = ns.map (fun x => .str x.cps.toList) ∧ StrsAre ps ns) (fun _ => ⟨[], rfl, .nil⟩)
    (fun v p vs ps a _ _ ih e => isStrV_c (bL e) fun l hl => (show VT C D X h (.str l) p from hl ▸ a).str_c fun y t el ht => (ih (bR e)).elim fun ns hn => ⟨y :: ns, hl ▸ el ▸ hn.1 ▸ rfl, ht ▸ .cons y t hn.2⟩) e
theorem of_ints {ns : List Int} (x : IntsAre ps ns) : VRs C D X h (ns.map .int) ps := by
  induction x with
  | nil => exact .nil
  | cons n t _ ih => exact .cons (.int n t) .int ih
theorem of_strs {ns : List Str} (x : StrsAre ps ns) : VRs C D X h (ns.map (fun x => .str x.cps.toList)) ps := by
  induction x with
  | nil => exact .nil
  | cons n t _ ih => exact .cons (.str t rfl) .str ih
theorem isort_ints (ns ns' : List Int) (p : ns'.Perm ns) (q : ns'.Pairwise (· ≤ ·)) : isortV (ns.map .int) = ns'.map .int :=
  (isortG_map (f := V.int) (lt := ltI) (fun _ _ => rfl) ns).trans (congrArg (List.map V.int) (isortG_unique ordI p (q.imp fun h => decide_eq_false (Int.not_lt.mpr h))).symm)
noncomputable def ltS (a b : Str) : Bool := ltN a.cps.toList b.cps.toList
theorem ordS : Ord ltS := ⟨fun a b h => ordN.asym _ _ h, fun a b c h1 h2 => ordN.trans _ _ _ h1 h2, fun a b h1 h2 => (str_eta (ordN.anti _ _ h1 h2)).trans (str_eta rfl).symm⟩
theorem isort_strs (ns ns' : List Str) (p : ns'.Perm ns) (q : sortedS ns' = true) : isortV (ns.map fun x => .str x.cps.toList) = ns'.map fun x => .str x.cps.toList :=
  (isortG_map (f := fun x : Str => V.str x.cps.toList) (lt := ltS) (fun _ _ => rfl) ns).trans (congrArg (List.map fun x : Str => V.str x.cps.toList) (isortG_unique ordS p (sortedS_pair q)).symm)
inductive Trip (h : Heap) (v : V) (p : Value) : Prop
  | mk (a b c : Int) (t1 t2 t3 : Tok) (x : Addr) (o : Obj) (n : Nat) (hv : v = .tuple [.int a, .int b, .int c]) (hp : p = .ref x) (ho : h.get? x = some o) (hc : o.cls = .type "tuple") (hd : o.data = .seq #[.int a t1, .int b t2, .int c t3] n)
theorem trip_of {v : V} {p : Value} (x : VT C D X h v p) (e : isTup3 v = true) : Trip h v p := by
  cases v with
  | tuple vs =>
    exact on3_c (F := fun a b c => isI a && isI b && isI c) (show on3 vs _ = true from e) fun u1 u2 u3 hvs e => b3 e fun x1 x2 x3 => isI_c x1 fun a ha => isI_c x2 fun b hb => isI_c x3 fun c hc =>
      have hv : vs = [.int a, .int b, .int c] := hvs.trans (ha ▸ hb ▸ hc ▸ rfl)
      x.tuple_c fun ad it hp el r => (show VRs C D X h [.int a, .int b, .int c] it.toList from hv ▸ r).cons_c fun p1 r1 e1 y1 _ r => r.cons_c fun p2 r2 e2 y2 _ r => r.cons_c fun p3 r3 e3 y3 _ r => y1.int_c fun t1 g1 => y2.int_c fun t2 g2 => y3.int_c fun t3 g3 =>
        have hit : it = #[.int a t1, .int b t2, .int c t3] := congrArg Array.mk (e1.trans (g1 ▸ e2 ▸ g2 ▸ e3 ▸ g3 ▸ r.nil_c ▸ rfl))
        el.elim fun o el => el.2.2.elim fun n h3 => ⟨a, b, c, t1, t2, t3, ad, o, n, congrArg V.tuple hv, hp, el.1, el.2.1, hit ▸ h3⟩
  | _ => exact ff e
variable {prog : Program} {w : World}
theorem trip_lt {u v : V} {p q : Value} {Q : Bool → Shared → Prop} (x : Trip s.heap u p) (y : Trip s.heap v q) (hQ : Q (ltV u v) s) :
    wpAny (model prog w) A (keyLt' (tuples' true) p q) Q (fun _ _ => False) s := by
  cases x with
  | mk a b c t1 t2 t3 x o n hu hp h1 h2 h3 => cases y with
    | mk d e f u1 u2 u3 y o' n' hv hq g1 g2 g3 =>
      rw [hu, hv] at hQ
      rw [hp, hq]
      have hQ : Q (if a == d then (if b == e then decide (c < f) else decide (b < e)) else decide (a < d)) s := hQ
      refine kat_lt h1 h3 g1 g3 (kat_cons (wpAny_eqBool_int (kat_go (fun h => ?_) fun h => kat_no (oneLt_int (by rw [h] at hQ; exact hQ)))))
      rw [h] at hQ
      refine kat_yes (kat_cons (wpAny_eqBool_int (kat_go (fun h => ?_) fun h => kat_no (kat_one _ _ (lt_int (by rw [h] at hQ; exact hQ))))))
      rw [h] at hQ
      refine kat_yes (kat_cons (wpAny_eqBool_int (kat_go (fun h => kat_yes ?_) fun h => kat_no (kat_one _ _ (lt_int hQ)))))
      rw [if_pos rfl, if_pos rfl, decide_eq_false (fun hl => Int.ne_of_lt hl (eq_of_beq h))] at hQ
      exact hQ
inductive Firsts (h : Heap) (ps : List Value) : Prop
  | mk (fs : List Value) (l : fs.length = ps.length) (k : KatTups h ps fs) (i : ∀ f ∈ fs, ∃ i t, f = .int i t)
theorem trips_first (vs : List V) : ∀ {ps : List Value}, vs.length = ps.length → (∀ i, i < vs.length → Trip h (vs.getD i .none) (ps.getD i .none)) → Firsts h ps := by
  induction vs with
  | nil => exact fun {ps} e _ => List.eq_nil_of_length_eq_zero e.symm ▸ ⟨[], rfl, .nil, fun _ h => nomatch h⟩
  | cons v vs ih =>
    intro ps e r
    cases ps with
    | nil => exact nomatch e
    | cons p ps =>
      cases ih (Nat.succ.inj e) fun i hi => r (i + 1) (Nat.succ_lt_succ hi) with
      | mk fs l k i => cases r 0 (Nat.succ_pos _) with
        | mk a b c t1 t2 t3 x o n _ hp ho hc hd => exact (show p = .ref x from hp) ▸ ⟨.int a t1 :: fs, congrArg (· + 1) l, .cons ho hc hd rfl k, fun f hf => (List.mem_cons.mp hf).elim (fun e => ⟨_, _, e⟩) (i f)⟩
noncomputable def newsOf (h : Heap) (L : Addr) : List (Addr × Obj) := (List.range h.objs.size).filterMap fun b => if b = L then none else (h.get? b).map fun o => (b, o)
theorem newsOf_in {L b : Addr} {o : Obj} (e : h.get? b = some o) (hb : b ≠ L) : (b, o) ∈ newsOf h L := List.mem_filterMap.mpr ⟨b, List.mem_range.mpr (Heap.lt_size e), by rw [if_neg hb, e]; rfl⟩
theorem newsOf_news {L : Addr} : News ⟨#[], {}⟩ L h (newsOf h L) := fun p hp => (List.mem_filterMap.mp hp).elim fun b hb => by
  by_cases e : b = L
  · rw [if_pos e] at hb; exact nn hb.2
  · rw [if_neg e] at hb
    exact (Option.map_eq_some_iff.mp hb.2).elim fun o ho => ho.2 ▸ ⟨ho.1, e, rfl⟩
theorem getD_of {α : Type} {l : List α} {i : Nat} {a d : α} (e : l[i]? = some a) : l.getD i d = a := (List.getD_eq_getElem?_getD ..).trans (e ▸ rfl)
theorem VRs.getD (r : VRs C D X h vs ps) {i : Nat} (hi : i < vs.length) : VR C D X h (vs.getD i .none) (ps.getD i .none) :=
  (r.get' (List.getElem?_eq_getElem hi)).elim fun p hp => by rw [getD_of hp.1, getD_of (List.getElem?_eq_getElem hi)]; exact hp.2
theorem trips_of (r : VRs C D X h vs ps) (hk : vs.all isTup3 = true) {i : Nat} (hi : i < vs.length) : Trip h (vs.getD i .none) (ps.getD i .none) :=
  trip_of (r.getD hi).1 (List.all_eq_true.mp hk _ (getD_of (d := V.none) (List.getElem?_eq_getElem hi) ▸ List.getElem_mem hi))
theorem Trip.mono {h' : Heap} {v : V} {p : Value} (x : Trip h v p) (k : ∀ a o, h.get? a = some o → o.cls = .type "tuple" → (∃ xs n, o.data = .seq xs n) → h'.get? a = some o) : Trip h' v p := by
  cases x with
  | mk a b c t1 t2 t3 x o n hv hp ho hc hd => exact ⟨a, b, c, t1, t2, t3, x, o, n, hv, hp, k _ _ ho hc ⟨_, _, hd⟩, hc, hd⟩
variable {L a : Addr} {m : Str → Option Value} {items : Array Value}
theorem sort_many (I : Inv C D X σ s) (hL : s.heap.Ns L m) (hX : X L) (el : s.heap.IsList a items) (r : VRs C D X s.heap vs items.toList) (h64 : vs.length < 64) (h2 : 2 ≤ vs.length) (hk : vs.all isTup3 = true) :
    Gv C A D X (· = L) s (.list ((kasRun (fun i j => ltV (vs.getD i .none) (vs.getD j .none)) (kas_sort vs.length)).toList.map fun i => vs.getD i .none)) σ (call (.builtin "sorted") [.ref a]) := by
  have hl : items.toList.length = vs.length := r.length.symm
  have F : Fr ⟨#[], {}⟩ L s.heap m := ⟨hL, fun b o e => nn e, Nat.zero_le _⟩
  have nd : ∀ a o, s.heap.get? a = some o → (∃ xs n, o.data = .seq xs n) → a ≠ L := fun a o e hd ha => hL.elim fun o' x => x.elim fun es x => x.elim fun ep x => hd.elim fun xs hd => hd.elim fun n hd => by
    have e1 : o = o' := Option.some.inj (e.symm.trans (ha ▸ x.1))
    exact nomatch hd.symm.trans ((congrArg Obj.data e1).trans x.2.1)
  refine kat_sorted (vs := items.toList) F newsOf_news el (hl ▸ h2) (hl ▸ h64) fun D' e1 h' F' N' hD => ?_
  have T : ∀ i, i < vs.length → Trip h' (vs.getD i .none) (items.toList.getD i .none) := fun i hi => (trips_of r hk hi).mono fun b o e _ hd => (N' (b, o) (List.mem_cons_of_mem _ (newsOf_in e (nd b o e hd)))).1
  cases trips_first vs hl.symm T with
  | mk fs f1 f2 f3 =>
    refine kat_kind f2 (f1 ▸ hl ▸ Nat.le_trans (by decide) h2) (T := .type "int") (fun f hf => (f3 f hf).elim fun i e => e.elim fun t e => e ▸ Looks.of_pure rfl) rfl ?_
    rw [hl]
    refine kas_wp_run (n := vs.length) (P := Lt vs.length) (lt := fun i j => ltV (vs.getD i .none) (vs.getD j .none)) (fun i j hi hj C' hC => trip_lt (T i hi) (T j hj) hC) (ok_sort (Nat.le_trans (by decide) h2)) fun ok => ?_
    refine KasFin.intro F' N' (.head fun p hp => Nat.ne_of_lt (hD p hp)) fun h2 c F2 N2 => ?_
    have k2 : ∀ b o, s.heap.get? b = some o → b ≠ L → h2.get? b = some o := fun b o e hb => (N2 (b, o) (List.mem_cons_of_mem _ (newsOf_in e hb))).1
    have hDn : s.heap.get? D' = none := by
      cases q : s.heap.get? D' with
      | none => rfl
      | some o => exact absurd rfl (Nat.ne_of_lt (hD (D', o) (newsOf_in q (N2 _ List.mem_cons_self).2.1)))
    have J := I.change (W := (· = L)) (s' := { s with heap := h2 }) (fun b hb => hb ▸ hX) k2 (fun b hb o e => hb ▸ F2.ns.elim fun o e => e.elim fun _ e => e.elim fun _ e => ⟨o, e.1⟩)
    have q := r.mono (J.2.mono (X := X) (X' := X) I.fat (fun b hb => .inl (hb ▸ hX)) (fun _ h => .inl h))
    refine ⟨D, ⟨⟨h2, s.toks, rfl⟩, J.2, fun b hb m' hm => hb ▸ Ns.uniq (hb ▸ hm) hL ▸ F2.ns, J.1⟩, .list ⟨_, (N2 _ List.mem_cons_self).1, rfl, _, rfl⟩ ?_, .ref (fresh_ok I hDn)⟩
    rw [List.toList_toArray]
    have hlt := ok.2
    generalize kasRun _ (kas_sort vs.length) = p at hlt ⊢
    have key : ∀ l : List Nat, (∀ x ∈ l, x < vs.length) → VRs C D X h2 (l.map fun i => vs.getD i .none) (l.map fun i => items.toList.getD i .none) := by
      intro l
      induction l with
      | nil => exact fun _ => .nil
      | cons x l ih => exact fun hx => .con (q.getD (hx x List.mem_cons_self)) (ih fun y hy => hx y (List.mem_cons_of_mem _ hy))
    exact key p.toList fun x hx => hlt x (Array.mem_toList_iff.mp hx)
theorem iC {α : Type} {b : Bool} {x y z : α} (h : (if b then x else y) = z) (k : b = true → x = z → G) (l : b = false → y = z → G) : G := by
  cases b
  · exact l rfl h
  · exact k rfl h
theorem sorted_sound (I : Inv C D X σ s) (hL : s.heap.Ns L m) (hX : X L) {v z : V} {pv : Value} (x : VT C D X s.heap v pv) (e : bifV .sorted v = some z) : Gv C A D X (· = L) s z σ (call (.builtin "sorted") [pv]) :=
  wList_c e fun vs hv e => o1_c e fun us e hz => (show VT C D X s.heap (.list vs) pv from hv ▸ x).list_c fun a items ha el r => by
    rw [← Option.some.inj hz, ha]
    have hfr : s.heap.get? (s.heap.objs.size + 1) = none := Heap.get?_none_of_le (Nat.le_succ _)
    have hl : items.toList.length = vs.length := r.length.symm
    refine iC e (fun h64 e => ?_) fun _ e => nn e
    have h64 := Nat.blt_eq.mp h64
    refine iC e (fun hk e => ?_) fun _ e => iC e (fun hk e => Option.some.inj e ▸ ?_) fun _ e => nn e
    · rw [← Option.some.inj e]
      exact (Bool.or_eq_true_iff.mp hk).elim (fun hk => (intsAre_of r hk).elim fun ns hn => sorted_ints (vs := items.toList) el hn.2 (hl ▸ h64) fun out ns' i1 i2 i3 => by
          rw [hn.1, isort_ints ns ns' i2 i3]
          exact (sortedAll_at s.heap items.toList out).elim fun e he => fresh_list I (items := out) (of_ints i1) s.toks _ hfr (fun _ _ e => sortedAll_old e) ⟨_, he, rfl, _, rfl⟩)
        fun hk => (strsAre_of r hk).elim fun ns hn => sorted_strs (vs := items.toList) el hn.2 (hl ▸ h64) fun out ns' i1 i2 i3 => by
          rw [hn.1, isort_strs ns ns' i2 i3]
          exact (sortedAll_at s.heap items.toList out).elim fun e he => fresh_list I (items := out) (of_strs i1) s.toks _ hfr (fun _ _ e => sortedAll_old e) ⟨_, he, rfl, _, rfl⟩
    · by_cases h2 : vs.length < 2
      · rw [sortL, if_pos (Nat.blt_eq.mpr h2)]
        exact sorted_few (vs := items.toList) el (hl ▸ h2) fun h' k he => he.elim fun e he => fresh_list I (items := items) r s.toks _ hfr k ⟨_, he, rfl, _, rfl⟩
      · rw [sortL, if_neg (fun h => h2 (Nat.blt_eq.mp h))]
        exact sort_many I hL hX el r h64 (Nat.not_lt.mp h2) hk
end
end Mine
namespace Mine
theorem clip (k n : Nat) : max 0 (min (if (k : Int) < 0 then (k : Int) + n else k) n) = ((min k n : Nat) : Int) := by
  rw [if_neg (Int.not_lt.mpr (Int.natCast_nonneg k)), Int.max_eq_right (Int.le_min.mpr ⟨Int.natCast_nonneg k, Int.natCast_nonneg n⟩)]
  omega
theorem sidx (a b n : Nat) : Builtin.Str.strSliceIndices (some (a : Int)) (some (b : Int)) 1 n = sliceRange ((min a n : Nat) : Int) ((min b n : Nat) : Int) 1 := congr (congrArg (fun x y => sliceRange x y 1) (clip a n)) (clip b n)
theorem sidx_to (b n : Nat) : Builtin.Str.strSliceIndices none (some (b : Int)) 1 n = sliceRange ((0 : Nat) : Int) ((min b n : Nat) : Int) 1 := congrArg (fun y => sliceRange ((0 : Nat) : Int) y 1) (clip b n)
theorem sidx_from (a n : Nat) : Builtin.Str.strSliceIndices (some (a : Int)) none 1 n = sliceRange ((min a n : Nat) : Int) (n : Int) 1 := congrArg (fun y => sliceRange y (n : Int) 1) (clip a n)
theorem slice_same {x : Str} {a b c d : Option Int} (e : Builtin.Str.strSliceIndices a b 1 x.length = Builtin.Str.strSliceIndices c d 1 x.length) : Txt.slice x a b = Txt.slice x c d := by
  unfold Txt.slice
  rw [e]
theorem slice_to (l : List Nat) (k : Nat) : Txt.slice ⟨l.toArray⟩ none (some (k : Int)) = ⟨(l.take k).toArray⟩ :=
  (slice_same ((sidx_to ..).trans (by rw [sidx 0, Nat.zero_min, Nat.min_eq_left (Nat.min_le_right ..)]))).trans ((StrLaws.sliceText_nat ⟨l.toArray⟩ (a := 0) (b := min k (⟨l.toArray⟩ : Str).length) (Nat.zero_le _) (Nat.min_le_right ..)).trans
    (congrArg (fun l : List Nat => (⟨l.toArray⟩ : Str)) (List.take_eq_take_iff.mpr (Nat.min_eq_left (Nat.min_le_right ..)))))
theorem slice_from (l : List Nat) (k : Nat) : Txt.slice ⟨l.toArray⟩ (some (k : Int)) none = ⟨(l.drop k).toArray⟩ :=
  (slice_same ((sidx_from ..).trans (by rw [sidx _ (⟨l.toArray⟩ : Str).length, Nat.min_eq_left (Nat.min_le_right ..), Nat.min_self]))).trans ((StrLaws.sliceText_nat ⟨l.toArray⟩ (a := min k (⟨l.toArray⟩ : Str).length) (b := (⟨l.toArray⟩ : Str).length) (Nat.min_le_right ..) (Nat.le_refl _)).trans
    (congrArg (fun l : List Nat => (⟨l.toArray⟩ : Str)) ((List.take_of_length_le (Nat.le_of_eq (List.length_drop ..))).trans (List.drop_eq_drop_iff.mpr (Nat.min_eq_left (Nat.min_le_right ..))))))
theorem any_beq (y : List Nat) (a : Nat) : (y.any (Nat.beq a)) = y.contains a := by
  induction y with
  | nil => rfl
  | cons b r ih => rw [List.any_cons, List.contains_cons, ih, beq_dec]; rfl
theorem lstripGo_eq (y l : List Nat) : lstripGo y l = l.drop (l.takeWhile (fun c => y.toArray.contains c)).length := by
  induction l with
  | nil => rfl
  | cons a r ih =>
    show (if y.any (Nat.beq a) then lstripGo y r else a :: r) = _
    rw [any_beq, List.takeWhile_cons, List.contains_toArray]
    cases y.contains a
    · rfl
    · exact ih
theorem lstrip_eq (l y : List Nat) : Txt.lstripChars ⟨l.toArray⟩ ⟨y.toArray⟩ = ⟨(lstripGo y l).toArray⟩ := by
  unfold Txt.lstripChars
  rw [PyProof.Rows.stripBy_eq, lstripGo_eq]
  apply Str.ext'
  apply Array.toList_inj.mp
  rw [StrLaws.strSub_toList]
  unfold stripHi stripLo
  rw [if_pos rfl, if_neg Bool.false_ne_true, len_of]
  exact List.take_of_length_le (Nat.le_of_eq (List.length_drop ..))
theorem splitGo_ne (c : Nat) {x : Nat} {r acc rest : List Nat} (h : c ∉ x :: r) : splitGo c acc (x :: rest) = splitGo c (x :: acc) rest := by
  show (if Nat.beq x c then _ else _) = _
  rw [beq_dec, decide_eq_false fun e : x = c => h (e ▸ List.mem_cons_self)]
  rfl
theorem splitGo_free (c : Nat) (a : List Nat) : ∀ acc, c ∉ a → splitGo c acc a = [acc.reverse ++ a] := by
  induction a with
  | nil => exact fun acc _ => congrArg (· :: []) (List.append_nil _).symm
  | cons x r ih => exact fun acc h => (splitGo_ne c h).trans ((ih _ fun m => h (List.mem_cons_of_mem _ m)).trans (by rw [List.reverse_cons, List.append_assoc]; rfl))
theorem splitGo_cut (c : Nat) (rest : List Nat) (a : List Nat) : ∀ acc, c ∉ a → splitGo c acc (a ++ c :: rest) = (acc.reverse ++ a) :: splitGo c [] rest := by
  induction a with
  | nil =>
    intro acc _
    show (if Nat.beq c c then _ else _) = _
    rw [Nat.beq_refl, List.append_nil]
    rfl
  | cons x r ih => exact fun acc h => (splitGo_ne c h).trans ((ih _ fun m => h (List.mem_cons_of_mem _ m)).trans (by rw [List.reverse_cons, List.append_assoc]; rfl))
theorem splitGo_join (c : Nat) (p : Str) (ps : List Str) : (∀ q ∈ p :: ps, c ∉ q.cps.toList) → splitGo c [] (Str.join ⟨#[c]⟩ (p :: ps)).cps.toList = (p :: ps).map (·.cps.toList) := by
  induction ps generalizing p with
  | nil => exact fun h => splitGo_free c _ _ (h p List.mem_cons_self)
  | cons q r ih =>
    intro h
    have e : (Str.join ⟨#[c]⟩ (p :: q :: r)).cps.toList = p.cps.toList ++ c :: (Str.join ⟨#[c]⟩ (q :: r)).cps.toList := by
      show (p ++ ⟨#[c]⟩ ++ Str.join ⟨#[c]⟩ (q :: r)).cps.toList = _
      rw [Str.cps_append, Str.cps_append, Array.toList_append, Array.toList_append, List.append_assoc]
      rfl
    rw [e, splitGo_cut c _ _ _ (h p List.mem_cons_self), ih q fun x hx => h x (List.mem_cons_of_mem _ hx)]
    rfl
theorem split_ne (x y : Str) : Txt.split x y ≠ [] := by
  unfold Txt.split
  split
  · exact List.cons_ne_nil _ _
  · split
    · exact List.cons_ne_nil _ _
    · rw [StrLaws.partsBetween_eq]
      cases (Builtin.Str.occurrences x y 0 x.length (x.length + 1)) <;> exact List.cons_ne_nil _ _
theorem split_eq (l : List Nat) (c : Nat) : (Txt.split ⟨l.toArray⟩ ⟨#[c]⟩).map (·.cps.toList) = splitGo c [] l := by
  have h := StrLaws.split_free ⟨l.toArray⟩ c
  have j := StrLaws.join_split ⟨l.toArray⟩ ⟨#[c]⟩
  cases e : Txt.split ⟨l.toArray⟩ ⟨#[c]⟩ with
  | nil => exact (split_ne _ _ e).elim
  | cons p ps =>
    rw [e] at h j
    rw [← splitGo_join c p ps h, j]
theorem parts_small (x y : Str) (h : x.length ≤ 1000) : (Builtin.Str.partsBetween x (Builtin.Str.occurrences x y 0 x.length (x.length + 1)) y.length).length ≤ sizeLine := by
  have := StrLaws.occ_length_le x y 0 x.length (x.length + 1)
  unfold Builtin.Str.partsBetween
  rw [sizeLine_eq]
  simp only [List.length_map, List.length_zip, List.length_cons, List.length_append, List.length_nil]
  omega
end Mine
namespace Mine
section
variable {C : Cfg} {A : Around} {D : List FR} {X W : Addr → Prop} {σ : Nums} {s : Shared} {h : Heap} {G : Prop} {u v z : V} {pu pv : Value}
theorem isIntV_abs {i : Int} (h : isIntV (.int i) = true) : -1000000 ≤ i ∧ i ≤ 1000000 := ⟨of_decide_eq_true (bL h), of_decide_eq_true (bR h)⟩
theorem VRs.append {vs us : List V} {ps qs : List Value} (x : VRs C D X h vs ps) (y : VRs C D X h us qs) : VRs C D X h (vs ++ us) (ps ++ qs) := x.ind (M := fun vs ps => VRs C D X h (vs ++ us) (ps ++ qs)) y fun _ _ _ _ a k _ ih => .cons a k ih
theorem ii_c {F : Int → Int → Option V} (e : (wInt u fun i => wInt v fun j => F i j) = some z) (hu : VT C D X h u pu) (hv : VT C D X h v pv) (g : ∀ i j t t', pu = .int i t → pv = .int j t' → F i j = some z → G) : G :=
  wInt_c e fun i hi e => wInt_c e fun j hj e => (show VT C D X h (.int i) pu from hi ▸ hu).int_c fun t ht => (show VT C D X h (.int j) pv from hj ▸ hv).int_c fun t' ht' => g i j t t' ht ht' e
theorem addV_c (e : addV u v = some z) (gI : (wInt u fun i => wInt v fun j => some (.int (i + j))) = some z → G) (gS : ∀ x y, u = .str x → v = .str y → okStr x = true → okStr y = true → z = .str (x ++ y) → G) (gL : ∀ x y, u = .list x → v = .list y → small x = true → small y = true → z = .list (x ++ y) → G) : G := by
  cases u with
  | int i => exact gI e
  | str x => exact wStr_c e fun y hy e => oI_c e fun h e => gS x y rfl hy (bL h) (bR h) (Option.some.inj e).symm
  | list x => exact wList_c e fun y hy e => oI_c e fun h e => gL x y rfl hy (bL h) (bR h) (Option.some.inj e).symm
  | _ => exact nn e
theorem list_eta {a : Addr} {o : Obj} {it : Array Value} {n : Nat} (ho : h.get? a = some o) (hc : o.cls = .type "list") (hd : o.data = .seq it n) : h.get? a = some { cls := .type "list", dict := o.dict, data := .seq it n, slots := o.slots } := by
  cases o; cases hc; cases hd; exact ho
theorem add_sound (I : Inv C D X σ s) (hu : VT C D X s.heap u pu) (hv : VT C D X s.heap v pv) (e : addV u v = some z) : Gv C A D X W s z σ (binaryOp .Add pu pv) :=
  addV_c e (fun e => ii_c e hu hv fun i j t t' h1 h2 h => h1 ▸ h2 ▸ Option.some.inj h ▸ add_int (gi_toks I _ _ _))
    (fun x y hx hy h1 h2 hz => (show VT C D X s.heap (.str x) pu from hx ▸ hu).str_c fun s1 t1 e1 g1 => (show VT C D X s.heap (.str y) pv from hy ▸ hv).str_c fun s2 t2 e2 g2 => by
      rw [hz, g1, g2, str_eta e1, str_eta e2]
      exact add_str (fun t' tk => ⟨D, .toks I _, .str t' (by rw [Str.cps_append]; exact Array.toList_append)⟩) (by rw [len_of, len_of, sizeLine_eq]; exact Nat.le_trans (Nat.add_le_add (okStr_len h1) (okStr_len h2)) (by decide)))
    fun x y hx hy h1 h2 hz => (show VT C D X s.heap (.list x) pu from hx ▸ hu).list_c fun a1 it1 g1 el1 r1 => (show VT C D X s.heap (.list y) pv from hy ▸ hv).list_c fun a2 it2 g2 el2 r2 => by
      rw [hz, g1, g2]
      exact el1.elim fun o1 el1 => el1.2.2.elim fun n hd1 => el2.elim fun o2 el2 => el2.2.2.elim fun m hd2 => concat_meets ⟨_, el1.1, el1.2.1⟩ ⟨_, el2.1, el2.2.1⟩ noFill_list_add seq_list_add PySem.F.slot_list_add PySem.F.entry_list_add (PySem.F.args_list_add_2 _ _)
        (list_addW a1 a2 it1 it2 n m o1.dict o2.dict o1.slots o2.slots (by rw [← r1.size, ← r2.size, sizeLine_eq]; exact Nat.le_trans (Nat.add_le_add (small_le h1) (small_le h2)) (by decide))) ⟨list_eta el1.1 el1.2.1 hd1, list_eta el2.1 el2.2.1 hd2, push_list I (by rw [Array.toList_append]; exact r1.append r2) s.toks⟩
theorem mul_sound (I : Inv C D X σ s) (hu : VT C D X s.heap u pu) (hv : VT C D X s.heap v pv) (e : mulV u v = some z) : Gv C A D X W s z σ (binaryOp .Mult pu pv) :=
  ii_c e hu hv fun i j t t' h1 h2 h => oI_c h fun hb h => by
    have := isIntV_abs (bL hb)
    rw [h1, h2, ← Option.some.inj h]
    exact mul_int (gi_toks I _ _ _) (.of_left (intBits_le_64 (by omega) (by omega)))
theorem fdiv_sound (I : Inv C D X σ s) (hu : VT C D X s.heap u pu) (hv : VT C D X s.heap v pv) (e : fdivV u v = some z) : Gv C A D X W s z σ (binaryOp .FloorDiv pu pv) :=
  ii_c e hu hv fun i j t t' h1 h2 h => oI_c h fun hb h => by
    have := isIntV_abs (bR hb)
    rw [h1, h2, ← Option.some.inj h]
    exact floordiv_int (beq_eq_false_iff_ne.mp (bN (bL hb))) (gi_toks I _ _ _) (.inl (PyProof.noPylong_small (by omega)))
theorem fmod_sound (I : Inv C D X σ s) (hu : VT C D X s.heap u pu) (hv : VT C D X s.heap v pv) (e : fmodV u v = some z) : Gv C A D X W s z σ (binaryOp .Mod pu pv) :=
  ii_c e hu hv fun i j t t' h1 h2 h => oI_c h fun hb h => h1 ▸ h2 ▸ Option.some.inj h ▸ mod_int (beq_eq_false_iff_ne.mp (bN hb)) (gi_toks I _ _ _)
theorem neg_sound (I : Inv C D X σ s) (hu : VT C D X s.heap u pu) (e : negV u = some z) : Gv C A D X W s z σ (unaryOp .USub pu) :=
  wInt_c e fun i hi e => (show VT C D X s.heap (.int i) pu from hi ▸ hu).int_c fun t ht => ht ▸ Option.some.inj e ▸ neg_int (gi_toks I _ _ _)
theorem tail_of {vx sx : Expr} {ops : List Value} {o i : Value} {T id : String} (hp : pu = o) (hq : pv = i) (hT : s.TypeIs o T) (hl : typeLookup (.type T) "__getitem__" = pure (some (.builtin id))) (hg : Gv C A D X W s z σ (getItem o i)) (hs : subscripted sx false pu pv = operate ops (getItem pu pv)) :
    Gv C A D X W s z σ (subscriptTail vx sx pu pv) := by
  subst hp; subst hq
  exact tail_any hT hl hg hs
theorem idxDict_sound (I : Inv C D X σ s) (R : Room A) {es : List (V × V)} {k : V} {pk : Value} {vx sx : Expr} {ops : List Value} (hu : VT C D X s.heap (.dict es) pu) (hk : VT C D X s.heap k pk)
    (e : seek es k = true) (e2 : dget es k = some z) (hs : subscripted sx false pu pk = operate ops (getItem pu pk)) : Gv C A D X W s z σ (subscriptTail vx sx pu pk) :=
  key_c hk hu e (fun a kvs l hl ha d lo r is => r.get.some_c (hl ▸ e2) fun p g x => tail_of ha rfl d.typeIs PySem.slot_dict_getitem.lookup (wpAny_getItem_of is d.mapOf g ⟨D, .toks I _, x⟩) hs)
    (fun a kvs l hl ha d lo r is => r.get.some_c (hl ▸ e2) fun p g x => tail_of ha rfl d.typeIs PySem.slot_dict_getitem.lookup (wpAny_getItem_of is d.mapOf g ⟨D, .toks I _, x⟩) hs)
    fun a kvs l b hl ha hb d lo r is => r.get.some_c (hl ▸ e2) fun p g x => (Option.map_eq_some_iff.mp g).elim fun y hy => tail_of ha hb d.typeIs PySem.slot_dict_getitem.lookup (wpAny_getItem_heap (in1_room R) is d hy.1 ⟨D, .toks I _, hy.2.symm ▸ x⟩) hs
theorem seqIndex_of {i : Int} {k n : Nat} (hj : (if i < 0 then i + n else i) = (k : Int)) (h : k < n) : seqIndex? i n = some k := by
  unfold seqIndex?
  rw [hj]
  exact if_pos (by rw [Bool.and_eq_true]; exact ⟨decide_eq_true (Int.natCast_nonneg k), decide_eq_true (Int.ofNat_lt.mpr h)⟩)
theorem seqIndex_nat {k n : Nat} (h : k < n) : seqIndex? (Int.ofNat k) n = some k := seqIndex_of (if_neg (Int.not_lt.mpr (Int.natCast_nonneg k))) h
theorem seqIndex_neg {k n : Nat} (h : k + 1 ≤ n) : seqIndex? (Int.negSucc k) n = some (n - (k + 1)) := seqIndex_of ((if_pos (Int.negSucc_lt_zero k)).trans (by omega)) (by omega)
theorem idxV_c {i : V} (e : idxV u i = some z) (gS : ∀ l k c, u = .str l → i = .int (.ofNat k) → okStr l = true → l[k]? = some c → z = .str [c] → G) (gT : ∀ vs j, u = .tuple vs → i = .int j → nth vs j = some z → G) (gL : ∀ vs k, u = .list vs → i = .int (.ofNat k) → small vs = true → vs[k]? = some z → G)
    (gD : ∀ es, u = .dict es → seek es i = true → dget es i = some z → G) : G := by
  cases u with
  | str l => exact wInt_c e fun j hj e => wNat_c e fun k hk e => oI_c e fun h e => o1_c e fun c hc e => gS l k c rfl (hk ▸ hj) h hc (Option.some.inj e).symm
  | tuple vs => exact wInt_c e fun j hj e => gT vs j rfl hj e
  | list vs => exact wInt_c e fun j hj e => wNat_c e fun k hk e => oI_c e fun h e => gL vs k rfl (hk ▸ hj) h e
  | dict es => exact oI_c e fun h e => gD es rfl h e
  | _ => exact nn e
theorem nth_c {vs : List V} {j : Int} (e : nth vs j = some z) (g : ∀ k, -(2 ^ 63) ≤ j → j < 2 ^ 63 → seqIndex? j vs.length = some k → vs[k]? = some z → G) : G := by
  cases j with
  | ofNat k => exact oI_c e fun h e => g k (Int.le_trans (by decide) (Int.natCast_nonneg k)) (fits' (Nat.le_trans (Nat.le_of_lt (List.getElem?_eq_some_iff.mp e).1) (small_le h))) (seqIndex_nat (List.getElem?_eq_some_iff.mp e).1) e
  | negSucc k => exact oI_c e fun h e => g _ (by have := small_le (bL h); have := Nat.le_of_ble_eq_true (bR h); omega) (Int.lt_trans (Int.negSucc_lt_zero k) (by decide)) (seqIndex_neg (Nat.le_of_ble_eq_true (bR h))) e
theorem idx_sound (I : Inv C D X σ s) (R : Room A) {i : V} {pi : Value} {vx sx : Expr} {ops : List Value} (hu : VT C D X s.heap u pu) (hi : VT C D X s.heap i pi) (e : idxV u i = some z) (hs : subscripted sx false pu pi = operate ops (getItem pu pi)) :
    Gv C A D X W s z σ (subscriptTail vx sx pu pi) :=
  idxV_c e
    (fun l k c hl hk h hc hz => (show VT C D X s.heap (.str l) pu from hl ▸ hu).str_c fun y t el ha => (show VT C D X s.heap (.int (.ofNat k)) pi from hk ▸ hi).int_c fun u hb => by
      have hlt := (List.getElem?_eq_some_iff.mp hc).1
      rw [hz]
      exact tail_of (T := "str") (ha.trans (congrArg (Value.str · t) (str_eta el))) hb (typeIs_str _ _ _) PySem.F.slot_str_getitem.lookup (getItem_str (c := c) (by rw [Bool.or_eq_false_iff]; exact ⟨decide_eq_false (Int.not_lt.mpr (Int.le_trans (by decide) (Int.natCast_nonneg k))), decide_eq_false (fits (Nat.le_trans (Nat.le_of_lt hlt) (okStr_len h)))⟩)
        (by rw [len_of, seqIndex_nat hlt]; exact (List.getElem?_toArray ..).trans hc) ⟨D, .toks I _, .str _ rfl⟩) hs)
    (fun vs j hvs hj e => (show VT C D X s.heap (.tuple vs) pu from hvs ▸ hu).tuple_c fun a it ha el r => (show VT C D X s.heap (.int j) pi from hj ▸ hi).int_c fun t hb => nth_c e fun k h1 h2 h3 e => (r.get' e).elim fun p hp =>
      tail_of ha hb (el.elim fun o e => ⟨o, e.1, e.2.1⟩) PySem.F.slot_tuple_getitem.lookup (getItem_tuple el h1 h2 (r.size ▸ h3) ((Array.getElem?_toList ..).symm.trans hp.1) ⟨D, .refl I, hp.2⟩) hs)
    (fun vs k hvs hk h e => (show VT C D X s.heap (.list vs) pu from hvs ▸ hu).list_c fun a it ha el r => (show VT C D X s.heap (.int (.ofNat k)) pi from hk ▸ hi).int_c fun t hb => (r.get' e).elim fun p hp =>
      tail_of ha hb (el.elim fun o e => ⟨o, e.1, e.2.1⟩) PySem.F.slot_list_getitem.lookup (wpAny_getItem_list el (Int.natCast_nonneg k) (fits' (Nat.le_trans (Nat.le_of_lt (List.getElem?_eq_some_iff.mp e).1) (small_le h))) ((Array.getElem?_toList ..).symm.trans hp.1) ⟨D, .refl I, hp.2⟩) hs)
    fun es hes h1 h2 => idxDict_sound I R (hes ▸ hu) hi h1 h2 hs
end
end Mine
namespace Mine
section
variable {C : Cfg} {A : Around} {D : List FR} {X W : Addr → Prop} {σ : Nums} {s : Shared} {h : Heap} {G : Prop} {u z v : V} {pu : Value}
theorem VRs.take {vs : List V} {ps : List Value} (x : VRs C D X h vs ps) (k : Nat) : VRs C D X h (vs.take k) (ps.take k) :=
  x.ind (M := fun vs ps => ∀ k, VRs C D X h (vs.take k) (ps.take k)) (fun k => by rw [List.take_nil, List.take_nil]; exact .nil)
    (fun v p vs ps a o _ ih k => @Nat.casesOn (fun k => VRs C D X h ((v :: vs).take k) ((p :: ps).take k)) k .nil fun k => .cons a o (ih k)) k
theorem uptoV_c {k : Int} (e : uptoV u (.int k) = some z) (gS : ∀ l n, u = .str l → k = .ofNat n → okStr l = true → z = .str (l.take n) → G) (gL : ∀ vs n, u = .list vs → k = .ofNat n → small vs = true → z = .list (vs.take n) → G) : G := by
  cases u with
  | str l => exact wNat_c e fun n hn e => oI_c e fun h e => gS l n rfl hn (bL h) (Option.some.inj e).symm
  | list l => exact wNat_c e fun n hn e => oI_c e fun h e => gL l n rfl hn (bL h) (Option.some.inj e).symm
  | _ => exact nn e
theorem upto_sound (I : Inv C D X σ s) {k : Int} {t : Tok} {sl : Addr} {vx sx : Expr} {ops : List Value} (hsl : s.heap.IsSliceOf sl .none (.int k t) .none) (hu : VT C D X s.heap u pu)
    (e : uptoV u (.int k) = some z) (hs : subscripted sx false pu (.ref sl) = operate ops (getItem pu (.ref sl))) : Gv C A D X W s z σ (subscriptTail vx sx pu (.ref sl)) :=
  uptoV_c e
    (fun l n hl hn h hz => (show VT C D X s.heap (.str l) pu from hl ▸ hu).str_c fun y tt el ha => by
      rw [hz]
      exact tail_of (T := "str") (ha.trans (congrArg (Value.str · tt) (str_eta el))) rfl (typeIs_str _ _ _) PySem.F.slot_str_getitem.lookup (wpAny_getItem_str_slice (l := none) (u := some (k, t)) (st := none) hsl rfl
        (post_val_or_str ⟨Nat.le_trans (Txt.slice_le _ none (some k)) (line_of (len_of l ▸ okStr_len h)), fun t' tk => ⟨D, .toks I _, VR.str t' (congrArg (fun x : Str => x.cps.toList) ((show k = ((n : Nat) : Int) from hn) ▸ slice_to l n))⟩⟩)) hs)
    fun vs n hvs hn h hz => (show VT C D X s.heap (.list vs) pu from hvs ▸ hu).list_c fun a it ha el r => by
      rw [hz]
      exact tail_of ha rfl (el.elim fun o e => ⟨o, e.1, e.2.1⟩) PySem.F.slot_list_getitem.lookup (wpAny_getItem_list_slice el hsl .none (.int _ _) .none (fun e => nomatch e) (push_list I (hn ▸ (slicePick_upto' it n).symm ▸ r.take n) s.toks) (line_of (r.size ▸ small_le h))) hs
theorem frmV_c {k : Int} (e : frmV u (.int k) = some z) (g : ∀ l n, u = .str l → k = .ofNat n → okStr l = true → z = .str (l.drop n) → G) : G :=
  wStr_c e fun l hl e => wNat_c e fun n hn e => oI_c e fun h e => g l n hl hn (bL h) (Option.some.inj e).symm
theorem frm_sound (I : Inv C D X σ s) {k : Int} {t : Tok} {sl : Addr} {vx sx : Expr} {ops : List Value} (hsl : s.heap.IsSliceOf sl (.int k t) .none .none) (hu : VT C D X s.heap u pu)
    (e : frmV u (.int k) = some z) (hs : subscripted sx false pu (.ref sl) = operate ops (getItem pu (.ref sl))) : Gv C A D X W s z σ (subscriptTail vx sx pu (.ref sl)) :=
  frmV_c e fun l n hl hn h hz => (show VT C D X s.heap (.str l) pu from hl ▸ hu).str_c fun y tt el ha => by
    rw [hz]
    exact tail_of (T := "str") (ha.trans (congrArg (Value.str · tt) (str_eta el))) rfl (typeIs_str _ _ _) PySem.F.slot_str_getitem.lookup (wpAny_getItem_str_slice (l := some (k, t)) (u := none) (st := none) hsl rfl
      (post_val_or_str ⟨Nat.le_trans (Txt.slice_le _ (some k) none) (line_of (len_of l ▸ okStr_len h)), fun t' tk => ⟨D, .toks I _, VR.str t' (congrArg (fun x : Str => x.cps.toList) ((show k = ((n : Nat) : Int) from hn) ▸ slice_from l n))⟩⟩)) hs
theorem strs_of (l : List (Str × Tok)) : VRs C D X h ((l.map (·.1)).map fun x : Str => V.str x.cps.toList) (strValues l) := by
  induction l with
  | nil => exact .nil
  | cons x r ih => exact .cons (.str x.2 rfl) .str ih
theorem split_call {prog : Program} {w : World} {A : Around} {E : Value → Shared → Prop} {s : Shared} {x : Str} {t : Tok} {Q : Value → Shared → Prop} {c : Nat} {u : Tok}
    (hsz : x.length ≤ sizeLine) (hsz2 : (Builtin.Str.partsBetween x (Builtin.Str.occurrences x ⟨#[c]⟩ 0 x.length (x.length + 1)) (⟨#[c]⟩ : Str).length).length ≤ sizeLine)
    (hq : ∀ (l : List (Str × Tok)) (k : Nat), l.map (·.1) = Txt.split x ⟨#[c]⟩ → Q (.ref s.heap.objs.size) { s with heap := s.heap.push { cls := .type "list", data := .seq (strValues l).toArray }, toks := k }) :
    wpAny (model prog w) A (call (.builtin "str.split") [.str x t, .str ⟨#[c]⟩ u]) Q E s := by
  cases h1 : (decide (x.length < (⟨#[c]⟩ : Str).length) || decide (Builtin.Str.strKind x < Builtin.Str.strKind ⟨#[c]⟩))
  · cases hf : (Builtin.Str.occurrences x ⟨#[c]⟩ 0 x.length (x.length + 1)).isEmpty
    · refine call_meets F.slot_str_split (typeIs_str _ _ _) F.entry_str_split (F.args_str_split_2 _ _) (meets_str_split_sep x ⟨#[c]⟩ t u h1 rfl hf hsz hsz2) ?_
      rw [strsFrom_eq]
      exact hq (numbered s.toks _) _ ((numbered_texts _ _).trans ((if_neg (ne_true_of_eq_false h1)).trans (if_neg (ne_true_of_eq_false hf))).symm)
    · exact call_meets F.slot_str_split (typeIs_str _ _ _) F.entry_str_split (F.args_str_split_2 _ _) (meets_str_split_not_found x ⟨#[c]⟩ t u h1 rfl hf) (hq [(x, t)] s.toks ((if_neg (ne_true_of_eq_false h1)).trans (if_pos hf)).symm)
  · exact call_meets F.slot_str_split (typeIs_str _ _ _) F.entry_str_split (F.args_str_split_2 _ _) (meets_str_split_cannot_occur x ⟨#[c]⟩ t u h1) (hq [(x, t)] s.toks (if_pos h1).symm)
theorem split_on {pos : Pos} {b : Sem Value} {σ' : Nums} (hu : VT C D X s.heap u pu) (hb : Gv C A D X W s v σ' b) (e : splitV u v = some z) :
    MethodOnS C.prog C.w A (fun _ _ => False) (Str.ofString "split") pu pos [(false, b)] (GvP C D X W s z σ') s :=
  wStr_c e fun l hl e => wStr_c e fun y hy e => w1_c e fun c hc e => oI_c e fun h e => (show VT C D X s.heap (.str l) pu from hl ▸ hu).str_c fun x t el ha => by
    have hx : (⟨l.toArray⟩ : Str).length ≤ 1000 := len_of l ▸ okStr_len (bL h)
    rw [ha, str_eta el, ← Option.some.inj e]
    exact ⟨"str", "str.split", F.plainAttrs_str, F.slot_str_split, F.type_str_split, typeIs_str _ _ _, (fun _ e => nomatch e), Calls.callWith_builtin rfl (Calls.evalArgs_plain (Calls.spliced_cons (hb.use fun p D1 s1 P1 V1 => Calls.spliced_nil
      ((show VT C D1 X s1.heap (.str [c]) p from hc ▸ hy ▸ V1.1).str_c fun y t1 el1 hp => show wpAny _ _ (call (.builtin "str.split") [.str ⟨l.toArray⟩ t, p]) _ _ _ by
        rw [hp, str_eta el1]
        exact split_call (line_of hx) (parts_small _ _ hx) fun ll k hll => Gv.post P1 (push_list P1.inv (items := (strValues ll).toArray) (by
          rw [List.toList_toArray, ← split_eq, List.map_map, ← hll]
          exact strs_of ll) k)))))⟩
theorem lstrip_on {pos : Pos} {b : Sem Value} {σ' : Nums} (hu : VT C D X s.heap u pu) (hb : Gv C A D X W s v σ' b) (e : lstripV u v = some z) :
    MethodOnS C.prog C.w A (fun _ _ => False) (Str.ofString "lstrip") pu pos [(false, b)] (GvP C D X W s z σ') s :=
  wStr_c e fun l hl e => wStr_c e fun y hy e => oI_c e fun h e => (show VT C D X s.heap (.str l) pu from hl ▸ hu).str_c fun x t el ha => by
    rw [ha, str_eta el, ← Option.some.inj e]
    exact SB.lstripChars (hb.use fun p D1 s1 P1 V1 => (show VT C D1 X s1.heap (.str y) p from hy ▸ V1.1).str_c fun y' t1 el1 hp => ⟨y', t1, hp, fun t' k => by
      rw [str_eta el1, lstrip_eq]
      exact ⟨D1, P1.trans (.toks P1.inv _), .str _ rfl⟩⟩) (line_of (len_of l ▸ okStr_len (bL h)))
theorem heapDict_no {a : Addr} {kvs : List (List Int × Addr × Value)} (d : h.DictOfH C.tk a kvs) : ∀ b, Value.ref a = .ref b → ∃ ob, h.get? b = some ob ∧ ob.dict = none := fun b e => d.elim fun o d => d.elim fun _ d => d.elim fun _ d => ⟨o, Value.ref.inj e ▸ d.1, d.2.1.2.1⟩
theorem get_on (I : Inv C D X σ s) (R : Room A) (hsm : ∃ o, C.H.get? sysModules = some o) (hw : ∀ b, W b → X b) {k zz : V} {pos : Pos} {kk zt : Sem Value} {σ1 σ2 : Nums} (hu : VR C D X s.heap u pu) (hk : Gv C A D X W s k σ1 kk)
    (hz : ∀ D1 s1, Pst C D X W s D1 σ1 s1 → Gv C A D1 X W s1 zz σ2 zt) (e : getV u k zz = some z) :
    MethodOnS C.prog C.w A (fun _ _ => False) (Str.ofString "get") pu pos [(false, kk), (false, zt)] (GvP C D X W s z σ2) s :=
  wDict_c e fun es hes e => oI_c e fun hs e => by
    have hu : VR C D X s.heap (.dict es) pu := hes ▸ hu
    rw [← Option.some.inj e]
    exact keyOk_c (bL hs)
      (fun l hl => hu.1.dictS_c (hl ▸ hs) fun a kvs ha d1 lo _ => by
        rw [ha]
        exact ⟨"dict", "dict.get", F.plainAttrs_dict, F.slot_dict_get, F.type_dict_get, d1.typeIs, d1.mapOf.noDict, wpAny_dict_get2 (knd := C.sk) (notSys hsm lo) (hk.use fun pk D1 s1 P1 V1 => (hz D1 s1 P1).use fun pz D2 s2 P2 V2 =>
          ((hu.step P1 I hw).step P2 P1.inv hw).1.dictS_c (hl ▸ hs) fun a' kvs ha' d lo r => ⟨⟨l.toArray⟩, _, isStr_of (hl ▸ (V1.step P2 P1.inv hw).1), Value.ref.inj (ha'.symm.trans ha) ▸ d.mapOf, D2, (P1.trans P2).trans (.toks P2.inv _), by rw [hl]; exact r.get.getD V2⟩)⟩)
      (fun l hl => hu.1.dictI_c (hl ▸ hs) fun a kvs ha d1 lo _ => by
        rw [ha]
        exact ⟨"dict", "dict.get", F.plainAttrs_dict, F.slot_dict_get, F.type_dict_get, d1.typeIs, d1.mapOf.noDict, wpAny_dict_get2 (knd := C.ik) (notSys hsm lo) (hk.use fun pk D1 s1 P1 V1 => (hz D1 s1 P1).use fun pz D2 s2 P2 V2 =>
          ((hu.step P1 I hw).step P2 P1.inv hw).1.dictI_c (hl ▸ hs) fun a' kvs ha' d lo r => ⟨l, _, isInt_of (hl ▸ (V1.step P2 P1.inv hw).1), Value.ref.inj (ha'.symm.trans ha) ▸ d.mapOf, D2, (P1.trans P2).trans (.toks P2.inv _), by rw [hl]; exact r.get.getD V2⟩)⟩)
      fun l hl => hu.1.dictT_c (hl ▸ hs) fun a kvs ha d1 lo _ => by
        rw [ha]
        exact ⟨"dict", "dict.get", F.plainAttrs_dict, F.slot_dict_get, F.type_dict_get, d1.typeIs, heapDict_no d1, wpAny_dict_get2_heap (knd := C.tk) (in1_room R) (notSys hsm lo) (hk.use fun pk D1 s1 P1 V1 => (hz D1 s1 P1).use fun pz D2 s2 P2 V2 =>
          ((hu.step P1 I hw).step P2 P1.inv hw).1.dictT_c (hl ▸ hs) fun a' kvs ha' d lo r => (isKey_of (hl ▸ (V1.step P2 P1.inv hw).1)).elim fun b hb => ⟨b, l, _, hb.1, hb.2, Value.ref.inj (ha'.symm.trans ha) ▸ d, D2, (P1.trans P2).trans (.toks P2.inv _), by rw [hl]; exact r.get.getD V2⟩)⟩
end
end Mine
namespace Mine
theorem Gv.useE {C : Cfg} {A : Around} {D : List FR} {X W : Addr → Prop} {s : Shared} {v : V} {σ' : Nums} {t : Sem Value} {Q E : Value → Shared → Prop} (h : Gv C A D X W s v σ' t)
    (hk : ∀ p D' s', Pst C D X W s D' σ' s' → VR C D' X s'.heap v p → Q p s') : wpAny (model C.prog C.w) A t Q E s :=
  wpAny_mono h (fun p s' x => x.c fun D' a b => hk p D' s' a b) fun _ _ f => f.elim
theorem Gb.useE {C : Cfg} {A : Around} {D : List FR} {X W : Addr → Prop} {s : Shared} {b : Bool} {σ' : Nums} {t : Sem Bool} {Q : Bool → Shared → Prop} {E : Value → Shared → Prop} (h : Gb C A D X W s b σ' t)
    (hk : ∀ D' s', Pst C D X W s D' σ' s' → Q b s') : wpAny (model C.prog C.w) A t Q E s :=
  wpAny_mono h (fun p s' x => x.c fun e D' a => e ▸ hk D' s' a) fun _ _ f => f.elim
structure RoomN (A : Around) (n : Nat) : Prop where
  handled : A.handled = none
  units : A.units + 300 + 20 * n < cLine
  depth : A.depth + 30 + 6 * n < recursionLimit
theorem RoomN.room {A : Around} {n : Nat} (R : RoomN A n) : Room A := ⟨R.handled, Nat.lt_of_le_of_lt (Nat.le_trans (Nat.add_le_add_left (by decide) _) (Nat.le_add_right _ _)) R.units, Nat.lt_of_le_of_lt (Nat.le_trans (Nat.add_le_add_left (by decide) _) (Nat.le_add_right _ _)) R.depth⟩
theorem RoomN.less {A : Around} {n m : Nat} (R : RoomN A n) (h : m ≤ n) : RoomN A m := ⟨R.handled, Nat.lt_of_le_of_lt (Nat.add_le_add_left (Nat.mul_le_mul_left 20 h) _) R.units, Nat.lt_of_le_of_lt (Nat.add_le_add_left (Nat.mul_le_mul_left 6 h) _) R.depth⟩
theorem deep_le {u a b c d n : Nat} (h : a + c ≤ d) : u + a + c + b * n ≤ u + d + b * n := Nat.add_le_add_right (Nat.add_assoc u a c ▸ Nat.add_le_add_left h u) _
theorem RoomN.drop {A B : Around} {n : Nat} (R : RoomN A (n + 1)) (u d : Nat) (hu : u ≤ 20) (hd : d ≤ 6) (h0 : B.handled = A.handled) (h1 : B.units = A.units + u) (h2 : B.depth = A.depth + d) : RoomN B n :=
  ⟨h0.trans R.handled, h1 ▸ Nat.lt_of_le_of_lt (Nat.le_trans (deep_le (d := 320) (Nat.add_le_add_right hu 300)) (Nat.le_of_eq (by rw [Nat.mul_succ, Nat.add_comm (20 * n)]; exact (Nat.add_assoc _ 20 _).symm ▸ rfl))) R.units,
    h2 ▸ Nat.lt_of_le_of_lt (Nat.le_trans (deep_le (d := 36) (Nat.add_le_add_right hd 30)) (Nat.le_of_eq (by rw [Nat.mul_succ, Nat.add_comm (6 * n)]; exact (Nat.add_assoc _ 6 _).symm ▸ rfl))) R.depth⟩
theorem RoomN.deeper {A : Around} {n : Nat} (R : RoomN A (n + 1)) (env : Env) : RoomN (A.deeper env) n := R.drop 3 1 (by decide) (by decide) rfl rfl rfl
noncomputable def Vis (env : Env) (h : Heap) (x : Nat) (p : Value) : Prop :=
  (env.kindOf (nm x) = some .local ∧ ∃ m, h.Ns env.locals m ∧ m (nm x) = some p) ∨
  ((env.kindOf (nm x) = some .cell ∨ env.kindOf (nm x) = some .free) ∧ ∃ c, env.cells.lookup (nm x) = some c ∧ h.IsCell c (some p))
noncomputable def Seen (env : Env) (x : Nat) : Prop := env.kindOf (nm x) = some .local ∨ env.kindOf (nm x) = some .cell ∨ env.kindOf (nm x) = some .free
theorem nm_debug : ∀ x, x < 74 → (nm x == Str.ofString "__debug__") = false := by decide +kernel
theorem nm_classdict : ∀ x, x < 74 → (nm x == Str.ofString "__classdict__") = false := by decide +kernel
theorem nm_inj : ∀ x, x < 74 → ∀ y, y < 74 → nm x = nm y → x = y := by decide +kernel
inductive GG (C : Cfg) (D : List FR) (X Q : Addr → Prop) (h : Heap) {κ : Type} (ky : κ → V) (pv : κ → Value) : List (V × V) → List κ → Prop
  | nil : GG C D X Q h ky pv [] []
  | cons {z : κ} {a : Addr} {items : Array Value} {n : Nat} {vs : List V} {es : List (V × V)} {zs : List κ} (e : pv z = .ref a) (o : h.get? a = some (seqObj "list" items n)) (r : VRs C D X h vs items.toList) (q : Q a) (ap : ∀ y ∈ zs, pv y ≠ .ref a) (t : GG C D X Q h ky pv es zs) :
    GG C D X Q h ky pv ((ky z, .list vs) :: es) (z :: zs)
noncomputable def kyS (z : Str × Value) : V := .str z.1.cps.toList
noncomputable def kyT (z : List Int × Addr × Value) : V := .tuple (z.1.map .int)
inductive Gp (C : Cfg) (D : List FR) (X Q : Addr → Prop) (h : Heap) (b : Addr) : List (V × V) → Prop
  | str {es : List (V × V)} {kvs : List (Str × Value)} (d : h.DictOf C.sk b kvs) (g : GG C D X Q h kyS Prod.snd es kvs) : Gp C D X Q h b es
  | tup {es : List (V × V)} {kvs : List (List Int × Addr × Value)} (d : h.DictOfH C.tk b kvs) (kb : ∀ z ∈ kvs, OkA D X z.2.1) (g : GG C D X Q h kyT (fun z => z.2.2) es kvs) : Gp C D X Q h b es
section
variable {C : Cfg} {D D' : List FR} {X X' Q Q' : Addr → Prop} {h h' : Heap} {κ : Type} {ky : κ → V} {pv : κ → Value} {es : List (V × V)} {zs : List κ} {b : Addr} {G : Prop}
theorem GG.ind {M : List (V × V) → List κ → Prop} (n : M [] []) (c : ∀ z a items n vs es zs, pv z = .ref a → h.get? a = some (seqObj "list" items n) → VRs C D X h vs items.toList → Q a → (∀ y ∈ zs, pv y ≠ .ref a) → GG C D X Q h ky pv es zs → M es zs → M ((ky z, .list vs) :: es) (z :: zs)) (x : GG C D X Q h ky pv es zs) : M es zs := by
  induction x with
  | nil => exact n
  | cons e o r q ap t ih => exact c _ _ _ _ _ _ _ e o r q ap t ih
theorem GG.keep (m : Mono D X h D' X' h') (x : GG C D X Q h ky pv es zs) : (∀ z ∈ zs, ∀ a items n, pv z = .ref a → Q a → h.get? a = some (seqObj "list" items n) → Q' a ∧ h'.get? a = some (seqObj "list" items n)) → GG C D' X' Q' h' ky pv es zs :=
  x.ind (M := fun es zs => (∀ z ∈ zs, ∀ a items n, pv z = .ref a → Q a → h.get? a = some (seqObj "list" items n) → Q' a ∧ h'.get? a = some (seqObj "list" items n)) → GG C D' X' Q' h' ky pv es zs) (fun _ => .nil)
    fun z a it n vs es zs e o r q ap t ih hq => .cons e (hq z List.mem_cons_self a it n e q o).2 (r.mono m) (hq z List.mem_cons_self a it n e q o).1 ap (ih fun y hy => hq y (List.mem_cons_of_mem _ hy))
theorem Gp.keep (g : Gp C D X Q h b es) (m : Mono D X h D' X' h') (hq : ∀ a items n, Q a → h.get? a = some (seqObj "list" items n) → Q' a ∧ h'.get? a = some (seqObj "list" items n)) (hb : ∀ o, h.get? b = some o → h'.get? b = some o) : Gp C D' X' Q' h' b es := by
  cases g with
  | str d g => exact .str (DictOf.mono d hb) (g.keep m fun _ _ a it n _ => hq a it n)
  | tup d kb g => exact .tup (DictOfH.mono d hb fun x hx o => m.keep _ o (kb x hx)) (fun z hz => (DictOfH.alive d z hz).elim fun o e => m.ok _ o (kb z hz) e) (g.keep m fun _ _ a it n _ => hq a it n)
theorem Gp.raw (g : Gp C D X Q h b es) (k : ∀ ents ep, RawD h b ents ep → G) : G := by
  cases g with
  | str d _ => exact d.elim fun o e => e.elim fun ents e => e.elim fun ep e => k ents ep ⟨o, e.1, e.2.1, e.2.2.1⟩
  | tup d _ _ => exact d.elim fun o e => e.elim fun ents e => e.elim fun ep e => k ents ep ⟨o, e.1, e.2.1, e.2.2.1⟩
end
noncomputable def InO (X O : Addr → Prop) (L z : Addr) : Prop := X z ∧ O z ∧ z ≠ L
inductive SideAt (C : Cfg) (D : List FR) (X O : Addr → Prop) (L : Addr) (h : Heap) (dx : Addr) (es : List DictEntry) (T : Addr → Nat) (f : Nat) (b : Addr) (E : List (V × V)) : Prop
  | mk (g : getL (nm f) es = some (some (.ref b))) (o : InO X O L b) (nd : b ≠ dx) (d : Gp C D X (fun z => InO X O L z ∧ T z = f) h b E)
structure IsetB (C : Cfg) (D : List FR) (X O : Addr → Prop) (L : Addr) (h : Heap) (vs : List V) (f f' : Nat) (E E' : List (V × V)) (a dx : Addr) (es : List DictEntry) (ep : Nat) (T : Addr → Nat) (b b' : Addr) (lf : Value) : Prop where
  e1 : h.get? a = some (instObj C.c1 dx)
  e2 : h.get? dx = some (dictOf es ep)
  o : InO X O L dx
  mt : ∀ m, (methTab 1 m).isSome = true → getL (nm m) es = some none
  l : getL (nm 10) es = some (some lf)
  lv : VR C D X h (.list vs) lf
  s1 : SideAt C D X O L h dx es T f b E
  s2 : SideAt C D X O L h dx es T f' b' E'
  ne : b ≠ b'
  hp : L = a + 1
inductive IsetAt (C : Cfg) (D : List FR) (X O : Addr → Prop) (L : Addr) (h : Heap) (vs : List V) (f f' : Nat) (E E' : List (V × V)) (a : Addr) : Prop
  | mk (dx : Addr) (es : List DictEntry) (ep : Nat) (T : Addr → Nat) (b b' : Addr) (lf : Value) (B : IsetB C D X O L h vs f f' E E' a dx es ep T b b' lf)
inductive OwnR (C : Cfg) (D : List FR) (X O : Addr → Prop) (L : Addr) (h : Heap) : V → Addr → Prop
  | lst {vs : List V} {a : Addr} {items : Array Value} {n : Nat} (e : h.get? a = some (seqObj "list" items n)) (r : VRs C D X h vs items.toList) : OwnR C D X O L h (.list vs) a
  | dct {es : List (V × V)} {a : Addr} (e : VT C D X h (.dict es) (.ref a)) : OwnR C D X O L h (.dict es) a
  | form {fs : List (Nat × V)} {a dx : Addr} {es : List DictEntry} {ep : Nat} (e : h.get? a = some (instObj C.c0 dx)) (e2 : h.get? dx = some (dictOf es ep)) (hx : X dx) (ho : O dx) (hL : dx ≠ L) (hne : a ≠ dx) (sm : es.length ≤ fs.length ∧ (fs.map (·.1)).Nodup ∧ ∀ e ∈ fs, e.1 < 13)
      (sh : ∀ m, (methTab 0 m).isSome = true → getL (nm m) es = some none) (r : FS C D X h fs (dictOf es ep)) (hp : L = a + 1 ∧ L = dx + 2) : OwnR C D X O L h (.inst 0 fs none) a
  | pre {a dx : Addr} {es : List DictEntry} {ep : Nat} (e : h.get? a = some (instObj C.c1 dx)) (e2 : h.get? dx = some (dictOf es ep)) (o : InO X O L dx) (hp : L = a + 1) : OwnR C D X O L h (.inst 2 [] none) a
  | iset {vs : List V} {nE cE : List (V × V)} {a : Addr} (m : IsetAt C D X O L h vs 11 12 nE cE a) : OwnR C D X O L h (.inst 3 [(13, .list vs), (14, .dict nE), (15, .dict cE)] none) a
inductive OwnAt (C : Cfg) (env : Env) (X0 O X : Addr → Prop) (r : Rho) (D : List FR) (h : Heap) (y : Nat) (v : V) : Prop
  | mk (h1 : y < 74) (h0 : fget r.ρ y = none) (h2 : env.kindOf (nm y) = some .local) (a : Addr) (h3 : Vis env h y (.ref a)) (h4 : X a) (h5 : O a) (h6 : ¬ X0 a) (h7 : a ≠ env.locals) (h8 : OwnR C D X O env.locals h v a)
theorem OwnAt.h0 {C : Cfg} {env : Env} {X0 O X : Addr → Prop} {r : Rho} {D : List FR} {h : Heap} {y : Nat} {v : V} (x : OwnAt C env X0 O X r D h y v) : fget r.ρ y = none := by cases x; assumption
structure FrE (C : Cfg) (env : Env) (X0 O X : Addr → Prop) (r : Rho) (D : List FR) (h : Heap) : Prop where
  kind : env.scope.kind = .function
  glob : env.globals = mainGlobals
  bltn : env.builtins = builtinsNs
  locX : X env.locals
  ns : ∃ m, h.Ns env.locals m
  celX : ∀ n c, env.cells.lookup n = some c → X c ∧ ∃ v, h.IsCell c v
  apart : ∀ n n' c, env.cells.lookup n = some c → env.cells.lookup n' = some c → n = n'
  hasC : ∀ n, env.kindOf n = some .cell ∨ env.kindOf n = some .free → ∃ c, env.cells.lookup n = some c
  get : ∀ x v, fget r.ρ x = some v → x < 74 ∧ (Seen env x → ∃ p, Vis env h x p ∧ VR C D X h v p)
  own : ∀ y v, r.w = some (y, v) → OwnAt C env X0 O X r D h y v
section
variable {C : Cfg} {A : Around} {D D' : List FR} {X X' X0 O W : Addr → Prop} {σ σ' : Nums} {s s' : Shared} {env : Env} {r : Rho} {x : Nat} {p : Value}
theorem IsCell.data {h : Heap} {a : Addr} {o : Obj} {v : Option Value} (e : h.get? a = some o) (c : h.IsCell a v) : o.data = .cell v := c.elim fun o' c => (congrArg Obj.data (Option.some.inj (e.symm.trans c.1))).trans c.2
theorem IsCell_ne {h : Heap} {c L : Addr} {v : Option Value} {m : Str → Option Value} (a : h.IsCell c v) (b : h.Ns L m) : c ≠ L := fun e => b.elim fun o b => b.elim fun _ b => b.elim fun _ b => nomatch (IsCell.data (e ▸ b.1) a).symm.trans b.2.1
theorem IsCell_keep {h h' : Heap} {c : Addr} {v : Option Value} (a : h.IsCell c v) (k : ∀ o, h.get? c = some o → h'.get? c = some o) : h'.IsCell c v := a.elim fun o a => ⟨o, k o a.1, a.2⟩
structure Calm (env : Env) (X Z : Addr → Prop) (D : List FR) (h : Heap) (D' : List FR) (h' : Heap) : Prop where
  ns : ∀ m, h.Ns env.locals m → h'.Ns env.locals m
  keep : ∀ a o, X a → ¬ Z a → a ≠ env.locals → (∀ r ∈ D, r.dx ≠ a) → h.get? a = some o → h'.get? a = some o
theorem Vis.keep {h h' : Heap} (v : Vis env h x p) (k1 : ∀ m, h.Ns env.locals m → ∃ m', h'.Ns env.locals m' ∧ m' (nm x) = m (nm x)) (k2 : ∀ c, env.cells.lookup (nm x) = some c → ∀ v, h.IsCell c v → h'.IsCell c v) : Vis env h' x p :=
  v.imp (fun v => ⟨v.1, v.2.elim fun m v => (k1 m v.1).elim fun m' w => ⟨m', w.1, w.2.trans v.2⟩⟩) fun v => ⟨v.1, v.2.elim fun c v => ⟨c, v.1, k2 c v.1 _ v.2⟩⟩
theorem Vis.calm {h h' : Heap} (v : Vis env h x p) {Z : Addr → Prop} (k : Calm env X Z D h D' h') (zc : ∀ n c, env.cells.lookup n = some c → ¬ Z c) (hc : ∀ n c, env.cells.lookup n = some c → X c ∧ ∃ v, h.IsCell c v) (ns : ∃ m, h.Ns env.locals m) (dX : ∀ r ∈ D, ¬ X r.dx) : Vis env h' x p :=
  v.keep (fun m b => ⟨m, k.ns m b, rfl⟩) fun c b v d => IsCell_keep d fun o e => k.keep c o (hc _ _ b).1 (zc _ _ b) (ns.elim fun m hm => IsCell_ne d hm) (fun r hr e => dX r hr (e ▸ (hc _ _ b).1)) e
theorem Pst.calm (P : Pst C D X (· = env.locals) s D' σ' s') : Calm env X Nope D s.heap D' s'.heap :=
  ⟨fun m h => P.ns _ rfl m h, fun a o _ _ hne hd e => P.ext.keep a o e hd hne⟩
theorem RawD.notCell {h : Heap} {d : Addr} {es : Array DictEntry} {ep : Nat} (x : RawD h d es ep) {v : Option Value} (c : h.IsCell d v) : False := x.elim fun o x => nomatch (IsCell.data x.1 c).symm.trans x.2.2
theorem IsetB.calm {h h' : Heap} {vs : List V} {f f' : Nat} {E E' : List (V × V)} {a dx L : Addr} {es : List DictEntry} {ep : Nat} {T : Addr → Nat} {b b' : Addr} {lf : Value} (y : IsetB C D X O L h vs f f' E E' a dx es ep T b b' lf) (m : Mono D X h D' X' h') (hX : ∀ b o, X b → O b → b ≠ L → (∀ v, ¬ h.IsCell b v) → h.get? b = some o → h'.get? b = some o) (ha : InO X O L a) (hXX : ∀ b, X b → O b → X' b) :
    IsetB C D' X' O L h' vs f f' E E' a dx es ep T b b' lf :=
  have i : ∀ {z}, InO X O L z → InO X' O L z := fun h => ⟨hXX _ h.1 h.2.1, h.2⟩
  have k : ∀ {b o}, InO X O L b → (∀ v, o.data ≠ .cell v) → h.get? b = some o → h'.get? b = some o := fun i d e => hX _ _ i.1 i.2.1 i.2.2 (fun v hc => d _ (IsCell.data e hc)) e
  have sd : ∀ {f b E}, SideAt C D X O L h dx es T f b E → SideAt C D' X' O L h' dx es T f b E := fun s => by
    cases s with
    | mk g o nd d => exact ⟨g, i o, nd, d.keep m (fun a it n q e => ⟨⟨i q.1, q.2⟩, k q.1 (fun v => Data.noConfusion) e⟩) fun o' e => d.raw fun ents ep rd => hX _ _ o.1 o.2.1 o.2.2 (fun v hc => rd.notCell hc) e⟩
  ⟨k ha (fun v => Data.noConfusion) y.e1, k y.o (fun v => Data.noConfusion) y.e2, i y.o, y.mt, y.l, ⟨y.lv.1.mono m fun b o e g => m.keep b o (y.lv.2 b e) g, OkV.mono m y.lv.1 y.lv.2⟩, sd y.s1, sd y.s2, y.ne, y.hp⟩
theorem OwnR.calm {h h' : Heap} {v : V} {a L : Addr} (y : OwnR C D X O L h v a) (m : Mono D X h D' X' h') (hX : ∀ b o, X b → O b → b ≠ L → (∀ v, ¬ h.IsCell b v) → h.get? b = some o → h'.get? b = some o) (ha : X a) (hoa : O a) (hn : a ≠ L)
    (hXX : ∀ b, X b → O b → X' b) : OwnR C D' X' O L h' v a := by
  cases y with
  | lst e r => exact .lst (hX _ _ ha hoa hn (fun v hc => nomatch IsCell.data e hc) e) (r.mono m)
  | dct e => exact .dct (e.mono m fun b o eb g => Value.ref.inj eb ▸ hX _ _ ha hoa hn (fun v hc => e.raw.rec fun b' eb' _ _ _ rd _ => (Value.ref.inj eb' ▸ rd : RawD h a _ _).notCell hc) (Value.ref.inj eb ▸ g))
  | form e e2 hx ho hL hne sm sh rr hp => exact .form (hX _ _ ha hoa hn (fun v hc => nomatch IsCell.data e hc) e) (hX _ _ hx ho hL (fun v hc => nomatch IsCell.data e2 hc) e2) (hXX _ hx ho) ho hL hne sm sh (FS.mono m rr) hp
  | pre e e2 o hp => exact .pre (hX _ _ ha hoa hn (fun v hc => nomatch IsCell.data e hc) e) (hX _ _ o.1 o.2.1 o.2.2 (fun v hc => nomatch IsCell.data e2 hc) e2) ⟨hXX _ o.1 o.2.1, o.2⟩ hp
  | iset m1 =>
    cases m1 with
    | mk dx es ep T b b' lf B => exact .iset ⟨dx, es, ep, T, b, b', lf, B.calm m hX ⟨ha, hoa, hn⟩ hXX⟩
theorem OwnR.lst_vt {h : Heap} {vs : List V} {a L : Addr} (y : OwnR C D X O L h (.list vs) a) : VT C D X h (.list vs) (.ref a) := by
  cases y with
  | lst e r => exact .list ⟨_, e, rfl, _, rfl⟩ r
theorem OwnR.dct_vt {h : Heap} {es : List (V × V)} {a L : Addr} (y : OwnR C D X O L h (.dict es) a) : VT C D X h (.dict es) (.ref a) := by
  cases y with
  | dct e => exact e
theorem OwnR.vt {h : Heap} {v : V} {a L : Addr} (y : OwnR C D X O L h v a) (k : (∃ vs, v = .list vs) ∨ ∃ es, v = .dict es) : VT C D X h v (.ref a) :=
  k.elim (fun k => k.elim fun vs e => e ▸ (e ▸ y : OwnR C D X O L h (.list vs) a).lst_vt) fun k => k.elim fun vs e => e ▸ (e ▸ y : OwnR C D X O L h (.dict vs) a).dct_vt
theorem VR.mono {v : V} {h h' : Heap} (y : VR C D X h v p) (m : Mono D X h D' X' h') : VR C D' X' h' v p :=
  ⟨y.1.mono m fun b o e g => m.keep b o (y.2 b e) g, OkV.mono m y.1 y.2⟩
theorem OwnAt.mono {h h' : Heap} {r' : Rho} {y : Nat} {v : V} (o : OwnAt C env X0 O X r D h y v) (hg : fget r'.ρ y = fget r.ρ y) (hv : ∀ a, Vis env h y (.ref a) → Vis env h' y (.ref a)) (m : Mono D X h D' X' h') (hX : ∀ b o, X b → O b → b ≠ env.locals → (∀ v, ¬ h.IsCell b v) → h.get? b = some o → h'.get? b = some o) (hXX : ∀ b, X b → O b → X' b) :
    OwnAt C env X0 O X' r' D' h' y v := by
  cases o with
  | mk h1 h0 h2 a h3 h4 h5 h6 h7 h8 => exact ⟨h1, hg.trans h0, h2, a, hv a h3, hXX _ h4 h5, h5, h6, h7, h8.calm m hX h4 h5 h7 hXX⟩
theorem FrE.calm {h h' : Heap} (F : FrE C env X0 O X r D h) {Z : Addr → Prop} (k : Calm env X Z D h D' h') (zc : ∀ n c, env.cells.lookup n = some c → ¬ Z c) (zo : ∀ a, O a → ¬ Z a) (zl : ¬ Z env.locals) (m : Mono D X h D' X' h') (dX : ∀ r ∈ D, ¬ X r.dx) (hXX : ∀ b, X b → ¬ Z b → X' b) : FrE C env X0 O X' r D' h' := by
  have kp : ∀ b o, X b → ¬ Z b → b ≠ env.locals → h.get? b = some o → h'.get? b = some o := fun b o hb hz hn e => k.keep b o hb hz hn (fun r hr e => dX r hr (e ▸ hb)) e
  have kv : ∀ y p, Vis env h y p → Vis env h' y p := fun y p v => v.calm k zc F.celX F.ns dX
  exact ⟨F.kind, F.glob, F.bltn, hXX _ F.locX zl, F.ns.elim fun q hq => ⟨q, k.ns q hq⟩, fun n c e => ⟨hXX _ (F.celX n c e).1 (zc _ _ e), (F.celX n c e).2.elim fun q h2 => ⟨q, IsCell_keep h2 fun o => kp _ _ (F.celX n c e).1 (zc _ _ e) (F.ns.elim fun mm hm => IsCell_ne h2 hm)⟩⟩, F.apart, F.hasC,
    fun x v e => ⟨(F.get x v e).1, fun sn => ((F.get x v e).2 sn).elim fun q h => ⟨q, kv _ _ h.1, h.2.mono m⟩⟩, fun y v e => (F.own y v e).mono rfl (fun a => kv _ _) m (fun b o h1 h0 h2 _ => kp b o h1 (zo _ h0) h2) fun b hb ho => hXX b hb (zo b ho)⟩
theorem FrE.congr {r' : Rho} {h : Heap} (F : FrE C env X0 O X r D h) (hg : ∀ y, fget r'.ρ y = fget r.ρ y) (hw : r'.w = r.w) : FrE C env X0 O X r' D h :=
  ⟨F.kind, F.glob, F.bltn, F.locX, F.ns, F.celX, F.apart, F.hasC, fun x v e => F.get x v ((hg x).symm.trans e), fun y v e => by
    cases F.own y v (hw ▸ e) with
    | mk h1 h0 h2 a h3 h4 h5 h6 h7 h8 => exact ⟨h1, (hg y).trans h0, h2, a, h3, h4, h5, h6, h7, h8⟩⟩
theorem FrE.step (F : FrE C env X0 O X r D s.heap) (I : Inv C D X σ s) (P : Pst C D X (· = env.locals) s D' σ' s') : FrE C env X0 O X r D' s'.heap :=
  F.calm P.calm (fun _ _ _ f => f) (fun _ _ f => f) (fun f => f) (P.mono I fun b hb => by subst hb; exact F.locX) I.dxX fun _ h _ => h
theorem name_vis {Q E : Value → Shared → Prop} {pos : Pos} (F : FrE C env X0 O X r D s.heap) (hx : x < 74) (v : Vis env s.heap x p) (q : Q p s) : wpAny (model C.prog C.w) A (eval (.Name (nm x) pos) env) Q E s := by
  refine wpAny_Name ?_ (nm_debug x hx)
  rcases v with ⟨a, m, b, c⟩ | ⟨a | a, c, b, d⟩
  · exact wpAny_loadName_local F.kind a b c q
  · exact wpAny_loadName_cell F.kind a b d q
  · exact wpAny_loadName_free F.kind a b d q (nm_classdict x hx)
end
noncomputable def Sto (env : Env) (O : Addr → Prop) (x : Nat) : Prop :=
  (env.kindOf (nm x) = some .local ∧ O env.locals) ∨ (env.kindOf (nm x) = some .cell ∧ ∃ c, env.cells.lookup (nm x) = some c ∧ O c)
structure Chg (C : Cfg) (D : List FR) (X W : Addr → Prop) (s : Shared) (D' : List FR) (σ' : Nums) (s' : Shared) : Prop where
  same : ∃ h' t', s' = { s with heap := h', toks := t' }
  ext : Ext W D s.heap D' s'.heap
  inv : Inv C D' X σ' s'
section
variable {C : Cfg} {A : Around} {D D' D1 D2 : List FR} {X X' X0 O W : Addr → Prop} {σ σ' σ1 σ2 : Nums} {s s' s1 s2 : Shared} {env : Env} {r : Rho} {x : Nat} {p : Value} {v : V}
theorem Pst.chg (P : Pst C D X W s D' σ' s') : Chg C D X W s D' σ' s' := ⟨P.same, P.ext, P.inv⟩
theorem same_trans (a : ∃ h' t', s1 = { s with heap := h', toks := t' }) (b : ∃ h' t', s2 = { s1 with heap := h', toks := t' }) : ∃ h' t', s2 = { s with heap := h', toks := t' } := a.elim fun h1 a => a.elim fun t1 a => b.elim fun h2 b => b.elim fun t2 b => ⟨h2, t2, b.trans (a ▸ rfl)⟩
theorem Chg.trans (a : Chg C D X W s D1 σ1 s1) (b : Chg C D1 X W s1 D2 σ2 s2) : Chg C D X W s D2 σ2 s2 := ⟨same_trans a.same b.same, a.ext.trans b.ext fun _ h => .inl h, b.inv⟩
theorem Chg.weak {W' : Addr → Prop} (a : Chg C D X W s D' σ' s') (h : ∀ b, W b → W' b) : Chg C D X W' s D' σ' s' := ⟨a.same, a.ext.weak fun b hb => .inl (h b hb), a.inv⟩
theorem bq_f {a b : Nat} (h : ¬ a = b) : Nat.beq a b = false := (beq_dec a b).trans (decide_eq_false h)
theorem bq_t {a b : Nat} (h : a = b) : Nat.beq a b = true := (beq_dec a b).trans (decide_eq_true h)
theorem fget_ne {e : Nat × V} {l : List (Nat × V)} {y : Nat} (h : ¬ e.1 = y) : fget (e :: l) y = fget l y := show (if Nat.beq e.1 y then _ else _) = _ by rw [bq_f h]; rfl
theorem fget_eq {e : Nat × V} {l : List (Nat × V)} {y : Nat} (h : e.1 = y) : fget (e :: l) y = some e.2 := if_pos (bq_t h)
theorem fput_ne {e : Nat × V} {l : List (Nat × V)} {x : Nat} {v : V} (h : ¬ e.1 = x) : fput (e :: l) x v = e :: fput l x v := show (if Nat.beq e.1 x then _ else _) = _ by rw [bq_f h]; rfl
theorem fput_eq {e : Nat × V} {l : List (Nat × V)} {x : Nat} {v : V} (h : e.1 = x) : fput (e :: l) x v = (e.1, v) :: l := if_pos (bq_t h)
theorem fget_fput1 (l : List (Nat × V)) (x : Nat) (v : V) : fget (fput l x v) x = some v := by
  induction l with
  | nil => exact fget_eq rfl
  | cons a t ih =>
    by_cases h : a.1 = x
    · rw [fput_eq h]; exact fget_eq h
    · rw [fput_ne h, fget_ne h]; exact ih
theorem fget_fput2 (l : List (Nat × V)) {x : Nat} (v : V) {y : Nat} (h : ¬ y = x) : fget (fput l x v) y = fget l y := by
  induction l with
  | nil => exact fget_ne fun e => h e.symm
  | cons a t ih =>
    by_cases hx : a.1 = x
    · rw [fput_eq hx]; exact (fget_ne (e := (a.1, v)) fun e => h (e.symm.trans hx)).trans (fget_ne fun e => h (e.symm.trans hx)).symm
    · rw [fput_ne hx]
      by_cases hy : a.1 = y
      · rw [fget_eq hy, fget_eq hy]
      · rw [fget_ne hy, fget_ne hy, ih]
theorem fget_fput (l : List (Nat × V)) (x : Nat) (v : V) (y : Nat) : fget (fput l x v) y = if y = x then some v else fget l y := by
  by_cases h : y = x
  · rw [if_pos h, h]; exact fget_fput1 l x v
  · rw [if_neg h]; exact fget_fput2 l v h
theorem fget_fdel (l : List (Nat × V)) (x : Nat) (y : Nat) : fget (fdel l x) y = if y = x then none else fget l y := by
  induction l with
  | nil =>
    by_cases h : y = x
    · rw [if_pos h]; rfl
    · rw [if_neg h]; rfl
  | cons a t ih =>
    show fget (if Nat.beq a.1 x then fdel t x else a :: fdel t x) y = _
    by_cases hx : a.1 = x
    · rw [bq_t hx, if_pos rfl, ih]
      by_cases h : y = x
      · rw [if_pos h, if_pos h]
      · rw [if_neg h, if_neg h, fget_ne fun e => h (e.symm.trans hx)]
    · rw [bq_f hx, if_neg Bool.false_ne_true]
      by_cases hy : a.1 = y
      · rw [fget_eq hy, if_neg (hy ▸ hx), fget_eq hy]
      · rw [fget_ne hy, fget_ne hy, ih]
structure Sd (env : Env) (O : Addr → Prop) (h : Heap) (x : Nat) (p : Value) (h' : Heap) : Prop where
  vis : Vis env h' x p
  rest : ∀ y p', y < 74 → y ≠ x → Vis env h y p' → Vis env h' y p'
  keep : ∀ a o, h.get? a = some o → ¬ (O a ∧ (a = env.locals ∨ ∃ n, env.cells.lookup n = some a)) → h'.get? a = some o
  ns : ∃ m, h'.Ns env.locals m
  cel : ∀ n c, env.cells.lookup n = some c → ∃ v, h'.IsCell c v
theorem store_raw (F : FrE C env X0 O X r D s.heap) (hx : x < 74) (st : Sto env O x) {Q : Unit → Shared → Prop} {E : Value → Shared → Prop} (q : ∀ (h' : Heap) (t : Nat), Sd env O s.heap x p h' → Q () { s with heap := h', toks := t }) :
    wpAny (model C.prog C.w) A (storeName env (nm x) p) Q E s :=
  F.ns.elim fun m hm => st.elim (fun st => wpAny_storeName_local st.1 hm (fun h' hn hs => q h' _
      ⟨.inl ⟨st.1, _, hn, if_pos rfl⟩, fun y p' hy hne v => v.keep (fun m' b => ⟨_, hn, (if_neg fun e => hne (nm_inj _ hy _ hx e)).trans (Ns.uniq hm b ▸ rfl)⟩) fun c _ v d => IsCell_keep d fun o e => (hs.2 _ (IsCell_ne d hm)).trans e,
        fun b o e hb => (hs.2 b fun e => hb ⟨e ▸ st.2, .inl e⟩).trans e, ⟨_, hn⟩, fun n c e => (F.celX n c e).2.elim fun v d => ⟨v, IsCell_keep d fun o e => (hs.2 _ (IsCell_ne d hm)).trans e⟩⟩) (by rw [F.kind]; rfl))
    fun st => st.2.elim fun c hc => (F.celX _ _ hc.1).2.elim fun v0 hv0 => wpAny_storeName_cell F.kind st.1 hc.1 hv0 fun h' hn hs =>
      have hne : env.locals ≠ c := fun e => IsCell_ne hv0 hm e.symm
      q h' s.toks ⟨.inr ⟨.inl st.1, c, hc.1, hn⟩, fun y p' hy hne' v => v.keep (fun m' b => ⟨m', b.sameBut hs hne, rfl⟩) fun c' b v d => IsCell_keep d fun o e => (hs.2 _ fun e' : c' = c => hne' (nm_inj _ hy _ hx (F.apart _ _ _ b (e' ▸ hc.1)))).trans e,
        fun b o e hb => (hs.2 b fun e => hb ⟨e ▸ hc.2, .inr ⟨_, e ▸ hc.1⟩⟩).trans e, ⟨_, hm.sameBut hs hne⟩, fun n c' e => (Classical.em (c' = c)).elim (fun e => ⟨_, e ▸ hn⟩) fun hcc => (F.celX n c' e).2.elim fun v d => ⟨v, IsCell_keep d fun o e => (hs.2 _ hcc).trans e⟩⟩
theorem Sd.chg {h' : Heap} {t : Nat} (S : Sd env O s.heap x p h') (I : Inv C D X σ s) (hO : ∀ a, O a → X a) : Chg C D X O s D σ { s with heap := h', toks := t } ∧ Mono D X s.heap D X h' := by
  have J := I.change (W := fun a => O a ∧ (a = env.locals ∨ ∃ n, env.cells.lookup n = some a)) (s' := { s with heap := h', toks := t }) (fun b hb => hO b hb.1) S.keep fun b hb o e =>
    hb.2.elim (fun hb => S.ns.elim fun m e => e.elim fun o e => e.elim fun _ e => e.elim fun _ e => ⟨o, hb ▸ e.1⟩) fun hb => hb.elim fun n hn => (S.cel n b hn).elim fun v e => e.elim fun o e => ⟨o, e.1⟩
  exact ⟨⟨⟨_, _, rfl⟩, J.2.weak fun b hb => .inl hb.1, J.1⟩, J.2.mono I.fat (fun b hb => .inl (hO b hb.1)) fun _ h => .inl h⟩
theorem Sd.keepX {h' : Heap} (S : Sd env O s.heap x p h') (F : FrE C env X0 O X r D s.heap) : ∀ b o, X b → O b → b ≠ env.locals → (∀ v, ¬ s.heap.IsCell b v) → s.heap.get? b = some o → h'.get? b = some o :=
  fun b o _ _ hL hc e => S.keep b o e fun hb => hb.2.elim hL fun hb => hb.elim fun n hn => (F.celX n b hn).2.elim hc
theorem Sd.fre {h' : Heap} {r' : Rho} (S : Sd env O s.heap x p h') (F : FrE C env X0 O X r D s.heap) (m : Mono D X s.heap D X h') (get : ∀ y u, fget r'.ρ y = some u → (y = x ∧ y < 74 ∧ VR C D X h' u p) ∨ (y ≠ x ∧ fget r.ρ y = some u)) (own : ∀ y u, r'.w = some (y, u) → OwnAt C env X0 O X r' D h' y u) :
    FrE C env X0 O X r' D h' :=
  ⟨F.kind, F.glob, F.bltn, F.locX, S.ns, fun n c e => ⟨(F.celX n c e).1, S.cel n c e⟩, F.apart, F.hasC, fun y u e => (get y u e).elim (fun h => ⟨h.2.1, fun _ => ⟨p, h.1 ▸ S.vis, h.2.2⟩⟩) fun h => ⟨(F.get y u h.2).1, fun sn => ((F.get y u h.2).2 sn).elim fun q g => ⟨q, S.rest y q (F.get y u h.2).1 h.1 g.1, g.2.mono m⟩⟩, own⟩
theorem set_w {u : V} {y : Nat} (e : (r.set x v).w = some (y, u)) : r.w = some (y, u) ∧ y ≠ x := by
  unfold Rho.set at e
  cases hw : r.w with
  | none => rw [hw] at e; exact nn e
  | some z =>
    rw [hw] at e
    by_cases hb : z.1 = x
    · have e : (if Nat.beq z.1 x then none else some (z.1, z.2)) = some (y, u) := e
      rw [bq_t hb] at e; exact nn e
    · have e : (if Nat.beq z.1 x then none else some (z.1, z.2)) = some (y, u) := e
      rw [bq_f hb] at e
      exact ⟨e, fun h => hb ((congrArg Prod.fst (Option.some.inj e)).trans h)⟩
theorem store_set (F : FrE C env X0 O X r D s.heap) (I : Inv C D X σ s) (hO : ∀ a, O a → X a) (hx : x < 74) (st : Sto env O x) (hv : VR C D X s.heap v p) {Q : Unit → Shared → Prop} {E : Value → Shared → Prop}
    (q : ∀ s', Chg C D X O s D σ s' → FrE C env X0 O X (r.set x v) D s'.heap → (∀ y p', y < 74 → y ≠ x → Vis env s.heap y p' → Vis env s'.heap y p') → Q () s') : wpAny (model C.prog C.w) A (storeName env (nm x) p) Q E s :=
  store_raw F hx st fun h' t S => have J := S.chg I hO; q _ J.1 (S.fre F J.2 (fun y u e => by
      have e : fget (fput r.ρ x v) y = some u := e
      by_cases hy : y = x
      · rw [hy, fget_fput1] at e; exact .inl ⟨hy, hy ▸ hx, Option.some.inj e ▸ hv.mono J.2⟩
      · rw [fget_fput2 _ _ hy] at e; exact .inr ⟨hy, e⟩) fun y u e => by
      have hw := set_w e
      cases F.own y u hw.1 with
      | mk h1 h0 h2 a h3 h4 h5 h6 h7 h8 => exact ⟨h1, (fget_fput2 _ _ hw.2).trans h0, h2, a, S.rest y _ h1 hw.2 h3, h4, h5, h6, h7, h8.calm J.2 (S.keepX F) h4 h5 h7 fun _ h _ => h⟩) S.rest
theorem store_own {a : Addr} {w : V} (F : FrE C env X0 O X r D s.heap) (I : Inv C D X σ s) (hO : ∀ a, O a → X a) (hx : x < 74) (hk : env.kindOf (nm x) = some .local) (ho : O env.locals)
    (ha : X a) (hoa : O a) (h0 : ¬ X0 a) (hL : a ≠ env.locals) (y : OwnR C D X O env.locals s.heap w a) {Q : Unit → Shared → Prop} {E : Value → Shared → Prop}
    (q : ∀ s', Chg C D X O s D σ s' → FrE C env X0 O X ⟨fdel r.ρ x, some (x, w)⟩ D s'.heap → Q () s') : wpAny (model C.prog C.w) A (storeName env (nm x) (.ref a)) Q E s :=
  store_raw F hx (.inl ⟨hk, ho⟩) fun h' t S => have J := S.chg I hO; q _ J.1 (S.fre F J.2 (fun y u e => by
      have e : fget (fdel r.ρ x) y = some u := e
      rw [fget_fdel] at e
      by_cases hy : y = x
      · rw [if_pos hy] at e; exact nn e
      · rw [if_neg hy] at e; exact .inr ⟨hy, e⟩) fun y' u e => by
      cases e
      exact ⟨hx, by rw [fget_fdel, if_pos rfl], hk, a, S.vis, ha, hoa, h0, hL, y.calm J.2 (S.keepX F) ha hoa hL fun _ h _ => h⟩)
end
end Mine
namespace Mine
noncomputable def kindIs (sc : Scope) (id : Str) (f : NameKind → Bool) : Bool := match sc.names.lookup id with
  | some k => f k
  | none => false
noncomputable def inKind : NameKind → Bool
  | .local => true | .cell => true | .free => true | _ => false
noncomputable def stoKind : NameKind → Bool
  | .local => true | .cell => true | _ => false
noncomputable def locKind : NameKind → Bool
  | .local => true | _ => false
noncomputable def globKind : NameKind → Bool
  | .globalImplicit => true | _ => false
noncomputable def okName (sc : Scope) (x : Nat) (id : Str) : Bool := Nat.blt x 74 && decide (id = nm x) && kindIs sc id inKind
noncomputable def stoName (sc : Scope) (x : Nat) (id : Str) : Bool := Nat.blt x 74 && decide (id = nm x) && kindIs sc id stoKind
noncomputable def locName (sc : Scope) (x : Nat) (id : Str) : Bool := Nat.blt x 74 && decide (id = nm x) && kindIs sc id locKind
noncomputable def globName (sc : Scope) (id s : Str) : Bool := decide (id = s) && kindIs sc id globKind
noncomputable def isSlice (e : Expr) : Bool := @Expr.casesOn (fun _ => Bool) e (fun _ _ _ => false) (fun _ _ _ => false) (fun _ _ _ _ => false) (fun _ _ _ => false) (fun _ _ _ _ => false) (fun _ _ _ _ => false) (fun _ _ _ => false) (fun _ _ _ => false) (fun _ _ _ _ => false) (fun _ _ _ _ => false) (fun _ _ _ _ _ => false) (fun _ _ _ _ => false) (fun _ _ => false) (fun _ _ => false) (fun _ _ => false) (fun _ _ _ _ => false) (fun _ _ _ _ => false) (fun _ _ _ _ => false) (fun _ _ => false) (fun _ _ _ => false) (fun _ _ _ => false) (fun _ _ _ => false) (fun _ _ => false) (fun _ _ => false) (fun _ _ => false) (fun _ _ _ => false) (fun _ _ _ _ => true)
noncomputable def onCst (e : Expr) (F : Const → Bool) : Bool := @Expr.casesOn (fun _ => Bool) e (fun _ _ _ => false) (fun _ _ _ => false) (fun _ _ _ _ => false) (fun _ _ _ => false) (fun _ _ _ _ => false) (fun _ _ _ _ => false) (fun _ _ _ => false) (fun _ _ _ => false) (fun _ _ _ _ => false) (fun _ _ _ _ => false) (fun _ _ _ _ _ => false) (fun _ _ _ _ => false) (fun _ _ => false) (fun _ _ => false) (fun _ _ => false) (fun _ _ _ _ => false) (fun _ _ _ _ => false) (fun _ _ _ _ => false) (fun _ _ => false) (fun c _ _ => F c) (fun _ _ _ => false) (fun _ _ _ => false) (fun _ _ => false) (fun _ _ => false) (fun _ _ => false) (fun _ _ _ => false) (fun _ _ _ _ => false)
theorem onCst_c {e : Expr} {F : Const → Bool} {G : Prop} (h : onCst e F = true) (k : ∀ c q p, e = .Constant c q p → F c = true → G) : G :=
  @Expr.casesOn (fun e' => e = e' → onCst e' F = true → G) e (fun _ _ _ _ (h : false = true) => ff h) (fun _ _ _ _ (h : false = true) => ff h) (fun _ _ _ _ _ (h : false = true) => ff h) (fun _ _ _ _ (h : false = true) => ff h) (fun _ _ _ _ _ (h : false = true) => ff h) (fun _ _ _ _ _ (h : false = true) => ff h) (fun _ _ _ _ (h : false = true) => ff h) (fun _ _ _ _ (h : false = true) => ff h) (fun _ _ _ _ _ (h : false = true) => ff h) (fun _ _ _ _ _ (h : false = true) => ff h) (fun _ _ _ _ _ _ (h : false = true) => ff h) (fun _ _ _ _ _ (h : false = true) => ff h) (fun _ _ _ (h : false = true) => ff h) (fun _ _ _ (h : false = true) => ff h) (fun _ _ _ (h : false = true) => ff h) (fun _ _ _ _ _ (h : false = true) => ff h) (fun _ _ _ _ _ (h : false = true) => ff h) (fun _ _ _ _ _ (h : false = true) => ff h) (fun _ _ _ (h : false = true) => ff h) k (fun _ _ _ _ (h : false = true) => ff h) (fun _ _ _ _ (h : false = true) => ff h) (fun _ _ _ (h : false = true) => ff h) (fun _ _ _ (h : false = true) => ff h) (fun _ _ _ (h : false = true) => ff h) (fun _ _ _ _ (h : false = true) => ff h) (fun _ _ _ _ _ (h : false = true) => ff h) rfl h
noncomputable def onName (e : Expr) (F : Str → Bool) : Bool := @Expr.casesOn (fun _ => Bool) e (fun _ _ _ => false) (fun _ _ _ => false) (fun _ _ _ _ => false) (fun _ _ _ => false) (fun _ _ _ _ => false) (fun _ _ _ _ => false) (fun _ _ _ => false) (fun _ _ _ => false) (fun _ _ _ _ => false) (fun _ _ _ _ => false) (fun _ _ _ _ _ => false) (fun _ _ _ _ => false) (fun _ _ => false) (fun _ _ => false) (fun _ _ => false) (fun _ _ _ _ => false) (fun _ _ _ _ => false) (fun _ _ _ _ => false) (fun _ _ => false) (fun _ _ _ => false) (fun _ _ _ => false) (fun _ _ _ => false) (fun _ _ => false) (fun i _ => F i) (fun _ _ => false) (fun _ _ _ => false) (fun _ _ _ _ => false)
theorem onName_c {e : Expr} {F : Str → Bool} {G : Prop} (h : onName e F = true) (k : ∀ i p, e = .Name i p → F i = true → G) : G :=
  @Expr.casesOn (fun e' => e = e' → onName e' F = true → G) e (fun _ _ _ _ (h : false = true) => ff h) (fun _ _ _ _ (h : false = true) => ff h) (fun _ _ _ _ _ (h : false = true) => ff h) (fun _ _ _ _ (h : false = true) => ff h) (fun _ _ _ _ _ (h : false = true) => ff h) (fun _ _ _ _ _ (h : false = true) => ff h) (fun _ _ _ _ (h : false = true) => ff h) (fun _ _ _ _ (h : false = true) => ff h) (fun _ _ _ _ _ (h : false = true) => ff h) (fun _ _ _ _ _ (h : false = true) => ff h) (fun _ _ _ _ _ _ (h : false = true) => ff h) (fun _ _ _ _ _ (h : false = true) => ff h) (fun _ _ _ (h : false = true) => ff h) (fun _ _ _ (h : false = true) => ff h) (fun _ _ _ (h : false = true) => ff h) (fun _ _ _ _ _ (h : false = true) => ff h) (fun _ _ _ _ _ (h : false = true) => ff h) (fun _ _ _ _ _ (h : false = true) => ff h) (fun _ _ _ (h : false = true) => ff h) (fun _ _ _ _ (h : false = true) => ff h) (fun _ _ _ _ (h : false = true) => ff h) (fun _ _ _ _ (h : false = true) => ff h) (fun _ _ _ (h : false = true) => ff h) k (fun _ _ _ (h : false = true) => ff h) (fun _ _ _ _ (h : false = true) => ff h) (fun _ _ _ _ _ (h : false = true) => ff h) rfl h
noncomputable def onTup (e : Expr) (F : List Expr → Bool) : Bool := @Expr.casesOn (fun _ => Bool) e (fun _ _ _ => false) (fun _ _ _ => false) (fun _ _ _ _ => false) (fun _ _ _ => false) (fun _ _ _ _ => false) (fun _ _ _ _ => false) (fun _ _ _ => false) (fun _ _ _ => false) (fun _ _ _ _ => false) (fun _ _ _ _ => false) (fun _ _ _ _ _ => false) (fun _ _ _ _ => false) (fun _ _ => false) (fun _ _ => false) (fun _ _ => false) (fun _ _ _ _ => false) (fun _ _ _ _ => false) (fun _ _ _ _ => false) (fun _ _ => false) (fun _ _ _ => false) (fun _ _ _ => false) (fun _ _ _ => false) (fun _ _ => false) (fun _ _ => false) (fun _ _ => false) (fun l _ _ => F l) (fun _ _ _ _ => false)
theorem onTup_c {e : Expr} {F : List Expr → Bool} {G : Prop} (h : onTup e F = true) (k : ∀ l q p, e = .Tuple l q p → F l = true → G) : G :=
  @Expr.casesOn (fun e' => e = e' → onTup e' F = true → G) e (fun _ _ _ _ (h : false = true) => ff h) (fun _ _ _ _ (h : false = true) => ff h) (fun _ _ _ _ _ (h : false = true) => ff h) (fun _ _ _ _ (h : false = true) => ff h) (fun _ _ _ _ _ (h : false = true) => ff h) (fun _ _ _ _ _ (h : false = true) => ff h) (fun _ _ _ _ (h : false = true) => ff h) (fun _ _ _ _ (h : false = true) => ff h) (fun _ _ _ _ _ (h : false = true) => ff h) (fun _ _ _ _ _ (h : false = true) => ff h) (fun _ _ _ _ _ _ (h : false = true) => ff h) (fun _ _ _ _ _ (h : false = true) => ff h) (fun _ _ _ (h : false = true) => ff h) (fun _ _ _ (h : false = true) => ff h) (fun _ _ _ (h : false = true) => ff h) (fun _ _ _ _ _ (h : false = true) => ff h) (fun _ _ _ _ _ (h : false = true) => ff h) (fun _ _ _ _ _ (h : false = true) => ff h) (fun _ _ _ (h : false = true) => ff h) (fun _ _ _ _ (h : false = true) => ff h) (fun _ _ _ _ (h : false = true) => ff h) (fun _ _ _ _ (h : false = true) => ff h) (fun _ _ _ (h : false = true) => ff h) (fun _ _ _ (h : false = true) => ff h) (fun _ _ _ (h : false = true) => ff h) k (fun _ _ _ _ _ (h : false = true) => ff h) rfl h
noncomputable def onLst (e : Expr) (F : List Expr → Bool) : Bool := @Expr.casesOn (fun _ => Bool) e (fun _ _ _ => false) (fun _ _ _ => false) (fun _ _ _ _ => false) (fun _ _ _ => false) (fun _ _ _ _ => false) (fun _ _ _ _ => false) (fun _ _ _ => false) (fun _ _ _ => false) (fun _ _ _ _ => false) (fun _ _ _ _ => false) (fun _ _ _ _ _ => false) (fun _ _ _ _ => false) (fun _ _ => false) (fun _ _ => false) (fun _ _ => false) (fun _ _ _ _ => false) (fun _ _ _ _ => false) (fun _ _ _ _ => false) (fun _ _ => false) (fun _ _ _ => false) (fun _ _ _ => false) (fun _ _ _ => false) (fun _ _ => false) (fun _ _ => false) (fun l _ => F l) (fun _ _ _ => false) (fun _ _ _ _ => false)
theorem onLst_c {e : Expr} {F : List Expr → Bool} {G : Prop} (h : onLst e F = true) (k : ∀ l p, e = .List l p → F l = true → G) : G :=
  @Expr.casesOn (fun e' => e = e' → onLst e' F = true → G) e (fun _ _ _ _ (h : false = true) => ff h) (fun _ _ _ _ (h : false = true) => ff h) (fun _ _ _ _ _ (h : false = true) => ff h) (fun _ _ _ _ (h : false = true) => ff h) (fun _ _ _ _ _ (h : false = true) => ff h) (fun _ _ _ _ _ (h : false = true) => ff h) (fun _ _ _ _ (h : false = true) => ff h) (fun _ _ _ _ (h : false = true) => ff h) (fun _ _ _ _ _ (h : false = true) => ff h) (fun _ _ _ _ _ (h : false = true) => ff h) (fun _ _ _ _ _ _ (h : false = true) => ff h) (fun _ _ _ _ _ (h : false = true) => ff h) (fun _ _ _ (h : false = true) => ff h) (fun _ _ _ (h : false = true) => ff h) (fun _ _ _ (h : false = true) => ff h) (fun _ _ _ _ _ (h : false = true) => ff h) (fun _ _ _ _ _ (h : false = true) => ff h) (fun _ _ _ _ _ (h : false = true) => ff h) (fun _ _ _ (h : false = true) => ff h) (fun _ _ _ _ (h : false = true) => ff h) (fun _ _ _ _ (h : false = true) => ff h) (fun _ _ _ _ (h : false = true) => ff h) (fun _ _ _ (h : false = true) => ff h) (fun _ _ _ (h : false = true) => ff h) k (fun _ _ _ _ (h : false = true) => ff h) (fun _ _ _ _ _ (h : false = true) => ff h) rfl h
noncomputable def onBin (e : Expr) (F : Expr → Operator → Expr → Bool) : Bool := @Expr.casesOn (fun _ => Bool) e (fun _ _ _ => false) (fun _ _ _ => false) (fun a o b _ => F a o b) (fun _ _ _ => false) (fun _ _ _ _ => false) (fun _ _ _ _ => false) (fun _ _ _ => false) (fun _ _ _ => false) (fun _ _ _ _ => false) (fun _ _ _ _ => false) (fun _ _ _ _ _ => false) (fun _ _ _ _ => false) (fun _ _ => false) (fun _ _ => false) (fun _ _ => false) (fun _ _ _ _ => false) (fun _ _ _ _ => false) (fun _ _ _ _ => false) (fun _ _ => false) (fun _ _ _ => false) (fun _ _ _ => false) (fun _ _ _ => false) (fun _ _ => false) (fun _ _ => false) (fun _ _ => false) (fun _ _ _ => false) (fun _ _ _ _ => false)
theorem onBin_c {e : Expr} {F : Expr → Operator → Expr → Bool} {G : Prop} (h : onBin e F = true) (k : ∀ a o b p, e = .BinOp a o b p → F a o b = true → G) : G :=
  @Expr.casesOn (fun e' => e = e' → onBin e' F = true → G) e (fun _ _ _ _ (h : false = true) => ff h) (fun _ _ _ _ (h : false = true) => ff h) k (fun _ _ _ _ (h : false = true) => ff h) (fun _ _ _ _ _ (h : false = true) => ff h) (fun _ _ _ _ _ (h : false = true) => ff h) (fun _ _ _ _ (h : false = true) => ff h) (fun _ _ _ _ (h : false = true) => ff h) (fun _ _ _ _ _ (h : false = true) => ff h) (fun _ _ _ _ _ (h : false = true) => ff h) (fun _ _ _ _ _ _ (h : false = true) => ff h) (fun _ _ _ _ _ (h : false = true) => ff h) (fun _ _ _ (h : false = true) => ff h) (fun _ _ _ (h : false = true) => ff h) (fun _ _ _ (h : false = true) => ff h) (fun _ _ _ _ _ (h : false = true) => ff h) (fun _ _ _ _ _ (h : false = true) => ff h) (fun _ _ _ _ _ (h : false = true) => ff h) (fun _ _ _ (h : false = true) => ff h) (fun _ _ _ _ (h : false = true) => ff h) (fun _ _ _ _ (h : false = true) => ff h) (fun _ _ _ _ (h : false = true) => ff h) (fun _ _ _ (h : false = true) => ff h) (fun _ _ _ (h : false = true) => ff h) (fun _ _ _ (h : false = true) => ff h) (fun _ _ _ _ (h : false = true) => ff h) (fun _ _ _ _ _ (h : false = true) => ff h) rfl h
noncomputable def onUn (e : Expr) (F : UnaryOp → Expr → Bool) : Bool := @Expr.casesOn (fun _ => Bool) e (fun _ _ _ => false) (fun _ _ _ => false) (fun _ _ _ _ => false) (fun o b _ => F o b) (fun _ _ _ _ => false) (fun _ _ _ _ => false) (fun _ _ _ => false) (fun _ _ _ => false) (fun _ _ _ _ => false) (fun _ _ _ _ => false) (fun _ _ _ _ _ => false) (fun _ _ _ _ => false) (fun _ _ => false) (fun _ _ => false) (fun _ _ => false) (fun _ _ _ _ => false) (fun _ _ _ _ => false) (fun _ _ _ _ => false) (fun _ _ => false) (fun _ _ _ => false) (fun _ _ _ => false) (fun _ _ _ => false) (fun _ _ => false) (fun _ _ => false) (fun _ _ => false) (fun _ _ _ => false) (fun _ _ _ _ => false)
theorem onUn_c {e : Expr} {F : UnaryOp → Expr → Bool} {G : Prop} (h : onUn e F = true) (k : ∀ o b p, e = .UnaryOp o b p → F o b = true → G) : G :=
  @Expr.casesOn (fun e' => e = e' → onUn e' F = true → G) e (fun _ _ _ _ (h : false = true) => ff h) (fun _ _ _ _ (h : false = true) => ff h) (fun _ _ _ _ _ (h : false = true) => ff h) k (fun _ _ _ _ _ (h : false = true) => ff h) (fun _ _ _ _ _ (h : false = true) => ff h) (fun _ _ _ _ (h : false = true) => ff h) (fun _ _ _ _ (h : false = true) => ff h) (fun _ _ _ _ _ (h : false = true) => ff h) (fun _ _ _ _ _ (h : false = true) => ff h) (fun _ _ _ _ _ _ (h : false = true) => ff h) (fun _ _ _ _ _ (h : false = true) => ff h) (fun _ _ _ (h : false = true) => ff h) (fun _ _ _ (h : false = true) => ff h) (fun _ _ _ (h : false = true) => ff h) (fun _ _ _ _ _ (h : false = true) => ff h) (fun _ _ _ _ _ (h : false = true) => ff h) (fun _ _ _ _ _ (h : false = true) => ff h) (fun _ _ _ (h : false = true) => ff h) (fun _ _ _ _ (h : false = true) => ff h) (fun _ _ _ _ (h : false = true) => ff h) (fun _ _ _ _ (h : false = true) => ff h) (fun _ _ _ (h : false = true) => ff h) (fun _ _ _ (h : false = true) => ff h) (fun _ _ _ (h : false = true) => ff h) (fun _ _ _ _ (h : false = true) => ff h) (fun _ _ _ _ _ (h : false = true) => ff h) rfl h
noncomputable def onCmp (e : Expr) (F : Expr → List CmpOp → List Expr → Bool) : Bool := @Expr.casesOn (fun _ => Bool) e (fun _ _ _ => false) (fun _ _ _ => false) (fun _ _ _ _ => false) (fun _ _ _ => false) (fun _ _ _ _ => false) (fun _ _ _ _ => false) (fun _ _ _ => false) (fun _ _ _ => false) (fun _ _ _ _ => false) (fun _ _ _ _ => false) (fun _ _ _ _ _ => false) (fun _ _ _ _ => false) (fun _ _ => false) (fun _ _ => false) (fun _ _ => false) (fun a o b _ => F a o b) (fun _ _ _ _ => false) (fun _ _ _ _ => false) (fun _ _ => false) (fun _ _ _ => false) (fun _ _ _ => false) (fun _ _ _ => false) (fun _ _ => false) (fun _ _ => false) (fun _ _ => false) (fun _ _ _ => false) (fun _ _ _ _ => false)
theorem onCmp_c {e : Expr} {F : Expr → List CmpOp → List Expr → Bool} {G : Prop} (h : onCmp e F = true) (k : ∀ a o b p, e = .Compare a o b p → F a o b = true → G) : G :=
  @Expr.casesOn (fun e' => e = e' → onCmp e' F = true → G) e (fun _ _ _ _ (h : false = true) => ff h) (fun _ _ _ _ (h : false = true) => ff h) (fun _ _ _ _ _ (h : false = true) => ff h) (fun _ _ _ _ (h : false = true) => ff h) (fun _ _ _ _ _ (h : false = true) => ff h) (fun _ _ _ _ _ (h : false = true) => ff h) (fun _ _ _ _ (h : false = true) => ff h) (fun _ _ _ _ (h : false = true) => ff h) (fun _ _ _ _ _ (h : false = true) => ff h) (fun _ _ _ _ _ (h : false = true) => ff h) (fun _ _ _ _ _ _ (h : false = true) => ff h) (fun _ _ _ _ _ (h : false = true) => ff h) (fun _ _ _ (h : false = true) => ff h) (fun _ _ _ (h : false = true) => ff h) (fun _ _ _ (h : false = true) => ff h) k (fun _ _ _ _ _ (h : false = true) => ff h) (fun _ _ _ _ _ (h : false = true) => ff h) (fun _ _ _ (h : false = true) => ff h) (fun _ _ _ _ (h : false = true) => ff h) (fun _ _ _ _ (h : false = true) => ff h) (fun _ _ _ _ (h : false = true) => ff h) (fun _ _ _ (h : false = true) => ff h) (fun _ _ _ (h : false = true) => ff h) (fun _ _ _ (h : false = true) => ff h) (fun _ _ _ _ (h : false = true) => ff h) (fun _ _ _ _ _ (h : false = true) => ff h) rfl h
noncomputable def onBool (e : Expr) (F : BoolOp → List Expr → Bool) : Bool := @Expr.casesOn (fun _ => Bool) e (fun o l _ => F o l) (fun _ _ _ => false) (fun _ _ _ _ => false) (fun _ _ _ => false) (fun _ _ _ _ => false) (fun _ _ _ _ => false) (fun _ _ _ => false) (fun _ _ _ => false) (fun _ _ _ _ => false) (fun _ _ _ _ => false) (fun _ _ _ _ _ => false) (fun _ _ _ _ => false) (fun _ _ => false) (fun _ _ => false) (fun _ _ => false) (fun _ _ _ _ => false) (fun _ _ _ _ => false) (fun _ _ _ _ => false) (fun _ _ => false) (fun _ _ _ => false) (fun _ _ _ => false) (fun _ _ _ => false) (fun _ _ => false) (fun _ _ => false) (fun _ _ => false) (fun _ _ _ => false) (fun _ _ _ _ => false)
theorem onBool_c {e : Expr} {F : BoolOp → List Expr → Bool} {G : Prop} (h : onBool e F = true) (k : ∀ o l p, e = .BoolOp o l p → F o l = true → G) : G :=
  @Expr.casesOn (fun e' => e = e' → onBool e' F = true → G) e k (fun _ _ _ _ (h : false = true) => ff h) (fun _ _ _ _ _ (h : false = true) => ff h) (fun _ _ _ _ (h : false = true) => ff h) (fun _ _ _ _ _ (h : false = true) => ff h) (fun _ _ _ _ _ (h : false = true) => ff h) (fun _ _ _ _ (h : false = true) => ff h) (fun _ _ _ _ (h : false = true) => ff h) (fun _ _ _ _ _ (h : false = true) => ff h) (fun _ _ _ _ _ (h : false = true) => ff h) (fun _ _ _ _ _ _ (h : false = true) => ff h) (fun _ _ _ _ _ (h : false = true) => ff h) (fun _ _ _ (h : false = true) => ff h) (fun _ _ _ (h : false = true) => ff h) (fun _ _ _ (h : false = true) => ff h) (fun _ _ _ _ _ (h : false = true) => ff h) (fun _ _ _ _ _ (h : false = true) => ff h) (fun _ _ _ _ _ (h : false = true) => ff h) (fun _ _ _ (h : false = true) => ff h) (fun _ _ _ _ (h : false = true) => ff h) (fun _ _ _ _ (h : false = true) => ff h) (fun _ _ _ _ (h : false = true) => ff h) (fun _ _ _ (h : false = true) => ff h) (fun _ _ _ (h : false = true) => ff h) (fun _ _ _ (h : false = true) => ff h) (fun _ _ _ _ (h : false = true) => ff h) (fun _ _ _ _ _ (h : false = true) => ff h) rfl h
noncomputable def onIte (e : Expr) (F : Expr → Expr → Expr → Bool) : Bool := @Expr.casesOn (fun _ => Bool) e (fun _ _ _ => false) (fun _ _ _ => false) (fun _ _ _ _ => false) (fun _ _ _ => false) (fun _ _ _ _ => false) (fun a b c _ => F a b c) (fun _ _ _ => false) (fun _ _ _ => false) (fun _ _ _ _ => false) (fun _ _ _ _ => false) (fun _ _ _ _ _ => false) (fun _ _ _ _ => false) (fun _ _ => false) (fun _ _ => false) (fun _ _ => false) (fun _ _ _ _ => false) (fun _ _ _ _ => false) (fun _ _ _ _ => false) (fun _ _ => false) (fun _ _ _ => false) (fun _ _ _ => false) (fun _ _ _ => false) (fun _ _ => false) (fun _ _ => false) (fun _ _ => false) (fun _ _ _ => false) (fun _ _ _ _ => false)
theorem onIte_c {e : Expr} {F : Expr → Expr → Expr → Bool} {G : Prop} (h : onIte e F = true) (k : ∀ a b c p, e = .IfExp a b c p → F a b c = true → G) : G :=
  @Expr.casesOn (fun e' => e = e' → onIte e' F = true → G) e (fun _ _ _ _ (h : false = true) => ff h) (fun _ _ _ _ (h : false = true) => ff h) (fun _ _ _ _ _ (h : false = true) => ff h) (fun _ _ _ _ (h : false = true) => ff h) (fun _ _ _ _ _ (h : false = true) => ff h) k (fun _ _ _ _ (h : false = true) => ff h) (fun _ _ _ _ (h : false = true) => ff h) (fun _ _ _ _ _ (h : false = true) => ff h) (fun _ _ _ _ _ (h : false = true) => ff h) (fun _ _ _ _ _ _ (h : false = true) => ff h) (fun _ _ _ _ _ (h : false = true) => ff h) (fun _ _ _ (h : false = true) => ff h) (fun _ _ _ (h : false = true) => ff h) (fun _ _ _ (h : false = true) => ff h) (fun _ _ _ _ _ (h : false = true) => ff h) (fun _ _ _ _ _ (h : false = true) => ff h) (fun _ _ _ _ _ (h : false = true) => ff h) (fun _ _ _ (h : false = true) => ff h) (fun _ _ _ _ (h : false = true) => ff h) (fun _ _ _ _ (h : false = true) => ff h) (fun _ _ _ _ (h : false = true) => ff h) (fun _ _ _ (h : false = true) => ff h) (fun _ _ _ (h : false = true) => ff h) (fun _ _ _ (h : false = true) => ff h) (fun _ _ _ _ (h : false = true) => ff h) (fun _ _ _ _ _ (h : false = true) => ff h) rfl h
noncomputable def onAttr (e : Expr) (F : Expr → Str → Pos → Bool) : Bool := @Expr.casesOn (fun _ => Bool) e (fun _ _ _ => false) (fun _ _ _ => false) (fun _ _ _ _ => false) (fun _ _ _ => false) (fun _ _ _ _ => false) (fun _ _ _ _ => false) (fun _ _ _ => false) (fun _ _ _ => false) (fun _ _ _ _ => false) (fun _ _ _ _ => false) (fun _ _ _ _ _ => false) (fun _ _ _ _ => false) (fun _ _ => false) (fun _ _ => false) (fun _ _ => false) (fun _ _ _ _ => false) (fun _ _ _ _ => false) (fun _ _ _ _ => false) (fun _ _ => false) (fun _ _ _ => false) (fun v n q => F v n q) (fun _ _ _ => false) (fun _ _ => false) (fun _ _ => false) (fun _ _ => false) (fun _ _ _ => false) (fun _ _ _ _ => false)
theorem onAttr_c {e : Expr} {F : Expr → Str → Pos → Bool} {G : Prop} (h : onAttr e F = true) (k : ∀ v n q, e = .Attribute v n q → F v n q = true → G) : G :=
  @Expr.casesOn (fun e' => e = e' → onAttr e' F = true → G) e (fun _ _ _ _ (h : false = true) => ff h) (fun _ _ _ _ (h : false = true) => ff h) (fun _ _ _ _ _ (h : false = true) => ff h) (fun _ _ _ _ (h : false = true) => ff h) (fun _ _ _ _ _ (h : false = true) => ff h) (fun _ _ _ _ _ (h : false = true) => ff h) (fun _ _ _ _ (h : false = true) => ff h) (fun _ _ _ _ (h : false = true) => ff h) (fun _ _ _ _ _ (h : false = true) => ff h) (fun _ _ _ _ _ (h : false = true) => ff h) (fun _ _ _ _ _ _ (h : false = true) => ff h) (fun _ _ _ _ _ (h : false = true) => ff h) (fun _ _ _ (h : false = true) => ff h) (fun _ _ _ (h : false = true) => ff h) (fun _ _ _ (h : false = true) => ff h) (fun _ _ _ _ _ (h : false = true) => ff h) (fun _ _ _ _ _ (h : false = true) => ff h) (fun _ _ _ _ _ (h : false = true) => ff h) (fun _ _ _ (h : false = true) => ff h) (fun _ _ _ _ (h : false = true) => ff h) k (fun _ _ _ _ (h : false = true) => ff h) (fun _ _ _ (h : false = true) => ff h) (fun _ _ _ (h : false = true) => ff h) (fun _ _ _ (h : false = true) => ff h) (fun _ _ _ _ (h : false = true) => ff h) (fun _ _ _ _ _ (h : false = true) => ff h) rfl h
noncomputable def onSub (e : Expr) (F : Expr → Expr → Bool) : Bool := @Expr.casesOn (fun _ => Bool) e (fun _ _ _ => false) (fun _ _ _ => false) (fun _ _ _ _ => false) (fun _ _ _ => false) (fun _ _ _ _ => false) (fun _ _ _ _ => false) (fun _ _ _ => false) (fun _ _ _ => false) (fun _ _ _ _ => false) (fun _ _ _ _ => false) (fun _ _ _ _ _ => false) (fun _ _ _ _ => false) (fun _ _ => false) (fun _ _ => false) (fun _ _ => false) (fun _ _ _ _ => false) (fun _ _ _ _ => false) (fun _ _ _ _ => false) (fun _ _ => false) (fun _ _ _ => false) (fun _ _ _ => false) (fun a b _ => F a b) (fun _ _ => false) (fun _ _ => false) (fun _ _ => false) (fun _ _ _ => false) (fun _ _ _ _ => false)
theorem onSub_c {e : Expr} {F : Expr → Expr → Bool} {G : Prop} (h : onSub e F = true) (k : ∀ a b p, e = .Subscript a b p → F a b = true → G) : G :=
  @Expr.casesOn (fun e' => e = e' → onSub e' F = true → G) e (fun _ _ _ _ (h : false = true) => ff h) (fun _ _ _ _ (h : false = true) => ff h) (fun _ _ _ _ _ (h : false = true) => ff h) (fun _ _ _ _ (h : false = true) => ff h) (fun _ _ _ _ _ (h : false = true) => ff h) (fun _ _ _ _ _ (h : false = true) => ff h) (fun _ _ _ _ (h : false = true) => ff h) (fun _ _ _ _ (h : false = true) => ff h) (fun _ _ _ _ _ (h : false = true) => ff h) (fun _ _ _ _ _ (h : false = true) => ff h) (fun _ _ _ _ _ _ (h : false = true) => ff h) (fun _ _ _ _ _ (h : false = true) => ff h) (fun _ _ _ (h : false = true) => ff h) (fun _ _ _ (h : false = true) => ff h) (fun _ _ _ (h : false = true) => ff h) (fun _ _ _ _ _ (h : false = true) => ff h) (fun _ _ _ _ _ (h : false = true) => ff h) (fun _ _ _ _ _ (h : false = true) => ff h) (fun _ _ _ (h : false = true) => ff h) (fun _ _ _ _ (h : false = true) => ff h) (fun _ _ _ _ (h : false = true) => ff h) k (fun _ _ _ (h : false = true) => ff h) (fun _ _ _ (h : false = true) => ff h) (fun _ _ _ (h : false = true) => ff h) (fun _ _ _ _ (h : false = true) => ff h) (fun _ _ _ _ _ (h : false = true) => ff h) rfl h
noncomputable def onSlc (e : Expr) (F : Option Expr → Option Expr → Option Expr → Bool) : Bool := @Expr.casesOn (fun _ => Bool) e (fun _ _ _ => false) (fun _ _ _ => false) (fun _ _ _ _ => false) (fun _ _ _ => false) (fun _ _ _ _ => false) (fun _ _ _ _ => false) (fun _ _ _ => false) (fun _ _ _ => false) (fun _ _ _ _ => false) (fun _ _ _ _ => false) (fun _ _ _ _ _ => false) (fun _ _ _ _ => false) (fun _ _ => false) (fun _ _ => false) (fun _ _ => false) (fun _ _ _ _ => false) (fun _ _ _ _ => false) (fun _ _ _ _ => false) (fun _ _ => false) (fun _ _ _ => false) (fun _ _ _ => false) (fun _ _ _ => false) (fun _ _ => false) (fun _ _ => false) (fun _ _ => false) (fun _ _ _ => false) (fun a b c _ => F a b c)
theorem onSlc_c {e : Expr} {F : Option Expr → Option Expr → Option Expr → Bool} {G : Prop} (h : onSlc e F = true) (k : ∀ a b c p, e = .Slice a b c p → F a b c = true → G) : G :=
  @Expr.casesOn (fun e' => e = e' → onSlc e' F = true → G) e (fun _ _ _ _ (h : false = true) => ff h) (fun _ _ _ _ (h : false = true) => ff h) (fun _ _ _ _ _ (h : false = true) => ff h) (fun _ _ _ _ (h : false = true) => ff h) (fun _ _ _ _ _ (h : false = true) => ff h) (fun _ _ _ _ _ (h : false = true) => ff h) (fun _ _ _ _ (h : false = true) => ff h) (fun _ _ _ _ (h : false = true) => ff h) (fun _ _ _ _ _ (h : false = true) => ff h) (fun _ _ _ _ _ (h : false = true) => ff h) (fun _ _ _ _ _ _ (h : false = true) => ff h) (fun _ _ _ _ _ (h : false = true) => ff h) (fun _ _ _ (h : false = true) => ff h) (fun _ _ _ (h : false = true) => ff h) (fun _ _ _ (h : false = true) => ff h) (fun _ _ _ _ _ (h : false = true) => ff h) (fun _ _ _ _ _ (h : false = true) => ff h) (fun _ _ _ _ _ (h : false = true) => ff h) (fun _ _ _ (h : false = true) => ff h) (fun _ _ _ _ (h : false = true) => ff h) (fun _ _ _ _ (h : false = true) => ff h) (fun _ _ _ _ (h : false = true) => ff h) (fun _ _ _ (h : false = true) => ff h) (fun _ _ _ (h : false = true) => ff h) (fun _ _ _ (h : false = true) => ff h) (fun _ _ _ _ (h : false = true) => ff h) k rfl h
noncomputable def onLC (e : Expr) (F : Expr → List Comprehension → Scope → Bool) : Bool := @Expr.casesOn (fun _ => Bool) e (fun _ _ _ => false) (fun _ _ _ => false) (fun _ _ _ _ => false) (fun _ _ _ => false) (fun _ _ _ _ => false) (fun _ _ _ _ => false) (fun _ _ _ => false) (fun _ _ _ => false) (fun a g c _ => F a g c) (fun _ _ _ _ => false) (fun _ _ _ _ _ => false) (fun _ _ _ _ => false) (fun _ _ => false) (fun _ _ => false) (fun _ _ => false) (fun _ _ _ _ => false) (fun _ _ _ _ => false) (fun _ _ _ _ => false) (fun _ _ => false) (fun _ _ _ => false) (fun _ _ _ => false) (fun _ _ _ => false) (fun _ _ => false) (fun _ _ => false) (fun _ _ => false) (fun _ _ _ => false) (fun _ _ _ _ => false)
theorem onLC_c {e : Expr} {F : Expr → List Comprehension → Scope → Bool} {G : Prop} (h : onLC e F = true) (k : ∀ a g c p, e = .ListComp a g c p → F a g c = true → G) : G :=
  @Expr.casesOn (fun e' => e = e' → onLC e' F = true → G) e (fun _ _ _ _ (h : false = true) => ff h) (fun _ _ _ _ (h : false = true) => ff h) (fun _ _ _ _ _ (h : false = true) => ff h) (fun _ _ _ _ (h : false = true) => ff h) (fun _ _ _ _ _ (h : false = true) => ff h) (fun _ _ _ _ _ (h : false = true) => ff h) (fun _ _ _ _ (h : false = true) => ff h) (fun _ _ _ _ (h : false = true) => ff h) k (fun _ _ _ _ _ (h : false = true) => ff h) (fun _ _ _ _ _ _ (h : false = true) => ff h) (fun _ _ _ _ _ (h : false = true) => ff h) (fun _ _ _ (h : false = true) => ff h) (fun _ _ _ (h : false = true) => ff h) (fun _ _ _ (h : false = true) => ff h) (fun _ _ _ _ _ (h : false = true) => ff h) (fun _ _ _ _ _ (h : false = true) => ff h) (fun _ _ _ _ _ (h : false = true) => ff h) (fun _ _ _ (h : false = true) => ff h) (fun _ _ _ _ (h : false = true) => ff h) (fun _ _ _ _ (h : false = true) => ff h) (fun _ _ _ _ (h : false = true) => ff h) (fun _ _ _ (h : false = true) => ff h) (fun _ _ _ (h : false = true) => ff h) (fun _ _ _ (h : false = true) => ff h) (fun _ _ _ _ (h : false = true) => ff h) (fun _ _ _ _ _ (h : false = true) => ff h) rfl h
noncomputable def onDC (e : Expr) (F : Expr → Expr → List Comprehension → Scope → Bool) : Bool := @Expr.casesOn (fun _ => Bool) e (fun _ _ _ => false) (fun _ _ _ => false) (fun _ _ _ _ => false) (fun _ _ _ => false) (fun _ _ _ _ => false) (fun _ _ _ _ => false) (fun _ _ _ => false) (fun _ _ _ => false) (fun _ _ _ _ => false) (fun _ _ _ _ => false) (fun a b g c _ => F a b g c) (fun _ _ _ _ => false) (fun _ _ => false) (fun _ _ => false) (fun _ _ => false) (fun _ _ _ _ => false) (fun _ _ _ _ => false) (fun _ _ _ _ => false) (fun _ _ => false) (fun _ _ _ => false) (fun _ _ _ => false) (fun _ _ _ => false) (fun _ _ => false) (fun _ _ => false) (fun _ _ => false) (fun _ _ _ => false) (fun _ _ _ _ => false)
theorem onDC_c {e : Expr} {F : Expr → Expr → List Comprehension → Scope → Bool} {G : Prop} (h : onDC e F = true) (k : ∀ a b g c p, e = .DictComp a b g c p → F a b g c = true → G) : G :=
  @Expr.casesOn (fun e' => e = e' → onDC e' F = true → G) e (fun _ _ _ _ (h : false = true) => ff h) (fun _ _ _ _ (h : false = true) => ff h) (fun _ _ _ _ _ (h : false = true) => ff h) (fun _ _ _ _ (h : false = true) => ff h) (fun _ _ _ _ _ (h : false = true) => ff h) (fun _ _ _ _ _ (h : false = true) => ff h) (fun _ _ _ _ (h : false = true) => ff h) (fun _ _ _ _ (h : false = true) => ff h) (fun _ _ _ _ _ (h : false = true) => ff h) (fun _ _ _ _ _ (h : false = true) => ff h) k (fun _ _ _ _ _ (h : false = true) => ff h) (fun _ _ _ (h : false = true) => ff h) (fun _ _ _ (h : false = true) => ff h) (fun _ _ _ (h : false = true) => ff h) (fun _ _ _ _ _ (h : false = true) => ff h) (fun _ _ _ _ _ (h : false = true) => ff h) (fun _ _ _ _ _ (h : false = true) => ff h) (fun _ _ _ (h : false = true) => ff h) (fun _ _ _ _ (h : false = true) => ff h) (fun _ _ _ _ (h : false = true) => ff h) (fun _ _ _ _ (h : false = true) => ff h) (fun _ _ _ (h : false = true) => ff h) (fun _ _ _ (h : false = true) => ff h) (fun _ _ _ (h : false = true) => ff h) (fun _ _ _ _ (h : false = true) => ff h) (fun _ _ _ _ _ (h : false = true) => ff h) rfl h
noncomputable def onCall (e : Expr) (F : Expr → List Expr → List Keyword → Pos → Bool) : Bool := @Expr.casesOn (fun _ => Bool) e (fun _ _ _ => false) (fun _ _ _ => false) (fun _ _ _ _ => false) (fun _ _ _ => false) (fun _ _ _ _ => false) (fun _ _ _ _ => false) (fun _ _ _ => false) (fun _ _ _ => false) (fun _ _ _ _ => false) (fun _ _ _ _ => false) (fun _ _ _ _ _ => false) (fun _ _ _ _ => false) (fun _ _ => false) (fun _ _ => false) (fun _ _ => false) (fun _ _ _ _ => false) (fun f l w p => F f l w p) (fun _ _ _ _ => false) (fun _ _ => false) (fun _ _ _ => false) (fun _ _ _ => false) (fun _ _ _ => false) (fun _ _ => false) (fun _ _ => false) (fun _ _ => false) (fun _ _ _ => false) (fun _ _ _ _ => false)
theorem onCall_c {e : Expr} {F : Expr → List Expr → List Keyword → Pos → Bool} {G : Prop} (h : onCall e F = true) (k : ∀ f l w p, e = .Call f l w p → F f l w p = true → G) : G :=
  @Expr.casesOn (fun e' => e = e' → onCall e' F = true → G) e (fun _ _ _ _ (h : false = true) => ff h) (fun _ _ _ _ (h : false = true) => ff h) (fun _ _ _ _ _ (h : false = true) => ff h) (fun _ _ _ _ (h : false = true) => ff h) (fun _ _ _ _ _ (h : false = true) => ff h) (fun _ _ _ _ _ (h : false = true) => ff h) (fun _ _ _ _ (h : false = true) => ff h) (fun _ _ _ _ (h : false = true) => ff h) (fun _ _ _ _ _ (h : false = true) => ff h) (fun _ _ _ _ _ (h : false = true) => ff h) (fun _ _ _ _ _ _ (h : false = true) => ff h) (fun _ _ _ _ _ (h : false = true) => ff h) (fun _ _ _ (h : false = true) => ff h) (fun _ _ _ (h : false = true) => ff h) (fun _ _ _ (h : false = true) => ff h) (fun _ _ _ _ _ (h : false = true) => ff h) k (fun _ _ _ _ _ (h : false = true) => ff h) (fun _ _ _ (h : false = true) => ff h) (fun _ _ _ _ (h : false = true) => ff h) (fun _ _ _ _ (h : false = true) => ff h) (fun _ _ _ _ (h : false = true) => ff h) (fun _ _ _ (h : false = true) => ff h) (fun _ _ _ (h : false = true) => ff h) (fun _ _ _ (h : false = true) => ff h) (fun _ _ _ _ (h : false = true) => ff h) (fun _ _ _ _ _ (h : false = true) => ff h) rfl h
noncomputable def onDct (e : Expr) (F : List (Option Expr) → List Expr → Bool) : Bool := @Expr.casesOn (fun _ => Bool) e (fun _ _ _ => false) (fun _ _ _ => false) (fun _ _ _ _ => false) (fun _ _ _ => false) (fun _ _ _ _ => false) (fun _ _ _ _ => false) (fun w l _ => F w l) (fun _ _ _ => false) (fun _ _ _ _ => false) (fun _ _ _ _ => false) (fun _ _ _ _ _ => false) (fun _ _ _ _ => false) (fun _ _ => false) (fun _ _ => false) (fun _ _ => false) (fun _ _ _ _ => false) (fun _ _ _ _ => false) (fun _ _ _ _ => false) (fun _ _ => false) (fun _ _ _ => false) (fun _ _ _ => false) (fun _ _ _ => false) (fun _ _ => false) (fun _ _ => false) (fun _ _ => false) (fun _ _ _ => false) (fun _ _ _ _ => false)
theorem onDct_c {e : Expr} {F : List (Option Expr) → List Expr → Bool} {G : Prop} (h : onDct e F = true) (k : ∀ w l p, e = .Dict w l p → F w l = true → G) : G :=
  @Expr.casesOn (fun e' => e = e' → onDct e' F = true → G) e (fun _ _ _ _ (h : false = true) => ff h) (fun _ _ _ _ (h : false = true) => ff h) (fun _ _ _ _ _ (h : false = true) => ff h) (fun _ _ _ _ (h : false = true) => ff h) (fun _ _ _ _ _ (h : false = true) => ff h) (fun _ _ _ _ _ (h : false = true) => ff h) k (fun _ _ _ _ (h : false = true) => ff h) (fun _ _ _ _ _ (h : false = true) => ff h) (fun _ _ _ _ _ (h : false = true) => ff h) (fun _ _ _ _ _ _ (h : false = true) => ff h) (fun _ _ _ _ _ (h : false = true) => ff h) (fun _ _ _ (h : false = true) => ff h) (fun _ _ _ (h : false = true) => ff h) (fun _ _ _ (h : false = true) => ff h) (fun _ _ _ _ _ (h : false = true) => ff h) (fun _ _ _ _ _ (h : false = true) => ff h) (fun _ _ _ _ _ (h : false = true) => ff h) (fun _ _ _ (h : false = true) => ff h) (fun _ _ _ _ (h : false = true) => ff h) (fun _ _ _ _ (h : false = true) => ff h) (fun _ _ _ _ (h : false = true) => ff h) (fun _ _ _ (h : false = true) => ff h) (fun _ _ _ (h : false = true) => ff h) (fun _ _ _ (h : false = true) => ff h) (fun _ _ _ _ (h : false = true) => ff h) (fun _ _ _ _ _ (h : false = true) => ff h) rfl h
noncomputable def sAsg (e : Stmt) (F : List Expr → Expr → Bool) : Bool := @Stmt.casesOn (fun _ => Bool) e (fun _ _ _ _ _ _ _ _ _ _ => false) (fun _ _ _ _ _ _ _ _ _ _ => false) (fun _ _ _ _ _ _ _ _ _ _ _ => false) (fun _ _ => false) (fun _ _ => false) (fun l a _ => F l a) (fun _ _ _ _ _ _ _ => false) (fun _ _ _ _ => false) (fun _ _ _ _ _ => false) (fun _ _ _ _ _ => false) (fun _ _ _ _ _ => false) (fun _ _ _ _ => false) (fun _ _ _ _ => false) (fun _ _ _ => false) (fun _ _ _ => false) (fun _ _ _ => false) (fun _ _ _ => false) (fun _ _ _ _ _ => false) (fun _ _ _ _ _ => false) (fun _ _ _ => false) (fun _ _ => false) (fun _ _ _ _ => false) (fun _ _ => false) (fun _ _ => false) (fun _ _ => false) (fun _ => false) (fun _ => false) (fun _ => false)
theorem sAsg_c {e : Stmt} {F : List Expr → Expr → Bool} {G : Prop} (h : sAsg e F = true) (k : ∀ l a p, e = .Assign l a p → F l a = true → G) : G :=
  @Stmt.casesOn (fun e' => e = e' → sAsg e' F = true → G) e (fun _ _ _ _ _ _ _ _ _ _ _ (h : false = true) => ff h) (fun _ _ _ _ _ _ _ _ _ _ _ (h : false = true) => ff h) (fun _ _ _ _ _ _ _ _ _ _ _ _ (h : false = true) => ff h) (fun _ _ _ (h : false = true) => ff h) (fun _ _ _ (h : false = true) => ff h) k (fun _ _ _ _ _ _ _ _ (h : false = true) => ff h) (fun _ _ _ _ _ (h : false = true) => ff h) (fun _ _ _ _ _ _ (h : false = true) => ff h) (fun _ _ _ _ _ _ (h : false = true) => ff h) (fun _ _ _ _ _ _ (h : false = true) => ff h) (fun _ _ _ _ _ (h : false = true) => ff h) (fun _ _ _ _ _ (h : false = true) => ff h) (fun _ _ _ _ (h : false = true) => ff h) (fun _ _ _ _ (h : false = true) => ff h) (fun _ _ _ _ (h : false = true) => ff h) (fun _ _ _ _ (h : false = true) => ff h) (fun _ _ _ _ _ _ (h : false = true) => ff h) (fun _ _ _ _ _ _ (h : false = true) => ff h) (fun _ _ _ _ (h : false = true) => ff h) (fun _ _ _ (h : false = true) => ff h) (fun _ _ _ _ _ (h : false = true) => ff h) (fun _ _ _ (h : false = true) => ff h) (fun _ _ _ (h : false = true) => ff h) (fun _ _ _ (h : false = true) => ff h) (fun _ _ (h : false = true) => ff h) (fun _ _ (h : false = true) => ff h) (fun _ _ (h : false = true) => ff h) rfl h
noncomputable def sExp (e : Stmt) (F : Expr → Bool) : Bool := @Stmt.casesOn (fun _ => Bool) e (fun _ _ _ _ _ _ _ _ _ _ => false) (fun _ _ _ _ _ _ _ _ _ _ => false) (fun _ _ _ _ _ _ _ _ _ _ _ => false) (fun _ _ => false) (fun _ _ => false) (fun _ _ _ => false) (fun _ _ _ _ _ _ _ => false) (fun _ _ _ _ => false) (fun _ _ _ _ _ => false) (fun _ _ _ _ _ => false) (fun _ _ _ _ _ => false) (fun _ _ _ _ => false) (fun _ _ _ _ => false) (fun _ _ _ => false) (fun _ _ _ => false) (fun _ _ _ => false) (fun _ _ _ => false) (fun _ _ _ _ _ => false) (fun _ _ _ _ _ => false) (fun _ _ _ => false) (fun _ _ => false) (fun _ _ _ _ => false) (fun _ _ => false) (fun _ _ => false) (fun a _ => F a) (fun _ => false) (fun _ => false) (fun _ => false)
theorem sExp_c {e : Stmt} {F : Expr → Bool} {G : Prop} (h : sExp e F = true) (k : ∀ a p, e = .Expr a p → F a = true → G) : G :=
  @Stmt.casesOn (fun e' => e = e' → sExp e' F = true → G) e (fun _ _ _ _ _ _ _ _ _ _ _ (h : false = true) => ff h) (fun _ _ _ _ _ _ _ _ _ _ _ (h : false = true) => ff h) (fun _ _ _ _ _ _ _ _ _ _ _ _ (h : false = true) => ff h) (fun _ _ _ (h : false = true) => ff h) (fun _ _ _ (h : false = true) => ff h) (fun _ _ _ _ (h : false = true) => ff h) (fun _ _ _ _ _ _ _ _ (h : false = true) => ff h) (fun _ _ _ _ _ (h : false = true) => ff h) (fun _ _ _ _ _ _ (h : false = true) => ff h) (fun _ _ _ _ _ _ (h : false = true) => ff h) (fun _ _ _ _ _ _ (h : false = true) => ff h) (fun _ _ _ _ _ (h : false = true) => ff h) (fun _ _ _ _ _ (h : false = true) => ff h) (fun _ _ _ _ (h : false = true) => ff h) (fun _ _ _ _ (h : false = true) => ff h) (fun _ _ _ _ (h : false = true) => ff h) (fun _ _ _ _ (h : false = true) => ff h) (fun _ _ _ _ _ _ (h : false = true) => ff h) (fun _ _ _ _ _ _ (h : false = true) => ff h) (fun _ _ _ _ (h : false = true) => ff h) (fun _ _ _ (h : false = true) => ff h) (fun _ _ _ _ _ (h : false = true) => ff h) (fun _ _ _ (h : false = true) => ff h) (fun _ _ _ (h : false = true) => ff h) k (fun _ _ (h : false = true) => ff h) (fun _ _ (h : false = true) => ff h) (fun _ _ (h : false = true) => ff h) rfl h
noncomputable def sIf (e : Stmt) (F : Expr → List Stmt → List Stmt → Bool) : Bool := @Stmt.casesOn (fun _ => Bool) e (fun _ _ _ _ _ _ _ _ _ _ => false) (fun _ _ _ _ _ _ _ _ _ _ => false) (fun _ _ _ _ _ _ _ _ _ _ _ => false) (fun _ _ => false) (fun _ _ => false) (fun _ _ _ => false) (fun _ _ _ _ _ _ _ => false) (fun _ _ _ _ => false) (fun _ _ _ _ _ => false) (fun _ _ _ _ _ => false) (fun _ _ _ _ _ => false) (fun _ _ _ _ => false) (fun a b c _ => F a b c) (fun _ _ _ => false) (fun _ _ _ => false) (fun _ _ _ => false) (fun _ _ _ => false) (fun _ _ _ _ _ => false) (fun _ _ _ _ _ => false) (fun _ _ _ => false) (fun _ _ => false) (fun _ _ _ _ => false) (fun _ _ => false) (fun _ _ => false) (fun _ _ => false) (fun _ => false) (fun _ => false) (fun _ => false)
theorem sIf_c {e : Stmt} {F : Expr → List Stmt → List Stmt → Bool} {G : Prop} (h : sIf e F = true) (k : ∀ a b c p, e = .If a b c p → F a b c = true → G) : G :=
  @Stmt.casesOn (fun e' => e = e' → sIf e' F = true → G) e (fun _ _ _ _ _ _ _ _ _ _ _ (h : false = true) => ff h) (fun _ _ _ _ _ _ _ _ _ _ _ (h : false = true) => ff h) (fun _ _ _ _ _ _ _ _ _ _ _ _ (h : false = true) => ff h) (fun _ _ _ (h : false = true) => ff h) (fun _ _ _ (h : false = true) => ff h) (fun _ _ _ _ (h : false = true) => ff h) (fun _ _ _ _ _ _ _ _ (h : false = true) => ff h) (fun _ _ _ _ _ (h : false = true) => ff h) (fun _ _ _ _ _ _ (h : false = true) => ff h) (fun _ _ _ _ _ _ (h : false = true) => ff h) (fun _ _ _ _ _ _ (h : false = true) => ff h) (fun _ _ _ _ _ (h : false = true) => ff h) k (fun _ _ _ _ (h : false = true) => ff h) (fun _ _ _ _ (h : false = true) => ff h) (fun _ _ _ _ (h : false = true) => ff h) (fun _ _ _ _ (h : false = true) => ff h) (fun _ _ _ _ _ _ (h : false = true) => ff h) (fun _ _ _ _ _ _ (h : false = true) => ff h) (fun _ _ _ _ (h : false = true) => ff h) (fun _ _ _ (h : false = true) => ff h) (fun _ _ _ _ _ (h : false = true) => ff h) (fun _ _ _ (h : false = true) => ff h) (fun _ _ _ (h : false = true) => ff h) (fun _ _ _ (h : false = true) => ff h) (fun _ _ (h : false = true) => ff h) (fun _ _ (h : false = true) => ff h) (fun _ _ (h : false = true) => ff h) rfl h
noncomputable def sFor (e : Stmt) (F : Expr → Expr → List Stmt → List Stmt → Bool) : Bool := @Stmt.casesOn (fun _ => Bool) e (fun _ _ _ _ _ _ _ _ _ _ => false) (fun _ _ _ _ _ _ _ _ _ _ => false) (fun _ _ _ _ _ _ _ _ _ _ _ => false) (fun _ _ => false) (fun _ _ => false) (fun _ _ _ => false) (fun _ _ _ _ _ _ _ => false) (fun _ _ _ _ => false) (fun _ _ _ _ _ => false) (fun x a b c _ => F x a b c) (fun _ _ _ _ _ => false) (fun _ _ _ _ => false) (fun _ _ _ _ => false) (fun _ _ _ => false) (fun _ _ _ => false) (fun _ _ _ => false) (fun _ _ _ => false) (fun _ _ _ _ _ => false) (fun _ _ _ _ _ => false) (fun _ _ _ => false) (fun _ _ => false) (fun _ _ _ _ => false) (fun _ _ => false) (fun _ _ => false) (fun _ _ => false) (fun _ => false) (fun _ => false) (fun _ => false)
theorem sFor_c {e : Stmt} {F : Expr → Expr → List Stmt → List Stmt → Bool} {G : Prop} (h : sFor e F = true) (k : ∀ x a b c p, e = .For x a b c p → F x a b c = true → G) : G :=
  @Stmt.casesOn (fun e' => e = e' → sFor e' F = true → G) e (fun _ _ _ _ _ _ _ _ _ _ _ (h : false = true) => ff h) (fun _ _ _ _ _ _ _ _ _ _ _ (h : false = true) => ff h) (fun _ _ _ _ _ _ _ _ _ _ _ _ (h : false = true) => ff h) (fun _ _ _ (h : false = true) => ff h) (fun _ _ _ (h : false = true) => ff h) (fun _ _ _ _ (h : false = true) => ff h) (fun _ _ _ _ _ _ _ _ (h : false = true) => ff h) (fun _ _ _ _ _ (h : false = true) => ff h) (fun _ _ _ _ _ _ (h : false = true) => ff h) k (fun _ _ _ _ _ _ (h : false = true) => ff h) (fun _ _ _ _ _ (h : false = true) => ff h) (fun _ _ _ _ _ (h : false = true) => ff h) (fun _ _ _ _ (h : false = true) => ff h) (fun _ _ _ _ (h : false = true) => ff h) (fun _ _ _ _ (h : false = true) => ff h) (fun _ _ _ _ (h : false = true) => ff h) (fun _ _ _ _ _ _ (h : false = true) => ff h) (fun _ _ _ _ _ _ (h : false = true) => ff h) (fun _ _ _ _ (h : false = true) => ff h) (fun _ _ _ (h : false = true) => ff h) (fun _ _ _ _ _ (h : false = true) => ff h) (fun _ _ _ (h : false = true) => ff h) (fun _ _ _ (h : false = true) => ff h) (fun _ _ _ (h : false = true) => ff h) (fun _ _ (h : false = true) => ff h) (fun _ _ (h : false = true) => ff h) (fun _ _ (h : false = true) => ff h) rfl h
noncomputable def sRet (e : Stmt) (F : Option Expr → Bool) : Bool := @Stmt.casesOn (fun _ => Bool) e (fun _ _ _ _ _ _ _ _ _ _ => false) (fun _ _ _ _ _ _ _ _ _ _ => false) (fun _ _ _ _ _ _ _ _ _ _ _ => false) (fun a _ => F a) (fun _ _ => false) (fun _ _ _ => false) (fun _ _ _ _ _ _ _ => false) (fun _ _ _ _ => false) (fun _ _ _ _ _ => false) (fun _ _ _ _ _ => false) (fun _ _ _ _ _ => false) (fun _ _ _ _ => false) (fun _ _ _ _ => false) (fun _ _ _ => false) (fun _ _ _ => false) (fun _ _ _ => false) (fun _ _ _ => false) (fun _ _ _ _ _ => false) (fun _ _ _ _ _ => false) (fun _ _ _ => false) (fun _ _ => false) (fun _ _ _ _ => false) (fun _ _ => false) (fun _ _ => false) (fun _ _ => false) (fun _ => false) (fun _ => false) (fun _ => false)
theorem sRet_c {e : Stmt} {F : Option Expr → Bool} {G : Prop} (h : sRet e F = true) (k : ∀ a p, e = .Return a p → F a = true → G) : G :=
  @Stmt.casesOn (fun e' => e = e' → sRet e' F = true → G) e (fun _ _ _ _ _ _ _ _ _ _ _ (h : false = true) => ff h) (fun _ _ _ _ _ _ _ _ _ _ _ (h : false = true) => ff h) (fun _ _ _ _ _ _ _ _ _ _ _ _ (h : false = true) => ff h) k (fun _ _ _ (h : false = true) => ff h) (fun _ _ _ _ (h : false = true) => ff h) (fun _ _ _ _ _ _ _ _ (h : false = true) => ff h) (fun _ _ _ _ _ (h : false = true) => ff h) (fun _ _ _ _ _ _ (h : false = true) => ff h) (fun _ _ _ _ _ _ (h : false = true) => ff h) (fun _ _ _ _ _ _ (h : false = true) => ff h) (fun _ _ _ _ _ (h : false = true) => ff h) (fun _ _ _ _ _ (h : false = true) => ff h) (fun _ _ _ _ (h : false = true) => ff h) (fun _ _ _ _ (h : false = true) => ff h) (fun _ _ _ _ (h : false = true) => ff h) (fun _ _ _ _ (h : false = true) => ff h) (fun _ _ _ _ _ _ (h : false = true) => ff h) (fun _ _ _ _ _ _ (h : false = true) => ff h) (fun _ _ _ _ (h : false = true) => ff h) (fun _ _ _ (h : false = true) => ff h) (fun _ _ _ _ _ (h : false = true) => ff h) (fun _ _ _ (h : false = true) => ff h) (fun _ _ _ (h : false = true) => ff h) (fun _ _ _ (h : false = true) => ff h) (fun _ _ (h : false = true) => ff h) (fun _ _ (h : false = true) => ff h) (fun _ _ (h : false = true) => ff h) rfl h
noncomputable def on1 {α : Type} (l : List α) (F : α → Bool) : Bool := match l with
  | [a] => F a
  | _ => false
theorem on1_c {α : Type} {l : List α} {F : α → Bool} {G : Prop} (h : on1 l F = true) (k : ∀ a, l = [a] → F a = true → G) : G := match l, h with
  | [a], h => k a rfl h
noncomputable def onSome {α : Type} (l : Option α) (F : α → Bool) : Bool := match l with
  | some a => F a
  | none => false
theorem onSome_c {α : Type} {l : Option α} {F : α → Bool} {G : Prop} (h : onSome l F = true) (k : ∀ a, l = some a → F a = true → G) : G := match l, h with
  | some a, h => k a rfl h
theorem isNone_eq {α : Type} {l : Option α} (h : l.isNone = true) : l = none := by cases l; rfl; cases h
theorem isEmpty_eq {α : Type} {l : List α} (h : l.isEmpty = true) : l = [] := by cases l; rfl; cases h
noncomputable def onFn (e : Expr) (F : Str → List Expr → Bool) : Bool := onCall e fun f l k _ => k.isEmpty && onName f fun i => F i l
theorem onFn_c {e : Expr} {F : Str → List Expr → Bool} {G : Prop} (h : onFn e F = true) (k : ∀ i l q p, e = .Call (.Name i q) l [] p → F i l = true → G) : G :=
  onCall_c h fun f l w p e h => onName_c (bR h) fun i q e2 h2 => k i l q p (by rw [e, e2, isEmpty_eq (bL h)]) h2
noncomputable def onMeth (e : Expr) (F : Expr → Str → Pos → List Expr → Pos → Bool) : Bool := onCall e fun f l k p => k.isEmpty && onAttr f fun o n q => F o n q l p
theorem onMeth_c {e : Expr} {F : Expr → Str → Pos → List Expr → Pos → Bool} {G : Prop} (h : onMeth e F = true) (k : ∀ o n q l p, e = .Call (.Attribute o n q) l [] p → F o n q l p = true → G) : G :=
  onCall_c h fun f l w p e h => onAttr_c (bR h) fun o n q e2 h2 => k o n q l p (by rw [e, e2, isEmpty_eq (bL h)]) h2
noncomputable def notSuper (e : Expr) : Bool := !(onCall e fun f l w _ => onName f fun _ => l.isEmpty && w.isEmpty)
noncomputable def onGen (g : List Comprehension) (F : Str → Expr → List Expr → Bool) : Bool := on1 g fun g => decide (g.is_async = 0) && onName g.target fun i => F i g.iter g.ifs
theorem onGen_c {g : List Comprehension} {F : Str → Expr → List Expr → Bool} {G : Prop} (h : onGen g F = true) (k : ∀ i q a l, g = [⟨.Name i q, a, l, 0⟩] → F i a l = true → G) : G :=
  on1_c h fun a e h => onName_c (bR h) fun i q e2 h2 => k i q a.iter a.ifs (by rw [e]; obtain ⟨x, y, z, w⟩ := a; dsimp only at e2; rw [e2, show w = 0 from of_decide_eq_true (bL h)]) h2
noncomputable def notSet (e : Expr) : Bool := @Expr.casesOn (fun _ => Bool) e (fun _ _ _ => true) (fun _ _ _ => true) (fun _ _ _ _ => true) (fun _ _ _ => true) (fun _ _ _ _ => true) (fun _ _ _ _ => true) (fun _ _ _ => true) (fun _ _ _ => false) (fun _ _ _ _ => true) (fun _ _ _ _ => true) (fun _ _ _ _ _ => true) (fun _ _ _ _ => true) (fun _ _ => true) (fun _ _ => true) (fun _ _ => true) (fun _ _ _ _ => true) (fun _ _ _ _ => true) (fun _ _ _ _ => true) (fun _ _ => true) (fun _ _ _ => true) (fun _ _ _ => true) (fun _ _ _ => true) (fun _ _ => true) (fun _ _ => true) (fun _ _ => true) (fun _ _ _ => true) (fun _ _ _ _ => true)
noncomputable def notStarE (e : Expr) : Bool := @Expr.casesOn (fun _ => Bool) e (fun _ _ _ => true) (fun _ _ _ => true) (fun _ _ _ _ => true) (fun _ _ _ => true) (fun _ _ _ _ => true) (fun _ _ _ _ => true) (fun _ _ _ => true) (fun _ _ _ => true) (fun _ _ _ _ => true) (fun _ _ _ _ => true) (fun _ _ _ _ _ => true) (fun _ _ _ _ => true) (fun _ _ => true) (fun _ _ => true) (fun _ _ => true) (fun _ _ _ _ => true) (fun _ _ _ _ => true) (fun _ _ _ _ => true) (fun _ _ => true) (fun _ _ _ => true) (fun _ _ _ => true) (fun _ _ _ => true) (fun _ _ => false) (fun _ _ => true) (fun _ _ => true) (fun _ _ _ => true) (fun _ _ _ _ => true)
noncomputable def isCont (e : Stmt) : Bool := @Stmt.casesOn (fun _ => Bool) e (fun _ _ _ _ _ _ _ _ _ _ => false) (fun _ _ _ _ _ _ _ _ _ _ => false) (fun _ _ _ _ _ _ _ _ _ _ _ => false) (fun _ _ => false) (fun _ _ => false) (fun _ _ _ => false) (fun _ _ _ _ _ _ _ => false) (fun _ _ _ _ => false) (fun _ _ _ _ _ => false) (fun _ _ _ _ _ => false) (fun _ _ _ _ _ => false) (fun _ _ _ _ => false) (fun _ _ _ _ => false) (fun _ _ _ => false) (fun _ _ _ => false) (fun _ _ _ => false) (fun _ _ _ => false) (fun _ _ _ _ _ => false) (fun _ _ _ _ _ => false) (fun _ _ _ => false) (fun _ _ => false) (fun _ _ _ _ => false) (fun _ _ => false) (fun _ _ => false) (fun _ _ => false) (fun _ => false) (fun _ => false) (fun _ => true)
noncomputable def relS (cs sc : Scope) : Scope :=
  { cs with names := cs.names.map fun (n, k) => if k == .free && sc.kind == .function && sc.names.lookup n == some .cell then (n, .cell) else (n, k) }
noncomputable def compOk (cs sc : Scope) (x : Nat) : Bool :=
  (match cs.kind with | .function => true | _ => false) && Nat.blt x 74 &&
  kindIs cs (nm x) stoKind &&
  cs.names.all (fun e => match e.2 with
    | .local => (decide (e.1 = Str.ofString ".0") || decide (e.1 = nm x)) && kindIs cs e.1 locKind
    | .cell => decide (e.1 = nm x) && kindIs cs e.1 (fun k => decide (k = .cell))
    | .free => kindIs sc e.1 (fun k => decide (k = .cell) || decide (k = .free)) && kindIs cs e.1 (fun k => decide (k = .free))
    | .globalImplicit => true
    | .globalExplicit => false)
noncomputable def Bname : Bif → Str
  | .len => Str.ofString "len" | .range => Str.ofString "range" | .list => Str.ofString "list" | .tuple => Str.ofString "tuple" | .sorted => Str.ofString "sorted" | .any => Str.ofString "any" | .int => Str.ofString "int"
noncomputable def fname (f : Nat) : Str := Str.ofString ((fnNames.lookup f).getD "")
noncomputable def chkAll {α β : Type} (c : α → β → Bool) : List α → List β → Bool
  | [], [] => true
  | a :: r, b :: t => c a b && chkAll c r t
  | _, _ => false
noncomputable def chkC (v : V) (c : Const) : Bool := match c with
  | .none => vNone v
  | .bool b => vBool v fun a => a == b
  | .int i => vInt v fun j => decide (i = j)
  | .str s => vStr v fun l => leqN s.cps.toList l
  | _ => false
variable (gt : List (Str × List Nat))
noncomputable def chkG (sc : Scope) (v : V) (id : Str) : Bool := kindIs sc id globKind && (!(decide (id = Str.ofString "__debug__")) && vStr v fun l => onSome (gt.lookup id) fun l' => leqN l l')
noncomputable def chkE : Nat → Scope → M → Expr → Bool
  | 0, _, _, _ => false
  | k + 1, sc, m, e => match m with
    | .cst v => onCst e (chkC v) || onName e (chkG gt sc v)
    | .var x => onName e (okName sc x)
    | .tup es => onTup e (chkAll (chkE k sc) es)
    | .lst es => onLst e (chkAll (chkE k sc) es)
    | .add a b => onBin e fun l op r => decide (op = .Add) && chkE k sc a l && chkE k sc b r
    | .mul a b => onBin e fun l op r => decide (op = .Mult) && chkE k sc a l && chkE k sc b r
    | .fdiv a b => onBin e fun l op r => decide (op = .FloorDiv) && chkE k sc a l && chkE k sc b r
    | .fmod a b => onBin e fun l op r => decide (op = .Mod) && chkE k sc a l && chkE k sc b r
    | .neg a => onUn e fun op x => decide (op = .USub) && chkE k sc a x
    | .cmp op a b => onCmp e fun l os rs => on1 os fun o => on1 rs fun r => decide (o = Cop op) && !(behindInMarks o r) && chkE k sc a l && chkE k sc b r
    | .not a => onUn e fun op x => decide (op = .Not) && chkE k sc a x
    | .and es => onBool e fun op ts => decide (op = .And) && chkAll (chkE k sc) es ts
    | .or es => onBool e fun op ts => decide (op = .Or) && chkAll (chkE k sc) es ts
    | .ite c a b => onIte e fun t x y => chkE k sc c t && chkE k sc a x && chkE k sc b y
    | .attr a f => onAttr e fun v n _ => decide (n = nm f) && Nat.blt f 13 && notSuper v && chkE k sc a v
    | .idx a i => onSub e fun v s => !(isSlice s) && chkE k sc a v && chkE k sc i s
    | .upto a u => onSub e fun v s => onSlc s fun l u' t => l.isNone && t.isNone && chkE k sc a v && onSome u' (chkE k sc u)
    | .frm a l => onSub e fun v s => onSlc s fun l' u t => u.isNone && t.isNone && chkE k sc a v && onSome l' (chkE k sc l)
    | .comp elt x it cs => onLC e fun elt' g csc => onGen g fun id iter ifs => decide (id = nm x) && compOk csc sc x && notSet iter && chkE k sc it iter &&
          chkAll (chkE k (relS csc sc)) cs ifs && chkE k (relS csc sc) elt elt'
    | .dcomp kk v x it => onDC e fun k' v' g csc => onGen g fun id iter ifs => ifs.isEmpty && (decide (id = nm x) && compOk csc sc x && notSet iter && chkE k sc it iter &&
          chkE k (relS csc sc) kk k' && chkE k (relS csc sc) v v')
    | .call f as => onFn e fun id args => globName sc id (fname f) && !(decide (id = Str.ofString "__debug__")) && !(Nat.beq f 101) && (fnNames.lookup f).isSome && chkAll (chkE k sc) as args
    | .meth a m as => onMeth e fun o n apos args pos => decide (n = nm m) && notSuper o && Nat.beq apos.endLine pos.line && Nat.blt args.length 20 && chkE k sc a o && chkAll (chkE k sc) as args
    | .form as => onFn e fun id args => globName sc id (Str.ofString "Form") && Nat.beq args.length 8 && chkAll (chkE k sc) as args
    | .iset a => onFn e fun id args => globName sc id (Str.ofString "InstructionSet") && on1 args (chkE k sc a)
    | .bif b a => onFn e fun id args => globName sc id (Bname b) && on1 args (chkE k sc a)
    | .split a b => onMeth e fun o n apos args pos => decide (n = Str.ofString "split") && notSuper o && Nat.beq apos.endLine pos.line && chkE k sc a o && on1 args (chkE k sc b)
    | .lstrip a b => onMeth e fun o n apos args pos => decide (n = Str.ofString "lstrip") && notSuper o && Nat.beq apos.endLine pos.line && chkE k sc a o && on1 args (chkE k sc b)
    | .get d kk z => onMeth e fun o n apos args pos => decide (n = Str.ofString "get") && notSuper o && Nat.beq apos.endLine pos.line && chkE k sc d o && chkAll (chkE k sc) [kk, z] args
    | .bad => notStarE e
noncomputable def nameIds : List Expr → List Str
  | [] => []
  | .Name id _ :: r => id :: nameIds r
  | _ :: r => nameIds r
noncomputable def chkT (sc : Scope) (xs : List Nat) (t : Expr) : Bool := onTup t (chkAll (fun x t => onName t (stoName sc x)) xs)
noncomputable def twoOk (xs : List Nat) (e : Expr) : Bool := !(onTup e fun vs => vs.all (constantsAlone 8) || !(Nat.beq xs.length 2))
noncomputable def chkS : Nat → Scope → S → Stmt → Bool
  | 0, _, _, _ => false
  | k + 1, sc, s, t => match s with
    | .asg x m => sAsg t fun l e => on1 l fun y => onName y (stoName sc x) && chkE gt k sc m e
    | .newL x => sAsg t fun l e => on1 l fun y => onName y (locName sc x) && onLst e List.isEmpty
    | .newD x => sAsg t fun l e => on1 l fun y => onName y (locName sc x) && onDct e fun a b => a.isEmpty && b.isEmpty
    | .asgT xs m => sAsg t fun l e => on1 l fun y => chkT sc xs y && twoOk xs e && decide xs.Nodup && Nat.blt xs.length 100 && chkE gt k sc m e
    | .setA x f m => sAsg t fun l e => on1 l fun y => onAttr y fun v n _ => onName v (locName sc x) && decide (n = nm f) && Nat.blt f 13 && chkE gt k sc m e
    | .setI x kk m => sAsg t fun l e => on1 l fun y => onSub y fun v i => onName v (locName sc x) && !(isSlice i) && chkE gt k sc kk i && chkE gt k sc m e
    | .app x m => sExp t fun e => onMeth e fun v n apos l pos => onName v (locName sc x) && decide (n = Str.ofString "append") && Nat.beq apos.endLine pos.line && on1 l (chkE gt k sc m)
    | .ife c a b => sIf t fun e x y => chkE gt k sc c e && chkAll (chkS k sc) a x && chkAll (chkS k sc) b y
    | .forI x m b => sFor t fun y it body z => z.isEmpty && onName y (stoName sc x) && notSet it && chkE gt k sc m it && chkAll (chkS k sc) b body
    | .forT xs m b => sFor t fun y it body z => z.isEmpty && chkT sc xs y && Nat.blt xs.length 100 && notSet it && chkE gt k sc m it && chkAll (chkS k sc) b body
    | .ret m => sRet t fun e => onSome e (chkE gt k sc m)
    | .cont => isCont t
noncomputable def chkF (params : Arguments) (body : List Stmt) (sc : Scope) (f : Fn) : Bool :=
  (match sc.kind with | .function => true | _ => false) && !sc.isGenerator && !sc.isCoroutine &&
  params.posonlyargs.isEmpty && params.vararg.isNone && params.kwonlyargs.isEmpty && params.kwarg.isNone &&
  chkAll (fun x (a : Arg) => stoName sc x a.arg) f.params params.args && decide (f.params.Nodup) &&
  sc.names.all (fun e => match e.2 with | .free => false | .globalExplicit => false | k => kindIs sc e.1 (fun k' => decide (k' = k))) &&
  chkAll (chkS gt 60 sc) f.body body
end Mine
namespace Mine
noncomputable def bifVal : Bif → Value
  | .len => .builtin "len" | .range => .type "range" | .list => .type "list" | .tuple => .type "tuple" | .sorted => .builtin "sorted" | .any => .builtin "any" | .int => .type "int"
inductive FnAt (C : Cfg) (gt : List (Str × List Nat)) (f : Nat) (d : Fn) : Prop
  | mk (o : Obj) (fd : FuncData) (body : List Stmt) (g1 : C.K.lookup (C.fa f) = some o) (g2 : o.data = .func fd) (g3 : fd.body = .stmts body) (g4 : chkF gt fd.params body fd.scope d = true) (g5 : codeIn C.K fd.code fd.qualname = true)
    (g6 : fd.closure = []) (g7 : fd.globals = mainGlobals) (g8 : fd.builtins = builtinsNs) (g9 : f ≠ 101 → fd.params.defaults = [] ∧ fd.defaults = .none ∧ fd.kwdefaults = .none)
structure CfgOK (C : Cfg) (gt : List (Str × List Nat)) : Prop where
  g : C.H.Ns mainGlobals C.mg
  b : C.H.Ns builtinsNs C.mb
  nolimit : C.H.NoLimit
  K : C.K.In C.H
  sys : ∃ o, C.H.get? sysModules = some o
  gstr : ∀ n l, gt.lookup n = some l → ∃ s t, C.mg n = some (.str s t) ∧ s.cps.toList = l
  fns : ∀ f n, fnNames.lookup f = some n → C.mg (Str.ofString n) = some (.ref (C.fa f))
  isFn : ∀ f d, fnTab f = some d → keepIn C.K (.ref (C.fa f)) = true ∧ typeIn C.K (.ref (C.fa f)) = some (.type "function")
  fn : ∀ f d, fnTab f = some d → FnAt C gt f d
  bifs : ∀ b, C.mg (Bname b) = none ∧ C.mb (Bname b) = some (bifVal b)
  get : ∀ c, c = C.c0 ∨ c = C.c1 → plainGet C.K c (Str.ofString "") = true ∧ hasDictIn C.K c = true ∧ ∀ f, f < 13 → findIn C.K (.ref c) (nm f) = some none
  meth0 : ∀ m i, methTab 0 m = some i → findIn C.K (.ref C.c0) (nm m) = some (some (.ref (C.fa i)))
  meth1 : ∀ m i, methTab 1 m = some i → findIn C.K (.ref C.c1) (nm m) = some (some (.ref (C.fa i)))
section
variable {C : Cfg} {gt : List (Str × List Nat)} {A : Around} {D D' : List FR} {X X0 O W : Addr → Prop} {σ σ' : Nums} {s s' : Shared} {env : Env} {r : Rho} {v : V} {p : Value}
theorem CfgOK.gNow (K : CfgOK C gt) (I : Inv C D X σ s) : s.heap.Ns mainGlobals C.mg := K.g.keeps fun b o e => I.base b o e
theorem CfgOK.bNow (K : CfgOK C gt) (I : Inv C D X σ s) : s.heap.Ns builtinsNs C.mb := K.b.keeps fun b o e => I.base b o e
theorem CfgOK.KNow (K : CfgOK C gt) (I : Inv C D X σ s) : C.K.In s.heap := fun a o e => I.base a o (K.K a o e)
theorem kindIs_some {sc : Scope} {id : Str} {f : NameKind → Bool} (h : kindIs sc id f = true) : ∃ k, sc.names.lookup id = some k ∧ f k = true := by
  unfold kindIs at h
  split at h
  · exact ⟨_, by assumption, h⟩
  · cases h
theorem globKind_eq {k : NameKind} (h : globKind k = true) : k = .globalImplicit := by cases k <;> first | rfl | cases h
theorem locKind_eq {k : NameKind} (h : locKind k = true) : k = .local := by cases k <;> first | rfl | cases h
theorem stoKind_eq {k : NameKind} (h : stoKind k = true) : k = .local ∨ k = .cell := by cases k <;> first | exact .inl rfl | exact .inr rfl | cases h
theorem glob_read {id : Str} {pos : Pos} {u : Value} {Q E : Value → Shared → Prop} (F : FrE C env X0 O X r D s.heap) (K : CfgOK C gt) (I : Inv C D X σ s) (k : kindIs env.scope id globKind = true) (hd : (id == Str.ofString "__debug__") = false) (e : C.mg id = some u) (q : Q u s) :
    wpAny (model C.prog C.w) A (eval (.Name id pos) env) Q E s := by
  obtain ⟨kk, h1, h2⟩ := kindIs_some k
  rw [globKind_eq h2] at h1
  refine Calls.Name_function_global F.kind h1 (Calls.loadGlobal_global ?_ e q) hd
  rw [F.glob]; exact K.gNow I
theorem bltn_read {id : Str} {pos : Pos} {u : Value} {Q E : Value → Shared → Prop} (F : FrE C env X0 O X r D s.heap) (K : CfgOK C gt) (I : Inv C D X σ s) (k : kindIs env.scope id globKind = true) (hd : (id == Str.ofString "__debug__") = false) (e : C.mg id = none) (e2 : C.mb id = some u) (q : Q u s) :
    wpAny (model C.prog C.w) A (eval (.Name id pos) env) Q E s := by
  obtain ⟨kk, h1, h2⟩ := kindIs_some k
  rw [globKind_eq h2] at h1
  refine Calls.Name_function_global F.kind h1 (Calls.loadGlobal_builtin ?_ e ?_ e2 q) hd
  · rw [F.glob]; exact K.gNow I
  · rw [F.bltn]; exact K.bNow I
theorem okName_seen {x : Nat} {id : Str} (h : okName env.scope x id = true) : x < 74 ∧ id = nm x ∧ Seen env x := by
  refine b3 h fun h1 h2 h3 => ?_
  have h2 := of_decide_eq_true h2
  refine ⟨Nat.blt_eq.mp h1, h2, ?_⟩
  obtain ⟨k, h4, h5⟩ := kindIs_some h3
  rw [h2] at h4
  unfold Seen Env.kindOf
  rw [h4]
  cases k <;> first | exact .inl rfl | exact .inr (.inl rfl) | exact .inr (.inr rfl) | cases h5
theorem stoName_sto {x : Nat} {id : Str} (h : stoName env.scope x id = true) : x < 74 ∧ id = nm x ∧ (env.kindOf (nm x) = some .local ∨ env.kindOf (nm x) = some .cell) := by
  refine b3 h fun h1 h2 h3 => ?_
  have h2 := of_decide_eq_true h2
  refine ⟨Nat.blt_eq.mp h1, h2, ?_⟩
  obtain ⟨k, h4, h5⟩ := kindIs_some h3
  rw [h2] at h4
  unfold Env.kindOf
  rw [h4]
  rcases stoKind_eq h5 with rfl | rfl
  · exact .inl rfl
  · exact .inr rfl
theorem locName_loc {x : Nat} {id : Str} (h : locName env.scope x id = true) : x < 74 ∧ id = nm x ∧ env.kindOf (nm x) = some .local := by
  refine b3 h fun h1 h2 h3 => ?_
  have h2 := of_decide_eq_true h2
  refine ⟨Nat.blt_eq.mp h1, h2, ?_⟩
  obtain ⟨k, h4, h5⟩ := kindIs_some h3
  rw [h2] at h4
  unfold Env.kindOf
  rw [h4, locKind_eq h5]
theorem notStar {k : Nat} {sc : Scope} {m : M} {e : Expr} (h : chkE gt k sc m e = true) : ∀ rest env, starEach (e :: rest) env = (false, eval e env) :: starEach rest env := by
  intro rest env
  cases e with
  | Starred a b =>
    cases k with
    | zero => exact ff h
    | succ k => cases m <;> exact ff h
  | _ => rfl
theorem notSuper_base {o : Expr} (h : notSuper o = true) (n : Str) (env : Env) (w : Sem Value) : attributeBase o n env w = w := by
  cases o with
  | Call f l k p =>
    cases f with
    | Name i q =>
      cases l with
      | nil =>
        cases k with
        | nil => exact ff h
        | cons => rfl
      | cons => rfl
    | _ => rfl
  | _ => rfl
theorem isTrue_bool {e : Expr} {b : Bool} (h : Gv C A D X W s (.bool b) σ' (eval e env)) (he : isTrue e env (eval e env) = (do let v ← eval e env; standAt e.pos; holding [v] (truthy v))) :
    Gb C A D X W s b σ' (isTrue e env (eval e env)) := by
  refine isTrue_plain (h.use fun p D' s' P V => ?_) he
  obtain ⟨V, _⟩ := V
  cases V
  exact wpAny_truthy_bool ⟨rfl, D', P⟩
end
end Mine
namespace Mine
noncomputable def SE (C : Cfg) (gt : List (Str × List Nat)) (n : Nat) : Prop :=
  ∀ {k : Nat} {m : M} {e : Expr} {env : Env} {A : Around} {D : List FR} {X0 O X : Addr → Prop} {σ σ' : Nums} {s : Shared} {r : Rho} {v : V},
    chkE gt k env.scope m e = true → FrE C env X0 O X r D s.heap → Inv C D X σ s → RoomN A n → (run prg n).e m r σ = some (v, σ') → Gv C A D X (· = env.locals) s v σ' (eval e env)
noncomputable def ST (C : Cfg) (gt : List (Str × List Nat)) (n : Nat) : Prop :=
  ∀ {k : Nat} {m : M} {e : Expr} {env : Env} {A : Around} {D : List FR} {X0 O X : Addr → Prop} {σ σ' : Nums} {s : Shared} {r : Rho} {b : Bool},
    chkE gt k env.scope m e = true → FrE C env X0 O X r D s.heap → Inv C D X σ s → RoomN A n → (run prg n).e m r σ = some (.bool b, σ') → Gb C A D X (· = env.locals) s b σ' (isTrue e env (eval e env))
noncomputable def SC (C : Cfg) (n : Nat) : Prop :=
  ∀ {f : Nat} {vs : List V} {ps : List Value} {A : Around} {D : List FR} {X : Addr → Prop} {σ σ' : Nums} {s : Shared} {v : V},
    f ≠ 101 → VRs C D X s.heap vs ps → Inv C D X σ s → RoomN A n → (run prg n).c f vs σ = some (v, σ') → Gv C A D X Nope s v σ' (call (.ref (C.fa f)) ps)
section
variable {C : Cfg} {gt : List (Str × List Nat)} {A : Around} {D D' : List FR} {X X0 O W : Addr → Prop} {σ σ' : Nums} {s s' : Shared} {env : Env} {r : Rho} {v : V} {p : Value} {n k : Nat} {pos : Pos}
theorem FrE.hw (F : FrE C env X0 O X r D s.heap) : ∀ b, b = env.locals → X b := fun b h => h ▸ F.locX
theorem args_sound (hE : SE C gt n) {pos : Pos} : ∀ {ms : List M} {es : List Expr} {D : List FR} {σ σ' : Nums} {s : Shared} {vs : List V}, chkAll (chkE gt k env.scope) ms es = true → FrE C env X0 O X r D s.heap → Inv C D X σ s → RoomN A n →
    evs (fun m σ => (run prg n).e m r σ) ms σ = some (vs, σ') → ∀ {Q : List Value → Shared → Prop} {E : Value → Shared → Prop},
    (∀ ps D' s', Pst C D X (· = env.locals) s D' σ' s' → VRs C D' X s'.heap vs ps → Q ps s') → wpAny (model C.prog C.w) A (spliced (backTo pos (starEach es env))) Q E s := by
  intro ms
  induction ms with
  | nil =>
    intro es D σ σ' s vs h F I R ev Q E q
    cases es with
    | cons => exact ff h
    | nil => exact sE ev fun h1 h2 => args_nil (q _ D s (h2 ▸ .refl I) (h1 ▸ .nil))
  | cons m ms ih =>
    intro es D σ σ' s vs h F I R ev Q E q
    cases es with
    | nil => exact ff h
    | cons e es =>
      refine oP_c ev fun u σ1 e1 ev => oP_c ev fun us σ2 e2 ev => sE ev fun h1 h2 => ?_
      refine args_cons ((hE (bL h) F I R e1).useE fun p D1 s1 P1 V1 => ?_) (notStar (bL h) _ _)
      refine ih (bR h) (F.step I P1) P1.inv R e2 fun ps D2 s2 P2 V2 => ?_
      exact q _ D2 s2 (h2 ▸ P1.trans P2) (h1 ▸ .cons (V1.step P2 P1.inv F.hw).1 (V1.step P2 P1.inv F.hw).2 V2)
theorem truthy_of {b : Bool} {h : Heap} (x : VR C D X h (.bool b) p) : p = .bool b := by
  obtain ⟨x, _⟩ := x; cases x; rfl
theorem and_val (hE : SE C gt n) : ∀ {ms : List M} {es : List Expr} {D : List FR} {σ σ' : Nums} {s : Shared} {v : V}, chkAll (chkE gt k env.scope) ms es = true → FrE C env X0 O X r D s.heap → Inv C D X σ s → RoomN A n →
    andE (fun m σ => (run prg n).e m r σ) ms σ = some (v, σ') → Gv C A D X (· = env.locals) s v σ' (eval (.BoolOp .And es pos) env) := by
  intro ms
  induction ms with
  | nil => intro es D σ σ' s v h F I R ev; exact nn ev
  | cons m ms ih =>
    intro es D σ σ' s v h F I R ev
    cases es with
    | nil => exact ff h
    | cons e es =>
    cases ms with
    | nil =>
      cases es with
      | cons => exact ff (bR h)
      | nil => exact oP_c ev fun u σ1 e1 ev => wBool_c ev fun b hu ev => sE ev fun hv hs => BoolOp_one (hE (bL h) F I R (hs ▸ hv ▸ hu ▸ e1))
    | cons m' ms =>
      cases es with
      | nil => exact ff (bR h)
      | cons e' es =>
        refine oB_c ev (fun σ1 e1 ev => ?_) fun σ1 e1 ev => sE ev fun hv hs => ?_
        · refine BoolOp_and ((hE (bL h) F I R e1).use fun p D1 s1 P1 V1 => ?_)
          rw [truthy_of V1]
          exact wpAny_truthy_bool (Gv.then P1 (ih (bR h) (F.step I P1) P1.inv R ev))
        · refine BoolOp_and ((hE (bL h) F I R e1).use fun p D1 s1 P1 V1 => ?_)
          rw [truthy_of V1]
          exact wpAny_truthy_bool ⟨D1, hs ▸ P1, hv ▸ .bool _⟩
theorem or_val (hE : SE C gt n) : ∀ {ms : List M} {es : List Expr} {D : List FR} {σ σ' : Nums} {s : Shared} {v : V}, chkAll (chkE gt k env.scope) ms es = true → FrE C env X0 O X r D s.heap → Inv C D X σ s → RoomN A n →
    orE (fun m σ => (run prg n).e m r σ) ms σ = some (v, σ') → Gv C A D X (· = env.locals) s v σ' (eval (.BoolOp .Or es pos) env) := by
  intro ms
  induction ms with
  | nil => intro es D σ σ' s v h F I R ev; exact nn ev
  | cons m ms ih =>
    intro es D σ σ' s v h F I R ev
    cases es with
    | nil => exact ff h
    | cons e es =>
    cases ms with
    | nil =>
      cases es with
      | cons => exact ff (bR h)
      | nil => exact oP_c ev fun u σ1 e1 ev => wBool_c ev fun b hu ev => sE ev fun hv hs => BoolOp_one (hE (bL h) F I R (hs ▸ hv ▸ hu ▸ e1))
    | cons m' ms =>
      cases es with
      | nil => exact ff (bR h)
      | cons e' es =>
        refine oB_c ev (fun σ1 e1 ev => sE ev fun hv hs => ?_) fun σ1 e1 ev => ?_
        · refine BoolOp_or ((hE (bL h) F I R e1).use fun p D1 s1 P1 V1 => ?_)
          rw [truthy_of V1]
          exact wpAny_truthy_bool ⟨D1, hs ▸ P1, hv ▸ .bool _⟩
        · refine BoolOp_or ((hE (bL h) F I R e1).use fun p D1 s1 P1 V1 => ?_)
          rw [truthy_of V1]
          exact wpAny_truthy_bool (Gv.then P1 (ih (bR h) (F.step I P1) P1.inv R ev))
theorem bool_inj {a b : Bool} (h : V.bool a = V.bool b) : a = b := by cases h; rfl
theorem and_test (hT : ST C gt n) {whole : Sem Value} : ∀ {ms : List M} {es : List Expr} {D : List FR} {σ σ' : Nums} {s : Shared} {b : Bool}, chkAll (chkE gt k env.scope) ms es = true → FrE C env X0 O X r D s.heap → Inv C D X σ s → RoomN A n →
    andE (fun m σ => (run prg n).e m r σ) ms σ = some (.bool b, σ') → Gb C A D X (· = env.locals) s b σ' (isTrue (.BoolOp .And es pos) env whole) := by
  intro ms
  induction ms with
  | nil => intro es D σ σ' s v h F I R ev; exact nn ev
  | cons m ms ih =>
    intro es D σ σ' s v h F I R ev
    cases es with
    | nil => exact ff h
    | cons e es =>
    cases ms with
    | nil =>
      cases es with
      | cons => exact ff (bR h)
      | nil =>
        refine oP_c ev fun u σ1 e1 ev => wBool_c ev fun b hu ev => sE ev fun hv hs => isTrue_and ((hT (bL h) F I R (hs ▸ hv ▸ hu ▸ e1)).use fun D1 s1 P1 => ?_)
        cases v
        · exact ⟨rfl, D1, P1⟩
        · exact isTrue_and_nil ⟨rfl, D1, P1⟩
    | cons m' ms =>
      cases es with
      | nil => exact ff (bR h)
      | cons e' es =>
        refine oB_c ev (fun σ1 e1 ev => ?_) fun σ1 e1 ev => sE ev fun hv hs => ?_
        · exact isTrue_and ((hT (bL h) F I R e1).use fun D1 s1 P1 => Gb.then P1 (ih (bR h) (F.step I P1) P1.inv R ev))
        · exact isTrue_and ((hT (bL h) F I R e1).use fun D1 s1 P1 => ⟨bool_inj hv, D1, hs ▸ P1⟩)
theorem or_test (hT : ST C gt n) {whole : Sem Value} : ∀ {ms : List M} {es : List Expr} {D : List FR} {σ σ' : Nums} {s : Shared} {b : Bool}, chkAll (chkE gt k env.scope) ms es = true → FrE C env X0 O X r D s.heap → Inv C D X σ s → RoomN A n →
    orE (fun m σ => (run prg n).e m r σ) ms σ = some (.bool b, σ') → Gb C A D X (· = env.locals) s b σ' (isTrue (.BoolOp .Or es pos) env whole) := by
  intro ms
  induction ms with
  | nil => intro es D σ σ' s v h F I R ev; exact nn ev
  | cons m ms ih =>
    intro es D σ σ' s v h F I R ev
    cases es with
    | nil => exact ff h
    | cons e es =>
    cases ms with
    | nil =>
      cases es with
      | cons => exact ff (bR h)
      | nil =>
        refine oP_c ev fun u σ1 e1 ev => wBool_c ev fun b hu ev => sE ev fun hv hs => isTrue_or ((hT (bL h) F I R (hs ▸ hv ▸ hu ▸ e1)).use fun D1 s1 P1 => ?_)
        cases v
        · exact isTrue_or_nil ⟨rfl, D1, P1⟩
        · exact ⟨rfl, D1, P1⟩
    | cons m' ms =>
      cases es with
      | nil => exact ff (bR h)
      | cons e' es =>
        refine oB_c ev (fun σ1 e1 ev => sE ev fun hv hs => ?_) fun σ1 e1 ev => ?_
        · exact isTrue_or ((hT (bL h) F I R e1).use fun D1 s1 P1 => ⟨bool_inj hv, D1, hs ▸ P1⟩)
        · exact isTrue_or ((hT (bL h) F I R e1).use fun D1 s1 P1 => Gb.then P1 (ih (bR h) (F.step I P1) P1.inv R ev))
end
end Mine
namespace Mine
section
variable {C : Cfg} {gt : List (Str × List Nat)} {A : Around} {D D' : List FR} {X X0 O W : Addr → Prop} {σ σ' : Nums} {s s' : Shared} {env : Env} {r : Rho} {v : V} {p : Value} {n k : Nat} {pos : Pos}
theorem FS.get {od : Obj} {h : Heap} {fs : List (Nat × V)} (x : FS C D X h fs od) {f : Nat} {v : V} (ev : fget fs f = some v) : ∃ p, lookIn (nm f) od = some (some p) ∧ VR C D X h v p := by
  induction fs with
  | nil => exact nn ev
  | cons q fs ih =>
    cases x with | cons e a k r =>
    unfold fget at ev
    split at ev
    · rename_i hb
      rw [← Nat.eq_of_beq_eq_true hb]
      exact s1 ev fun ev => ⟨_, e, ev ▸ ⟨a, k⟩⟩
    · exact ih r ev
theorem VT.handed {h : Heap} (x : VT C D X h v p) : handedIn p = true := by cases x <;> rfl
theorem attr_get {Q E : Value → Shared → Prop} {x dx c : Addr} {od : Obj} {f : Nat} {b : Bool} (K : CfgOK C gt) (I : Inv C D X σ s) (hc : c = C.c0 ∨ c = C.c1) (hf : f < 13) (e1 : s.heap.get? x = some (instObj c dx)) (e2 : s.heap.get? dx = some od)
    (hl : lookIn (nm f) od = some (some p)) (hp : handedIn p = true) (q : Q p { s with toks := s.toks + 1 }) : wpAny (model C.prog C.w) A (getAttr (.ref x) (nm f) b) Q E s := by
  obtain ⟨k1, k2, k3⟩ := K.get c hc
  exact get_value (K.KNow I) ⟨e1, rfl, rfl, e2⟩ (plainGet_of k1).1 (findObj_own k2 (k3 f hf) rfl hl) hp q
theorem attr_sound (K : CfgOK C gt) (I : Inv C D X σ s) {fs : List (Nat × V)} {c f : Nat} {ℓ : Option Nat} (hf : f < 13) (x : VR C D X s.heap (.inst c fs ℓ) p) {b : Bool}
    (e : attrV σ fs f ℓ = some v) : Gv C A D X W s v σ (getAttr p (nm f) b) := by
  obtain ⟨x, kx⟩ := x
  cases x with
  | form el =>
    obtain ⟨i, t, es, ep, a1, a2, a3, a4, a5, a6, a7, a8⟩ := I.form _ _ el
    refine oC_c e (fun hb e => ?_) fun _ e => ?_
    · have hb := Nat.eq_of_beq_eq_true hb
      subst hb
      have e : (some i).map V.int = some v := a1 ▸ e
      exact s1 e fun e => e ▸ attr_get K I (.inl rfl) hf a2 a3 (show lookIn (nm N.number) (dictOf es ep) = _ from a5) rfl ⟨D, .toks I _, .int _ _⟩
    · obtain ⟨q, hq, vq⟩ := a7.get e
      exact attr_get K I (.inl rfl) hf a2 a3 hq vq.1.handed ⟨D, .toks I _, vq⟩
  | iset e1 e2 k sh rr =>
    obtain ⟨q, hq, vq⟩ := rr.get e
    exact attr_get K I (.inr rfl) hf e1 e2 hq vq.1.handed ⟨D, .toks I _, vq⟩
theorem fget_ge3 {f : Nat} {u w z : V} (hf : f < 13) : fget [(13, u), (14, w), (15, z)] f = none := by
  have h : ∀ k, 13 ≤ k → Nat.beq k f = false := fun k hk => bq_f fun e => Nat.lt_irrefl _ (Nat.lt_of_lt_of_le hf (e ▸ hk))
  show (if Nat.beq 13 f then some u else if Nat.beq 14 f then some w else if Nat.beq 15 f then some z else none) = none
  rw [h 13 (by decide), h 14 (by decide), h 15 (by decide)]; rfl
theorem attr_own {O : Addr → Prop} {L : Addr} (K : CfgOK C gt) (I : Inv C D X σ s) {fs : List (Nat × V)} {c f : Nat} {ℓ : Option Nat} {a : Addr} (hf : f < 13) (x : OwnR C D X O L s.heap (.inst c fs ℓ) a) {b : Bool}
    (e : attrV σ fs f ℓ = some v) : Gv C A D X W s v σ (getAttr (.ref a) (nm f) b) := by
  cases x with
  | form e1 e2 hx ho hL hne sm sh rr hp =>
    obtain ⟨q, hq, vq⟩ := rr.get e
    exact attr_get K I (.inl rfl) hf e1 e2 hq vq.1.handed ⟨D, .toks I _, vq⟩
  | pre => exact nn e
  | iset => exact nn ((fget_ge3 hf).symm.trans e)
inductive TrQ (C : Cfg) (env : Env) (D : List FR) (X0 O X : Addr → Prop) (s : Shared) (v : V) (σ' : Nums) (p : Value) (s' : Shared) : Prop
  | val (D' : List FR) (P : Pst C D X (· = env.locals) s D' σ' s') (V : VR C D' X s'.heap v p)
  | own (D' : List FR) (P : Pst C D X (· = env.locals) s D' σ' s') (a : Addr) (hp : p = .ref a) (ha : X a) (ho : O a) (h0 : ¬ X0 a) (w : OwnR C D' X O env.locals s'.heap v a)
theorem TrQ.c {Y : Addr → Prop} {u : V} {G : Prop} (x : TrQ C env D X0 O Y s u σ' p s') (k : ∀ D', Pst C D Y (· = env.locals) s D' σ' s' → VR C D' Y s'.heap u p → G) (l : ∀ D' a, Pst C D Y (· = env.locals) s D' σ' s' → p = .ref a → Y a → O a → ¬ X0 a → OwnR C D' Y O env.locals s'.heap u a → G) : G := by
  cases x with
  | val D' P V => exact k D' P V
  | own D' P a hp ha ho h0 w => exact l D' a P hp ha ho h0 w
theorem tr_sound (hE : SE C gt n) {m : M} {e : Expr} (h : chkE gt k env.scope m e = true) (F : FrE C env X0 O X r D s.heap) (I : Inv C D X σ s) (R : RoomN A n) (ev : tr (run prg n).e m r σ = some (v, σ')) :
    wpAny (model C.prog C.w) A (eval e env) (TrQ C env D X0 O X s v σ') (fun _ _ => False) s := by
  refine tr_c ev (fun x u hm hw hz => ?_) fun ev => (hE h F I R ev).use fun p D' s' P V => .val D' P V
  subst hm
  cases k with
  | zero => exact ff h
  | succ k =>
    refine onName_c h fun id q he h => ?_
    subst he
    obtain ⟨h1, h0, h2, a, h3, h4, h5, h6, h7, h8⟩ := F.own _ _ hw
    obtain ⟨g1, rfl, g3⟩ := okName_seen h
    rw [(Prod.mk.inj hz).1, (Prod.mk.inj hz).2]
    exact name_vis F g1 h3 (.own D (.refl I) a rfl h4 h5 h6 h8)
theorem Attribute_eval {value : Expr} {attr : Str} {Q E : Value → Shared → Prop} (hs : notSuper value = true)
    (h : wpAny (model C.prog C.w) A (eval value env) (fun o s₁ => wpAny (model C.prog C.w) A (getAttr o attr true) Q E s₁) E s) : wpAny (model C.prog C.w) A (eval (.Attribute value attr pos) env) Q E s := by
  refine Attribute_any_ h ?_
  rw [arm_eval_Attribute, notSuper_base hs]
theorem subscripted_plain {s : Expr} (h : isSlice s = false) (o i : Value) : subscripted s false o i = operate [o, i] (getItem o i) := by
  cases s <;> first | rfl | exact ff h.symm
theorem Pst.push {W : Addr → Prop} (I : Inv C D X σ s) (o : Obj) : Pst C D X W s D σ { s with heap := s.heap.push o } := .tok I _ s.toks fun _ _ e => Heap.get?_push_of_some _ e
theorem SE_cst (K : CfgOK C gt) {e : Expr} {k : Nat} (h : chkE gt (k + 1) env.scope (.cst v) e = true) (F : FrE C env X0 O X r D s.heap) (I : Inv C D X σ s) : Gv C A D X W s v σ (eval e env) := by
  rcases Bool.or_eq_true_iff.mp h with h | h
  · refine onCst_c h fun c q p he h => ?_
    subst he
    cases c with
    | none => exact vNone_c h ▸ Constant_none ⟨D, .refl I, .none⟩
    | bool b => exact vBool_c h fun a e h => e ▸ (eq_of_beq h).symm ▸ Constant_bool ⟨D, .refl I, .bool _⟩
    | int i => exact vInt_c h fun a e h => e ▸ (of_decide_eq_true h) ▸ fun _ _ _ => ⟨D, .toks I _, .int _ _⟩
    | str s => exact vStr_c h fun a e h => e ▸ Calls.Constant_str ⟨D, .toks I _, .str _ (of_decide_eq_true (leqN_eq _ _ ▸ h))⟩
    | _ => exact ff h
  · refine onName_c h fun id p he h => ?_
    subst he
    refine vStr_c (bR (bR h)) fun l e h2 => onSome_c h2 fun l' hl h2 => ?_
    have h3 := of_decide_eq_true (leqN_eq _ _ ▸ h2)
    subst h3
    obtain ⟨x, t, g1, g2⟩ := K.gstr _ _ hl
    exact e ▸ glob_read F K I (bL h) (by simpa using bN (bL (bR h))) g1 ⟨D, .refl I, .str t g2⟩
theorem SE_bin {a b : M} {z : V} {g : V → V → Option V} {op : Operator} (hE : SE C gt n) (R : RoomN A n) {l e2 : Expr} (h1 : chkE gt k env.scope a l = true) (h2 : chkE gt k env.scope b e2 = true) (F : FrE C env X0 O X r D s.heap) (I : Inv C D X σ s)
    (snd : ∀ {D : List FR} {σ : Nums} {s : Shared} {u v z : V} {pu pv : Value}, Inv C D X σ s → VT C D X s.heap u pu → VT C D X s.heap v pv → g u v = some z → Gv C A D X (· = env.locals) s z σ (binaryOp op pu pv))
    (ev : stepE.bin (run prg n) r σ g a b = some (z, σ')) : Gv C A D X (· = env.locals) s z σ' (eval (.BinOp l op e2 pos) env) := by
  refine bin_c ev fun u σ1 w e1 e3 ez => ?_
  refine wpAny_BinOp ((hE h1 F I R e1).use fun p D1 s1 P1 V1 => (hE h2 (F.step I P1) P1.inv R e3).use fun q D2 s2 P2 V2 => ?_)
  exact Gv.then (P1.trans P2) (snd P2.inv (V1.step P2 P1.inv F.hw).1 V2.1 ez)
end
end Mine
namespace Mine
section
variable {C : Cfg} {A : Around} {D : List FR} {X W : Addr → Prop} {σ : Nums} {s : Shared} {h : Heap}
theorem map_away {α K : Type} {f : α → K} {g : α → α} {k : K} {ps : List α} (hg : ∀ y, f y ≠ k → g y = y) (h : k ∉ ps.map f) : ps.map g = ps := by
  induction ps with
  | nil => rfl
  | cons y r ih => rw [List.map_cons, hg y fun e => h (e ▸ List.mem_cons_self), ih fun m => h (List.mem_cons_of_mem _ m)]
theorem stored_ne {K : Type} [DecidableEq K] {z : K × Value} {k : K} {p : Value} {ps : List (K × Value)} (h : z.1 ≠ k) : stored (z :: ps) k p = z :: stored ps k p := by
  unfold stored
  rw [List.any_cons, decide_eq_false h, Bool.false_or, List.map_cons, if_neg h]
  cases ps.any fun kv => decide (kv.1 = k) <;> rfl
theorem stored_eq {K : Type} [DecidableEq K] {k : K} {z : K × Value} {p : Value} {ps : List (K × Value)} (e : z.1 = k) (h : k ∉ ps.map (·.1)) : stored (z :: ps) k p = (z.1, p) :: ps := by
  unfold stored
  rw [List.any_cons, decide_eq_true e, Bool.true_or, if_pos rfl, List.map_cons, if_pos e, map_away (f := fun y : K × Value => y.1) (fun y hy => if_neg hy) h]
theorem storedH_ne {K : Type} [DecidableEq K] {k : K} {z : K × Addr × Value} {p : Value} {b : Addr} {ps : List (K × Addr × Value)} (h : z.1 ≠ k) : storedH (z :: ps) k b p = z :: storedH ps k b p := by
  unfold storedH
  have e : atKey (z :: ps) k = atKey ps k := by unfold atKey; rw [List.find?_cons, decide_eq_false h]
  rw [e, List.map_cons, show putAt k p z = z from if_neg h]
  cases (atKey ps k).isSome <;> rfl
theorem storedH_eq {K : Type} [DecidableEq K] {k : K} {z : K × Addr × Value} {p : Value} {b : Addr} {ps : List (K × Addr × Value)} (e : z.1 = k) (h : k ∉ ps.map (·.1)) : storedH (z :: ps) k b p = (z.1, z.2.1, p) :: ps := by
  unfold storedH
  have e2 : atKey (z :: ps) k = some z.2 := by unfold atKey; rw [List.find?_cons, decide_eq_true e]; rfl
  rw [e2, if_pos (show (some z.2).isSome = true from rfl), List.map_cons, show putAt k p z = (z.1, z.2.1, p) from if_pos e, map_away (f := fun y : K × Addr × Value => y.1) (g := putAt k p) (fun y hy => if_neg hy) h]
theorem dput_t {e : V × V} {es : List (V × V)} {k v : V} (h : veq e.1 k = true) : dput (e :: es) k v = (e.1, v) :: es := if_pos h
theorem dput_f {e : V × V} {es : List (V × V)} {k v : V} (h : veq e.1 k = false) : dput (e :: es) k v = e :: dput es k v := if_neg (ne_true_of_eq_false h)
theorem KS.put {l : List Nat} {v : V} {p : Value} (a : VT C D X h v p) (k : OkV D X p) {es : List (V × V)} {kvs : List (Str × Value)} (x : KS C D X h es kvs) (nd : (kvs.map (·.1)).Nodup) : KS C D X h (dput es (.str l) v) (stored kvs ⟨l.toArray⟩ p) :=
  x.ind (M := fun (es : List (V × V)) (kvs : List (Str × Value)) => (kvs.map (·.1)).Nodup → KS C D X h (dput es (.str l) v) (stored kvs ⟨l.toArray⟩ p)) (fun _ => .cons rfl a k .nil) (fun u z es ps a' k' r ih nd => by
    have nd := List.nodup_cons.mp nd
    have hv : veq (.str z.1.cps.toList) (.str l) = decide (z.1 = ⟨l.toArray⟩) := (leqN_eq _ l).trans (decide_eq_decide.mpr str_eq)
    by_cases h : z.1 = ⟨l.toArray⟩
    · rw [dput_t (hv.trans (decide_eq_true h)), stored_eq h (h ▸ nd.1)]; exact .cons rfl a k r
    · rw [dput_f (hv.trans (decide_eq_false h)), stored_ne h]; exact .cons rfl a' k' (ih nd.2)) nd
theorem KI.put {l : Int} {v : V} {p : Value} (a : VT C D X h v p) (k : OkV D X p) {es : List (V × V)} {kvs : List (Int × Value)} (x : KI C D X h es kvs) (nd : (kvs.map (·.1)).Nodup) : KI C D X h (dput es (.int l) v) (stored kvs l p) :=
  x.ind (M := fun (es : List (V × V)) (kvs : List (Int × Value)) => (kvs.map (·.1)).Nodup → KI C D X h (dput es (.int l) v) (stored kvs l p)) (fun _ => .cons a k .nil) (fun u z es ps a' k' r ih nd => by
    have nd := List.nodup_cons.mp nd
    have hv : veq (.int z.1) (.int l) = decide (z.1 = l) := rfl
    by_cases h : z.1 = l
    · rw [dput_t (hv.trans (decide_eq_true h)), stored_eq h (h ▸ nd.1)]; exact .cons a k r
    · rw [dput_f (hv.trans (decide_eq_false h)), stored_ne h]; exact .cons a' k' (ih nd.2)) nd
theorem KT.put {l : List Int} {v : V} {p : Value} {b : Addr} (kb : OkA D X b) (a : VT C D X h v p) (k : OkV D X p) {es : List (V × V)} {kvs : List (List Int × Addr × Value)} (x : KT C D X h es kvs) (nd : (kvs.map (·.1)).Nodup) : KT C D X h (dput es (.tuple (l.map .int)) v) (storedH kvs l b p) :=
  x.ind (M := fun (es : List (V × V)) (kvs : List (List Int × Addr × Value)) => (kvs.map (·.1)).Nodup → KT C D X h (dput es (.tuple (l.map .int)) v) (storedH kvs l b p)) (fun _ => .cons kb a k .nil) (fun u z es ps kb' a' k' r ih nd => by
    have nd := List.nodup_cons.mp nd
    have hv : veq (.tuple (z.1.map .int)) (.tuple (l.map .int)) = decide (z.1 = l) := veqs_ints _ l
    by_cases h : z.1 = l
    · rw [dput_t (hv.trans (decide_eq_true h)), storedH_eq h (h ▸ nd.1)]; exact .cons kb' a k r
    · rw [dput_f (hv.trans (decide_eq_false h)), storedH_ne h]; exact .cons kb' a' k' (ih nd.2)) nd
theorem DictOf.nodup {K : Type} [DecidableEq K] {prog : Program} {w : World} {kd : PySem.KeyKind prog w K} {h : Heap} {a : Addr} {kvs : List (K × Value)} (e : h.DictOf kd a kvs) : (kvs.map (·.1)).Nodup := e.elim fun _ e => e.elim fun _ e => e.elim fun _ e => e.2.2.2.2.2
theorem DictOfH.nodup {a : Addr} {kvs : List (List Int × Addr × Value)} (e : h.DictOfH C.tk a kvs) : (kvs.map (·.1)).Nodup := e.elim fun _ e => e.elim fun _ e => e.elim fun _ e => e.2.2.2.2.2
noncomputable def PutQ (C : Cfg) (D : List FR) (X : Addr → Prop) (σ : Nums) (s : Shared) (es : List (V × V)) (k v : V) (a : Addr) (Q : Unit → Shared → Prop) : Prop :=
  ∀ h' t, (∀ b o, s.heap.get? b = some o → b ≠ a → h'.get? b = some o) → (∃ o, h'.get? a = some o) → Inv C D X σ { s with heap := h', toks := t } → Ext (· = a) D s.heap D h' → VT C D X h' (.dict (dput es k v)) (.ref a) → Q () { s with heap := h', toks := t }
theorem put_fin (I : Inv C D X σ s) {es : List (V × V)} {k v : V} {a : Addr} (ha : X a) {Q : Unit → Shared → Prop} (q : PutQ C D X σ s es k v a Q) (h' : Heap) (t : Nat) (sb : Heap.SameBut a s.heap h') (al : ∃ o, h'.get? a = some o) (vt : Mono D X s.heap D X h' → VT C D X h' (.dict (dput es k v)) (.ref a)) : Q () { s with heap := h', toks := t } :=
  have kk : ∀ b o, s.heap.get? b = some o → b ≠ a → h'.get? b = some o := fun b o e hb => (sb.2 b hb).trans e
  have J := I.change (W := (· = a)) (s' := { s with heap := h', toks := t }) (fun b hb => hb ▸ ha) kk fun b hb o e => hb ▸ al
  q h' t kk al J.1 J.2 (vt (J.2.mono I.fat (fun b hb => .inl (hb ▸ ha)) fun _ h => .inl h))
theorem KS.mono {D' : List FR} {X' : Addr → Prop} {h' : Heap} (m : Mono D X h D' X' h') {es : List (V × V)} {ps : List (Str × Value)} (x : KS C D X h es ps) : KS C D' X' h' es ps := x.ind (M := fun es ps => KS C D' X' h' es ps) .nil fun _ _ _ _ a k _ ih => .cons rfl (a.up m k) (OkV.mono m a k) ih
theorem KI.mono {D' : List FR} {X' : Addr → Prop} {h' : Heap} (m : Mono D X h D' X' h') {es : List (V × V)} {ps : List (Int × Value)} (x : KI C D X h es ps) : KI C D' X' h' es ps := x.ind (M := fun es ps => KI C D' X' h' es ps) .nil fun _ _ _ _ a k _ ih => .cons (a.up m k) (OkV.mono m a k) ih
theorem put_sound {sets : Bool} (I : Inv C D X σ s) (R : Room A) {es : List (V × V)} {k v : V} {a : Addr} {pk pv : Value} (ha : X a) (hd : VT C D X s.heap (.dict es) (.ref a)) (hk : VR C D X s.heap k pk) (hv : VR C D X s.heap v pv)
    (e : seek es k = true) (hs : small es = true) {Q : Unit → Shared → Prop} {E : Value → Shared → Prop} (q : PutQ C D X σ s es k v a Q) : wpAny (model C.prog C.w) A (if sets then setItem (.ref a) pk pv else dictSet a pk pv) Q E s :=
  keyOk_c (bL e)
    (fun l hl => hd.dictS_c (hl ▸ e) fun a' kvs ha' d1 lo r => by
      cases Value.ref.inj ha'
      have go : ∀ h', h'.DictOf C.sk a (stored kvs ⟨l.toArray⟩ pv) → Heap.SameBut a s.heap h' → Q () { s with heap := h', toks := s.toks + 1 } := fun h' d2 sb =>
        put_fin I ha q h' _ sb (d2.elim fun o e => e.elim fun _ e => e.elim fun _ e => ⟨o, e.1⟩) fun m => hl ▸ .dictS d2 lo (KS.put (hv.1.up m hv.2) (OkV.mono m hv.1 hv.2) (r.mono m) (DictOf.nodup d1))
      cases sets
      · exact wpAny_dictSet_pairs (isStr_of (hl ▸ hk.1)) d1 go (r.len ▸ small_line hs)
      · exact wpAny_setItem_pairs (isStr_of (hl ▸ hk.1)) d1 go (r.len ▸ small_line hs))
    (fun l hl => hd.dictI_c (hl ▸ e) fun a' kvs ha' d1 lo r => by
      cases Value.ref.inj ha'
      have go : ∀ h', h'.DictOf C.ik a (stored kvs l pv) → Heap.SameBut a s.heap h' → Q () { s with heap := h', toks := s.toks + 1 } := fun h' d2 sb =>
        put_fin I ha q h' _ sb (d2.elim fun o e => e.elim fun _ e => e.elim fun _ e => ⟨o, e.1⟩) fun m => hl ▸ .dictI d2 lo (KI.put (hv.1.up m hv.2) (OkV.mono m hv.1 hv.2) (r.mono m) (DictOf.nodup d1))
      cases sets
      · exact wpAny_dictSet_pairs (isInt_of (hl ▸ hk.1)) d1 go (r.len ▸ small_line hs)
      · exact wpAny_setItem_pairs (isInt_of (hl ▸ hk.1)) d1 go (r.len ▸ small_line hs))
    fun l hl => hd.dictT_c (hl ▸ e) fun a' kvs ha' d1 lo r => (isKey_of (hl ▸ hk.1)).elim fun b hb => by
      cases Value.ref.inj ha'
      have go : ∀ h', h'.DictOfH C.tk a (storedH kvs l b pv) → Heap.SameBut a s.heap h' → Q () { s with heap := h', toks := s.toks + C.tk.draws l } := fun h' d2 sb =>
        put_fin I ha q h' _ sb (d2.elim fun o e => e.elim fun _ e => e.elim fun _ e => ⟨o, e.1⟩) fun m => hl ▸ .dictT d2 lo (KT.put (hb.2.elim fun o g => g.elim fun _ g => g.elim fun _ g => m.ok _ _ (hk.2 b hb.1) g.1) (hv.1.up m hv.2) (OkV.mono m hv.1 hv.2) (KT.mono m (DictOfH.alive d1) r) (DictOfH.nodup d1))
      rw [hb.1]
      cases sets
      · exact wpAny_dictSet_heap (show A.units < cLine from Nat.lt_of_le_of_lt (Nat.le_add_right _ _) R.units) hb.2 d1 go (r.len ▸ small_line hs)
      · exact wpAny_setItem_heap (in1_room R) hb.2 d1 go (r.len ▸ small_line hs)
theorem app_sound (I : Inv C D X σ s) {vs : List V} {v : V} {a : Addr} {items : Array Value} {n : Nat} {pv : Value} (ha : X a) (hd : s.heap.get? a = some (seqObj "list" items n)) (r : VRs C D X s.heap vs items.toList) (hv : VR C D X s.heap v pv)
    (hs : vs.length ≤ 10000) {Q : Value → Shared → Prop} {E : Value → Shared → Prop}
    (q : ∀ h' n', (∀ b o, s.heap.get? b = some o → b ≠ a → h'.get? b = some o) → h'.get? a = some (seqObj "list" (items.push pv) n') → Inv C D X σ { s with heap := h' } → Ext (· = a) D s.heap D h' → VRs C D X h' (vs ++ [v]) (items.push pv).toList → Q .none { s with heap := h' }) :
    wpAny (model C.prog C.w) A (call (.builtin "list.append") [.ref a, pv]) Q E s :=
  append_at hd (fun h' sb e' => by
    have kk : ∀ b o, s.heap.get? b = some o → b ≠ a → h'.get? b = some o := fun b o e hb => (sb.2 b hb).trans e
    have J := I.change (W := (· = a)) (s' := { s with heap := h' }) (fun b hb => hb ▸ ha) kk fun b hb o e => hb ▸ ⟨_, e'⟩
    have m := J.2.mono (X := X) (X' := X) I.fat (fun b hb => .inl (hb ▸ ha)) fun _ h => .inl h
    exact q h' _ kk e' J.1 J.2 (by rw [Array.toList_push]; exact (r.mono m).append (.con (hv.mono m) .nil))) (by rw [← r.size, sizeLine_eq]; have := hs; omega)
end
end Mine
namespace Mine
section
variable {M : Model} {A : Around} {E : Value → Shared → Prop} {s : Shared} {env : Env}
theorem cellOf_pure {n : Str} {c : Addr} (h : env.cells.lookup n = some c) : cellOf env n = pure c := by
  unfold cellOf; rw [h]
theorem closure_go (f : Str × NameKind → List (Str × Addr) → Sem (ForInStep (List (Str × Addr))))
    (hf : ∀ n k cs, f (n, k) cs = if (k == .free) = true then (do let a ← cellOf env n; pure (.yield ((n, a) :: cs))) else pure (.yield cs)) :
    ∀ (names : List (Str × NameKind)) (acc : List (Str × Addr)), (∀ n, (n, NameKind.free) ∈ names → ∃ c, env.cells.lookup n = some c) → (∀ n c, (n, c) ∈ acc → env.cells.lookup n = some c) →
      ∃ cl, forIn names acc f = pure cl ∧ (∀ n c, (n, c) ∈ cl → env.cells.lookup n = some c) ∧ (∀ x ∈ acc, x ∈ cl) ∧ (∀ n, (n, NameKind.free) ∈ names → ∃ c, (n, c) ∈ cl)
  | [], acc, _, ha => ⟨acc, by rw [List.forIn_nil], ha, fun _ h => h, by simp⟩
  | (n, k) :: r, acc, hn, ha => by
    rw [List.forIn_cons, hf]
    by_cases hk : (k == NameKind.free) = true
    · rw [if_pos hk]
      have hk' : k = .free := by simpa using hk
      subst hk'
      obtain ⟨c, hc⟩ := hn n List.mem_cons_self
      rw [cellOf_pure hc]
      simp only [pure_bind]
      obtain ⟨cl, e1, e2, e3, e4⟩ := closure_go f hf r ((n, c) :: acc) (fun m hm => hn m (List.mem_cons_of_mem _ hm)) (fun m d hm => by
        rcases List.mem_cons.mp hm with h | h
        · cases h; exact hc
        · exact ha m d h)
      refine ⟨cl, e1, e2, fun x hx => e3 x (List.mem_cons_of_mem _ hx), fun m hm => ?_⟩
      rcases List.mem_cons.mp hm with h | h
      · cases h; exact ⟨c, e3 _ List.mem_cons_self⟩
      · exact e4 m h
    · rw [if_neg hk]
      simp only [pure_bind]
      obtain ⟨cl, e1, e2, e3, e4⟩ := closure_go f hf r acc (fun m hm => hn m (List.mem_cons_of_mem _ hm)) ha
      refine ⟨cl, e1, e2, e3, fun m hm => ?_⟩
      rcases List.mem_cons.mp hm with h | h
      · cases h; exact absurd rfl hk
      · exact e4 m h
theorem closure_ok {cs : Scope} (hn : ∀ n, (n, NameKind.free) ∈ cs.names → ∃ c, env.cells.lookup n = some c) :
    ∃ cl, closureFor cs env = pure cl ∧ (∀ n c, (n, c) ∈ cl → env.cells.lookup n = some c) ∧ (∀ n, (n, NameKind.free) ∈ cs.names → ∃ c, (n, c) ∈ cl) := by
  obtain ⟨cl, e1, e2, _, e4⟩ := closure_go (env := env) (fun x cs => match x with
    | (n, k) => if (k == .free) = true then (do let a ← cellOf env n; pure (.yield ((n, a) :: cs))) else pure (.yield cs)) (fun _ _ _ => rfl) cs.names [] hn (by simp)
  refine ⟨cl, ?_, e2, e4⟩
  have : closureFor cs env = (forIn cs.names ([] : List (Str × Addr)) (fun x cs => match x with
    | (n, k) => if (k == .free) = true then (do let a ← cellOf env n; pure (ForInStep.yield ((n, a) :: cs))) else pure (ForInStep.yield cs)) >>= pure) := rfl
  rw [this, e1, pure_bind]
theorem cellsFrom_app : ∀ (names : List (Str × NameKind)) (n : Nat) (acc : List (Str × Addr)), cellsFrom n names acc = cellsFrom n names [] ++ acc
  | [], n, acc => rfl
  | (m, k) :: r, n, acc => by
    unfold cellsFrom
    split
    · rw [cellsFrom_app r (n + 1) ((m, n) :: acc), cellsFrom_app r (n + 1) [(m, n)]]; simp
    · exact cellsFrom_app r n acc
theorem cellsFrom_names : ∀ (names : List (Str × NameKind)) (n : Nat) (x : Str) (c : Addr), (x, c) ∈ cellsFrom n names [] → (x, NameKind.cell) ∈ names
  | [], n, x, c, h => by simp [cellsFrom] at h
  | (m, k) :: r, n, x, c, h => by
    unfold cellsFrom at h
    split at h
    · rename_i hk
      rw [cellsFrom_app] at h
      rcases List.mem_append.mp h with h | h
      · exact List.mem_cons_of_mem _ (cellsFrom_names r _ x c h)
      · simp at h
        obtain ⟨rfl, rfl⟩ := h
        have hk : k = .cell := by simpa using hk
        subst hk; exact List.mem_cons_self
    · exact List.mem_cons_of_mem _ (cellsFrom_names r _ x c h)
theorem cellsFrom_has : ∀ (names : List (Str × NameKind)) (n : Nat) (x : Str), (x, NameKind.cell) ∈ names → ∃ c, (x, c) ∈ cellsFrom n names []
  | (m, k) :: r, n, x, h => by
    unfold cellsFrom
    rcases List.mem_cons.mp h with h | h
    · cases h
      rw [if_pos (show (NameKind.cell == NameKind.cell) = true from rfl), cellsFrom_app]
      exact ⟨n, List.mem_append_right _ List.mem_cons_self⟩
    · split
      · obtain ⟨c, hc⟩ := cellsFrom_has r (n + 1) x h
        rw [cellsFrom_app]
        exact ⟨c, List.mem_append_left _ hc⟩
      · exact cellsFrom_has r n x h
theorem lookup_of_mem {α : Type} : ∀ {l : List (Str × α)} {n : Str} {c : α}, (n, c) ∈ l → ∃ d, l.lookup n = some d
  | (k, v) :: r, n, c, h => by
    rw [List.lookup_cons]
    cases hb : n == k with
    | true => exact ⟨v, rfl⟩
    | false =>
      rcases List.mem_cons.mp h with h | h
      · cases h; simp at hb
      · exact lookup_of_mem h
theorem lookup_app {α : Type} : ∀ {l l' : List (Str × α)} {n : Str}, (l ++ l').lookup n = match l.lookup n with | some c => some c | none => l'.lookup n
  | [], _, _ => rfl
  | (k, v) :: r, l', n => by
    rw [List.cons_append, List.lookup_cons, List.lookup_cons]
    cases hb : n == k with
    | true => rfl
    | false => exact lookup_app
theorem compFrame {scope : Scope} {globals : Addr} {cl : List (Str × Addr)} {qual : Str} {outer : Env} {Q : Env → Shared → Prop}
    (h : ∀ h' : Heap, h'.Ns s.heap.objs.size (fun _ => none) → (∀ b o, s.heap.get? b = some o → h'.get? b = some o) → CellsOk h' (s.heap.objs.size + 1) (cellsFrom (s.heap.objs.size + 1) scope.names []) →
      Q { scope := scope, locals := s.heap.objs.size, globals := globals, cells := cellsFrom (s.heap.objs.size + 1) scope.names [] ++ cl, qual := qual, func := none, code := outer.code, frame := outer.frame, builtins := outer.builtins } { s with heap := h' }) :
    wpAny M A (newFunctionEnv scope globals cl [] qual none .none (some outer)) Q E s := by
  unfold newFunctionEnv
  refine wpAny_bind (wpAny_alloc ?_)
  refine wpAny_bind (wpAny_layCells _ (fun _ _ _ => rfl) _ _ _ _ ?_)
  simp only [List.forIn_nil, pure_bind]
  refine wpAny_pure ?_
  have hz : (s.heap.push { cls := .type "dict", data := .dict #[] }).objs.size = s.heap.objs.size + 1 := Heap.size_push ..
  show Q { scope := scope, locals := s.heap.objs.size, globals := globals, cells := cellsFrom (s.heap.push { cls := .type "dict", data := .dict #[] }).objs.size scope.names cl, qual := qual, func := none, code := outer.code, frame := outer.frame, builtins := outer.builtins } { s with heap := pushCells (s.heap.push { cls := .type "dict", data := .dict #[] }) scope.names }
  have ok := cellsFrom_ok scope.names (s.heap.push { cls := .type "dict", data := .dict #[] }) (s.heap.objs.size + 1) [] ⟨by simp, .nil⟩ (Nat.le_of_eq hz.symm)
  rw [hz] at ok ⊢
  rw [cellsFrom_app]
  exact h _ ((Heap.Ns.new s.heap _).keeps (pushCells_keeps _ _)) (fun b o e => pushCells_keeps _ _ b o (Heap.get?_push_of_some _ e)) ok
end
end Mine
namespace Mine
theorem nm_dot0 : ∀ x, x < 74 → ¬ nm x = Str.ofString ".0" := by decide +kernel
theorem lookup_map {f : Str → NameKind → NameKind} : ∀ (l : List (Str × NameKind)) (n : Str), (l.map fun e => (e.1, f e.1 e.2)).lookup n = (l.lookup n).map (f n)
  | [], _ => rfl
  | (k, v) :: r, n => by
    rw [List.map_cons, List.lookup_cons, List.lookup_cons]
    cases hb : n == k with
    | true => have := beq_iff_eq.mp hb; subst this; rfl
    | false => exact lookup_map r n
theorem relS_lookup (cs sc : Scope) (n : Str) : (relS cs sc).names.lookup n = (cs.names.lookup n).map fun k => if k == .free && sc.kind == .function && sc.names.lookup n == some .cell then .cell else k := by
  rw [← lookup_map (f := fun n k => if k == .free && sc.kind == .function && sc.names.lookup n == some .cell then .cell else k)]
  congr 1
  show List.map _ _ = _
  refine List.map_congr_left fun e _ => ?_
  obtain ⟨n, k⟩ := e
  dsimp only
  split <;> rfl
section
variable {C : Cfg} {gt : List (Str × List Nat)} {A : Around} {D D' : List FR} {X X' X0 X1 O W : Addr → Prop} {σ σ' : Nums} {s s' : Shared} {env : Env} {r : Rho} {v : V} {p : Value} {n k : Nat} {pos : Pos}
structure CompOk (cs sc : Scope) (x : Nat) : Prop where
  kind : cs.kind = .function
  lt : x < 74
  sto : cs.names.lookup (nm x) = some .local ∨ cs.names.lookup (nm x) = some .cell
  loc : ∀ n, (n, NameKind.local) ∈ cs.names → (n = Str.ofString ".0" ∨ n = nm x) ∧ cs.names.lookup n = some .local
  cel : ∀ n, (n, NameKind.cell) ∈ cs.names → n = nm x ∧ cs.names.lookup n = some .cell
  fre : ∀ n, (n, NameKind.free) ∈ cs.names → (sc.names.lookup n = some .cell ∨ sc.names.lookup n = some .free) ∧ cs.names.lookup n = some .free
  exp : ∀ n, (n, NameKind.globalExplicit) ∉ cs.names
theorem compOk_of {cs sc : Scope} {x : Nat} (h : compOk cs sc x = true) : CompOk cs sc x := by
  unfold compOk at h
  simp only [Bool.and_eq_true, Nat.blt_eq, List.all_eq_true] at h
  obtain ⟨⟨⟨h1, h2⟩, h3⟩, h4⟩ := h
  refine ⟨?_, h2, ?_, fun n hn => ?_, fun n hn => ?_, fun n hn => ?_, fun n hn => ?_⟩
  · split at h1
    · assumption
    · cases h1
  · obtain ⟨k, g1, g2⟩ := kindIs_some h3
    rcases stoKind_eq g2 with rfl | rfl
    · exact .inl g1
    · exact .inr g1
  · have := h4 _ hn
    simp only [Bool.and_eq_true, Bool.or_eq_true, decide_eq_true_eq] at this
    obtain ⟨k, g1, g2⟩ := kindIs_some this.2
    rw [locKind_eq g2] at g1
    exact ⟨this.1, g1⟩
  · have := h4 _ hn
    simp only [Bool.and_eq_true, decide_eq_true_eq] at this
    obtain ⟨k, g1, g2⟩ := kindIs_some this.2
    rw [of_decide_eq_true g2] at g1
    exact ⟨this.1, g1⟩
  · have := h4 _ hn
    simp only [Bool.and_eq_true] at this
    obtain ⟨k, g1, g2⟩ := kindIs_some this.1
    obtain ⟨k', g3, g4⟩ := kindIs_some this.2
    rw [of_decide_eq_true g4] at g3
    rcases Bool.or_eq_true_iff.mp g2 with h | h
    · rw [of_decide_eq_true h] at g1; exact ⟨.inl g1, g3⟩
    · rw [of_decide_eq_true h] at g1; exact ⟨.inr g1, g3⟩
  · have := h4 _ hn
    cases this
theorem lookup_mem' : ∀ {l : List (Str × NameKind)} {n : Str} {k : NameKind}, l.lookup n = some k → (n, k) ∈ l := fun h => mem_of_lookup h
noncomputable def compEnv (cs : Scope) (env : Env) (L : Addr) (cl : List (Str × Addr)) : Env :=
  { scope := relabel cs env, locals := L, globals := env.globals, cells := cellsFrom (L + 1) cs.names [] ++ cl, qual := env.qual, func := none, code := env.code, frame := env.frame, builtins := env.builtins }
noncomputable def ownC (cs : Scope) (L : Addr) (a : Addr) : Prop := a = L ∨ ∃ n, (n, a) ∈ cellsFrom (L + 1) cs.names []
theorem comp_fre {cs : Scope} {x : Nat} {cl : List (Str × Addr)} {h' : Heap} {L : Addr} (F : FrE C env X0 O X r D s.heap) (I : Inv C D X σ s) (ok : CompOk cs env.scope x)
    (c1 : ∀ n c, (n, c) ∈ cl → env.cells.lookup n = some c) (c2 : ∀ n, (n, NameKind.free) ∈ cs.names → ∃ c, (n, c) ∈ cl)
    (k : ∀ b o, s.heap.get? b = some o → h'.get? b = some o) (ns : h'.Ns L (fun _ => none)) (hL : s.heap.objs.size ≤ L) (ce : CellsOk h' (L + 1) (cellsFrom (L + 1) cs.names []))
    (x1 : ∀ a, X a → X1 a) (x2 : ∀ a, ownC cs L a → X1 a) (x3 : ∀ a, X1 a → X a ∨ s.heap.get? a = none) :
    FrE C (compEnv cs env L cl) X (ownC cs L) X1 ⟨fdel r.ρ x, none⟩ D h' := by
  have m : Mono D X s.heap D X1 h' := (Ext.of_keeps (W := Nope) k).mono I.fat (fun _ f => f.elim) x3
  have clu : ∀ n, (n, NameKind.free) ∈ cs.names → ∃ c, env.cells.lookup n = some c ∧ cl.lookup n = some c := fun n hn => by
    obtain ⟨c, hc⟩ := c2 n hn
    obtain ⟨d, hd⟩ := lookup_of_mem hc
    exact ⟨d, c1 _ _ (mem_of_lookup hd), hd⟩
  have ownN : ∀ n c, (cellsFrom (L + 1) cs.names []).lookup n = some c → n = nm x ∧ s.heap.objs.size < c ∧ ownC cs L c := fun n c e => by
    have hm := mem_of_lookup e
    exact ⟨(ok.cel n (cellsFrom_names _ _ _ _ hm)).1, by have := (ce.empty n c hm).2; omega, .inr ⟨n, hm⟩⟩
  have lk : ∀ n, (compEnv cs env L cl).kindOf n = (cs.names.lookup n).map fun k => if k == .free && env.scope.kind == .function && env.scope.names.lookup n == some .cell then .cell else k := fun n => relS_lookup cs env.scope n
  have cells : ∀ n c, (compEnv cs env L cl).cells.lookup n = some c → ((cellsFrom (L + 1) cs.names []).lookup n = some c) ∨ ((cellsFrom (L + 1) cs.names []).lookup n = none ∧ cl.lookup n = some c) := fun n c e => by
    have e : (cellsFrom (L + 1) cs.names [] ++ cl).lookup n = some c := e
    rw [lookup_app] at e
    cases hq : (cellsFrom (L + 1) cs.names []).lookup n with
    | none => rw [hq] at e; exact .inr ⟨rfl, e⟩
    | some d => rw [hq] at e; cases e; exact .inl rfl
  have old : ∀ n c, cl.lookup n = some c → X c ∧ (∃ v, s.heap.IsCell c v) := fun n c e => F.celX n c (c1 _ _ (mem_of_lookup e))
  refine ⟨ok.kind, F.glob, F.bltn, x2 _ (.inl rfl), ⟨_, ns⟩, fun n c e => ?_, fun n n' c e e' => ?_, fun n e => ?_, fun y u e => ?_, fun y u e => nomatch e⟩
  · rcases cells n c e with e | ⟨_, e⟩
    · exact ⟨x2 _ (ownN n c e).2.2, _, (ce.empty n c (mem_of_lookup e)).1⟩
    · obtain ⟨h1, v, h2⟩ := old n c e
      exact ⟨x1 _ h1, v, h2.keeps k⟩
  · rcases cells n c e with e | ⟨_, e⟩ <;> rcases cells n' c e' with e' | ⟨_, e'⟩
    · rw [(ownN n c e).1, (ownN n' c e').1]
    · obtain ⟨_, v, h2⟩ := old n' c e'; exact absurd h2.lt (Nat.lt_asymm (ownN n c e).2.1)
    · obtain ⟨_, v, h2⟩ := old n c e; exact absurd h2.lt (Nat.lt_asymm (ownN n' c e').2.1)
    · exact F.apart n n' c (c1 _ _ (mem_of_lookup e)) (c1 _ _ (mem_of_lookup e'))
  · rw [lk] at e
    cases hk : cs.names.lookup n with
    | none => rw [hk] at e; simp at e
    | some kk =>
      rw [hk] at e
      have hm := lookup_mem' hk
      show ∃ c, (cellsFrom (L + 1) cs.names [] ++ cl).lookup n = some c
      rw [lookup_app]
      cases hq : (cellsFrom (L + 1) cs.names []).lookup n with
      | some d => exact ⟨d, rfl⟩
      | none =>
        cases kk with
        | cell => obtain ⟨c, hc⟩ := cellsFrom_has cs.names (L + 1) n hm; obtain ⟨d, hd⟩ := lookup_of_mem hc; rw [hq] at hd; cases hd
        | free => obtain ⟨c, _, hc⟩ := clu n hm; exact ⟨c, hc⟩
        | «local» => simp at e
        | globalExplicit => simp at e
        | globalImplicit => simp at e
  · simp only [fget_fdel] at e
    by_cases hy : y = x
    · rw [if_pos hy] at e; cases e
    · rw [if_neg hy] at e
      obtain ⟨h1, hs⟩ := F.get y u e
      refine ⟨h1, fun sn => ?_⟩
      have hne : nm y ≠ nm x := fun e => hy (nm_inj _ h1 _ ok.lt e)
      have hk : (nm y, NameKind.free) ∈ cs.names := by
        unfold Seen at sn
        rw [lk] at sn
        cases hk : cs.names.lookup (nm y) with
        | none => rw [hk] at sn; simp at sn
        | some kk =>
          rw [hk] at sn
          have hm := lookup_mem' hk
          cases kk with
          | free => exact hm
          | «local» => rcases (ok.loc _ hm).1 with h | h
                       · exact absurd h (nm_dot0 y h1)
                       · exact absurd h hne
          | cell => exact absurd (ok.cel _ hm).1 hne
          | globalExplicit => simp at sn
          | globalImplicit => simp at sn
      obtain ⟨hp, hf⟩ := ok.fre _ hk
      have sn' : Seen env y := by
        unfold Seen Env.kindOf
        rcases hp with h | h
        · exact .inr (.inl h)
        · exact .inr (.inr h)
      obtain ⟨q, vq, rq⟩ := hs sn'
      refine ⟨q, .inr ⟨?_, ?_⟩, rq.mono m⟩
      · rw [lk, hf]
        simp only [Option.map_some]
        split
        · exact .inl rfl
        · exact .inr rfl
      · have hcell : ∃ c, env.cells.lookup (nm y) = some c ∧ s.heap.IsCell c (some q) := by
          rcases vq with ⟨a, _⟩ | ⟨_, a⟩
          · unfold Env.kindOf at a
            rcases hp with h | h <;> rw [h] at a <;> cases a
          · exact a
        obtain ⟨c, g1, g2⟩ := hcell
        obtain ⟨d, g3, g4⟩ := clu _ hk
        rw [g1] at g3; cases g3
        refine ⟨c, ?_, g2.keeps k⟩
        show (cellsFrom (L + 1) cs.names [] ++ cl).lookup (nm y) = some c
        rw [lookup_app]
        cases hq : (cellsFrom (L + 1) cs.names []).lookup (nm y) with
        | some d => exact absurd (ownN _ _ hq).1 hne
        | none => exact g4
end
end Mine
namespace Mine
section
variable {C : Cfg} {gt : List (Str × List Nat)} {A : Around} {D D' D0 : List FR} {X X' X0 X1 O W : Addr → Prop} {σ σ' : Nums} {s s' : Shared} {env : Env} {r : Rho} {v : V} {p : Value} {n k : Nat} {pos : Pos}
theorem FrE.other (F : FrE C env X0 O X r D s.heap) (I : Inv C D X σ s) (hw : ∀ b, W b → X b) (kk : ∀ a o, s.heap.get? a = some o → ¬ W a → s'.heap.get? a = some o) (al : ∀ a, W a → ∀ o, s.heap.get? a = some o → ∃ o', s'.heap.get? a = some o')
    (hl : ¬ W env.locals) (zc : ∀ n c, env.cells.lookup n = some c → ¬ W c) (zo : ∀ a, O a → ¬ W a) : FrE C env X0 O X r D s'.heap := by
  obtain ⟨_, x⟩ := I.change (s' := s') hw kk al
  refine F.calm (Z := W) ⟨fun m h => ?_, fun a o _ hz _ _ e => kk a o e hz⟩ zc zo hl (x.mono I.fat (fun b hb => .inl (hw b hb)) fun _ h => .inl h) I.dxX fun _ h _ => h
  obtain ⟨o, es, ep, e, rest⟩ := h
  exact ⟨o, es, ep, kk _ _ e hl, rest⟩
noncomputable abbrev testsOf (env : Env) (ifs : List Expr) (b : Bool) : Sem Bool := forIn ifs b fun c r => if r = true then do let ok ← isTrue c env (eval c env); pure (ForInStep.yield ok) else pure (ForInStep.yield r)
theorem tests_false : ∀ (ifs : List Expr), testsOf env ifs false = pure false
  | [] => by unfold testsOf; rw [List.forIn_nil]
  | c :: r => by
    unfold testsOf
    rw [List.forIn_cons, if_neg (by simp), pure_bind]
    exact tests_false r
theorem tests_cons {c : Expr} {r : List Expr} {b : Bool} (h : Gb C A D X W s b σ (isTrue c env (eval c env))) {Q : Bool → Shared → Prop} {E : Value → Shared → Prop}
    (k : ∀ D1 s1, Pst C D X W s D1 σ s1 → wpAny (model C.prog C.w) A (testsOf env r b) Q E s1) : wpAny (model C.prog C.w) A (testsOf env (c :: r) true) Q E s := by
  unfold testsOf
  rw [List.forIn_cons, if_pos rfl]
  exact wpAny_bind (wpAny_bind (h.useE fun D1 s1 P1 => wpAny_pure (k D1 s1 P1)))
theorem tests_nil {b : Bool} : testsOf env [] b = pure b := by unfold testsOf; rw [List.forIn_nil]
theorem tests_go (hT : ST C gt n) : ∀ {ms : List M} {es : List Expr} {D : List FR} {σ σ' : Nums} {s : Shared} {b : Bool}, chkAll (chkE gt k env.scope) ms es = true → FrE C env X0 O X r D s.heap → Inv C D X σ s → RoomN A n →
    andE (fun m σ => (run prg n).e m r σ) ms σ = some (.bool b, σ') → Gb C A D X (· = env.locals) s b σ' (testsOf env es true) := by
  intro ms
  induction ms with
  | nil => intro es D σ σ' s v h F I R ev; exact nn ev
  | cons m ms ih =>
    intro es D σ σ' s v h F I R ev
    cases es with
    | nil => exact ff h
    | cons e es =>
    cases ms with
    | nil =>
      cases es with
      | cons => exact ff (bR h)
      | nil =>
        exact oP_c ev fun u σ1 e1 ev => wBool_c ev fun b hu ev => sE ev fun hv hs => tests_cons (hT (bL h) F I R (hs ▸ hv ▸ hu ▸ e1)) fun D1 s1 P1 => tests_nil ▸ wpAny_pure ⟨rfl, D1, P1⟩
    | cons m' ms =>
      cases es with
      | nil => exact ff (bR h)
      | cons e' es =>
        exact oB_c ev (fun σ1 e1 ev => tests_cons (hT (bL h) F I R e1) fun D1 s1 P1 => Gb.then P1 (ih (bR h) (F.step I P1) P1.inv R ev))
          fun σ1 e1 ev => sE ev fun hv hs => tests_cons (hT (bL h) F I R e1) fun D1 s1 P1 => tests_false (env := env) (e' :: es) ▸ wpAny_pure ⟨bool_inj hv, D1, hs ▸ P1⟩
theorem tests_sound (hT : ST C gt n) {ms : List M} {es : List Expr} {b : Bool} (h : chkAll (chkE gt k env.scope) ms es = true) (F : FrE C env X0 O X r D s.heap) (I : Inv C D X σ s) (R : RoomN A n)
    (ev : tstE (fun m σ => (run prg n).e m r σ) ms σ = some (.bool b, σ')) : Gb C A D X (· = env.locals) s b σ' (testsOf env es true) := by
  cases ms with
  | nil =>
    cases es with
    | nil => exact sE ev fun hv hs => tests_nil ▸ wpAny_pure ⟨bool_inj hv, D, hs ▸ .refl I⟩
    | cons => exact ff h
  | cons m ms => exact tests_go hT h F I R ev
structure CompSt (C : Cfg) (cenv : Env) (X Oc X1 : Addr → Prop) (x : Nat) (ρ : List (Nat × V)) (acc It : Addr) (D0 : List FR) (sF : Shared) (St : Nat → Heap → Prop) (i : Nat) (D1 : List FR) (σ1 : Nums) (s : Shared) : Prop where
  same : ∃ h' t', s = { sF with heap := h', toks := t' }
  ext : Ext (fun a => Oc a ∨ a = acc ∨ a = It) D0 sF.heap D1 s.heap
  inv : Inv C D1 X1 σ1 s
  fre : ∃ r1 : Rho, r1.w = none ∧ (∀ y, y ≠ x → fget r1.ρ y = fget ρ y) ∧ FrE C cenv X Oc X1 r1 D1 s.heap
  st : St i s.heap
structure CompCtx (C : Cfg) (A : Around) (cenv : Env) (Oc X1 : Addr → Prop) (x : Nat) (acc It : Addr) (fp : List Addr) (vs : List V) (D0 : List FR) (sF : Shared) (P : Nat → Value → Prop) (St : Nat → Heap → Prop) : Prop where
  oL : Oc cenv.locals
  oX : ∀ a, Oc a → X1 a
  aX : X1 acc
  iX : X1 It
  aI : acc ≠ It
  aO : ¬ Oc acc
  iO : ¬ Oc It
  cl : ∀ n c, cenv.cells.lookup n = some c → c ≠ acc ∧ c ≠ It
  fpk : ∀ b ∈ fp, b = It ∨ (OkA D0 X1 b ∧ ∃ o, sF.heap.get? b = some o)
  W : Walks C.prog C.w A It fp [It] vs.length P St
  alive : ∀ (i : Nat) (h' : Heap), St i h' → ∃ o, h'.get? It = some o
  item : ∀ (i : Nat) (p : Value), P i p → ∃ v, vs[i]? = some v ∧ VR C D0 X1 sF.heap v p
  sto : Sto cenv Oc x
  lt : x < 74
  inv0 : ∃ σ0, Inv C D0 X1 σ0 sF
section
variable {cenv : Env} {Oc : Addr → Prop} {x : Nat} {ρ : List (Nat × V)} {acc It : Addr} {sF : Shared} {St : Nat → Heap → Prop} {P : Nat → Value → Prop} {i : Nat} {D1 D2 : List FR} {σ1 σ2 : Nums} {fp : List Addr} {vs : List V} {s2 : Shared}
theorem CompSt.mono (c : CompSt C cenv X Oc X1 x ρ acc It D0 sF St i D1 σ1 s) (K : CompCtx C A cenv Oc X1 x acc It fp vs D0 sF P St) : Mono D0 X1 sF.heap D1 X1 s.heap := by
  obtain ⟨σ0, I0⟩ := K.inv0
  refine c.ext.mono I0.fat (fun b hb => ?_) fun _ h => .inl h
  rcases hb with h | rfl | rfl
  · exact .inl (K.oX _ h)
  · exact .inl K.aX
  · exact .inl K.iX
theorem CompSt.stKeep (c : CompSt C cenv X Oc X1 x ρ acc It D0 sF St i D1 σ1 s) (K : CompCtx C A cenv Oc X1 x acc It fp vs D0 sF P St) {h' : Heap} (hI : ∀ o, s.heap.get? It = some o → h'.get? It = some o)
    (hk : ∀ b o, OkA D1 X1 b → s.heap.get? b = some o → h'.get? b = some o) : St i h' := by
  refine K.W.frame i s.heap h' c.st fun b hb o e => ?_
  rcases K.fpk b hb with rfl | ⟨h1, o', h2⟩
  · exact hI o e
  · exact hk b o ((c.mono K).ok b o' h1 h2) e
theorem CompSt.step (c : CompSt C cenv X Oc X1 x ρ acc It D0 sF St i D1 σ1 s) (K : CompCtx C A cenv Oc X1 x acc It fp vs D0 sF P St) (Q : Pst C D1 X1 (· = cenv.locals) s D2 σ2 s2) : CompSt C cenv X Oc X1 x ρ acc It D0 sF St i D2 σ2 s2 := by
  obtain ⟨h1, t1, e1⟩ := c.same
  obtain ⟨h2, t2, e2⟩ := Q.same
  have hw : ∀ b, b = cenv.locals → X1 b := fun b hb => hb ▸ K.oX _ K.oL
  refine ⟨⟨h2, t2, by rw [e2, e1]⟩, c.ext.trans Q.ext fun a ha => .inl (.inl (ha ▸ K.oL)), Q.inv, ?_, ?_⟩
  · obtain ⟨r1, g1, g2, g3⟩ := c.fre
    exact ⟨r1, g1, g2, g3.step c.inv Q⟩
  · refine c.stKeep K (fun o e => Q.ext.keep _ _ e (fun r hr e => c.inv.dxX r hr (e ▸ K.iX)) fun e => K.iO (e ▸ K.oL)) fun b o hb e => (Q.mono c.inv hw).keep b o hb e
theorem CompSt.accum (c : CompSt C cenv X Oc X1 x ρ acc It D0 sF St i D1 σ1 s) (K : CompCtx C A cenv Oc X1 x acc It fp vs D0 sF P St) {h' : Heap} {t : Nat} (kk : ∀ b o, s.heap.get? b = some o → b ≠ acc → h'.get? b = some o)
    (al : ∃ o, h'.get? acc = some o) : CompSt C cenv X Oc X1 x ρ acc It D0 sF St i D1 σ1 { s with heap := h', toks := t } := by
  obtain ⟨h1, t1, e1⟩ := c.same
  obtain ⟨I2, x2⟩ := c.inv.change (W := (· = acc)) (s' := { s with heap := h', toks := t }) (fun b hb => hb ▸ K.aX) kk (fun b hb o e => hb ▸ al)
  refine ⟨⟨h', t, by rw [e1]⟩, c.ext.trans x2 fun a ha => .inl (.inr (.inl ha)), I2, ?_, ?_⟩
  · obtain ⟨r1, g1, g2, g3⟩ := c.fre
    exact ⟨r1, g1, g2, g3.other (s' := { s with heap := h', toks := t }) (W := (· = acc)) c.inv (fun b hb => hb ▸ K.aX) kk (fun b hb o e => hb ▸ al) (fun e => K.aO (e ▸ K.oL)) (fun n c e => (K.cl n c e).1) fun a ha e => K.aO (e ▸ ha)⟩
  · exact c.stKeep K (fun o e => kk _ _ e (Ne.symm K.aI)) fun b o hb e => kk _ _ e fun e2 => hb.1 (e2 ▸ K.aX)
theorem comp_turn (c : CompSt C cenv X Oc X1 x ρ acc It D0 sF St i D1 σ1 s) (K : CompCtx C A cenv Oc X1 x acc It fp vs D0 sF P St) (hi : i < vs.length) {px : Pos} {E : Value → Shared → Prop} {G : Shared → Prop} {N : Shared → Prop}
    (g : ∀ v s2, vs[i]? = some v → CompSt C cenv X Oc X1 x ρ acc It D0 sF St (i + 1) D1 σ1 s2 → FrE C cenv X Oc X1 ⟨fput ρ x v, none⟩ D1 s2.heap → (∀ o, s.heap.get? acc = some o → s2.heap.get? acc = some o) →
      Mono D1 X1 s.heap D1 X1 s2.heap → G s2) :
    wpAny (model C.prog C.w) A (pyNext (.ref It)) (fun r s1 => match r with
      | none => N s1
      | some v => wpAny (model C.prog C.w) A (assign (.Name (nm x) px) cenv v) (fun _ s2 => G s2) E s1) E s := by
  refine K.W.item i s _ _ hi c.st fun p h1 t1 hp st1 k1 => ?_
  obtain ⟨v, hv, vr0⟩ := K.item i p hp
  have kI : ∀ b o, s.heap.get? b = some o → ¬ b = It → h1.get? b = some o := fun b o e hb => k1 b o (by simpa using hb) e
  have alI : ∃ o, h1.get? It = some o := K.alive _ _ st1
  obtain ⟨I1, x1⟩ := c.inv.change (W := (· = It)) (s' := { s with heap := h1, toks := t1 }) (fun b hb => hb ▸ K.iX) kI (fun b hb o e => hb ▸ alI)
  have m1 : Mono D1 X1 s.heap D1 X1 h1 := x1.mono c.inv.fat (fun b hb => .inl (hb ▸ K.iX)) fun _ h => .inl h
  obtain ⟨r1, g1, g2, g3⟩ := c.fre
  have F1 : FrE C cenv X Oc X1 r1 D1 h1 := g3.other (s' := { s with heap := h1, toks := t1 }) (W := (· = It)) c.inv (fun b hb => hb ▸ K.iX) kI (fun b hb o e => hb ▸ alI) (fun e => K.iO (e ▸ K.oL)) (fun n c e => (K.cl n c e).2) fun a ha e => K.iO (e ▸ ha)
  have vr : VR C D1 X1 h1 v p := (vr0.mono (c.mono K)).mono m1
  refine wpAny_assign_Name (store_set (s := { s with heap := h1, toks := t1 }) F1 I1 K.oX K.lt K.sto vr fun s2 ch F2 _ => ?_)
  obtain ⟨h0, t0, e0⟩ := c.same
  obtain ⟨h2, t2, e2⟩ := ch.same
  have m2 : Mono D1 X1 h1 D1 X1 s2.heap := ch.ext.mono I1.fat (fun b hb => .inl (K.oX b hb)) fun _ h => .inl h
  have hF : FrE C cenv X Oc X1 ⟨fput ρ x v, none⟩ D1 s2.heap := F2.congr (fun y => by
    simp only [Rho.set, fget_fput]
    split
    · rfl
    · rename_i hne; exact (g2 y hne).symm) (by simp [Rho.set, g1])
  refine g v s2 hv ⟨⟨h2, t2, by rw [e2, e0]⟩, (c.ext.trans x1 fun a ha => .inl (.inr (.inr ha))).trans ch.ext fun a ha => .inl (.inl ha), ch.inv, ⟨_, rfl, fun y hy => by simp only [fget_fput, if_neg hy], hF⟩, ?_⟩ hF (fun o e => ?_) ⟨?_, ?_, ?_, ?_⟩
  · refine K.W.frame (i + 1) h1 _ st1 fun b hb o e => ?_
    rcases K.fpk b hb with rfl | ⟨q1, o', q2⟩
    · exact ch.ext.keep _ _ e (fun r hr e => c.inv.dxX r hr (e ▸ K.iX)) K.iO
    · have := (c.mono K).ok b o' q1 q2
      have q3 := (c.mono K).keep b o' q1 q2
      exact m2.keep b o (m1.ok b _ this q3) e
  · exact ch.ext.keep _ _ (kI _ _ e K.aI) (fun r hr e => c.inv.dxX r hr (e ▸ K.aX)) K.aO
  · exact fun l r e => e
  · exact fun a o h e => m2.keep a o (m1.ok a o h e) (m1.keep a o h e)
  · exact fun a o h e => m2.ok a o (m1.ok a o h e) (m1.keep a o h e)
  · exact fun l r e h => m2.okf l r e (m1.okf l r e h)
theorem Inv.drop {Z : Addr → Prop} (I : Inv C D X1 σ s) (hz : ∀ a, Z a → X1 a) (hx : ∀ a, X a → X1 a ∧ ¬ Z a) (k : ∀ a o, s.heap.get? a = some o → ¬ Z a → s'.heap.get? a = some o) : Inv C D X σ s' ∧ Mono D X1 s.heap D X s'.heap := by
  have ok : ∀ a, OkA D X1 a → OkA D X a := fun a h => ⟨fun x => h.1 (hx a x).1, h.2⟩
  have m : Mono D X1 s.heap D X s'.heap := ⟨fun _ _ e => e, fun a o h e => k a o e fun z => h.1 (hz a z), fun a o h _ => ok a h, fun l r e h => ok _ h⟩
  exact ⟨⟨fun b o e => k _ _ (I.base b o e) fun z => not_none e (I.Xlo b (hz b z)), I.len, fun l r e => (I.form l r e).mono m e (fun o g => k _ _ g fun z => (I.form l r e).okA.1 (hz _ z)) (fun o g => k _ _ g fun z => I.dxX r (List.mem_of_getElem? e) (hz _ z)) fun _ h => h,
    fun r hr x => I.dxX r hr (hx _ x).1, I.dxlo, I.apart, fun a x => (I.Xlt a (hx a x).1).elim fun o e => ⟨o, k a o e (hx a x).2⟩, fun a x => I.Xlo a (hx a x).1⟩, m⟩
structure Aft (C : Cfg) (DB : List FR) (X W : Addr → Prop) (sB : Shared) (L : Addr) (D1 : List FR) (σ1 : Nums) (s2 : Shared) : Prop where
  same : ∃ h' t', s2 = { sB with heap := h', toks := t' }
  ext : Ext W DB sB.heap D1 s2.heap
  ns : ∀ a, W a → ∀ m, sB.heap.Ns a m → s2.heap.Ns a m
  inv : Inv C D1 (fun a => X a ∨ a = L) σ1 s2
  nsL : ∃ m, s2.heap.Ns L m
  frL : sB.heap.get? L = none
theorem comp_fin {sB : Shared} {σB : Nums} {h2 : Heap} {t2 : Nat} (c : CompSt C cenv X Oc X1 x ρ acc It D0 sF St i D1 σ1 s) (K : CompCtx C A cenv Oc X1 x acc It fp vs D0 sF P St) (IB : Inv C D0 X σB sB)
    (sm : ∃ h' t', sF = { sB with heap := h', toks := t' }) (kB : ∀ b o, sB.heap.get? b = some o → sF.heap.get? b = some o) (hX : ∀ a, X a → X1 a) (hw : ∀ b, W b → X b) (fr : ∀ a, (Oc a ∨ a = acc ∨ a = It) → sB.heap.get? a = none)
    (k : ∀ b o, s.heap.get? b = some o → b ≠ It → h2.get? b = some o) :
    Aft C D0 X W sB cenv.locals D1 σ1 { s with heap := h2, toks := t2 } ∧ Mono D1 X1 s.heap D1 (fun a => X a ∨ a = cenv.locals) h2 := by
  have hLI : cenv.locals ≠ It := fun e => K.iO (e ▸ K.oL)
  have hXZ : ∀ a, (X a ∨ a = cenv.locals) → X1 a ∧ ¬ a = It := fun a ha => by
    rcases ha with ha | rfl
    · obtain ⟨o, e⟩ := IB.Xlt a ha
      refine ⟨hX a ha, ?_⟩
      rintro rfl
      exact not_none e (fr _ (.inr (.inr rfl)))
    · exact ⟨K.oX _ K.oL, hLI⟩
  obtain ⟨I2, m2⟩ := c.inv.drop (s' := { s with heap := h2, toks := t2 }) (X := fun a => X a ∨ a = cenv.locals) (Z := fun a => a = It) (fun a h => h ▸ K.iX) hXZ fun a o e hz => k a o e hz
  obtain ⟨hF, tF, eF⟩ := sm
  obtain ⟨h0, t0, e0⟩ := c.same
  have kk : ∀ a o, sB.heap.get? a = some o → (∀ r ∈ D0, r.dx ≠ a) → h2.get? a = some o := fun a o e hd => by
    have hnf : ¬ (Oc a ∨ a = acc ∨ a = It) := fun h => not_none e (fr a h)
    exact k a o (c.ext.keep a o (kB a o e) hd hnf) (fun h => hnf (.inr (.inr h)))
  have alive : ∀ a o, sB.heap.get? a = some o → ∃ o', h2.get? a = some o' := fun a o e => by
    have hnf : ¬ (Oc a ∨ a = acc ∨ a = It) := fun h => not_none e (fr a h)
    obtain ⟨o', e'⟩ := c.ext.alive a o (kB a o e)
    exact ⟨o', k a o' e' (fun h => hnf (.inr (.inr h)))⟩
  obtain ⟨ex, g1, g2⟩ := c.ext.grow
  obtain ⟨r1, _, _, g3⟩ := c.fre
  obtain ⟨m, o, es, ep, e, rest⟩ := g3.ns
  refine ⟨⟨⟨h2, t2, by rw [e0, eF]⟩, ⟨alive, ⟨ex, g1, fun r hr => get_keep kB (g2 r hr)⟩, fun a o e hd _ => kk a o e hd⟩, fun a ha m hm => ?_, I2, ⟨m, o, es, ep, k _ _ e hLI, rest⟩, fr _ (.inl K.oL)⟩, m2⟩
  obtain ⟨o, es, ep, e, rest⟩ := hm
  exact ⟨o, es, ep, kk _ _ e (fun r hr e2 => IB.dxX r hr (e2 ▸ hw _ ha)), rest⟩
theorem Aft.fin {DB : List FR} {sB : Shared} {L : Addr} {h' : Heap} {σB : Nums} (a : Aft C DB X W sB L D1 σ1 s2) (IB : Inv C DB X σB sB) (hw : ∀ b, W b → X b) (hs : Heap.SameBut L s2.heap h') :
    Pst C DB X W sB D1 σ1 { s2 with heap := h' } ∧ Mono D1 (fun a => X a ∨ a = L) s2.heap D1 X h' := by
  have hne : ∀ b o, sB.heap.get? b = some o → b ≠ L := fun b o e h => not_none e (h ▸ a.frL)
  obtain ⟨I2, m2⟩ := a.inv.drop (s' := { s2 with heap := h' }) (X := X) (Z := fun b => b = L) (fun b h => .inr h) (fun b h => ⟨.inl h, by obtain ⟨o, e⟩ := IB.Xlt b h; exact hne b o e⟩) fun b o e hz => (hs.2 b hz).trans e
  obtain ⟨h2, t2, e2⟩ := a.same
  refine ⟨⟨⟨h', t2, by rw [e2]⟩, ⟨fun b o e => ?_, a.ext.grow, fun b o e hd hz => (hs.2 b (hne b o e)).trans (a.ext.keep b o e hd hz)⟩, fun b hb m hm => ?_, I2⟩, m2⟩
  · obtain ⟨o', e'⟩ := a.ext.alive b o e
    exact ⟨o', (hs.2 b (hne b o e)).trans e'⟩
  · have := a.ns b hb m hm
    obtain ⟨o, _, _, e, _⟩ := hm
    exact this.sameBut hs (hne b o e)
end
end
end Mine
namespace Mine
theorem items_small {v : V} {vs : List V} (e : items v = some vs) : vs.length ≤ 1000 :=
  items_c e (fun n _ hn h => h ▸ (ints_len n 0).symm ▸ hn) (fun _ h => small_le h) (fun _ h => small_le h) fun es _ h hv => hv ▸ (List.length_map ..).symm ▸ small_le h
theorem folded_plain {e : Expr} (h : notSet e = true) (env : Env) (x : Value) : foldedSetIterable e env x = pure x := by
  cases e <;> first | rfl | exact ff h
section
variable {C : Cfg} {gt : List (Str × List Nat)} {A : Around} {D D' D0 D1 : List FR} {X X' X0 X1 O : Addr → Prop} {σ σ' σ1 : Nums} {s s' s1 : Shared} {env : Env} {r : Rho} {v : V} {p : Value} {n k : Nat} {pos : Pos}
theorem Inv.low (I : Inv C D X σ s) {a : Addr} (h : s.heap.get? a = none) : C.H.get? a = none := by
  cases hq : C.H.get? a with
  | none => rfl
  | some o => exact absurd h (not_none (I.base a o hq))
theorem Inv.grow (I : Inv C D X σ s) (k : ∀ b o, s.heap.get? b = some o → s'.heap.get? b = some o) (hx : ∀ a, X' a → X a ∨ s.heap.get? a = none) (al : ∀ a, X' a → ∃ o, s'.heap.get? a = some o) : Inv C D X' σ s' := by
  have m : Mono D X s.heap D X' s'.heap := (Ext.of_keeps (W := Nope) k).mono I.fat (fun _ f => f.elim) hx
  exact ⟨fun b o e => k _ _ (I.base b o e), I.len, fun l r e => (I.form l r e).mono m e (k _) (k _) fun _ h => h, fun r hr x => (hx _ x).elim (I.dxX r hr) fun h => (I.dxlt r hr).elim fun o e => not_none e h, I.dxlo, I.apart, al, fun a x => (hx _ x).elim (I.Xlo a) I.low⟩
theorem comp_lay (K : CfgOK C gt) (R : Room A) {csc : Scope} {x : Nat} {cl : List (Str × Addr)} (ok : CompOk csc env.scope x) (c1 : ∀ n c, (n, c) ∈ cl → env.cells.lookup n = some c) (c2 : ∀ n, (n, NameKind.free) ∈ csc.names → ∃ c, (n, c) ∈ cl)
    (F : FrE C env X0 O X r D1 s1.heap) (I : Inv C D1 X σ1 s1) {vi : V} {vs : List V} {pv : Value} (vv : VR C D1 X s1.heap vi pv) (iv : items vi = some vs) {oA : Obj} (hof : oA.isFreed = false) {newAcc : Sem Value}
    (hN : ∀ (s : Shared) (Q E : Value → Shared → Prop), Q (.ref s.heap.objs.size) { s with heap := s.heap.push oA } → wpAny (model C.prog C.w) A newAcc Q E s)
    {E : Value → Shared → Prop} {G : Value → Value → Env → Shared → Prop}
    (q : ∀ (acc It : Addr) (L : Addr) (sF : Shared) (P : Nat → Value → Prop) (St : Nat → Heap → Prop) (fp : List Addr), CompCtx C A (compEnv csc env L cl) (ownC csc L) (fun a => X a ∨ ownC csc L a ∨ a = acc ∨ a = It) x acc It fp vs D1 sF P St →
      CompSt C (compEnv csc env L cl) X (ownC csc L) (fun a => X a ∨ ownC csc L a ∨ a = acc ∨ a = It) x r.ρ acc It D1 sF St 0 D1 σ1 sF → sF.heap.get? acc = some oA → (∃ h' t', sF = { s1 with heap := h', toks := t' }) →
      (∀ b o, s1.heap.get? b = some o → sF.heap.get? b = some o) → (∀ a, (ownC csc L a ∨ a = acc ∨ a = It) → s1.heap.get? a = none) → G (.ref It) (.ref acc) (compEnv csc env L cl) sF) :
    wpAny (model C.prog C.w) A (pyIter pv) (fun it s₂ => wpAny (model C.prog C.w) A newAcc (fun acc s₃ =>
      wpAny (model C.prog C.w) A (newFunctionEnv csc env.globals cl [] env.qual none .none (some env)) (fun cenv s₄ => G it acc { cenv with scope := relabel csc env } s₄) E s₃) E s₂) E s1 := by
  refine iter_sound R K.sys vv.1 iv fun o P St fp _ its st0 => ?_
  refine hN _ _ _ ?_
  refine compFrame fun h' ns kp ce => ?_
  have z1 : (s1.heap.push o).objs.size = s1.heap.objs.size + 1 := Heap.size_push ..
  have z2 : ((s1.heap.push o).push oA).objs.size = s1.heap.objs.size + 2 := by rw [Heap.size_push, z1]
  rw [z2] at ns ce
  have k1 : ∀ b o', (s1.heap.push o).get? b = some o' → h'.get? b = some o' := fun b o' e => kp b o' (Heap.get?_push_of_some _ e)
  have k0 : ∀ b o', s1.heap.get? b = some o' → h'.get? b = some o' := fun b o' e => k1 b o' (Heap.get?_push_of_some _ e)
  have hacc : h'.get? (s1.heap.objs.size + 1) = some oA := by
    refine kp _ _ ?_
    rw [← z1]; exact Heap.get?_push_size _ hof
  have own2 : ∀ a, ownC csc (s1.heap.objs.size + 2) a → s1.heap.objs.size + 2 ≤ a ∧ ∃ o, h'.get? a = some o := fun a ha => by
    rcases ha with rfl | ⟨m, hm⟩
    · obtain ⟨o, es, ep, e, _⟩ := ns; exact ⟨Nat.le_refl _, o, e⟩
    · obtain ⟨⟨o, e, _⟩, h2⟩ := ce.empty m a hm; exact ⟨by omega, o, e⟩
  have frs : ∀ a, (ownC csc (s1.heap.objs.size + 2) a ∨ a = s1.heap.objs.size + 1 ∨ a = s1.heap.objs.size) → s1.heap.get? a = none := fun a ha => by
    refine Heap.get?_none_of_le ?_
    rcases ha with h | rfl | rfl
    · exact Nat.le_trans (Nat.le_add_right _ _) (own2 a h).1
    · exact Nat.le_succ _
    · exact Nat.le_refl _
  have alI : ∃ o, h'.get? s1.heap.objs.size = some o := (its.alive 0 _ st0).ex.elim fun o e => ⟨o, k1 _ _ e⟩
  have hx3 : ∀ a, (X a ∨ ownC csc (s1.heap.objs.size + 2) a ∨ a = s1.heap.objs.size + 1 ∨ a = s1.heap.objs.size) → X a ∨ s1.heap.get? a = none := fun a ha => ha.elim .inl fun h => .inr (frs a h)
  have m01 : Mono D1 X s1.heap D1 (fun a => X a ∨ ownC csc (s1.heap.objs.size + 2) a ∨ a = s1.heap.objs.size + 1 ∨ a = s1.heap.objs.size) h' := (Ext.of_keeps (W := Nope) k0).mono I.fat (fun _ f => f.elim) hx3
  have F1 := comp_fre (X1 := fun a => X a ∨ ownC csc (s1.heap.objs.size + 2) a ∨ a = s1.heap.objs.size + 1 ∨ a = s1.heap.objs.size) F I ok c1 c2 k0 ns (Nat.le_add_right _ _) ce (fun a h => .inl h) (fun a h => .inr (.inl h)) hx3
  have IF : Inv C D1 (fun a => X a ∨ ownC csc (s1.heap.objs.size + 2) a ∨ a = s1.heap.objs.size + 1 ∨ a = s1.heap.objs.size) σ1 { s1 with heap := h' } := by
    refine I.grow k0 hx3 fun a ha => ?_
    rcases ha with h | h | rfl | rfl
    · obtain ⟨o, e⟩ := I.Xlt a h; exact ⟨o, k0 _ _ e⟩
    · exact (own2 a h).2
    · exact ⟨_, hacc⟩
    · exact alI
  have cellNe : ∀ n c, (compEnv csc env (s1.heap.objs.size + 2) cl).cells.lookup n = some c → ownC csc (s1.heap.objs.size + 2) c ∨ X c := fun n c e => by
    have e : (cellsFrom (s1.heap.objs.size + 2 + 1) csc.names [] ++ cl).lookup n = some c := e
    rw [lookup_app] at e
    cases hq : (cellsFrom (s1.heap.objs.size + 2 + 1) csc.names []).lookup n with
    | some d => rw [hq] at e; cases e; exact .inl (.inr ⟨n, mem_of_lookup hq⟩)
    | none => rw [hq] at e; exact .inr (F.celX n c (c1 _ _ (mem_of_lookup e))).1
  have hXlt : ∀ a, X a → a < s1.heap.objs.size := fun a h => let ⟨o, e⟩ := I.Xlt a h; Heap.lt_size e
  have hown : ∀ a, ownC csc (s1.heap.objs.size + 2) a → s1.heap.objs.size + 1 ≠ a ∧ s1.heap.objs.size ≠ a := fun a h => by have := (own2 a h).1; exact ⟨by omega, by omega⟩
  have w0 : St 0 h' := its.walks.frame 0 _ _ st0 fun b _ o e => k1 b o e
  show G (.ref s1.heap.objs.size) (.ref (s1.heap.push o).objs.size) (compEnv csc env ((s1.heap.push o).push oA).objs.size cl) { s1 with heap := h' }
  rw [z2, z1]
  refine q (s1.heap.objs.size + 1) s1.heap.objs.size (s1.heap.objs.size + 2) { s1 with heap := h' } P St fp
    { oL := .inl rfl, oX := fun a h => .inr (.inl h), aX := .inr (.inr (.inl rfl)), iX := .inr (.inr (.inr rfl)), aI := Nat.succ_ne_self _, aO := fun h => (hown _ h).1 rfl, iO := fun h => (hown _ h).2 rfl,
      cl := fun n c e => ?_, fpk := fun b hb => ?_, W := its.walks, alive := fun i h st => (its.alive i h st).ex, item := fun i p hp => ?_, sto := ?_, lt := ok.lt, inv0 := ⟨_, IF⟩ }
    ⟨⟨_, s1.toks, rfl⟩, .refl, IF, ⟨_, rfl, fun y hy => by rw [fget_fdel, if_neg hy], F1⟩, w0⟩ hacc ⟨_, s1.toks, rfl⟩ k0 frs
  · rcases cellNe n c e with h | h
    · exact ⟨fun e => (hown c h).1 e.symm, fun e => (hown c h).2 e.symm⟩
    · have := hXlt c h; exact ⟨fun e => absurd this (by rw [e]; exact Nat.not_lt.mpr (Nat.le_succ _)), fun e => absurd this (by rw [e]; exact Nat.lt_irrefl _)⟩
  · rcases its.fp b hb with h | h
    · exact .inl h
    · subst h
      rcases vv.1.top with ⟨o, e⟩ | ⟨l, rr, e, rfl⟩
      · exact .inr ⟨m01.ok b o (vv.2 b rfl) e, o, k0 _ _ e⟩
      · obtain ⟨o, e'⟩ := I.fat l rr e
        exact .inr ⟨m01.ok _ o (vv.2 _ rfl) e', o, k0 _ _ e'⟩
  · obtain ⟨v, hv, x⟩ := its.item i p hp
    exact ⟨v, hv, x.mono m01⟩
  · rcases ok.sto with h | h
    · refine .inl ⟨?_, .inl rfl⟩
      show (relS csc env.scope).names.lookup (nm x) = _
      rw [relS_lookup, h]; rfl
    · refine .inr ⟨?_, ?_⟩
      · show (relS csc env.scope).names.lookup (nm x) = _
        rw [relS_lookup, h]; rfl
      · obtain ⟨c, hc⟩ := cellsFrom_has csc.names (s1.heap.objs.size + 2 + 1) (nm x) (lookup_mem' h)
        obtain ⟨d, hd⟩ := lookup_of_mem hc
        refine ⟨d, ?_, .inr ⟨_, mem_of_lookup hd⟩⟩
        show (cellsFrom (s1.heap.objs.size + 2 + 1) csc.names [] ++ cl).lookup (nm x) = some d
        rw [lookup_app, hd]
end
end Mine
namespace Mine
section
variable {C : Cfg} {gt : List (Str × List Nat)} {A : Around} {D D' D0 D1 : List FR} {X X' X0 X1 O Oc : Addr → Prop} {σ σ' σ0 σ1 : Nums} {s s' s1 sF : Shared} {env cenv : Env} {r : Rho} {v : V} {p : Value} {n k : Nat} {pos : Pos} {acc It : Addr} {fp : List Addr}
  {P : Nat → Value → Prop} {St : Nat → Heap → Prop} {x : Nat} {ρ : List (Nat × V)} {vs : List V}
theorem drop_cons {α : Type} {l : List α} {i : Nat} {v : α} (e : l[i]? = some v) : l.drop i = v :: l.drop (i + 1) := by
  obtain ⟨h, e⟩ := List.getElem?_eq_some_iff.mp e
  rw [List.drop_eq_getElem_cons h, e]
theorem lt_turn {i n : Nat} (h : i < n) : n + 1 - (i + 1) < n + 1 - i := by omega
theorem len_turn {i n : Nat} (h : i ≤ n) (hn : ¬ i < n) : i = n := Nat.le_antisymm h (Nat.not_lt.mp hn)
theorem CompCtx.keepAcc (K : CompCtx C A cenv Oc X1 x acc It fp vs D0 sF P St) {D D' : List FR} {σ σ' : Nums} {s s' : Shared} (I : Inv C D X1 σ s) (Q : Pst C D X1 (· = cenv.locals) s D' σ' s') {o : Obj} (e : s.heap.get? acc = some o) : s'.heap.get? acc = some o :=
  Q.ext.keep _ _ e (fun r hr e2 => I.dxX r hr (e2 ▸ K.aX)) fun e2 => K.aO (e2 ▸ K.oL)
inductive LInv (n : Nat) (C : Cfg) (cenv : Env) (X Oc X1 : Addr → Prop) (x : Nat) (ρ : List (Nat × V)) (acc It : Addr) (D0 : List FR) (sF : Shared) (St : Nat → Heap → Prop) (elt : M) (cs : List M) (vs us : List V) (σ' : Nums) (k : Nat) (s' : Shared) : Prop
  | mk (i : Nat) (D1 : List FR) (σ1 : Nums) (us1 : List V) (items : Array Value) (nn : Nat) (rest : List V) (e : k = vs.length + 1 - i) (hi : i ≤ vs.length) (c : CompSt C cenv X Oc X1 x ρ acc It D0 sF St i D1 σ1 s') (h : s'.heap.get? acc = some (seqObj "list" items nn))
    (vr : VRs C D1 X1 s'.heap us1 items.toList) (hl : us1.length ≤ i) (ev : compL (run prg n).e elt x cs ρ (vs.drop i) σ1 = some (rest, σ')) (eu : us = us1 ++ rest)
theorem list_loop (hE : SE C gt n) (hT : ST C gt n) (R : RoomN A n) {elt : M} {cs : List M} {elt' iter : Expr} {ifs : List Expr} {csc : Scope} {px cpos : Pos} {us : List V} (h1 : chkE gt k cenv.scope elt elt' = true) (h2 : chkAll (chkE gt k cenv.scope) cs ifs = true)
    (K : CompCtx C A cenv Oc X1 x acc It fp vs D0 sF P St) (c0 : CompSt C cenv X Oc X1 x ρ acc It D0 sF St 0 D0 σ0 sF) (ha : sF.heap.get? acc = some (seqObj "list" #[] 0)) (hv : vs.length ≤ 1000)
    (ev : compL (run prg n).e elt x cs ρ vs σ0 = some (us, σ')) {Rr : Result → Shared → Prop}
    (fin : ∀ D1 s' h1 t1 items nn, CompSt C cenv X Oc X1 x ρ acc It D0 sF St vs.length D1 σ' s' → s'.heap.get? acc = some (seqObj "list" items nn) → VRs C D1 X1 s'.heap us items.toList →
      (∀ b o, s'.heap.get? b = some o → b ≠ It → h1.get? b = some o) → Rr (.ok .next) { s' with heap := h1, toks := t1 }) :
    codeAny (model C.prog C.w) A (.compLoop (.ListComp elt' [⟨.Name (nm x) px, iter, ifs, 0⟩] csc cpos) 0 (.ref It) (.ref acc) cenv) Rr sF := by
  refine codeAny_compLoop_tests (LInv n C cenv X Oc X1 x ρ acc It D0 sF St elt cs vs us σ') (fun m s' hI => ?_) (vs.length + 1)
    ⟨0, D0, σ0, [], #[], 0, us, rfl, Nat.zero_le _, c0, ha, .nil, Nat.le_refl _, ev, rfl⟩
  generalize hJ : LInv n C cenv X Oc X1 x ρ acc It D0 sF St elt cs vs us σ' = J
  obtain ⟨i, D1, σ1, us1, items, nn, rest, hm, hi, c, hacc, vr, hlen, ev1, hus⟩ := hI
  subst hm
  have hw : ∀ b, b = cenv.locals → X1 b := fun b hb => hb ▸ K.oX _ K.oL
  by_cases hlt : i < vs.length
  · refine comp_turn c K hlt fun v s2 hv2 c2 F2 kacc m2 => ?_
    have vr2 := vr.mono m2
    have hacc2 := kacc _ hacc
    refine oB_c (drop_cons hv2 ▸ ev1) (fun σ2 et ev1 => oP_c ev1 fun u σ3 eu ev1 => oP_c ev1 fun us2 σ4 er ev1 => sE ev1 fun h5 h6 => ?_) fun σ2 et ev1 => ?_
    · refine (tests_sound hT h2 F2 c2.inv R et).useE fun D3 s3 P3 => ?_
      have c3 := c2.step K P3
      refine (hE h1 (F2.step c2.inv P3) c3.inv R eu).useE fun pu D4 s4 P4 V4 => ?_
      refine app_sound (c3.step K P4).inv K.aX (K.keepAcc c3.inv P4 (K.keepAcc c2.inv P3 hacc2)) ((vr2.mono (P3.mono c2.inv hw)).mono (P4.mono c3.inv hw)) V4 (Nat.le_trans hlen (Nat.le_trans hi (Nat.le_trans hv (by decide)))) fun h' n' kk al I5 x5 vr5 => ?_
      subst hJ
      exact ⟨_, lt_turn hlt, i + 1, D4, σ3, us1 ++ [u], _, n', us2, rfl, hlt, (c3.step K P4).accum K kk ⟨_, al⟩, al, vr5, List.length_append ▸ Nat.succ_le_succ hlen, h6 ▸ er, by rw [hus, ← h5, List.append_assoc]; rfl⟩
    · refine (tests_sound hT h2 F2 c2.inv R et).useE fun D3 s3 P3 => ?_
      subst hJ
      exact ⟨_, lt_turn hlt, i + 1, D3, σ2, us1, items, nn, rest, rfl, hlt, c2.step K P3, K.keepAcc c2.inv P3 hacc2, vr2.mono (P3.mono c2.inv hw), Nat.le_succ_of_le hlen, ev1, hus⟩
  · have hi' := len_turn hi hlt
    subst hi'
    refine sE (List.drop_length ▸ ev1 : compL (run prg n).e elt x cs ρ [] σ1 = _) fun h5 h6 => ?_
    rw [← h5, List.append_nil] at hus
    subst h6 hus
    exact K.W.done s' _ _ c.st fun h1 t1 k1 => fin D1 s' h1 t1 items nn c hacc vr fun b o e hb => k1 b o (fun h => hb (List.mem_singleton.mp h)) e
theorem comp_run (Kg : CfgOK C gt) (hE : SE C gt n) (hT : ST C gt n) (R : RoomN A n) {elt it : M} {cs : List M} {elt' iter : Expr} {ifs : List Expr} {csc : Scope} {px cpos ppos : Pos} {vi : V} {us : List V} (ok : compOk csc env.scope x = true) (hset : notSet iter = true)
    (h0 : chkE gt k env.scope it iter = true) (h1 : chkE gt k (relS csc env.scope) elt elt' = true) (h2 : chkAll (chkE gt k (relS csc env.scope)) cs ifs = true)
    (F : FrE C env X0 O X r D s.heap) (I : Inv C D X σ s) (e0 : (run prg n).e it r σ = some (vi, σ1)) (e1 : items vi = some vs) (e2 : compL (run prg n).e elt x cs r.ρ vs σ1 = some (us, σ')) {use : Option (Value → Sem Unit)} {Q E : Value → Shared → Prop}
    (q : ∀ D1 s1, Pst C D X (· = env.locals) s D1 σ1 s1 → ∀ a L D2 s2, Aft C D1 X (· = env.locals) s1 L D2 σ' s2 → s1.heap.get? a = none → L ≠ a → (∀ r ∈ D2, r.dx ≠ a) → VT C D2 (fun b => X b ∨ b = L) s2.heap (.list us) (.ref a) → compPost (model C.prog C.w) A E use Q (.ref a) L (.ok .next) s2) :
    wpAny (model C.prog C.w) A (comprehension (.ListComp elt' [⟨.Name (nm x) px, iter, ifs, 0⟩] csc cpos) csc env ppos (newList []) false (eval iter env) use) Q E s := by
  have ok := compOk_of ok
  have hfree : ∀ n, (n, NameKind.free) ∈ csc.names → ∃ c, env.cells.lookup n = some c := fun n hn => F.hasC n ((ok.fre n hn).1)
  obtain ⟨cl, q1, q2, q3⟩ := closure_ok (cs := csc) hfree
  refine wpAny_comprehension_free (cl := cl) rfl (folded_plain hset env) q1 ok.kind (fun e he hk => ?_) ?_
  · obtain ⟨n, kk⟩ := e; simp only at hk; subst hk; exact (ok.loc n he).2
  · refine (hE h0 F I R e0).useE fun pv D1 s1 P1 V1 => ?_
    refine comp_lay (oA := seqObj "list" #[] 0) (hof := rfl) (newAcc := newList []) (G := fun it acc cenv s4 => codeAny (model C.prog C.w) A (.compStart _ 0 it acc cenv) (compPost (model C.prog C.w) A E use Q acc cenv.locals) s4)
      Kg R.room ok q2 q3 (F.step I P1) P1.inv V1 e1 (fun s Q E h => wpAny_newList h (Nat.zero_le _)) fun acc It L sF Pp St fp K c0 ha sm kB fr => ?_
    have loop : codeAny (model C.prog C.w) A (.compLoop (.ListComp elt' [⟨.Name (nm x) px, iter, ifs, 0⟩] csc cpos) 0 (.ref It) (.ref acc) (compEnv csc env L cl)) (compPost (model C.prog C.w) A E use Q (.ref acc) L) sF := by
      refine list_loop hE hT R (cenv := compEnv csc env L cl) (k := k) (cs := cs) (elt := elt) h1 h2 K c0 ha (items_small e1) e2 fun D2 s2 h3 t3 items nn c hacc vr kk => ?_
      obtain ⟨af, m⟩ := comp_fin (W := (· = env.locals)) (h2 := h3) (t2 := t3) c K P1.inv sm kB (fun a h => .inl h) (fun b hb => hb ▸ F.locX) (fun a h => fr a h) kk
      refine q D1 s1 P1 acc L D2 _ af (fr _ (.inr (.inl rfl))) (fun e => K.aO (e ▸ K.oL)) (fun r hr e => c.inv.dxX r hr (e ▸ K.aX)) ?_
      exact .list ⟨_, kk _ _ hacc K.aI, rfl, _, rfl⟩ (vr.mono m)
    refine codeAny_compStart_list loop ?_
    exact K.W.self 0 sF _ _ c0.st loop
end
end Mine
namespace Mine
theorem dput_len (k v : V) : ∀ es : List (V × V), (dput es k v).length ≤ es.length + 1
  | [] => by simp [dput]
  | e :: r => by
    rw [dput]
    split
    · simp
    · simp; exact dput_len k v r
theorem vt_nilDict {C : Cfg} {D : List FR} {X : Addr → Prop} {h : Heap} {a : Addr} {n : Nat} (e : h.get? a = some { cls := .type "dict", data := .dict #[] n }) (lo : C.H.get? a = none) : VT C D X h (.dict []) (.ref a) :=
  .dictS (kvs := []) ⟨_, #[], n, e, ⟨rfl, rfl, rfl⟩, rfl, fun x hx => absurd hx (by simp), .nil, List.nodup_nil⟩ lo .nil
section
variable {C : Cfg} {gt : List (Str × List Nat)} {A : Around} {D D' D0 D1 : List FR} {X X' X0 X1 O Oc : Addr → Prop} {σ σ' σ0 σ1 : Nums} {s s' s1 sF : Shared} {env cenv : Env} {r : Rho} {v : V} {p : Value} {n k : Nat} {pos : Pos} {acc It : Addr} {fp : List Addr}
  {P : Nat → Value → Prop} {St : Nat → Heap → Prop} {x : Nat} {ρ : List (Nat × V)} {vs : List V}
theorem CompCtx.keepDict (K : CompCtx C A cenv Oc X1 x acc It fp vs D0 sF P St) {D D' : List FR} {σ σ' : Nums} {s s' : Shared} (I : Inv C D X1 σ s) (Q : Pst C D X1 (· = cenv.locals) s D' σ' s') {es : List (V × V)} (e : VT C D X1 s.heap (.dict es) (.ref acc)) :
    VT C D' X1 s'.heap (.dict es) (.ref acc) :=
  e.mono (Q.mono I fun b hb => hb ▸ K.oX _ K.oL) fun b o eb g => by cases eb; exact K.keepAcc I Q g
inductive DInv (n : Nat) (C : Cfg) (cenv : Env) (X Oc X1 : Addr → Prop) (x : Nat) (ρ : List (Nat × V)) (acc It : Addr) (D0 : List FR) (sF : Shared) (St : Nat → Heap → Prop) (kk vv : M) (vs : List V) (es : List (V × V)) (σ' : Nums) (k : Nat) (s' : Shared) : Prop
  | mk (i : Nat) (D1 : List FR) (σ1 : Nums) (es1 : List (V × V)) (e : k = vs.length + 1 - i) (hi : i ≤ vs.length) (c : CompSt C cenv X Oc X1 x ρ acc It D0 sF St i D1 σ1 s') (vr : VT C D1 X1 s'.heap (.dict es1) (.ref acc))
    (hl : es1.length ≤ i) (ev : dcompL (run prg n).e kk vv x ρ (vs.drop i) es1 σ1 = some (es, σ'))
theorem dict_loop (hE : SE C gt n) (R : RoomN A n) {kk vv : M} {k' v' iter : Expr} {csc : Scope} {px cpos : Pos} {es : List (V × V)} (h1 : chkE gt k cenv.scope kk k' = true) (h2 : chkE gt k cenv.scope vv v' = true)
    (K : CompCtx C A cenv Oc X1 x acc It fp vs D0 sF P St) (c0 : CompSt C cenv X Oc X1 x ρ acc It D0 sF St 0 D0 σ0 sF) (ha : VT C D0 X1 sF.heap (.dict []) (.ref acc)) (hv : vs.length ≤ 1000)
    (ev : dcompL (run prg n).e kk vv x ρ vs [] σ0 = some (es, σ')) {Rr : Result → Shared → Prop}
    (fin : ∀ D1 s' h1 t1, CompSt C cenv X Oc X1 x ρ acc It D0 sF St vs.length D1 σ' s' → VT C D1 X1 s'.heap (.dict es) (.ref acc) →
      (∀ b o, s'.heap.get? b = some o → b ≠ It → h1.get? b = some o) → Rr (.ok .next) { s' with heap := h1, toks := t1 }) :
    codeAny (model C.prog C.w) A (.compLoop (.DictComp k' v' [⟨.Name (nm x) px, iter, [], 0⟩] csc cpos) 0 (.ref It) (.ref acc) cenv) Rr sF := by
  refine codeAny_compLoop_testsD (DInv n C cenv X Oc X1 x ρ acc It D0 sF St kk vv vs es σ') (fun m s' hI => ?_) (vs.length + 1)
    ⟨0, D0, σ0, [], rfl, Nat.zero_le _, c0, ha, Nat.le_refl _, ev⟩
  generalize hJ : DInv n C cenv X Oc X1 x ρ acc It D0 sF St kk vv vs es σ' = J
  obtain ⟨i, D1, σ1, es1, hm, hi, c, vr, hlen, ev1⟩ := hI
  subst hm
  have hw : ∀ b, b = cenv.locals → X1 b := fun b hb => hb ▸ K.oX _ K.oL
  by_cases hlt : i < vs.length
  · refine comp_turn c K hlt fun v s2 hv2 c2 F2 kacc m2 => ?_
    rw [List.forIn_nil]
    refine wpAny_pure ?_
    refine oP_c (drop_cons hv2 ▸ ev1) fun kv σ2 ek ev1 => oP_c ev1 fun vv2 σ3 ee ev1 => oI_c ev1 fun sk ev1 => ?_
    refine (hE h1 F2 c2.inv R ek).useE fun pk D3 s3 P3 V3 => ?_
    have c3 := c2.step K P3
    refine (hE h2 (F2.step c2.inv P3) c3.inv R ee).useE fun pv D4 s4 P4 V4 => ?_
    have c4 := c3.step K P4
    refine put_sound (sets := false) c4.inv R.room K.aX (K.keepDict c3.inv P4 (K.keepDict c2.inv P3 (vr.mono m2 fun b o eb g => by cases eb; exact kacc _ g))) (V3.step P4 c3.inv hw) V4 sk (Nat.ble_eq.mpr (Nat.le_trans hlen (Nat.le_trans hi hv))) fun h' t kk al I5 x5 vr5 => ?_
    subst hJ
    exact ⟨_, lt_turn hlt, i + 1, D4, σ3, _, rfl, hlt, c4.accum K kk al, vr5, Nat.le_trans (dput_len kv vv2 es1) (Nat.succ_le_succ hlen), ev1⟩
  · have hi' := len_turn hi hlt
    subst hi'
    refine sE (List.drop_length ▸ ev1 : dcompL (run prg n).e kk vv x ρ [] es1 σ1 = _) fun h5 h6 => ?_
    subst h5 h6
    exact K.W.done s' _ _ c.st fun h1 t1 k1 => fin D1 s' h1 t1 c vr fun b o e hb => k1 b o (fun h => hb (List.mem_singleton.mp h)) e
theorem dcomp_run (Kg : CfgOK C gt) (hE : SE C gt n) (R : RoomN A n) {kk vv it : M} {k' v' iter : Expr} {csc : Scope} {px cpos ppos : Pos} {vi : V} {es : List (V × V)} (ok : compOk csc env.scope x = true) (hset : notSet iter = true)
    (h0 : chkE gt k env.scope it iter = true) (h1 : chkE gt k (relS csc env.scope) kk k' = true) (h2 : chkE gt k (relS csc env.scope) vv v' = true)
    (F : FrE C env X0 O X r D s.heap) (I : Inv C D X σ s) (e0 : (run prg n).e it r σ = some (vi, σ1)) (e1 : items vi = some vs) (e2 : dcompL (run prg n).e kk vv x r.ρ vs [] σ1 = some (es, σ')) {use : Option (Value → Sem Unit)} {Q E : Value → Shared → Prop}
    (q : ∀ D1 s1, Pst C D X (· = env.locals) s D1 σ1 s1 → ∀ a L D2 s2, Aft C D1 X (· = env.locals) s1 L D2 σ' s2 → s1.heap.get? a = none → L ≠ a → (∀ r ∈ D2, r.dx ≠ a) → VT C D2 (fun b => X b ∨ b = L) s2.heap (.dict es) (.ref a) → compPost (model C.prog C.w) A E use Q (.ref a) L (.ok .next) s2) :
    wpAny (model C.prog C.w) A (comprehension (.DictComp k' v' [⟨.Name (nm x) px, iter, [], 0⟩] csc cpos) csc env ppos newDict false (eval iter env) use) Q E s := by
  have ok := compOk_of ok
  have hfree : ∀ n, (n, NameKind.free) ∈ csc.names → ∃ c, env.cells.lookup n = some c := fun n hn => F.hasC n ((ok.fre n hn).1)
  obtain ⟨cl, q1, q2, q3⟩ := closure_ok (cs := csc) hfree
  refine wpAny_comprehension_free (cl := cl) rfl (folded_plain hset env) q1 ok.kind (fun e he hk => ?_) ?_
  · obtain ⟨n, kk⟩ := e; simp only at hk; subst hk; exact (ok.loc n he).2
  · refine (hE h0 F I R e0).useE fun pv D1 s1 P1 V1 => ?_
    refine comp_lay (oA := emptyDict) (hof := rfl) (newAcc := newDict) (G := fun it acc cenv s4 => codeAny (model C.prog C.w) A (.compStart _ 0 it acc cenv) (compPost (model C.prog C.w) A E use Q acc cenv.locals) s4)
      Kg R.room ok q2 q3 (F.step I P1) P1.inv V1 e1 (fun s Q E h => wpAny_newObj_type h (Nat.zero_le _)) fun acc It L sF Pp St fp K c0 ha sm kB fr => ?_
    have loop : codeAny (model C.prog C.w) A (.compLoop (.DictComp k' v' [⟨.Name (nm x) px, iter, [], 0⟩] csc cpos) 0 (.ref It) (.ref acc) (compEnv csc env L cl)) (compPost (model C.prog C.w) A E use Q (.ref acc) L) sF := by
      refine dict_loop hE R (cenv := compEnv csc env L cl) (k := k) (kk := kk) (vv := vv) h1 h2 K c0 (vt_nilDict ha (P1.inv.low (fr _ (.inr (.inl rfl))))) (items_small e1) e2 fun D2 s2 h3 t3 c vr kk => ?_
      obtain ⟨af, m⟩ := comp_fin (W := (· = env.locals)) (h2 := h3) (t2 := t3) c K P1.inv sm kB (fun a h => .inl h) (fun b hb => hb ▸ F.locX) (fun a h => fr a h) kk
      refine q D1 s1 P1 acc L D2 _ af (fr _ (.inr (.inl rfl))) (fun e => K.aO (e ▸ K.oL)) (fun r hr e => c.inv.dxX r hr (e ▸ K.aX)) ?_
      exact vr.mono m fun b o eb g => by cases eb; exact kk _ _ g K.aI
    refine codeAny_compStart_dict loop ?_
    exact K.W.self 0 sF _ _ c0.st loop
end
end Mine
namespace Mine
theorem lookup_zip {α : Type} (ns : List Str) : ∀ {vs : List α} {i : Nat} {n : Str} {v : α}, ns.Nodup → ns[i]? = some n → vs[i]? = some v → (ns.zip vs).lookup n = some v := by
  induction ns with
  | nil => intro _ _ _ _ _ e _; exact nn e
  | cons a r ih =>
    intro vs i n v nd e e'
    cases vs with
    | nil => exact nn e'
    | cons b t =>
      cases i with
      | zero =>
        refine s1 e fun e => s1 e' fun e' => ?_
        rw [← e, ← e']; exact List.lookup_cons_self
      | succ i =>
        have nd := List.nodup_cons.mp nd
        have : (n == a) = false := beq_eq_false_iff_ne.mpr fun h => nd.1 (h ▸ List.mem_of_getElem? (l := r) e)
        exact (show (match n == a with | true => some b | false => (r.zip t).lookup n) = some v by rw [this]; exact ih nd.2 e e')
theorem lookup_some {α : Type} {ns : List Str} {vs : List α} (nd : ns.Nodup) (hl : ns.length = vs.length) {n : Str} (hn : n ∈ ns) : ((ns.zip vs).lookup n).isNone = false :=
  (List.mem_iff_getElem?.mp hn).elim fun i hi => by
    have hlt := (List.getElem?_eq_some_iff.mp hi).1
    rw [lookup_zip ns nd hi (List.getElem?_eq_getElem (l := vs) (hl ▸ hlt))]
    rfl
theorem zip_filterMap {α : Type} (L : List (Str × α)) (ns : List Str) : ∀ {vs : List α}, ns.length = vs.length → (∀ (i : Nat) (n : Str) (v : α), ns[i]? = some n → vs[i]? = some v → L.lookup n = some v) →
    ns.filterMap (fun n => (L.lookup n).map fun v => (n, v)) = ns.zip vs := by
  induction ns with
  | nil => intro vs _ _; rfl
  | cons n ns ih =>
    intro vs e h
    cases vs with
    | nil => cases e
    | cons v vs =>
      rw [List.filterMap_cons, h 0 n v rfl rfl]
      exact congrArg ((n, v) :: ·) (ih (Nat.succ.inj e) fun i => h (i + 1))
theorem forIn_same {α β : Type} (f : α → β → Sem (ForInStep β)) (b : β) (l : List α) (h : ∀ a ∈ l, f a b = pure (.yield b)) : forIn l b f = pure b := by
  induction l with
  | nil => rw [List.forIn_nil]
  | cons a r ih => rw [List.forIn_cons, h a List.mem_cons_self, pure_bind]; exact ih fun x hx => h x (List.mem_cons_of_mem _ hx)
theorem filter_none {α : Type} {l : List α} {p : α → Bool} (h : ∀ x ∈ l, p x = false) : ¬ ((!(l.filter p).isEmpty) = true) := by
  rw [List.filter_eq_nil_iff.mpr fun x hx => ne_true_of_eq_false (h x hx)]
  exact Bool.false_ne_true
theorem wif {M : Model} {A : Around} {α : Type} {c : Prop} [Decidable c] {t e : Sem α} {Q : α → Shared → Prop} {E : Value → Shared → Prop} {s : Shared} (hc : ¬ c) (h : wpAny M A e Q E s) : wpAny M A (if c then t else e) Q E s := by
  rw [if_neg hc]; exact h
theorem binds_all {s : Shared} {fd : FuncData} {vals : List Value} {ds : Option (Array Value)} (h1 : fd.params.posonlyargs = []) (h2 : fd.params.vararg = none) (h3 : fd.params.kwonlyargs = []) (h4 : fd.params.kwarg = none)
    (hd : ∀ (M : Model) (A : Around) (E : Value → Shared → Prop) (Q : Option (Array Value) → Shared → Prop), Q ds s → wpAny M A (seqItems? fd.defaults) Q E s)
    (hl : (fd.params.args.map (·.arg)).length = vals.length) (nd : (fd.params.args.map (·.arg)).Nodup) : BindsTo s fd ⟨vals, []⟩ ((fd.params.args.map (·.arg)).zip vals) := by
  intro M A E Q hq
  cases fd with
  | mk name qual params body scope globals clo dflt kwd doc pym ann code clot blt =>
  cases params with
  | mk po args va ko kd kw df =>
  cases h1; cases h2; cases h3; cases h4
  refine wpAny_bind (wpAny_pure (wpAny_bind (hd M A _ _ ?_)))
  refine wif (fun h => Nat.lt_irrefl _ (Nat.lt_of_lt_of_le (of_decide_eq_true (bL h)) (Nat.le_of_eq hl.symm))) (wif ?_ ?_)
  · exact filter_none fun n hn => lookup_some nd hl (List.mem_of_mem_take hn)
  · refine wpAny_bind (wpAny_of_eq (forIn_same _ _ _ fun a ha => ?_) (wpAny_bind (wpAny_pure ?_)))
    · exact if_neg (ne_true_of_eq_false (lookup_some nd hl (List.mem_of_mem_drop (List.of_mem_zip (a := a.1) (b := a.2) ha).1)))
    · refine wif Bool.false_ne_true (wpAny_pure ?_)
      exact (congrArg (fun l => Q l s) ((congrArg (List.filterMap _) (List.append_nil (args.map (·.arg)))).trans (zip_filterMap ((args.map (·.arg)).zip vals) _ hl fun i n v a b => lookup_zip _ nd a b))).mpr hq
theorem call_cells {prog : Program} {w : World} {A : Around} {s : Shared} {R : Result → Shared → Prop} {a : Addr} {o : Obj} {fd : FuncData} {body : List Stmt} {vals : List Value} {binds : List (Str × Value)}
    (hroom : A.depth < recursionLimit) (ho : s.heap.get? a = some o) (hdata : o.data = .func fd) (hlim : s.heap.NoLimit) (hcd : s.heap.CodeRec fd.code fd.qualname) (hbody : fd.body = .stmts body) (hbind : BindsTo s fd ⟨vals, []⟩ binds) (hclo : fd.closure = [])
    (hkind : ∀ x ∈ binds, fd.scope.names.lookup x.1 = some .local ∨ (fd.scope.names.lookup x.1 = some .cell ∧ ((cellsFrom (s.heap.objs.size + 1) fd.scope.names []).lookup x.1).isSome = true))
    (h : ∀ s₁, InCallC s (callEnvC fd s.heap.objs.size a).locals (bindL (callEnvC fd s.heap.objs.size a).kindOf binds fun _ => none) (callEnvC fd s.heap.objs.size a).cells (bindC (callEnvC fd s.heap.objs.size a).kindOf binds fun _ => none) s₁ →
      wpAny (model prog w) (A.deeper (callEnvC fd s.heap.objs.size a)) (execs body (callEnvC fd s.heap.objs.size a)) (fun f s' => R (.ok (.ret (match f with | .ret v => v | _ => .none))) s')
        (fun e s' => wpAny (model prog w) (A.deeper (callEnvC fd s.heap.objs.size a)) (leaving (callEnvC fd s.heap.objs.size a) e) (fun _ s'' => R (.error e) s'') (fun e' s'' => R (.error e') s'') s') s₁)
    (hco : fd.scope.isCoroutine = false) (hgen : fd.scope.isGenerator = false) (hk : fd.scope.kind = .function) : codeAny (model prog w) A (.call (.ref a) ⟨vals, []⟩) R s := by
  refine codeAny_call_function hroom ho hdata hco hgen hbody hcd (hbind _ _ _ _ ?_)
  rw [hclo]
  exact wpAny_newFunctionEnv_cells hk hkind fun env he s' x => by
    subst he
    exact ⟨hlim.keeps x.toInCall.keep, codeAny_func (h s' x)⟩
end Mine
namespace Mine
structure FrS (env : Env) (X0 O X : Addr → Prop) : Prop where
  oX : ∀ a, O a → X a
  oL : O env.locals
  oC : ∀ n c, env.cells.lookup n = some c → O c
  x0 : ∀ a, X0 a → X a
structure StP (C : Cfg) (X O : Addr → Prop) (D : List FR) (s : Shared) (X' O' : Addr → Prop) (D' : List FR) (σ' : Nums) (s' : Shared) : Prop where
  same : ∃ h' t', s' = { s with heap := h', toks := t' }
  ext : Ext O D s.heap D' s'.heap
  og : ∀ a, O' a → O a ∨ s.heap.get? a = none
  xg : ∀ a, X' a → X a ∨ s.heap.get? a = none
  xx : ∀ a, X a → X' a
  oo : ∀ a, O a → O' a
  inv : Inv C D' X' σ' s'
noncomputable def FlR (C : Cfg) (env : Env) (X0 X' O' : Addr → Prop) (D' : List FR) (s' : Shared) (fl : Fl) (f : Flow) : Prop := match fl, f with
  | .next r', .next => FrE C env X0 O' X' r' D' s'.heap ∧ FrS env X0 O' X'
  | .cont r', .cont => FrE C env X0 O' X' r' D' s'.heap ∧ FrS env X0 O' X'
  | .ret v, .ret p => VR C D' X0 s'.heap v p
  | _, _ => False
section
variable {C : Cfg} {env : Env} {X0 X O : Addr → Prop} {D : List FR} {s : Shared} {f : Flow} {r : Rho} {v : V} {G : Prop}
theorem FlR.next_c (h : FlR C env X0 X O D s (.next r) f) (k : f = .next → FrE C env X0 O X r D s.heap → FrS env X0 O X → G) : G := by
  cases f with
  | next => exact k rfl h.1 h.2
  | _ => exact h.elim
theorem FlR.cont_c (h : FlR C env X0 X O D s (.cont r) f) (k : f = .cont → FrE C env X0 O X r D s.heap → FrS env X0 O X → G) : G := by
  cases f with
  | cont => exact k rfl h.1 h.2
  | _ => exact h.elim
theorem FlR.ret_c (h : FlR C env X0 X O D s (.ret v) f) (k : ∀ p, f = .ret p → VR C D X0 s.heap v p → G) : G := by
  cases f with
  | ret p => exact k p rfl h
  | _ => exact h.elim
end
inductive SsP (C : Cfg) (env : Env) (X0 X O : Addr → Prop) (D : List FR) (s : Shared) (fl : Fl) (σ' : Nums) (f : Flow) (s' : Shared) : Prop
  | mk (X' O' : Addr → Prop) (D' : List FR) (P : StP C X O D s X' O' D' σ' s') (R : FlR C env X0 X' O' D' s' fl f)
theorem SsP.c {C : Cfg} {env : Env} {X0 X O : Addr → Prop} {D : List FR} {s s' : Shared} {fl : Fl} {σ' : Nums} {f : Flow} {G : Prop} (x : SsP C env X0 X O D s fl σ' f s') (k : ∀ X' O' D', StP C X O D s X' O' D' σ' s' → FlR C env X0 X' O' D' s' fl f → G) : G := by
  cases x with | mk X' O' D' P R => exact k X' O' D' P R
noncomputable def SS (C : Cfg) (gt : List (Str × List Nat)) (n : Nat) : Prop :=
  ∀ {k : Nat} {b : List S} {ss : List Stmt} {env : Env} {A : Around} {D : List FR} {X0 O X : Addr → Prop} {σ σ' : Nums} {s : Shared} {r : Rho} {fl : Fl},
    chkAll (chkS gt k env.scope) b ss = true → FrE C env X0 O X r D s.heap → FrS env X0 O X → Inv C D X σ s → RoomN A n → (run prg n).s b r σ = some (fl, σ') →
    wpAny (model C.prog C.w) A (execs ss env) (SsP C env X0 X O D s fl σ') (fun _ _ => False) s
section
variable {kindOf : Str → Option NameKind}
theorem bindL_skip (ns : List Str) : ∀ {ps : List Value} {m : Str → Option Value} {n : Str}, n ∉ ns → bindL kindOf (ns.zip ps) m n = m n := by
  induction ns with
  | nil => exact fun _ => rfl
  | cons a r ih =>
    intro ps m n h
    cases ps with
    | nil => rfl
    | cons p ps =>
      refine (ih fun hm => h (List.mem_cons_of_mem _ hm)).trans ?_
      by_cases hk : kindOf a = some .local
      · rw [if_pos hk]; exact if_neg fun e : n = a => h (e ▸ List.mem_cons_self)
      · rw [if_neg hk]
theorem bindC_skip (ns : List Str) : ∀ {ps : List Value} {m : Str → Option Value} {n : Str}, n ∉ ns → bindC kindOf (ns.zip ps) m n = m n := by
  induction ns with
  | nil => exact fun _ => rfl
  | cons a r ih =>
    intro ps m n h
    cases ps with
    | nil => rfl
    | cons p ps =>
      refine (ih fun hm => h (List.mem_cons_of_mem _ hm)).trans ?_
      by_cases hk : kindOf a = some .local
      · rw [if_pos hk]
      · rw [if_neg hk]; exact if_neg fun e : n = a => h (e ▸ List.mem_cons_self)
theorem bindL_get (ns : List Str) : ∀ {ps : List Value} {m : Str → Option Value} {i : Nat} {n : Str} {p : Value}, ns.Nodup → ns[i]? = some n → ps[i]? = some p → kindOf n = some .local → bindL kindOf (ns.zip ps) m n = some p := by
  induction ns with
  | nil => exact fun _ e => nn e
  | cons a r ih =>
    intro ps m i n p nd e e' k
    cases ps with
    | nil => exact nn e'
    | cons q ps =>
      cases i with
      | zero =>
        have e := Option.some.inj e
        refine (bindL_skip r (e ▸ (List.nodup_cons.mp nd).1)).trans ?_
        rw [e, if_pos k]; exact (if_pos rfl).trans e'
      | succ i => exact ih (List.nodup_cons.mp nd).2 e e' k
theorem bindC_get (ns : List Str) : ∀ {ps : List Value} {m : Str → Option Value} {i : Nat} {n : Str} {p : Value}, ns.Nodup → ns[i]? = some n → ps[i]? = some p → kindOf n = some .cell → bindC kindOf (ns.zip ps) m n = some p := by
  induction ns with
  | nil => exact fun _ e => nn e
  | cons a r ih =>
    intro ps m i n p nd e e' k
    cases ps with
    | nil => exact nn e'
    | cons q ps =>
      cases i with
      | zero =>
        have e := Option.some.inj e
        refine (bindC_skip r (e ▸ (List.nodup_cons.mp nd).1)).trans ?_
        rw [e, if_neg fun h : kindOf n = some .local => nomatch k.symm.trans h]; exact (if_pos rfl).trans e'
      | succ i => exact ih (List.nodup_cons.mp nd).2 e e' k
end
theorem set_none {r : Rho} (x : Nat) (v : V) (h : r.w = none) : (r.set x v).w = none := by
  unfold Rho.set
  rw [h]
structure Sets (xs : List Nat) (vs : List V) (r r' : Rho) : Prop where
  len : xs.length = vs.length
  w : r.w = none → r'.w = none
  get : ∀ x v, fget r'.ρ x = some v → (∃ i : Nat, xs[i]? = some x ∧ vs[i]? = some v) ∨ (x ∉ xs ∧ fget r.ρ x = some v)
theorem sets_get (xs : List Nat) : ∀ {vs : List V} {r r' : Rho}, xs.Nodup → r.sets xs vs = some r' → Sets xs vs r r' := by
  induction xs with
  | nil =>
    intro vs r r' _ e
    cases vs with
    | nil => exact s1 e fun e => ⟨rfl, fun h => e ▸ h, fun x v h => .inr ⟨List.not_mem_nil, e ▸ h⟩⟩
    | cons => exact nn e
  | cons y ys ih =>
    intro vs r r' nd e
    cases vs with
    | nil => exact nn e
    | cons u us =>
      have S := ih (List.nodup_cons.mp nd).2 e
      exact ⟨congrArg (· + 1) S.len, fun hw => S.w (set_none y u hw), fun x v hx => (S.get x v hx).elim (fun h => h.elim fun i h => .inl ⟨i + 1, h⟩) fun h => (Classical.em (x = y)).elim
        (fun hxy => .inl ⟨0, congrArg some hxy.symm, (fget_fput1 r.ρ y u).symm.trans (hxy ▸ h.2)⟩) fun hxy => .inr ⟨fun hm => (List.mem_cons.mp hm).elim hxy h.1, (fget_fput2 r.ρ u hxy).symm.trans h.2⟩⟩
structure FnOk (gt : List (Str × List Nat)) (params : Arguments) (body : List Stmt) (sc : Scope) (f : Fn) : Prop where
  kind : sc.kind = .function
  gen : sc.isGenerator = false
  co : sc.isCoroutine = false
  p1 : params.posonlyargs = []
  p2 : params.vararg = none
  p3 : params.kwonlyargs = []
  p4 : params.kwarg = none
  ps : chkAll (fun x (a : Arg) => stoName sc x a.arg) f.params params.args = true
  nd : f.params.Nodup
  fr : ∀ n, (n, NameKind.free) ∉ sc.names
  cl : ∀ n, (n, NameKind.cell) ∈ sc.names → sc.names.lookup n = some .cell
  bd : chkAll (chkS gt 60 sc) f.body body = true
theorem fun_of {k : ScopeKind} (h : (match k with | .function => true | _ => false) = true) : k = .function := by
  cases k with
  | function => rfl
  | _ => exact ff h
theorem fnOk_of {gt : List (Str × List Nat)} {params : Arguments} {body : List Stmt} {sc : Scope} {f : Fn} (h : chkF gt params body sc f = true) : FnOk gt params body sc f := by
  have all := List.all_eq_true.mp (bR (bL h))
  have h := bL h
  have g := bL (bL (bL h))
  exact ⟨fun_of (bL (bL (bL (bL (bL (bL g)))))), bN (bR (bL (bL (bL (bL (bL g)))))), bN (bR (bL (bL (bL (bL g))))), isEmpty_eq (bR (bL (bL (bL g)))), isNone_eq (bR (bL (bL g))), isEmpty_eq (bR (bL g)), isNone_eq (bR g), bR (bL (bL h)), of_decide_eq_true (bR (bL h)),
    fun n hn => ff (all _ hn), fun n hn => (kindIs_some (all _ hn)).elim fun k g => (show k = NameKind.cell from of_decide_eq_true g.2) ▸ g.1, bR ‹chkF gt params body sc f = true›⟩
section
variable {C : Cfg} {gt : List (Str × List Nat)} {A : Around} {D D' : List FR} {X X0 O W : Addr → Prop} {σ σ' : Nums} {s s' : Shared} {env : Env} {r : Rho} {v : V} {p : Value} {n k : Nat} {pos : Pos}
theorem nm_nodup (l : List Nat) : l.Nodup → (∀ x ∈ l, x < 74) → (l.map nm).Nodup := by
  induction l with
  | nil => exact fun _ _ => List.nodup_nil
  | cons x r ih => exact fun nd hl => List.nodup_cons.mpr ⟨fun hm => (List.mem_map.mp hm).elim fun y hy => (List.nodup_cons.mp nd).1 (nm_inj y (hl y (List.mem_cons_of_mem _ hy.1)) x (hl x List.mem_cons_self) hy.2 ▸ hy.1), ih (List.nodup_cons.mp nd).2 fun y hy => hl y (List.mem_cons_of_mem _ hy)⟩
structure Parms (args : List Arg) (sc : Scope) (ps : List Nat) : Prop where
  names : args.map (·.arg) = ps.map nm
  kinds : ∀ x ∈ ps, x < 74 ∧ (sc.names.lookup (nm x) = some .local ∨ sc.names.lookup (nm x) = some .cell)
  nd : (args.map (·.arg)).Nodup
theorem parms_of {sc : Scope} (ps : List Nat) : ∀ {args : List Arg}, chkAll (fun x (a : Arg) => stoName sc x a.arg) ps args = true → args.map (·.arg) = ps.map nm ∧ ∀ x ∈ ps, x < 74 ∧ (sc.names.lookup (nm x) = some .local ∨ sc.names.lookup (nm x) = some .cell) := by
  induction ps with
  | nil =>
    intro args h
    cases args with
    | nil => exact ⟨rfl, fun _ h => nomatch h⟩
    | cons => exact ff h
  | cons x r ih =>
    intro args h
    cases args with
    | nil => exact ff h
    | cons a t =>
      have g := stoName_sto (env := { scope := sc, locals := 0, globals := 0, cells := [] }) (bL h)
      exact ⟨congr (congrArg List.cons g.2.1) (ih (bR h)).1, fun y hy => (List.mem_cons.mp hy).elim (fun e => e ▸ ⟨g.1, g.2.2⟩) ((ih (bR h)).2 y)⟩
theorem params_names {gt : List (Str × List Nat)} {params : Arguments} {body : List Stmt} {sc : Scope} {f : Fn} (h : FnOk gt params body sc f) : Parms params.args sc f.params :=
  have g := parms_of _ h.ps
  ⟨g.1, g.2, g.1 ▸ nm_nodup _ h.nd fun x hx => (g.2 x hx).1⟩
inductive CallFr (C : Cfg) (D : List FR) (X : Addr → Prop) (σ : Nums) (s s1 : Shared) (env : Env) (r : Rho) : Prop
  | mk (O' X' : Addr → Prop) (q1 : ∀ a, O' a → s.heap.get? a = none) (q2 : ∀ a, X' a → X a ∨ s.heap.get? a = none) (q3 : ∀ a, X a → X' a) (F : FrE C env X O' X' r D s1.heap) (S : FrS env X O' X') (I : Inv C D X' σ s1)
theorem cell_lookup {l : List (Str × NameKind)} {x : Str} (n : Nat) (h : l.lookup x = some .cell) : ∃ c, (cellsFrom n l []).lookup x = some c := (cellsFrom_has l n x (lookup_mem' h)).elim fun c hc => lookup_of_mem hc
theorem call_frame {fd : FuncData} {fa : Addr} {body : List Stmt} {d : Fn} {vs : List V} {ps : List Value} {s1 : Shared} (ok : FnOk gt fd.params body fd.scope d) (hg : fd.globals = mainGlobals) (hb : fd.builtins = builtinsNs) (vr : VRs C D X s.heap vs ps) (I : Inv C D X σ s)
    (hs : (Rho.mk [] none).sets d.params vs = some r) {e2 : Env} (he2 : e2 = callEnvC fd s.heap.objs.size fa)
    (ic : InCallC s e2.locals (bindL e2.kindOf ((fd.params.args.map (·.arg)).zip ps) fun _ => none) e2.cells (bindC e2.kindOf ((fd.params.args.map (·.arg)).zip ps) fun _ => none) s1) : CallFr C D X σ s s1 e2 r := by
  have pn := params_names ok
  have S := sets_get _ ok.nd hs
  have hf : ∀ a, (a = e2.locals ∨ ∃ n, e2.cells.lookup n = some a) → s.heap.get? a = none := fun a ha => Heap.get?_none_of_le (ha.elim (fun e => by rw [e, he2]; exact Nat.le_refl _) fun ha => ha.elim fun n hn => Nat.le_of_lt (by have := ic.above n a (mem_of_lookup hn); rw [he2] at this; exact this))
  have hx : ∀ a, (X a ∨ (a = e2.locals ∨ ∃ n, e2.cells.lookup n = some a)) → X a ∨ s.heap.get? a = none := fun a ha => ha.imp_right (hf a)
  have keep := ic.toInCall.keep
  have m : Mono D X s.heap D (fun a => X a ∨ (a = e2.locals ∨ ∃ n, e2.cells.lookup n = some a)) s1.heap := (Ext.of_keeps (W := Nope) keep).mono I.fat (fun _ f => f.elim) hx
  have hk : ∀ x, e2.kindOf x = fd.scope.names.lookup x := fun x => by rw [he2]; rfl
  have hc : ∀ x, fd.scope.names.lookup x = some .cell → ∃ c, e2.cells.lookup x = some c := fun x h => by rw [he2]; exact cell_lookup (s.heap.objs.size + 1) h
  exact ⟨_, fun a => X a ∨ (a = e2.locals ∨ ∃ n, e2.cells.lookup n = some a), hf, hx, fun a h => .inl h,
    ⟨by rw [he2]; exact ok.kind, by rw [he2]; exact hg, by rw [he2]; exact hb, .inr (.inl rfl), ⟨_, ic.toInCall.ns⟩, fun n c e => ⟨.inr (.inr ⟨n, e⟩), _, ic.cell n c e⟩, fun n n' c e e' => name_of_addr ic.apart (mem_of_lookup e) (mem_of_lookup e'),
      fun n e => e.elim (fun e => hc n (hk n ▸ e)) fun e => absurd (lookup_mem' (hk n ▸ e)) (ok.fr n),
      fun x v e => (S.get x v e).elim (fun h => h.elim fun i h => ⟨(pn.kinds x (List.mem_of_getElem? h.1)).1, fun _ => (vr.get' h.2).elim fun p hp =>
        have hn : (fd.params.args.map (·.arg))[i]? = some (nm x) := by rw [pn.names, List.getElem?_map, h.1]; rfl
        ⟨p, (pn.kinds x (List.mem_of_getElem? h.1)).2.elim (fun h => .inl ⟨(hk _).trans h, _, ic.toInCall.ns, bindL_get _ pn.nd hn hp.1 ((hk _).trans h)⟩) fun h => .inr ⟨.inl ((hk _).trans h), (hc _ h).elim fun c hc => ⟨c, hc, bindC_get (kindOf := e2.kindOf) (m := fun _ => none) _ pn.nd hn hp.1 ((hk _).trans h) ▸ ic.cell _ c hc⟩⟩, hp.2.mono m⟩⟩) fun h => nn h.2,
      fun y v e => nn ((S.w rfl).symm.trans e)⟩,
    ⟨fun a h => .inr h, .inl rfl, fun n c e => .inr ⟨n, e⟩, fun a h => .inl h⟩,
    I.grow keep hx fun a ha => ha.elim (fun h => (I.Xlt a h).elim fun o e => ⟨o, keep _ _ e⟩) fun h => h.elim (fun h => ic.toInCall.ns.elim fun o e => e.elim fun _ e => e.elim fun _ e => ⟨o, h ▸ e.1⟩) fun h => h.elim fun n hn => (ic.cell n a hn).elim fun o e => ⟨o, e.1⟩⟩
theorem SC_step (K : CfgOK C gt) (hS : SS C gt n) : SC C (n + 1) := by
  intro f vs ps A D X σ σ' s v hf vr I R ev
  refine o1_c (ev : stepC prg (run prg n) f vs σ = some (v, σ')) fun d hd ev => oC_c ev (fun h => (hf (Nat.eq_of_beq_eq_true h)).elim) fun _ ev => o1_c ev fun r hs ev => oF_c ev (fun _ _ _ h => nn h) (fun _ _ _ h => nn h) fun v' σ2 hb ev => sE ev fun hv hσ => ?_
  subst hv hσ
  obtain ⟨o, fd, body, g1, g2, g3, g4, g5, g6, g7, g8, g9⟩ := K.fn f d hd
  have ok := fnOk_of g4
  have pn := params_names ok
  have hlen : (fd.params.args.map (·.arg)).length = ps.length := by rw [pn.names, List.length_map, (sets_get _ ok.nd hs).len, vr.length]
  refine wpAny_call (call_cells (by have := R.depth; omega) (K.KNow I _ _ g1) g2 (K.nolimit.elim fun mc h => ⟨mc, h.1.keeps fun b o e => I.base b o e, h.2⟩) (codeRec_of (K.KNow I) g5) g3 (binds_all (ds := none) ok.p1 ok.p2 ok.p3 ok.p4 (fun M A E Q hq => (g9 hf).2.1.symm ▸ (wpAny_pure hq : wpAny M A (seqItems? .none) Q E s)) hlen pn.nd) g6
    (fun e he => ?_) (fun s1 ic => ?_) ok.co ok.gen ok.kind)
  · have hm : e.1 ∈ d.params.map nm := pn.names ▸ (List.of_mem_zip (a := e.1) (b := e.2) he).1
    exact (List.mem_map.mp hm).elim fun x hx => hx.2 ▸ (pn.kinds x hx.1).2.imp id fun hk => ⟨hk, (cell_lookup (s.heap.objs.size + 1) hk).elim fun c hc => by rw [hc]; rfl⟩
  · cases call_frame ok g7 g8 vr I hs rfl ic with
    | mk O' X' q1 q2 q3 F S I1 =>
      exact wpAny_mono (hS (k := 60) (env := callEnvC fd s.heap.objs.size (C.fa f)) ok.bd F S I1 (R.deeper _) hb) (fun fl s' x => x.c fun X2 O2 D2 P fr => fr.ret_c fun p hp V => by
        subst hp
        exact ⟨D2, ⟨same_trans ic.toInCall.same P.same, (Ext.of_keeps ic.toInCall.keep).trans P.ext fun a ha => .inr (q1 a ha), fun _ f => f.elim, P.inv.less fun a h => P.xx a (q3 a h)⟩, V⟩) fun _ _ f => f.elim
end
end Mine
namespace Mine
theorem Gv.lift {C : Cfg} {A : Around} {D : List FR} {X W : Addr → Prop} {σ σ' : Nums} {s : Shared} {v : V} {t : Sem Value} (h : Gv C A D X Nope s v σ' t) (I : Inv C D X σ s) (hw : ∀ b, W b → X b) : Gv C A D X W s v σ' t :=
  h.use fun p D2 s2 a b => ⟨D2, a.up fun b hb r hr e => I.dxX r hr (e ▸ hw b hb), b⟩
noncomputable def SF (C : Cfg) (n : Nat) : Prop :=
  ∀ {vs : List V} {ps : List Value} {A : Around} {D : List FR} {X : Addr → Prop} {σ σ' : Nums} {s : Shared} {fs : List (Nat × V)} {i : Int},
    VRs C D X s.heap vs ps → Inv C D X σ s → RoomN A n → (run prg n).c N.form_init (.inst 0 [] none :: vs) σ = some (.inst 0 fs none, σ') → fget fs N.number = some (.int i) →
    Gv C A D X Nope s (.inst 0 (fdel fs N.number) (some σ'.length)) (σ' ++ [i]) (call (.ref C.c0) ps)
noncomputable def SI (C : Cfg) (n : Nat) : Prop :=
  ∀ {vs : List V} {p : Value} {A : Around} {D : List FR} {X : Addr → Prop} {σ σ' : Nums} {s : Shared} {bn bc : List (V × V)},
    VR C D X s.heap (.list vs) p → small vs = true → Inv C D X σ s → RoomN A (n + 1) → isetL (fun v σ => (run prg n).c N.codesOf [v] σ) 0 vs [] [] σ = some (bn, bc, σ') →
    Gv C A D X Nope s (.inst 1 [(N.forms, .list vs), (N.by_name, .dict bn), (N.by_code, .dict bc)] none) σ' (call (.ref C.c1) [p])
theorem mem_lookup {α β : Type} [BEq α] [LawfulBEq α] {l : List (α × β)} {a : α} {b : β} (h : l.lookup a = some b) : (a, b) ∈ l := by
  induction l with
  | nil => exact nn h
  | cons x r ih =>
    have h : (match a == x.1 with | true => some x.2 | false => r.lookup a) = some b := h
    cases e : a == x.1 with
    | true => rw [e] at h; exact Option.some.inj h ▸ eq_of_beq e ▸ List.mem_cons_self
    | false => rw [e] at h; exact List.mem_cons_of_mem _ (ih h)
theorem fnNames_ok : ∀ e ∈ fnNames, (fnTab e.1).isSome = true := by decide +kernel
theorem methL_ok : ∀ e ∈ methL, (fnTab e.2).isSome = true ∧ e.2 ≠ 101 ∧ 13 ≤ e.1.2 ∧ e.1.2 < 74 := by decide +kernel
theorem fnTab_of_name {f : Nat} {n : String} (h : fnNames.lookup f = some n) : ∃ d, fnTab f = some d := Option.isSome_iff_exists.mp (fnNames_ok _ (mem_lookup h))
theorem methTab_fn {c m i : Nat} (h : methTab c m = some i) : (∃ d, fnTab i = some d) ∧ i ≠ 101 := ⟨Option.isSome_iff_exists.mp (methL_ok _ (mem_lookup h)).1, (methL_ok _ (mem_lookup h)).2.1⟩
theorem meth_range {c m : Nat} (h : (methTab c m).isSome = true) : 13 ≤ m ∧ m < 74 := (Option.isSome_iff_exists.mp h).elim fun i h => (methL_ok _ (mem_lookup h)).2.2
theorem meth_some {c m i : Nat} (h : methTab c m = some i) : (methTab c m).isSome = true := by rw [h]; rfl
section
variable {C : Cfg} {gt : List (Str × List Nat)} {A : Around} {D D' : List FR} {X X0 O W : Addr → Prop} {σ σ' σ1 : Nums} {s s' : Shared} {env : Env} {r : Rho} {v : V} {p : Value} {n k : Nat} {pos : Pos}
theorem plainArgs {pos : Pos} (ms : List M) : ∀ {es : List Expr}, chkAll (chkE gt k env.scope) ms es = true → (backTo pos (starEach es env)).any (·.1) = false ∧ (backTo pos (starEach es env)).all (fun x => !x.1) = true := by
  induction ms with
  | nil =>
    intro es h
    cases es with
    | nil => exact ⟨rfl, rfl⟩
    | cons => exact ff h
  | cons m ms ih =>
    intro es h
    cases es with
    | nil => exact ff h
    | cons e es => rw [notStar (bL h)]; exact ih (bR h)
theorem callW_sound (K : CfgOK C gt) (hE : SE C gt n) {f : Value} (hk : keepIn C.K f = true) (first : List Value) {ms : List M} {es : List Expr} {vs : List V} (h : chkAll (chkE gt k env.scope) ms es = true) (F : FrE C env X0 O X r D s.heap) (I : Inv C D X σ s) (R : RoomN A n)
    (ev : evs (fun m σ => (run prg n).e m r σ) ms σ = some (vs, σ')) {Q : Value → Shared → Prop} {E : Value → Shared → Prop}
    (q : ∀ ps D' s', Pst C D X (· = env.locals) s D' σ' s' → VRs C D' X s'.heap vs ps → wpAny (model C.prog C.w) A (call f (first ++ ps)) Q E s') :
    wpAny (model C.prog C.w) A (callWith pos f first (backTo pos (starEach es env)) []) Q E s := by
  cases es with
  | nil =>
    cases ms with
    | nil => exact sE ev fun h1 h2 => callWith_K0 (K.KNow I) hk (q [] D s (h2 ▸ .refl I) (h1 ▸ .nil))
    | cons => exact ff h
  | cons e es =>
    cases ms with
    | nil => exact ff h
    | cons m ms => exact callWith_K K.K hk (args_sound hE h F I R ev fun ps D' s' P V => ⟨K.KNow P.inv, q ps D' s' P V⟩) (notStar (bL h) _ _) (plainArgs ms (bR h)).1
theorem fname_lookup {f : Nat} (h : (fnNames.lookup f).isSome = true) : ∃ nm, fnNames.lookup f = some nm ∧ fname f = Str.ofString nm :=
  (Option.isSome_iff_exists.mp h).elim fun m hm => ⟨m, hm, by unfold fname; rw [hm]; rfl⟩
theorem globName_c {sc : Scope} {id n : Str} {G : Prop} (h : globName sc id n = true) (g : id = n → kindIs sc id globKind = true → G) : G := g (of_decide_eq_true (bL h)) (bR h)
theorem SE_call (K : CfgOK C gt) (hE : SE C gt n) (hC : SC C n) {f : Nat} {as : List M} {e : Expr} (h : chkE gt (k + 1) env.scope (.call f as) e = true) (F : FrE C env X0 O X r D s.heap) (I : Inv C D X σ s) (R : RoomN A n)
    (ev : stepE prg (run prg n) (.call f as) r σ = some (v, σ')) : Gv C A D X (· = env.locals) s v σ' (eval e env) :=
  oP_c ev fun vs σ1 e1 ev => onFn_c h fun id args q p he h => b5 h fun h1 h2 h3 h4 h5 => globName_c h1 fun hid hg => by
    subst he
    exact (fname_lookup h4).elim fun fn g => (fnTab_of_name g.1).elim fun d hd => wpAny_Call_Name_kw (glob_read F K I hg (decide_eq_false (of_decide_eq_false (bN h2))) (hid.trans g.2 ▸ K.fns f fn g.1)
      (callW_sound K hE (K.isFn f d hd).1 [] h5 F I R e1 fun ps D' s' P V => Gv.then P ((hC (A := A) (fun e => Bool.false_ne_true ((bN h3).symm.trans (bq_t e))) V P.inv R ev).lift P.inv F.hw)))
theorem methodCall_eval {o : Expr} {name : Str} {apos pos : Pos} {args : List Expr} {Q E : Value → Shared → Prop} (hs : notSuper o = true) (hpl : (backTo pos (starEach args env)).all (fun x => !x.1) = true) (hn : args.length < 20)
    (hline : Nat.beq apos.endLine pos.line = true)
    (h : wpAny (model C.prog C.w) A (eval o env) (fun ov s₁ => wpAny (model C.prog C.w) A (getMethod ov name (do return (← importBound o env).getD true)) (fun r s₂ => wpAny (model C.prog C.w) A (callWith pos r.1 r.2 (backTo pos (starEach args env)) []) Q E s₂) E s₁) E s) :
    wpAny (model C.prog C.w) A (eval (.Call (.Attribute o name apos) args [] pos) env) Q E s := by
  rw [arm_eval_Call, notSuper_base hs]
  refine wpAny_bind (wpAny_mono h (fun ov s₁ h₁ => wpAny_bind (wpAny_standAt ?_)) fun _ _ e => e)
  have hform : methodCallForm (args.length + ([] : List Keyword).length) (backTo pos (starEach args env)) (backToKw pos (keywordEach [] env)) = true := by
    unfold methodCallForm
    rw [hpl]
    show (true && true && decide (args.length + 0 + 0 < 30)) = true
    rw [decide_eq_true (by omega)]; rfl
  have hpos : methodCallPos true o env apos pos = pure pos := by
    unfold methodCallPos
    have : (apos.endLine == pos.line) = true := by rw [Nat.eq_of_beq_eq_true hline]; simp
    rw [this]; rfl
  unfold methodCall
  rw [hform]
  refine wpAny_bind (wpAny_holding ?_)
  show wpAny _ _ (getMethod ov name _) _ _ _
  exact wpAny_mono h₁ (fun r s₂ h₂ => wpAny_bind (wpAny_of_eq hpos h₂)) fun _ _ e => e
theorem inst_meth (K : CfgOK C gt) (I : Inv C D X σ s) {fs : List (Nat × V)} {c m i : Nat} {ℓ : Option Nat} (hm : methTab c m = some i) (x : VT C D X s.heap (.inst c fs ℓ) p) {pl : Sem Bool} {Q : Value × List Value → Shared → Prop} {E : Value → Shared → Prop}
    (q : Q (.ref (C.fa i), [p]) s) : wpAny (model C.prog C.w) A (getMethod p (nm m) pl) Q E s := by
  have hk := (methTab_fn hm).1.elim fun d hd => (K.isFn i d hd).2
  exact x.inst_c (fun l r hc _ _ hp el => by
      subst hc; subst hp
      have k12 := plainGet_of (K.get C.c0 (.inl rfl)).1
      cases I.form _ _ el with
      | mk j t es ep a1 a2 a3 a4 a5 a6 a7 a8 => exact method_fn (od := some (dictOf es ep)) (K.KNow I) ⟨a2, rfl, rfl, a3⟩ k12.1 k12.2 (K.meth0 m i hm) hk (congrArg (Option.map _) (show lookIn (nm m) (dictOf es ep) = some none from a6 m (meth_some hm))) q)
    fun a dx od hc _ hp e1 e2 k sh rr => by
      subst hc; subst hp
      have k12 := plainGet_of (K.get C.c1 (.inr rfl)).1
      exact method_fn (od := some od) (K.KNow I) ⟨e1, rfl, rfl, e2⟩ k12.1 k12.2 (K.meth1 m i hm) hk (congrArg (Option.map _) (sh m (meth_some hm))) q
theorem SE_meth (K : CfgOK C gt) (hE : SE C gt n) (hC : SC C n) {a : M} {m : Nat} {as : List M} {e : Expr} (h : chkE gt (k + 1) env.scope (.meth a m as) e = true) (F : FrE C env X0 O X r D s.heap) (I : Inv C D X σ s) (R : RoomN A n)
    (ev : stepE prg (run prg n) (.meth a m as) r σ = some (v, σ')) : Gv C A D X (· = env.locals) s v σ' (eval e env) :=
  oP_c ev fun u σ1 e1 ev => wInst_c ev fun c fs l hu ev => o1_c ev fun f hm ev => oP_c ev fun vs σ2 e2 evF => onMeth_c h fun o nme apos args pos he h => b6 h fun h1 h2 h3 h4 h5 h6 => by
    subst he; subst hu
    rw [of_decide_eq_true h1]
    exact (methTab_fn hm).1.elim fun d hd => methodCall_eval h2 (plainArgs _ h6).2 (Nat.blt_eq.mp h4) h3 ((hE h5 F I R e1).use fun p D1 s1 P1 V1 => inst_meth K P1.inv hm V1.1
      (callW_sound K hE (K.isFn f d hd).1 [p] h6 (F.step I P1) P1.inv R e2 fun ps D2 s2 P2 V2 => Gv.then (P1.trans P2) ((hC (A := A) (methTab_fn hm).2 (.con (V1.step P2 P1.inv F.hw) V2) P2.inv R evF).lift P2.inv F.hw)))
theorem SE_form (K : CfgOK C gt) (hE : SE C gt n) (hF : SF C n) (hg : C.mg (Str.ofString "Form") = some (.ref C.c0)) (hk : keepIn C.K (.ref C.c0) = true) {as : List M} {e : Expr} (h : chkE gt (k + 1) env.scope (.form as) e = true) (F : FrE C env X0 O X r D s.heap) (I : Inv C D X σ s) (R : RoomN A n)
    (ev : stepE prg (run prg n) (.form as) r σ = some (v, σ')) : Gv C A D X (· = env.locals) s v σ' (eval e env) :=
  oP_c ev fun vs σ1 e1 ev => oP_c ev fun w σ2 e2 ev => wRaw_c ev fun c fs hw ev => oI_c ev fun hc ev => o1_c ev fun z e3 ev => wInt_c ev fun i hz ev => sE ev fun hv hσ => onFn_c h fun id args q p he h => b3 h fun h1 h2 h3 => globName_c h1 fun hid hgl => by
    subst he; subst hid; subst hv; subst hσ; subst hw; subst hz; cases Nat.eq_of_beq_eq_true hc
    exact wpAny_Call_Name_kw (glob_read F K I hgl (by decide +kernel) hg (callW_sound K hE hk [] h3 F I R e1 fun ps D' s' P V => Gv.then P ((hF (A := A) V P.inv R e2 e3).lift P.inv F.hw)))
theorem SE_iset (K : CfgOK C gt) (hE : SE C gt n) (hI : SI C n) (hg : C.mg (Str.ofString "InstructionSet") = some (.ref C.c1)) (hk : keepIn C.K (.ref C.c1) = true) {a : M} {e : Expr} (h : chkE gt (k + 1) env.scope (.iset a) e = true) (F : FrE C env X0 O X r D s.heap) (I : Inv C D X σ s) (R' : RoomN A (n + 1))
    (ev : stepE prg (run prg n) (.iset a) r σ = some (v, σ')) : Gv C A D X (· = env.locals) s v σ' (eval e env) :=
  oP_c ev fun u σ1 e1 ev => wList_c ev fun vs hu ev => oI_c ev fun hs ev => oP_c ev fun bn q e2 ev => sE ev fun hv hσ => onFn_c h fun id args q p he h => globName_c (bL h) fun hid hgl => on1_c (bR h) fun x hx h3 => by
    subst he; subst hid; subst hv; subst hσ; subst hu; subst hx
    exact wpAny_Call_Name_kw (glob_read F K I hgl (by decide +kernel) hg (callWith_K K.K hk (args_cons ((hE h3 F I (R'.less (Nat.le_succ n)) e1).use fun p D' s' P V => args_nil ⟨K.KNow P.inv, Gv.then P ((hI (A := A) V hs P.inv R' e2).lift P.inv F.hw)⟩) (notStar h3 _ _)) (notStar h3 _ _) rfl))
end
end Mine
namespace Mine
structure MakeOK (C : Cfg) (gt : List (Str × List Nat)) : Prop extends CfgOK C gt where
  form : C.mg (Str.ofString "Form") = some (.ref C.c0)
  iset : C.mg (Str.ofString "InstructionSet") = some (.ref C.c1)
  formK : keepIn C.K (.ref C.c0) = true
  isetK : keepIn C.K (.ref C.c1) = true
section
variable {C : Cfg} {gt : List (Str × List Nat)} {A : Around} {D D' : List FR} {X X0 O W : Addr → Prop} {σ σ' σ1 : Nums} {s s' : Shared} {env : Env} {r : Rho} {v z : V} {p : Value} {n k : Nat} {pos : Pos} {G : Prop}
theorem OwnR.c {h : Heap} {L a : Addr} (w : OwnR C D X O L h v a) (kL : ∀ vs, v = .list vs → VT C D X h v (.ref a) → G) (kD : ∀ es, v = .dict es → VT C D X h v (.ref a) → G) (kF : ∀ c fs, v = .inst c fs none → isRaw v = true → G) : G := by
  cases w with
  | lst e r => exact kL _ rfl (.list ⟨_, e, rfl, _, rfl⟩ r)
  | dct e => exact kD _ rfl e
  | form => exact kF _ _ rfl rfl
  | pre => exact kF _ _ rfl rfl
  | iset => exact kF _ _ rfl rfl
theorem bif_sound (K : CfgOK C gt) (I : Inv C D X σ s) (R : Room A) {L : Addr} {m : Str → Option Value} (hL : s.heap.Ns L m) (hX : X L) {b : Bif} (x : VT C D X s.heap v p) (hk : OkV D X p ∨ ∀ vs, v ≠ .tuple vs) (e : bifV b v = some z) : Gv C A D X (· = L) s z σ (call (bifVal b) [p]) := by
  cases b with
  | len => exact len_sound I x e
  | sorted => exact sorted_sound I hL hX x e
  | any => exact any_sound I R x e
  | range => exact range_sound I x e
  | list => exact list_sound I R K.sys x e
  | tuple => exact tuple_sound I x hk e
  | int => exact int_sound I x e
theorem bif_inst {b : Bif} {c : Nat} {fs : List (Nat × V)} {l : Option Nat} : bifV b (.inst c fs l) = none := by cases b <;> rfl
theorem Bname_debug (b : Bif) : (Bname b == Str.ofString "__debug__") = false := by cases b <;> decide +kernel
theorem bif_own (K : CfgOK C gt) (I : Inv C D X σ s) (R : Room A) {L a : Addr} {m : Str → Option Value} (hL : s.heap.Ns L m) (hX : X L) {b : Bif} (w : OwnR C D X O L s.heap v a) (e : bifV b v = some z) : Gv C A D X (· = L) s z σ (call (bifVal b) [.ref a]) :=
  w.c (fun vs hv x => bif_sound K I R hL hX x (.inr fun _ e => nomatch hv.symm.trans e) e) (fun vs hv x => bif_sound K I R hL hX x (.inr fun _ e => nomatch hv.symm.trans e) e) fun c fs hv _ => nn (bif_inst.symm.trans (hv ▸ e))
theorem callWith_bif {prog : Program} {w : World} {b : Bif} {x : Expr} {Q : Value → Shared → Prop} {E : Value → Shared → Prop} (h : wpAny (model prog w) A (spliced (backTo pos (starEach [x] env))) (fun vs s1 => ∃ p, vs = [p] ∧ wpAny (model prog w) A (call (bifVal b) [p]) Q E s1) E s) (hs : starEach [x] env = [(false, eval x env)]) :
    wpAny (model prog w) A (callWith pos (bifVal b) [] (backTo pos (starEach [x] env)) []) Q E s := by
  have h' : wpAny (model prog w) A (spliced (backTo pos (starEach [x] env))) (fun vs s1 => wpAny (model prog w) A (call (bifVal b) vs) Q E s1) E s := wpAny_mono h (fun vs s1 x => x.elim fun p x => x.1.symm ▸ x.2) fun _ _ e => e
  cases b with
  | len => exact PyProof.Rows.callWith_builtin1 h' hs rfl
  | sorted => exact PyProof.Rows.callWith_builtin1 h' hs rfl
  | any => exact PyProof.Rows.callWith_builtin1 h' hs rfl
  | range => exact PyProof.Rows.callWith_type1 h' hs rfl
  | list => exact PyProof.Rows.callWith_type1 h' hs rfl
  | tuple => exact PyProof.Rows.callWith_type1 h' hs rfl
  | int => exact PyProof.Rows.callWith_type1 h' hs rfl
theorem SE_bif (K : CfgOK C gt) (hE : SE C gt n) {b : Bif} {a : M} {e : Expr} (h : chkE gt (k + 1) env.scope (.bif b a) e = true) (F : FrE C env X0 O X r D s.heap) (I : Inv C D X σ s) (R : RoomN A n)
    (ev : stepE prg (run prg n) (.bif b a) r σ = some (v, σ')) : Gv C A D X (· = env.locals) s v σ' (eval e env) :=
  oP_c ev fun u σ1 e1 ev => o1_c ev fun z e2 ev => sE ev fun hv hσ => onFn_c h fun id args q p he h => globName_c (bL h) fun hid hg => on1_c (bR h) fun x hx h3 => by
    rw [he, ← hv, ← hσ, hx]
    refine wpAny_Call_Name_kw (bltn_read F K I hg (by rw [hid]; exact Bname_debug b) (by rw [hid]; exact (K.bifs b).1) (by rw [hid]; exact (K.bifs b).2) (callWith_bif (args_cons (wpAny_mono (tr_sound hE h3 F I R e1) (fun p s1 t => ?_) fun _ _ f => f) (notStar h3 _ _)) (notStar h3 _ _)))
    exact t.c (fun D1 P V => args_nil ⟨p, rfl, (F.step I P).ns.elim fun m hm => Gv.then P (bif_sound K P.inv R.room hm F.locX V.1 (.inl V.2) e2)⟩)
      fun D1 a P hp _ _ _ w => args_nil ⟨p, rfl, (F.step I P).ns.elim fun m hm => Gv.then P (hp ▸ bif_own K P.inv R.room hm F.locX w e2)⟩
theorem beq_line {a b : Nat} (h : Nat.beq a b = true) : (a == b) = true := beq_iff_eq.mpr (Nat.eq_of_beq_eq_true h)
theorem MethodOnS.post {D1 : List FR} {s1 : Shared} {nme : Str} {args : List (Bool × Sem Value)} (P1 : Pst C D X W s D1 σ1 s1) (h : MethodOnS C.prog C.w A (fun _ _ => False) nme p pos args (GvP C D1 X W s1 v σ') s1) : MethodOnS C.prog C.w A (fun _ _ => False) nme p pos args (GvP C D X W s v σ') s1 :=
  h.elim fun T h => h.elim fun id g => ⟨T, id, g.1, g.2.1, g.2.2.1, g.2.2.2.1, g.2.2.2.2.1, wpAny_mono g.2.2.2.2.2 (fun _ _ x => Gv.post P1 x) fun _ _ f => f⟩
theorem SE_split (hE : SE C gt n) {a b : M} {e : Expr} (h : chkE gt (k + 1) env.scope (.split a b) e = true) (F : FrE C env X0 O X r D s.heap) (I : Inv C D X σ s) (R : RoomN A n)
    (ev : stepE.bin (run prg n) r σ splitV a b = some (v, σ')) : Gv C A D X (· = env.locals) s v σ' (eval e env) :=
  bin_c ev fun u σ1 w e1 e2 e3 => onMeth_c h fun o nme apos args p he h => b5 h fun h1 h2 h3 h4 h5 => on1_c h5 fun x hx h5 => by
    rw [he, of_decide_eq_true h1, hx]
    exact Call_method1 (notSuper_base h2 _ _ _) (notStar h5 _ _) (beq_line h3) ((hE h4 F I R e1).use fun p D1 s1 P1 V1 => MethodOnS.post P1 (split_on V1.1 (hE h5 (F.step I P1) P1.inv R e2) e3))
theorem SE_lstrip (hE : SE C gt n) {a b : M} {e : Expr} (h : chkE gt (k + 1) env.scope (.lstrip a b) e = true) (F : FrE C env X0 O X r D s.heap) (I : Inv C D X σ s) (R : RoomN A n)
    (ev : stepE.bin (run prg n) r σ lstripV a b = some (v, σ')) : Gv C A D X (· = env.locals) s v σ' (eval e env) :=
  bin_c ev fun u σ1 w e1 e2 e3 => onMeth_c h fun o nme apos args p he h => b5 h fun h1 h2 h3 h4 h5 => on1_c h5 fun x hx h5 => by
    rw [he, of_decide_eq_true h1, hx]
    exact Call_method1 (notSuper_base h2 _ _ _) (notStar h5 _ _) (beq_line h3) ((hE h4 F I R e1).use fun p D1 s1 P1 V1 => MethodOnS.post P1 (lstrip_on V1.1 (hE h5 (F.step I P1) P1.inv R e2) e3))
theorem chk2_c {α β : Type} {c : α → β → Bool} {a b : α} {l : List β} (h : chkAll c [a, b] l = true) (g : ∀ x y, l = [x, y] → c a x = true → c b y = true → G) : G := by
  cases l with
  | nil => exact ff h
  | cons x r => cases r with
    | nil => exact ff (bR h)
    | cons y r => cases r with
      | nil => exact g x y rfl (bL h) (bL (bR h))
      | cons => exact ff (bR (bR h))
theorem SE_get (K : CfgOK C gt) (hE : SE C gt n) {d kk z : M} {e : Expr} (h : chkE gt (k + 1) env.scope (.get d kk z) e = true) (F : FrE C env X0 O X r D s.heap) (I : Inv C D X σ s) (R : RoomN A n)
    (ev : stepE prg (run prg n) (.get d kk z) r σ = some (v, σ')) : Gv C A D X (· = env.locals) s v σ' (eval e env) :=
  oP_c ev fun dv σ1 e1 ev => oP_c ev fun kv σ2 e2 ev => oP_c ev fun zv σ3 e3 ev => o1_c ev fun w e4 ev => sE ev fun hv hσ => onMeth_c h fun o nme apos args p he h => b5 h fun h1 h2 h3 h4 h5 => chk2_c h5 fun x y hx h5 h6 => by
    rw [he, of_decide_eq_true h1, hx, ← hv, ← hσ]
    exact Call_method2 (notSuper_base h2 _ _ _) (by rw [notStar h5, notStar h6]; rfl) (beq_line h3) ((hE h4 F I R e1).use fun p D1 s1 P1 V1 => MethodOnS.post P1 (get_on P1.inv R.room K.sys F.hw V1 (hE h5 (F.step I P1) P1.inv R e2) (fun D2 s2 P2 => hE h6 ((F.step I P1).step P1.inv P2) P2.inv R e3) e4))
theorem comp_value {D1 D2 : List FR} {s1 s2 : Shared} {a L : Addr} {v : V} {E : Value → Shared → Prop} (F : FrE C env X0 O X r D s.heap) (I : Inv C D X σ s) (P1 : Pst C D X (· = env.locals) s D1 σ1 s1) (af : Aft C D1 X (· = env.locals) s1 L D2 σ' s2) (ha : s1.heap.get? a = none) (hL : L ≠ a) (hd : ∀ r ∈ D2, r.dx ≠ a)
    (vt : VT C D2 (fun b => X b ∨ b = L) s2.heap v (.ref a)) : compPost (model C.prog C.w) A E none (GvP C D X (· = env.locals) s v σ') (.ref a) L (.ok .next) s2 :=
  af.nsL.elim fun m hm => ⟨m, hm, fun h' hs => have P2 := af.fin P1.inv F.hw hs
    ⟨D2, P1.trans P2.1, vt.mono P2.2 fun b o eb g => Value.ref.inj eb ▸ (hs.2 _ (Ne.symm hL)).trans (Value.ref.inj eb ▸ g), .ref ⟨fun h => (P1.inv.Xlt a h).elim fun o e => not_none e ha, hd⟩⟩⟩
theorem SE_comp (K : CfgOK C gt) (hE : SE C gt n) (hT : ST C gt n) {elt it : M} {x : Nat} {cs : List M} {e : Expr} (h : chkE gt (k + 1) env.scope (.comp elt x it cs) e = true) (F : FrE C env X0 O X r D s.heap) (I : Inv C D X σ s) (R : RoomN A n)
    (ev : stepE prg (run prg n) (.comp elt x it cs) r σ = some (v, σ')) : Gv C A D X (· = env.locals) s v σ' (eval e env) :=
  oP_c ev fun vi σ1 e1 ev => o1_c ev fun vs e2 ev => oP_c ev fun us σ2 e3 ev => sE ev fun hv hσ => onLC_c h fun elt' g csc pos he h => onGen_c h fun id px iter ifs hg h => b6 h fun h1 h2 h3 h4 h5 h6 => by
    rw [he, hg, of_decide_eq_true h1, ← hv, ← hσ, eval_ListComp]
    exact comp_run K hE hT R h2 h3 h4 h6 h5 F I e1 e2 e3 (use := none) fun D1 s1 P1 a L D2 s2 af ha hL hd vt => comp_value F I P1 af ha hL hd vt
theorem SE_dcomp (K : CfgOK C gt) (hE : SE C gt n) {kk vv it : M} {x : Nat} {e : Expr} (h : chkE gt (k + 1) env.scope (.dcomp kk vv x it) e = true) (F : FrE C env X0 O X r D s.heap) (I : Inv C D X σ s) (R : RoomN A n)
    (ev : stepE prg (run prg n) (.dcomp kk vv x it) r σ = some (v, σ')) : Gv C A D X (· = env.locals) s v σ' (eval e env) :=
  oP_c ev fun vi σ1 e1 ev => o1_c ev fun vs e2 ev => oP_c ev fun us σ2 e3 ev => sE ev fun hv hσ => onDC_c h fun k' v' g csc pos he h => onGen_c h fun id px iter ifs hg h => b6 (bR h) fun h1 h2 h3 h4 h5 h6 => by
    rw [he, hg, isEmpty_eq (bL h), of_decide_eq_true h1, ← hv, ← hσ, arm_eval_DictComp]
    exact dcomp_run K hE R h2 h3 h4 h5 h6 F I e1 e2 e3 (use := none) fun D1 s1 P1 a L D2 s2 af ha hL hd vt => comp_value F I P1 af ha hL hd vt
end
end Mine
namespace Mine
section
variable {C : Cfg} {gt : List (Str × List Nat)} {A : Around} {D D' : List FR} {X X0 O W : Addr → Prop} {σ σ' σ1 : Nums} {s s' : Shared} {env : Env} {r : Rho} {v z : V} {p : Value} {n k : Nat} {pos : Pos} {G : Prop}
theorem SE_var {x : Nat} {e : Expr} (h : chkE gt (k + 1) env.scope (.var x) e = true) (F : FrE C env X0 O X r D s.heap) (I : Inv C D X σ s) (ev : stepE prg (run prg n) (.var x) r σ = some (v, σ')) : Gv C A D X (· = env.locals) s v σ' (eval e env) :=
  o1_c ev fun u hu ev => sE ev fun hv hσ => onName_c h fun id q he h => by
    have g := okName_seen h
    rw [he, g.2.1, ← hv, ← hσ]
    exact ((F.get _ _ hu).2 g.2.2).elim fun p vp => name_vis F g.1 vp.1 ⟨D, .refl I, vp.2⟩
theorem SE_tup (hE : SE C gt n) {es : List M} {e : Expr} (h : chkE gt (k + 1) env.scope (.tup es) e = true) (F : FrE C env X0 O X r D s.heap) (I : Inv C D X σ s) (R : RoomN A n) (ev : stepE prg (run prg n) (.tup es) r σ = some (v, σ')) : Gv C A D X (· = env.locals) s v σ' (eval e env) :=
  oP_c ev fun vs σ1 e1 ev => oI_c ev fun hs ev => sE ev fun hv hσ => onTup_c h fun l q p he h => by
    rw [he, ← hv, ← hσ]
    exact wpAny_Tuple (args_sound hE h F I R e1 fun ps D' s' P V => ⟨V.length ▸ small_line hs, Gv.post P (push_tup P.inv (items := ps.toArray) V s'.toks)⟩)
theorem SE_lst (hE : SE C gt n) {es : List M} {e : Expr} (h : chkE gt (k + 1) env.scope (.lst es) e = true) (F : FrE C env X0 O X r D s.heap) (I : Inv C D X σ s) (R : RoomN A n) (ev : stepE prg (run prg n) (.lst es) r σ = some (v, σ')) : Gv C A D X (· = env.locals) s v σ' (eval e env) :=
  oP_c ev fun vs σ1 e1 ev => oI_c ev fun hs ev => sE ev fun hv hσ => onLst_c h fun l p he h => by
    rw [he, ← hv, ← hσ]
    exact wpAny_List (args_sound hE h F I R e1 fun ps D' s' P V => ⟨V.length ▸ small_line hs, Gv.post P (push_list P.inv (items := ps.toArray) V s'.toks)⟩)
theorem SE_neg (hE : SE C gt n) {a : M} {e : Expr} (h : chkE gt (k + 1) env.scope (.neg a) e = true) (F : FrE C env X0 O X r D s.heap) (I : Inv C D X σ s) (R : RoomN A n) (ev : stepE prg (run prg n) (.neg a) r σ = some (v, σ')) : Gv C A D X (· = env.locals) s v σ' (eval e env) :=
  oP_c ev fun u σ1 e1 ev => o1_c ev fun z e2 ev => sE ev fun hv hσ => onUn_c h fun op x p he h => by
    rw [he, of_decide_eq_true (bL h), ← hv, ← hσ]
    exact wpAny_UnaryOp ((hE (bR h) F I R e1).use fun p D1 s1 P1 V1 => Gv.then P1 (neg_sound P1.inv V1.1 e2))
theorem SE_not (hE : SE C gt n) {a : M} {e : Expr} (h : chkE gt (k + 1) env.scope (.not a) e = true) (F : FrE C env X0 O X r D s.heap) (I : Inv C D X σ s) (R : RoomN A n) (ev : stepE prg (run prg n) (.not a) r σ = some (v, σ')) : Gv C A D X (· = env.locals) s v σ' (eval e env) :=
  oP_c ev fun u σ1 e1 ev => wBool_c ev fun b hb ev => sE ev fun hv hσ => onUn_c h fun op x p he h => by
    rw [he, of_decide_eq_true (bL h), ← hv, ← hσ]
    exact wpAny_UnaryOp ((hE (bR h) F I R e1).use fun p D1 s1 P1 V1 => truthy_of (hb ▸ V1) ▸ not_of (wpAny_truthy_bool ⟨D1, P1, .bool _⟩))
theorem SE_ite (hE : SE C gt n) (hT : ST C gt n) {c a b : M} {e : Expr} (h : chkE gt (k + 1) env.scope (.ite c a b) e = true) (F : FrE C env X0 O X r D s.heap) (I : Inv C D X σ s) (R : RoomN A n) (ev : stepE prg (run prg n) (.ite c a b) r σ = some (v, σ')) : Gv C A D X (· = env.locals) s v σ' (eval e env) :=
  onIte_c h fun t x y p he h => b3 h fun h1 h2 h3 => by
    rw [he]
    exact oB_c ev (fun σ1 e1 ev => wpAny_IfExp ((hT h1 F I R e1).use fun D1 s1 P1 => Gv.then P1 (hE h2 (F.step I P1) P1.inv R ev))) fun σ1 e1 ev => wpAny_IfExp ((hT h1 F I R e1).use fun D1 s1 P1 => Gv.then P1 (hE h3 (F.step I P1) P1.inv R ev))
theorem cmpV_inst {op : COp} {u : V} {c : Nat} {fs : List (Nat × V)} {l : Option Nat} (e : cmpV op u (.inst c fs l) = some z) : False := by
  have q : ∀ b, ¬ eqV u (.inst c fs l) = some b := fun b hb => eqV_c hb (fun _ h _ => ff h) fun _ y _ hy _ _ => nomatch hy
  have i : ∀ F, ¬ cmpI u (.inst c fs l) F = some z := fun F e => wInt_c e fun i _ e => wInt_c e fun j hj _ => nomatch hj
  cases op with
  | eq => exact o1_c e fun b hb _ => q b hb
  | ne => exact o1_c e fun b hb _ => q b hb
  | lt => exact i _ e
  | gt => exact i _ e
  | ge => exact i _ e
  | in_ => exact nn e
  | notin => exact nn e
theorem cmp_tr (K : CfgOK C gt) (hE : SE C gt n) {op : COp} {a b : M} {l x : Expr} (h1 : chkE gt k env.scope a l = true) (h2 : chkE gt k env.scope b x = true) (F : FrE C env X0 O X r D s.heap) (I : Inv C D X σ s) (R : RoomN A n)
    (ev : (oP ((run prg n).e a r σ) fun u σ => oP (tr (run prg n).e b r σ) fun v σ => o1 (cmpV op u v) fun z => some (z, σ)) = some (v, σ')) :
    wpAny (model C.prog C.w) A (eval l env) (fun p s1 => wpAny (model C.prog C.w) A (eval x env) (fun q s2 => wpAny (model C.prog C.w) A (compareOp (Cop op) p q) (GvP C D X (· = env.locals) s v σ') (fun _ _ => False) s2) (fun _ _ => False) s1) (fun _ _ => False) s :=
  oP_c ev fun u σ1 e1 ev => oP_c ev fun w σ2 e2 ev => o1_c ev fun z e3 ev => sE ev fun hv hσ => hv ▸ hσ ▸ (hE h1 F I R e1).use fun p D1 s1 P1 V1 => wpAny_mono (tr_sound hE h2 (F.step I P1) P1.inv R e2) (fun q s2 t =>
    t.c (fun D2 P2 V2 => Gv.then (P1.trans P2) (cmpV_sound P2.inv R.room K.sys (V1.step P2 P1.inv F.hw).1 V2.1 e3)) fun D2 a P2 hp _ _ _ w => hp ▸ Gv.then (P1.trans P2) (w.c (fun _ _ x => cmpV_sound P2.inv R.room K.sys (V1.step P2 P1.inv F.hw).1 x e3) (fun _ _ x => cmpV_sound P2.inv R.room K.sys (V1.step P2 P1.inv F.hw).1 x e3) fun c fs hv _ => (cmpV_inst (hv ▸ e3)).elim)) fun _ _ f => f
theorem chkCmp_c {op : COp} {a b : M} {e : Expr} (h : chkE gt (k + 1) env.scope (.cmp op a b) e = true) (g : ∀ l x p, e = .Compare l [Cop op] [x] p → behindInMarks (Cop op) x = false → chkE gt k env.scope a l = true → chkE gt k env.scope b x = true → G) : G :=
  onCmp_c h fun l os rs p he h => on1_c h fun o ho h => on1_c h fun x hx h => b4 h fun h1 h2 h3 h4 => g l x p (by rw [he, ho, hx, of_decide_eq_true h1]) (of_decide_eq_true h1 ▸ bN h2) h3 h4
theorem SE_cmp (K : CfgOK C gt) (hE : SE C gt n) {op : COp} {a b : M} {e : Expr} (h : chkE gt (k + 1) env.scope (.cmp op a b) e = true) (F : FrE C env X0 O X r D s.heap) (I : Inv C D X σ s) (R : RoomN A n) (ev : stepE prg (run prg n) (.cmp op a b) r σ = some (v, σ')) : Gv C A D X (· = env.locals) s v σ' (eval e env) :=
  chkCmp_c h fun l x p he hb h1 h2 => he ▸ wpAny_Compare1 (cmp_tr K hE h1 h2 F I R ev) hb
theorem SE_attr (K : CfgOK C gt) (hE : SE C gt n) {a : M} {f : Nat} {e : Expr} (h : chkE gt (k + 1) env.scope (.attr a f) e = true) (F : FrE C env X0 O X r D s.heap) (I : Inv C D X σ s) (R : RoomN A n) (ev : stepE prg (run prg n) (.attr a f) r σ = some (v, σ')) : Gv C A D X (· = env.locals) s v σ' (eval e env) :=
  oP_c ev fun u σ1 e1 ev => wInst_c ev fun c fs l hu ev => o1_c ev fun z e2 ev => sE ev fun hv hσ => onAttr_c h fun o nme p he h => b4 h fun h1 h2 h3 h4 => by
    rw [he, of_decide_eq_true h1, ← hv, ← hσ]
    exact Attribute_eval h3 (wpAny_mono (tr_sound hE h4 F I R e1) (fun p s1 t => t.c (fun D1 P1 V => Gv.then P1 (attr_sound K P1.inv (Nat.blt_eq.mp h2) (hu ▸ V) e2)) fun D1 a P1 hp _ _ _ w => hp ▸ Gv.then P1 (attr_own K P1.inv (Nat.blt_eq.mp h2) (hu ▸ w) e2)) fun _ _ f => f)
theorem SE_idx (K : CfgOK C gt) (hE : SE C gt n) {a i : M} {e : Expr} (h : chkE gt (k + 1) env.scope (.idx a i) e = true) (F : FrE C env X0 O X r D s.heap) (I : Inv C D X σ s) (R : RoomN A n) (ev : stepE.bin (run prg n) r σ idxV a i = some (v, σ')) : Gv C A D X (· = env.locals) s v σ' (eval e env) :=
  bin_c ev fun u σ1 w e1 e2 e3 => onSub_c h fun x y p he h => b3 h fun h1 h2 h3 => he ▸ Subscript_ ((hE h2 F I R e1).use fun p D1 s1 P1 V1 => (hE h3 (F.step I P1) P1.inv R e2).use fun q D2 s2 P2 V2 => Gv.then (P1.trans P2) (idx_sound P2.inv R.room (V1.step P2 P1.inv F.hw).1 V2.1 e3 (subscripted_plain (bN h1) _ _)))
theorem uptoV_int {u w : V} (e : uptoV u w = some z) : ∃ i, w = .int i := by
  cases u with
  | str => exact wInt_c e fun i h _ => ⟨i, h⟩
  | list => exact wInt_c e fun i h _ => ⟨i, h⟩
  | _ => exact nn e
theorem SE_upto (hE : SE C gt n) {a u : M} {e : Expr} (h : chkE gt (k + 1) env.scope (.upto a u) e = true) (F : FrE C env X0 O X r D s.heap) (I : Inv C D X σ s) (R : RoomN A n) (ev : stepE.bin (run prg n) r σ uptoV a u = some (v, σ')) : Gv C A D X (· = env.locals) s v σ' (eval e env) :=
  bin_c ev fun u σ1 w e1 e2 e3 => onSub_c h fun x y p he h => onSlc_c h fun l y' t q hy h => b4 h fun h1 h2 h3 h4 => onSome_c h4 fun y2 hy2 h4 => (uptoV_int e3).elim fun i hi => by
    rw [he, hy, isNone_eq h1, isNone_eq h2, hy2]
    exact Subscript_ ((hE h3 F I R e1).use fun p D1 s1 P1 V1 => wpAny_Slice (evalPart_none_step (evalPart_some_step ((hE h4 (F.step I P1) P1.inv R e2).use fun q D2 s2 P2 V2 => evalPart_none_step ((hi ▸ V2.1 : VT C D2 X s2.heap (.int i) q).int_c fun t ht => ht ▸
      have P3 := Pst.push (W := (· = env.locals)) P2.inv { cls := .type "slice", data := .fields #[.none, .int i t, .none] }
      Gv.then ((P1.trans P2).trans P3) (upto_sound P3.inv ⟨_, Heap.get?_push_size _ rfl, rfl, rfl⟩ ((V1.step P2 P1.inv F.hw).step P3 P2.inv F.hw).1 (hi ▸ e3) rfl))))))
theorem SE_frm (hE : SE C gt n) {a u : M} {e : Expr} (h : chkE gt (k + 1) env.scope (.frm a u) e = true) (F : FrE C env X0 O X r D s.heap) (I : Inv C D X σ s) (R : RoomN A n) (ev : stepE.bin (run prg n) r σ frmV a u = some (v, σ')) : Gv C A D X (· = env.locals) s v σ' (eval e env) :=
  bin_c ev fun u σ1 w e1 e2 e3 => onSub_c h fun x y p he h => onSlc_c h fun y' l t q hy h => b4 h fun h1 h2 h3 h4 => onSome_c h4 fun y2 hy2 h4 => wStr_c e3 fun _ _ g => wInt_c g fun i hi _ => by
    rw [he, hy, isNone_eq h1, isNone_eq h2, hy2]
    exact Subscript_ ((hE h3 F I R e1).use fun p D1 s1 P1 V1 => wpAny_Slice (evalPart_some_step ((hE h4 (F.step I P1) P1.inv R e2).use fun q D2 s2 P2 V2 => evalPart_none_step (evalPart_none_step ((hi ▸ V2.1 : VT C D2 X s2.heap (.int i) q).int_c fun t ht => ht ▸
      have P3 := Pst.push (W := (· = env.locals)) P2.inv { cls := .type "slice", data := .fields #[.int i t, .none, .none] }
      Gv.then ((P1.trans P2).trans P3) (frm_sound P3.inv ⟨_, Heap.get?_push_size _ rfl, rfl, rfl⟩ ((V1.step P2 P1.inv F.hw).step P3 P2.inv F.hw).1 (hi ▸ e3) rfl))))))
theorem SE_step (K : MakeOK C gt) (hE : SE C gt n) (hT : ST C gt n) (hC : SC C n) (hF : SF C n) (hI : SI C n) : SE C gt (n + 1) := by
  intro k m e env A D X0 O X σ σ' s r v h F I R' ev
  have R : RoomN A n := R'.less (Nat.le_succ n)
  have ev : stepE prg (run prg n) m r σ = some (v, σ') := ev
  cases k with
  | zero => exact ff h
  | succ k =>
  cases m with
  | cst u => exact sE ev fun hv hσ => hv ▸ hσ ▸ SE_cst K.toCfgOK h F I
  | var x => exact SE_var h F I ev
  | tup es => exact SE_tup hE h F I R ev
  | lst es => exact SE_lst hE h F I R ev
  | add a b => exact onBin_c h fun l op x p he h => b3 h fun h1 h2 h3 => he ▸ of_decide_eq_true h1 ▸ SE_bin hE R h2 h3 F I add_sound ev
  | mul a b => exact onBin_c h fun l op x p he h => b3 h fun h1 h2 h3 => he ▸ of_decide_eq_true h1 ▸ SE_bin hE R h2 h3 F I mul_sound ev
  | fdiv a b => exact onBin_c h fun l op x p he h => b3 h fun h1 h2 h3 => he ▸ of_decide_eq_true h1 ▸ SE_bin hE R h2 h3 F I fdiv_sound ev
  | fmod a b => exact onBin_c h fun l op x p he h => b3 h fun h1 h2 h3 => he ▸ of_decide_eq_true h1 ▸ SE_bin hE R h2 h3 F I fmod_sound ev
  | neg a => exact SE_neg hE h F I R ev
  | cmp op a b => exact SE_cmp K.toCfgOK hE h F I R ev
  | not a => exact SE_not hE h F I R ev
  | and es => exact onBool_c h fun op l p he h => he ▸ of_decide_eq_true (bL h) ▸ and_val hE (bR h) F I R ev
  | or es => exact onBool_c h fun op l p he h => he ▸ of_decide_eq_true (bL h) ▸ or_val hE (bR h) F I R ev
  | ite c a b => exact SE_ite hE hT h F I R ev
  | attr a f => exact SE_attr K.toCfgOK hE h F I R ev
  | idx a i => exact SE_idx K.toCfgOK hE h F I R ev
  | upto a u => exact SE_upto hE h F I R ev
  | frm a l => exact SE_frm hE h F I R ev
  | comp elt x it cs => exact SE_comp K.toCfgOK hE hT h F I R ev
  | dcomp kk vv x it => exact SE_dcomp K.toCfgOK hE h F I R ev
  | call f as => exact SE_call K.toCfgOK hE hC h F I R ev
  | meth a m as => exact SE_meth K.toCfgOK hE hC h F I R ev
  | form as => exact SE_form K.toCfgOK hE hF K.form K.formK h F I R ev
  | iset a => exact SE_iset K.toCfgOK hE hI K.iset K.isetK h F I R' ev
  | «bif» b a => exact SE_bif K.toCfgOK hE h F I R ev
  | split a b => exact SE_split hE h F I R ev
  | lstrip a b => exact SE_lstrip hE h F I R ev
  | get d kk z => exact SE_get K.toCfgOK hE h F I R ev
  | bad => exact nn ev
end
end Mine
namespace Mine
noncomputable def plainE : Expr → Bool
  | .UnaryOp .Not _ _ => false
  | .BoolOp _ _ _ => false
  | .IfExp _ _ _ _ => false
  | .Compare _ _ _ _ => false
  | _ => true
theorem plain_head {e : Expr} {env : Env} (h : plainE e = true) :
    isTrue e env (eval e env) = (do let v ← eval e env; standAt e.pos; holding [v] (truthy v)) := by
  cases e with
  | UnaryOp op x p => cases op <;> first | rfl | exact ff h
  | BoolOp => exact ff h
  | IfExp => exact ff h
  | Compare => exact ff h
  | _ => rfl
section
variable {C : Cfg} {gt : List (Str × List Nat)} {n : Nat}
theorem isTrue_cmp {prog : Program} {w : World} {A : Around} {E : Value → Shared → Prop} {s : Shared} {env : Env} {l r : Expr} {op : CmpOp} {pos : Pos} {whole : Sem Value} {Q : Bool → Shared → Prop} (hb : behindInMarks op r = false)
    (h : wpAny (model prog w) A (eval l env) (fun a s₁ => wpAny (model prog w) A (eval r env) (fun b s₂ => wpAny (model prog w) A (compareOp op a b) (fun c s₃ => wpAny (model prog w) A (truthy c) Q E s₃) E s₂) E s₁) E s) :
    wpAny (model prog w) A (isTrue (.Compare l [op] [r] pos) env whole) Q E s := by
  rw [arm_isTrue_Compare]
  have e : markedEach [op] [r] (evalEach [r] env) = [eval r env] := by
    show [markedBehindIn op r (eval r env)] = _
    unfold markedBehindIn
    rw [hb]
  rw [e]
  refine wpAny_bind (wpAny_mono h (fun a s₁ h₁ => ?_) fun _ _ x => x)
  refine wpAny_bind (wpAny_holding (wpAny_mono h₁ (fun b s₂ h₂ => wpAny_bind (wpAny_standAt (wpAny_bind (wpAny_operating (wpAny_mono h₂ (fun c s₃ h₃ => wpAny_holding h₃) fun _ _ x => x))))) fun _ _ x => x))
theorem ST_step (K : MakeOK C gt) (hE : SE C gt n) (hT : ST C gt n) (hE' : SE C gt (n + 1)) : ST C gt (n + 1) := by
  intro k m e env A D X0 O X σ σ' s r b h F I R' ev
  have R : RoomN A n := R'.less (Nat.le_succ n)
  have plainR : plainE e = true → Gb C A D X (· = env.locals) s b σ' (isTrue e env (eval e env)) := fun hh => isTrue_bool (hE' h F I R' ev) (plain_head hh)
  have ev : stepE prg (run prg n) m r σ = some (.bool b, σ') := ev
  cases k with
  | zero => exact ff h
  | succ k =>
  have fn : ∀ {F}, onFn e F = true → plainE e = true := fun h => onFn_c h fun _ _ _ _ he _ => he ▸ rfl
  have mt : ∀ {F}, onMeth e F = true → plainE e = true := fun h => onMeth_c h fun _ _ _ _ _ he _ => he ▸ rfl
  have bn : ∀ {F}, onBin e F = true → plainE e = true := fun h => onBin_c h fun _ _ _ _ he _ => he ▸ rfl
  have sb : ∀ {F}, onSub e F = true → plainE e = true := fun h => onSub_c h fun _ _ _ he _ => he ▸ rfl
  have nmE : ∀ {F}, onName e F = true → plainE e = true := fun h => onName_c h fun _ _ he _ => he ▸ rfl
  cases m with
  | not a => exact oP_c ev fun u σ1 e1 ev => wBool_c ev fun c hc ev => sE ev fun hv hσ => onUn_c h fun op x p he h => he ▸ of_decide_eq_true (bL h) ▸ bool_inj hv ▸ hσ ▸ isTrue_not ((hT (bR h) F I R (hc ▸ e1)).use fun D1 s1 P1 => ⟨rfl, D1, P1⟩)
  | and es => exact onBool_c h fun op l p he h => he ▸ of_decide_eq_true (bL h) ▸ and_test hT (bR h) F I R ev
  | or es => exact onBool_c h fun op l p he h => he ▸ of_decide_eq_true (bL h) ▸ or_test hT (bR h) F I R ev
  | ite c a d =>
    exact onIte_c h fun t x y p he h => b3 h fun h1 h2 h3 => he ▸ oB_c ev (fun σ1 e1 ev => isTrue_IfExp ((hT h1 F I R e1).use fun D1 s1 P1 => Gb.then P1 (hT h2 (F.step I P1) P1.inv R ev)))
      fun σ1 e1 ev => isTrue_IfExp ((hT h1 F I R e1).use fun D1 s1 P1 => Gb.then P1 (hT h3 (F.step I P1) P1.inv R ev))
  | cmp op a c =>
    exact chkCmp_c h fun l x p he hb h1 h2 => he ▸ isTrue_cmp hb (wpAny_mono (cmp_tr K.toCfgOK hE h1 h2 F I R ev) (fun p s1 h1 => wpAny_mono h1 (fun q s2 h2 => wpAny_mono h2 (fun c s3 x => x.c fun D3 P V => truthy_of V ▸ wpAny_truthy_bool ⟨rfl, D3, P⟩) fun _ _ f => f) fun _ _ f => f) fun _ _ f => f)
  | neg a => exact plainR (onUn_c h fun op x p he h => he ▸ of_decide_eq_true (bL h) ▸ rfl)
  | bad => exact nn ev
  | cst u => exact plainR ((Bool.or_eq_true_iff.mp h).elim (fun h => onCst_c h fun _ _ _ he _ => he ▸ rfl) nmE)
  | var x => exact plainR (nmE h)
  | tup es => exact plainR (onTup_c h fun _ _ _ he _ => he ▸ rfl)
  | lst es => exact plainR (onLst_c h fun _ _ he _ => he ▸ rfl)
  | add => exact plainR (bn h)
  | mul => exact plainR (bn h)
  | fdiv => exact plainR (bn h)
  | fmod => exact plainR (bn h)
  | attr => exact plainR (onAttr_c h fun _ _ _ he _ => he ▸ rfl)
  | idx => exact plainR (sb h)
  | upto => exact plainR (sb h)
  | frm => exact plainR (sb h)
  | comp => exact plainR (onLC_c h fun _ _ _ _ he _ => he ▸ rfl)
  | dcomp => exact plainR (onDC_c h fun _ _ _ _ _ he _ => he ▸ rfl)
  | call => exact plainR (fn h)
  | form => exact plainR (fn h)
  | iset => exact plainR (fn h)
  | «bif» => exact plainR (fn h)
  | meth => exact plainR (mt h)
  | split => exact plainR (mt h)
  | lstrip => exact plainR (mt h)
  | get => exact plainR (mt h)
end
end Mine
namespace Mine
section
variable {C : Cfg} {gt : List (Str × List Nat)} {A : Around} {D D' D1 D2 : List FR} {X X' X0 X1 X2 O O' O1 O2 W : Addr → Prop} {σ σ' σ1 σ2 : Nums} {s s' s1 s2 : Shared} {env : Env} {r r' : Rho} {v : V} {p : Value} {n k : Nat} {pos : Pos}
theorem Mono.same {h : Heap} : Mono D X h D X h := ⟨fun _ _ e => e, fun _ _ _ e => e, fun _ _ h _ => h, fun _ _ _ h => h⟩
theorem Mono.trans {h h1 h2 : Heap} (a : Mono D X h D1 X1 h1) (b : Mono D1 X1 h1 D2 X2 h2) : Mono D X h D2 X2 h2 :=
  ⟨fun l r e => b.get l r (a.get l r e), fun z o h e => b.keep z o (a.ok z o h e) (a.keep z o h e), fun z o h e => b.ok z o (a.ok z o h e) (a.keep z o h e), fun l r e h => b.okf l r (a.get l r e) (a.okf l r e h)⟩
theorem IsetB.growO {h : Heap} {vs : List V} {f f' : Nat} {E E' : List (V × V)} {a dx L : Addr} {es : List DictEntry} {ep : Nat} {T : Addr → Nat} {b b' : Addr} {lf : Value} (y : IsetB C D X O L h vs f f' E E' a dx es ep T b b' lf) (ho : ∀ b, O b → O' b) : IsetB C D X O' L h vs f f' E E' a dx es ep T b b' lf :=
  have i : ∀ {z}, InO X O L z → InO X O' L z := fun h => ⟨h.1, ho _ h.2.1, h.2.2⟩
  have sd : ∀ {f b E}, SideAt C D X O L h dx es T f b E → SideAt C D X O' L h dx es T f b E := fun s => by
    cases s with
    | mk g o nd d => exact ⟨g, i o, nd, d.keep Mono.same (fun a it n q e => ⟨⟨i q.1, q.2⟩, e⟩) fun o' e => e⟩
  ⟨y.e1, y.e2, i y.o, y.mt, y.l, y.lv, sd y.s1, sd y.s2, y.ne, y.hp⟩
theorem OwnR.growO {h : Heap} {a L : Addr} (y : OwnR C D X O L h v a) (ho : ∀ b, O b → O' b) : OwnR C D X O' L h v a := by
  cases y with
  | lst e r => exact .lst e r
  | dct e => exact .dct e
  | form e e2 hx h0 hL hne sm sh rr hp => exact .form e e2 hx (ho _ h0) hL hne sm sh rr hp
  | pre e e2 o hp => exact .pre e e2 ⟨o.1, ho _ o.2.1, o.2.2⟩ hp
  | iset m =>
    cases m with
    | mk dx es ep T b b' lf B => exact .iset ⟨dx, es, ep, T, b, b', lf, B.growO ho⟩
theorem FrE.growO {h : Heap} (F : FrE C env X0 O X r D h) (ho : ∀ b, O b → O' b) : FrE C env X0 O' X r D h :=
  ⟨F.kind, F.glob, F.bltn, F.locX, F.ns, F.celX, F.apart, F.hasC, F.get, fun y v e => by
    cases F.own y v e with
    | mk h1 h0 h2 a h3 h4 h5 h6 h7 h8 => exact ⟨h1, h0, h2, a, h3, h4, ho _ h5, h6, h7, h8.growO ho⟩⟩
theorem StP.trans (a : StP C X O D s X1 O1 D1 σ1 s1) (b : StP C X1 O1 D1 s1 X2 O2 D2 σ2 s2) : StP C X O D s X2 O2 D2 σ2 s2 :=
  ⟨same_trans a.same b.same, a.ext.trans b.ext a.og, fun x hx => (b.og x hx).elim (a.og x) fun h => .inr (a.ext.fresh h), fun x hx => (b.xg x hx).elim (a.xg x) fun h => .inr (a.ext.fresh h), fun x hx => b.xx x (a.xx x hx), fun x hx => b.oo x (a.oo x hx), b.inv⟩
theorem StP.of_chg (c : Chg C D X W s D1 σ1 s1) (hw : ∀ b, W b → O b) : StP C X O D s X O D1 σ1 s1 :=
  ⟨c.same, c.ext.weak fun b hb => .inl (hw b hb), fun _ h => .inl h, fun _ h => .inl h, fun _ h => h, fun _ h => h, c.inv⟩
theorem StP.of_pst (P : Pst C D X (· = env.locals) s D1 σ1 s1) (S : FrS env X0 O X) : StP C X O D s X O D1 σ1 s1 := .of_chg P.chg fun b hb => hb ▸ S.oL
theorem SsP.post {fl : Fl} {f : Flow} (a : StP C X O D s X1 O1 D1 σ1 s1) (b : SsP C env X0 X1 O1 D1 s1 fl σ' f s') : SsP C env X0 X O D s fl σ' f s' := b.c fun X' O' D' p q => ⟨X', O', D', a.trans p, q⟩
theorem SsP.next (P : StP C X O D s X1 O1 D1 σ1 s1) (F : FrE C env X0 O1 X1 r D1 s1.heap) (S : FrS env X0 O1 X1) : SsP C env X0 X O D s (.next r) σ1 .next s1 := ⟨X1, O1, D1, P, F, S⟩
theorem set_stm {x : Nat} (F : FrE C env X0 O X r D s.heap) (S : FrS env X0 O X) (I : Inv C D X σ s) (hx : x < 74) (hk : env.kindOf (nm x) = some .local ∨ env.kindOf (nm x) = some .cell) (hv : VR C D X s.heap v p) {Q : Unit → Shared → Prop} {E : Value → Shared → Prop}
    (q : ∀ s', StP C X O D s X O D σ s' → FrE C env X0 O X (r.set x v) D s'.heap → Q () s') : wpAny (model C.prog C.w) A (storeName env (nm x) p) Q E s :=
  store_set F I S.oX hx (hk.imp (fun h => ⟨h, S.oL⟩) fun h => ⟨h, (F.hasC _ (.inl h)).elim fun c hc => ⟨c, hc, S.oC _ _ hc⟩⟩) hv fun s' c F' _ => q s' (.of_chg c fun _ h => h) F'
noncomputable def isComp (e : Expr) : Prop := match e with
  | .ListComp _ _ _ _ => True | .SetComp _ _ _ _ => True | .DictComp _ _ _ _ _ => True | _ => False
theorem swaps_pure (value : Expr) (t : Str) (tp : Pos) (line : Nat) (env : Env) : ∃ b, swapsWith value (some (.Name t tp)) line env = pure b ∧ (b = true → isComp value) := by
  cases value with
  | ListComp => exact ⟨_, rfl, fun _ => trivial⟩
  | SetComp => exact ⟨_, rfl, fun _ => trivial⟩
  | DictComp => exact ⟨_, rfl, fun _ => trivial⟩
  | _ => exact ⟨false, rfl, fun h => ff h⟩
theorem Ns_keep {h h' : Heap} {L : Addr} {m : Str → Option Value} (hm : h.Ns L m) (k : ∀ o, h.get? L = some o → h'.get? L = some o) : h'.Ns L m := hm.elim fun o e => e.elim fun es e => e.elim fun ep e => ⟨o, es, ep, k o e.1, e.2⟩
theorem comp_named {a L : Addr} {x : Nat} {px : Pos} {Q : Value → Shared → Prop} {E : Value → Shared → Prop} (F : FrE C env X0 O X r D1 s1.heap) (S : FrS env X0 O X) (I : Inv C D1 X σ1 s1) (hx : x < 74) (hk : env.kindOf (nm x) = some .local ∨ env.kindOf (nm x) = some .cell)
    (af : Aft C D1 X (· = env.locals) s1 L D2 σ' s2) (ha : s1.heap.get? a = none) (hL : L ≠ a) (hd : ∀ r ∈ D2, r.dx ≠ a) (vt : VT C D2 (fun b => X b ∨ b = L) s2.heap v (.ref a))
    (q : ∀ s', StP C X O D1 s1 X O D2 σ' s' → FrE C env X0 O X (r.set x v) D2 s'.heap → Q .none s') :
    compPost (model C.prog C.w) A E (some (assign (.Name (nm x) px) env)) Q (.ref a) L (.ok .next) s2 := by
  have hXL : ∀ b, X b → b ≠ L := fun b hb e => (I.Xlt b hb).elim fun o g => not_none g (e ▸ af.frL)
  have hOL : ∀ b, O b → b ≠ L := fun b hb => hXL b (S.oX b hb)
  have m12 : Mono D1 X s1.heap D2 (fun b => X b ∨ b = L) s2.heap := af.ext.mono I.fat (fun b hb => .inl (hb ▸ F.locX)) fun b hb => hb.elim .inl fun e => .inr (e ▸ af.frL)
  have F2 : FrE C env X0 O (fun b => X b ∨ b = L) r D2 s2.heap := F.calm (Z := Nope) ⟨fun m h => af.ns _ rfl m h, fun b o hb _ hne hd e => af.ext.keep b o e hd hne⟩ (fun _ _ _ f => f) (fun _ _ f => f) (fun f => f) m12 I.dxX fun _ h _ => .inl h
  refine wpAny_assign_Name (set_stm F2 ⟨fun b h => .inl (S.oX b h), S.oL, S.oC, fun b h => .inl (S.x0 b h)⟩ af.inv hx hk ⟨vt, .ref ⟨fun h => h.elim (fun h => (I.Xlt a h).elim fun o e => not_none e ha) fun h => hL h.symm, hd⟩⟩ fun s3 P3 F3 => af.nsL.elim fun m hm =>
    ⟨m, Ns_keep hm fun o e => P3.ext.keep _ _ e (fun r hr e2 => af.inv.dxX r hr (.inr e2)) fun h => hOL _ h rfl, fun h' hs => ?_⟩)
  have kk : ∀ b o, s3.heap.get? b = some o → ¬ b = L → h'.get? b = some o := fun b o e hb => (hs.2 b hb).trans e
  have J := P3.inv.drop (s' := { s3 with heap := h' }) (X := X) (Z := fun b => b = L) (fun b h => .inr h) (fun b h => ⟨.inl h, hXL b h⟩) kk
  have F4 : FrE C env X0 O X (r.set x v) D2 h' := F3.calm (Z := fun b => b = L) ⟨fun m h => h.sameBut hs (hOL _ S.oL), fun b o _ hz _ _ e => kk b o e hz⟩ (fun n c e => hOL _ (S.oC n c e)) hOL (hOL _ S.oL) J.2 P3.inv.dxX fun b h hz => h.elim id fun e => absurd e hz
  have e12 : Ext O D1 s1.heap D2 s3.heap := (af.ext.weak (W' := O) fun b hb => .inl (hb ▸ S.oL)).trans P3.ext fun b hb => .inl hb
  have low : ∀ {b o}, s1.heap.get? b = some o → ¬ b = L := fun e eb => not_none e (eb ▸ af.frL)
  exact q _ ⟨(same_trans af.same P3.same).elim fun h3 e => e.elim fun t3 e => ⟨h', t3, e ▸ rfl⟩, ⟨fun b o e => (e12.alive b o e).elim fun o' e' => ⟨o', kk _ _ e' (low e)⟩, e12.grow, fun b o e hd ho => kk _ _ (e12.keep b o e hd ho) (low e)⟩, fun _ h => .inl h, fun _ h => .inl h, fun _ h => h, fun _ h => h, J.1⟩ F4
theorem LC_c {m : M} {a : Expr} {g : List Comprehension} {c sc : Scope} {q : Pos} {Rr : Rn} {z : V × Nums} {G : Prop} (h : chkE gt (k + 1) sc m (.ListComp a g c q) = true) (ev : stepE prg Rr m r σ = some z) (kk : ∀ elt x it cs, m = .comp elt x it cs → G) : G := by
  cases m with
  | comp elt x it cs => exact kk elt x it cs rfl
  | bad => exact nn ev
  | _ => exact ff h
theorem DC_c {m : M} {a b : Expr} {g : List Comprehension} {c sc : Scope} {q : Pos} {Rr : Rn} {z : V × Nums} {G : Prop} (h : chkE gt (k + 1) sc m (.DictComp a b g c q) = true) (ev : stepE prg Rr m r σ = some z) (kk : ∀ key val x it, m = .dcomp key val x it → G) : G := by
  cases m with
  | dcomp a b x it => exact kk a b x it rfl
  | bad => exact nn ev
  | _ => exact ff h
theorem LC_h {elt it : M} {y : Nat} {cs : List M} {elt' : Expr} {gens : List Comprehension} {csc sc : Scope} {q : Pos} (h : chkE gt (k + 1) sc (.comp elt y it cs) (.ListComp elt' gens csc q) = true) :
    onGen gens (fun id iter ifs => decide (id = nm y) && compOk csc sc y && notSet iter && chkE gt k sc it iter && chkAll (chkE gt k (relS csc sc)) cs ifs && chkE gt k (relS csc sc) elt elt') = true := h
theorem DC_h {key val it : M} {y : Nat} {kx vx : Expr} {gens : List Comprehension} {csc sc : Scope} {q : Pos} (h : chkE gt (k + 1) sc (.dcomp key val y it) (.DictComp kx vx gens csc q) = true) :
    onGen gens (fun id iter ifs => ifs.isEmpty && (decide (id = nm y) && compOk csc sc y && notSet iter && chkE gt k sc it iter && chkE gt k (relS csc sc) key kx && chkE gt k (relS csc sc) val vx)) = true := h
theorem SC_c {m : M} {a : Expr} {g : List Comprehension} {c sc : Scope} {q : Pos} {Rr : Rn} {z : V × Nums} {G : Prop} (h : chkE gt (k + 1) sc m (.SetComp a g c q) = true) (ev : stepE prg Rr m r σ = some z) : G := by
  cases m with
  | bad => exact nn ev
  | _ => exact ff h
theorem stm_asg (K : MakeOK C gt) (hE : SE C gt n) (hP : ∀ n', n = n' + 1 → SE C gt n' ∧ ST C gt n') {x : Nat} {m : M} {e : Expr} {tp : Pos} {id : Str} (h1 : stoName env.scope x id = true) (h2 : chkE gt k env.scope m e = true)
    (F : FrE C env X0 O X r D s.heap) (S : FrS env X0 O X) (I : Inv C D X σ s) (R : RoomN A n) (ev : (run prg n).e m r σ = some (v, σ')) :
    wpAny (model C.prog C.w) A (exec (.Assign [.Name id tp] e pos) env) (SsP C env X0 X O D s (.next (r.set x v)) σ') (fun _ _ => False) s := by
  have g := stoName_sto h1
  rw [g.2.1]
  obtain ⟨b, hb, hc⟩ := swaps_pure e (nm x) tp pos.line env
  cases b with
  | false => exact wpAny_Assign_Name ((hE h2 F I R ev).use fun p D1 s1 P1 V1 => set_stm (F.step I P1) S P1.inv g.1 g.2.2 V1 fun s2 P2 F2 => .next ((StP.of_pst P1 S).trans P2) F2 S) hb
  | true =>
    have hc := hc rfl
    rw [exec_Assign_Name_used _ _ _ _ hb]
    refine wpAny_bind (wpAny_standAt ?_)
    cases n with
    | zero => exact nn ev
    | succ n' =>
      have R' : RoomN A n' := R.less (Nat.le_succ _)
      have ev : stepE prg (run prg n') m r σ = some (v, σ') := ev
      cases k with
      | zero => exact ff h2
      | succ k =>
      cases e with
      | ListComp elt' gens csc lpos =>
        exact LC_c h2 ev fun elt y it cs hm => oP_c (show stepE prg (run prg n') (.comp elt y it cs) r σ = some (v, σ') from hm ▸ ev) fun vi σ1 q1 ev => o1_c ev fun vs q2 ev => oP_c ev fun us σ2 q3 ev => sE ev fun hv hσ =>
          onGen_c (LC_h (hm ▸ h2)) fun id px iter ifs hg h => b6 h fun g1 g2 g3 g4 g5 g6 => by
            rw [hg, of_decide_eq_true g1, ← hv, ← hσ]
            exact wpAny_bind (wpAny_bind (comp_run K.toCfgOK (hP n' rfl).1 (hP n' rfl).2 R' g2 g3 g4 g6 g5 F I q1 q2 q3 fun D1 s1 P1 a L D2 s2 af ha hL hd vt => comp_named (F.step I P1) S P1.inv g.1 g.2.2 af ha hL hd vt fun s3 P3 F3 => wpAny_pure (wpAny_pure (.next ((StP.of_pst P1 S).trans P3) F3 S))))
      | DictComp kx vx gens csc lpos =>
        exact DC_c h2 ev fun key val y it hm => oP_c (show stepE prg (run prg n') (.dcomp key val y it) r σ = some (v, σ') from hm ▸ ev) fun vi σ1 q1 ev => o1_c ev fun vs q2 ev => oP_c ev fun us σ2 q3 ev => sE ev fun hv hσ =>
          onGen_c (DC_h (hm ▸ h2)) fun id px iter ifs hg h => b6 (bR h) fun g1 g2 g3 g4 g5 g6 => by
            rw [hg, isEmpty_eq (bL h), of_decide_eq_true g1, ← hv, ← hσ]
            exact wpAny_bind (wpAny_bind (dcomp_run K.toCfgOK (hP n' rfl).1 R' g2 g3 g4 g5 g6 F I q1 q2 q3 fun D1 s1 P1 a L D2 s2 af ha hL hd vt => comp_named (F.step I P1) S P1.inv g.1 g.2.2 af ha hL hd vt fun s3 P3 F3 => wpAny_pure (wpAny_pure (.next ((StP.of_pst P1 S).trans P3) F3 S))))
      | SetComp => exact SC_c h2 ev
      | _ => exact hc.elim
end
end Mine
namespace Mine
theorem isStr_one {k : Value} {a b : Str} (h1 : k.isStr a = true) (h2 : k.isStr b = true) : a = b := by
  cases k with
  | str s t =>
    have h1 : (s == a) = true := h1
    have h2 : (s == b) = true := h2
    rw [← beq_iff_eq.mp h1, beq_iff_eq.mp h2]
  | _ => cases h1
theorem isStr_refl (f : Str) (t : Tok) : (Value.str f t).isStr f = true := beq_self_eq_true f
theorem isStr_ne {f g : Str} {k : Value} (hne : g ≠ f) (h : k.isStr f = true) : k.isStr g = false := by
  cases hq : k.isStr g with
  | false => rfl
  | true => exact absurd (isStr_one hq h) hne
theorem putL_t {f : Str} {h : Int} {k v : Value} {e : DictEntry} {r : List DictEntry} (he : e.key.isStr f = true) : putL f h k v (e :: r) = { e with val := v } :: r := if_pos he
theorem putL_f {f : Str} {h : Int} {k v : Value} {e : DictEntry} {r : List DictEntry} (he : e.key.isStr f = false) : putL f h k v (e :: r) = e :: putL f h k v r := if_neg (ne_true_of_eq_false he)
theorem find_put_same (f : Str) (h : Int) (t : Tok) (v : Value) (es : List DictEntry) : ∃ e, (putL f h (.str f t) v es).find? (fun x => x.key.isStr f) = some e ∧ e.val = v := by
  induction es with
  | nil => exact ⟨_, List.find?_cons_of_pos (isStr_refl f t), rfl⟩
  | cons e r ih =>
    cases he : e.key.isStr f with
    | true => rw [putL_t he]; exact ⟨_, List.find?_cons_of_pos he, rfl⟩
    | false => rw [putL_f he, List.find?_cons_of_neg (p := fun x : DictEntry => x.key.isStr f) (ne_true_of_eq_false he)]; exact ih
theorem getL_put_same (f : Str) (h : Int) (t : Tok) (v : Value) (es : List DictEntry) : getL f (putL f h (.str f t) v es) = some (some v) :=
  (find_put_same f h t v es).elim fun e he => by unfold getL; rw [he.1, ← he.2]
theorem find_put {f g : Str} (hne : g ≠ f) (h : Int) (t : Tok) (v : Value) (es : List DictEntry) : (putL f h (.str f t) v es).find? (fun x => x.key.isStr g) = es.find? (fun x => x.key.isStr g) ∧ (putL f h (.str f t) v es).any (fun x => x.refKey) = es.any (fun x => x.refKey) := by
  induction es with
  | nil => exact ⟨List.find?_cons_of_neg (ne_true_of_eq_false (isStr_ne hne (isStr_refl f t))), rfl⟩
  | cons e r ih =>
    cases he : e.key.isStr f with
    | true =>
      rw [putL_t he]
      exact ⟨(List.find?_cons_of_neg (p := fun x : DictEntry => x.key.isStr g) (a := { e with val := v }) (ne_true_of_eq_false (isStr_ne hne he))).trans (List.find?_cons_of_neg (p := fun x : DictEntry => x.key.isStr g) (ne_true_of_eq_false (isStr_ne hne he))).symm, rfl⟩
    | false => rw [putL_f he, List.find?_cons, List.find?_cons, ih.1, List.any_cons, List.any_cons, ih.2]; exact ⟨rfl, rfl⟩
theorem getL_put_other {f g : Str} (hne : g ≠ f) (h : Int) (t : Tok) (v : Value) (es : List DictEntry) : getL g (putL f h (.str f t) v es) = getL g es := by
  unfold getL
  rw [(find_put hne h t v es).1, (find_put hne h t v es).2]
theorem putL_len (f : Str) (h : Int) (k v : Value) (es : List DictEntry) : (putL f h k v es).length = if es.any (fun x => x.key.isStr f) then es.length else es.length + 1 := by
  induction es with
  | nil => rfl
  | cons e r ih =>
    rw [List.any_cons]
    cases he : e.key.isStr f with
    | true => rw [putL_t he]; rfl
    | false =>
      rw [putL_f he, List.length_cons, ih, Bool.false_or]
      cases r.any fun x => x.key.isStr f <;> rfl
section
variable {C : Cfg} {gt : List (Str × List Nat)} {A : Around} {D D' D1 D2 : List FR} {X X' X0 X1 X2 O O' O1 O2 W : Addr → Prop} {σ σ' σ1 σ2 : Nums} {s s' s1 s2 : Shared} {env : Env} {r r' : Rho} {v : V} {p : Value} {n k : Nat} {pos : Pos}
structure SetR (h : Heap) (L dx : Addr) (m : Str → Option Value) (es : List DictEntry) (f : Nat) (p : Value) (h' : Heap) (es' : List DictEntry) (ep' : Nat) : Prop where
  keep : ∀ b o, h.get? b = some o → b ≠ L → b ≠ dx → h'.get? b = some o
  ns : h'.Ns L m
  at' : h'.get? dx = some (dictOf es' ep')
  got : getL (nm f) es' = some (some p)
  rest : ∀ g, g ≠ nm f → getL g es' = getL g es
  len : es'.length = (if es.any (fun x => x.key.isStr (nm f)) then es.length else es.length + 1)
theorem setAttr_raw {a dx c L : Addr} {es : List DictEntry} {ep f : Nat} {m : Str → Option Value} (KK : C.K.In s.heap) (hs : findIn C.K (.ref c) "__setattr__" = some (some (.builtin "object.__setattr__"))) (hp : plainOver C.K c = true) (ht : takerIn C.K c (nm f) = some none) (hd : hasDictIn C.K c = true)
    (hL : s.heap.Ns L m) (hne : dx ≠ L) (e1 : s.heap.get? a = some (instObj c dx)) (e2 : s.heap.get? dx = some (dictOf es ep)) (hk : (getL (nm f) es).isSome = true) (hz : es.length ≤ 900)
    {Q : Unit → Shared → Prop} {E : Value → Shared → Prop}
    (q : ∀ h' es' ep', SetR s.heap L dx m es f p h' es' ep' → Q () { s with heap := h', toks := s.toks + 2 }) : wpAny (model C.prog C.w) A (setAttr (.ref a) (nm f) p) Q E s := by
  have I : InstAt s.heap a (instObj c dx) c (some (dictOf es ep)) := ⟨e1, rfl, rfl, e2⟩
  have F : Fr ⟨#[], {}⟩ L s.heap m := ⟨hL, fun b o e => nn e, Nat.zero_le _⟩
  have N : News ⟨#[], {}⟩ L s.heap ([] ++ (dx, dictOf es ep) :: (newsOf s.heap L).filter fun p => !(decide (p.1 = dx))) := fun p hp => (List.mem_cons.mp hp).elim (fun h => h ▸ ⟨e2, hne, rfl⟩) fun hp => newsOf_news p (List.mem_filter.mp hp).1
  have hin : ∀ b o, s.heap.get? b = some o → b ≠ L → b ≠ dx → (b, o) ∈ (newsOf s.heap L).filter fun p => !(decide (p.1 = dx)) := fun b o e hb hb2 => List.mem_filter.mpr ⟨newsOf_in e hb, by rw [decide_eq_false hb2]; rfl⟩
  refine set_plain KK I hs ?_
  refine osa_dict (s := { s with toks := s.toks + 1 }) F N KK I rfl hp ht hd hk (fun _ h => nomatch h) (fun p hp => of_decide_eq_false (bN (List.mem_filter.mp hp).2)) rfl (show Obj.data (Obj.putName _ _ _ _ _) = _ by rw [putName_dict]) ?_ fun h' F' N' => ?_
  · rw [putL_len]; split <;> omega
  · rw [putName_dict] at N'
    exact q h' _ _ ⟨fun b o e hb hb2 => (N' (b, o) (List.mem_cons_of_mem _ (hin b o e hb hb2))).1, F'.ns, (N' _ List.mem_cons_self).1, getL_put_same _ _ _ _ _, fun g hg => getL_put_other hg _ _ _ _, putL_len _ _ _ _ _⟩
theorem FS.same {h : Heap} {od od' : Obj} {f : Nat} (ho : ∀ g, g < 74 → g ≠ f → lookIn (nm g) od' = lookIn (nm g) od) {fs : List (Nat × V)} (x : FS C D X h fs od) : (∀ e ∈ fs, e.1 < 74) → f ∉ fs.map (·.1) → FS C D X h fs od' :=
  x.ind (M := fun (fs : List (Nat × V)) => (∀ e ∈ fs, e.1 < 74) → f ∉ fs.map (fun e : Nat × V => e.1) → FS C D X h fs od') (fun _ _ => .nil) fun y p fs e a k r ih hl hn => .cons ((ho _ (hl _ List.mem_cons_self) fun e => hn (e ▸ List.mem_cons_self)).trans e) a k (ih (fun e he => hl e (List.mem_cons_of_mem _ he)) fun hm => hn (List.mem_cons_of_mem _ hm))
theorem FS.put {h : Heap} {od od' : Obj} {f : Nat} (hf : f < 74) (ho : ∀ g, g < 74 → g ≠ f → lookIn (nm g) od' = lookIn (nm g) od) (hs : lookIn (nm f) od' = some (some p)) (hv : VR C D X h v p) {fs : List (Nat × V)} (x : FS C D X h fs od) : (∀ e ∈ fs, e.1 < 74) → (fs.map (·.1)).Nodup → FS C D X h (fput fs f v) od' :=
  x.ind (M := fun (fs : List (Nat × V)) => (∀ e ∈ fs, e.1 < 74) → (fs.map (fun e : Nat × V => e.1)).Nodup → FS C D X h (fput fs f v) od') (fun _ _ => .cons hs hv.1 hv.2 .nil) fun y p fs e a k r ih hl nd => by
    have nd := List.nodup_cons.mp nd
    by_cases hg : y.1 = f
    · rw [fput_eq hg]
      exact .cons (hg ▸ hs) hv.1 hv.2 (r.same ho (fun e he => hl e (List.mem_cons_of_mem _ he)) (hg ▸ nd.1))
    · rw [fput_ne hg]
      exact .cons ((ho _ (hl _ List.mem_cons_self) hg).trans e) a k (ih (fun e he => hl e (List.mem_cons_of_mem _ he)) nd.2)
theorem fput_mem {f : Nat} {v : V} {g : Nat} (fs : List (Nat × V)) : g ∈ (fput fs f v).map (·.1) → g = f ∨ g ∈ fs.map (·.1) := by
  induction fs with
  | nil => exact fun h => .inl (List.mem_singleton.mp h)
  | cons e t ih =>
    by_cases hg : e.1 = f
    · rw [fput_eq hg]; exact .inr
    · rw [fput_ne hg]; exact fun h => (List.mem_cons.mp h).elim (fun h => .inr (h ▸ List.mem_cons_self)) fun h => (ih h).imp_right (List.mem_cons_of_mem _)
structure FputK (fs : List (Nat × V)) (f : Nat) (v : V) : Prop where
  nd : ((fput fs f v).map (·.1)).Nodup
  lt : ∀ e ∈ fput fs f v, e.1 < 13
  len : (fput fs f v).length = (if f ∈ fs.map (·.1) then fs.length else fs.length + 1)
theorem fput_keys {f : Nat} {v : V} (hf : f < 13) (fs : List (Nat × V)) : (fs.map (·.1)).Nodup → (∀ e ∈ fs, e.1 < 13) → FputK fs f v := by
  induction fs with
  | nil => exact fun _ _ => ⟨List.nodup_cons.mpr ⟨List.not_mem_nil, .nil⟩, fun e he => List.mem_singleton.mp he ▸ hf, rfl⟩
  | cons e t ih =>
    intro nd hl
    by_cases hg : e.1 = f
    · have q : fput (e :: t) f v = (e.1, v) :: t := fput_eq hg
      exact ⟨q ▸ nd, fun x hx => (List.mem_cons.mp (q ▸ hx)).elim (fun h : x = (e.1, v) => h ▸ hl e List.mem_cons_self) fun h => hl x (List.mem_cons_of_mem _ h), by rw [q, if_pos (hg ▸ List.mem_cons_self)]; rfl⟩
    · have q : fput (e :: t) f v = e :: fput t f v := fput_ne hg
      have nd := List.nodup_cons.mp nd
      have K := ih nd.2 fun x hx => hl x (List.mem_cons_of_mem _ hx)
      refine ⟨q ▸ List.nodup_cons.mpr ⟨fun hm => (fput_mem t hm).elim hg nd.1, K.nd⟩, fun x hx => (List.mem_cons.mp (q ▸ hx)).elim (fun h : x = e => h ▸ hl e List.mem_cons_self) (K.lt x), ?_⟩
      rw [q, List.length_cons, K.len]
      show _ = if f ∈ e.1 :: t.map (·.1) then t.length + 1 else t.length + 1 + 1
      by_cases hm : f ∈ t.map (·.1)
      · rw [if_pos hm, if_pos (List.mem_cons_of_mem _ hm)]
      · rw [if_neg hm, if_neg fun h => (List.mem_cons.mp h).elim (fun h => hg h.symm) hm]
theorem nodup_le : ∀ (n : Nat) (l : List Nat), l.Nodup → (∀ x ∈ l, x < n) → l.length ≤ n
  | 0, [], _, _ => Nat.le_refl _
  | 0, x :: _, _, h => absurd (h x List.mem_cons_self) (Nat.not_lt_zero _)
  | n + 1, l, nd, h => by
    have h2 := nodup_le n (l.erase n) (nd.erase n) fun x hx => by
      have h3 := h x (List.mem_of_mem_erase hx)
      have h4 : x ≠ n := fun e => by subst e; exact (List.Nodup.mem_erase_iff nd).mp hx |>.1 rfl
      omega
    have := List.length_erase (a := n) (l := l)
    split at this <;> omega
theorem own_new {x : Nat} {oA : Obj} {w : V} (F : FrE C env X0 O X r D s.heap) (S : FrS env X0 O X) (I : Inv C D X σ s) (hof : oA.isFreed = false) (hx : x < 74) (hk : env.kindOf (nm x) = some .local) (ho : r.own x w = some r')
    (y : ∀ (X' O' : Addr → Prop), OwnR C D X' O' env.locals (s.heap.push oA) w s.heap.objs.size) {E : Value → Shared → Prop} :
    wpAny (model C.prog C.w) A (storeName env (nm x) (.ref s.heap.objs.size)) (fun _ s' => SsP C env X0 X O D s (.next r') σ .next s') E { s with heap := s.heap.push oA } := by
  have k : ∀ b o, s.heap.get? b = some o → (s.heap.push oA).get? b = some o := fun b o e => Heap.get?_push_of_some _ e
  have fr : s.heap.get? s.heap.objs.size = none := get_size _
  have hx3 : ∀ a, (X a ∨ a = s.heap.objs.size) → X a ∨ s.heap.get? a = none := fun a h => h.elim .inl fun e => .inr (e ▸ fr)
  have ho3 : ∀ a, (O a ∨ a = s.heap.objs.size) → O a ∨ s.heap.get? a = none := fun a h => h.elim .inl fun e => .inr (e ▸ fr)
  have m : Mono D X s.heap D (fun a => X a ∨ a = s.heap.objs.size) (s.heap.push oA) := (Ext.of_keeps (W := Nope) k).mono I.fat (fun _ f => f.elim) hx3
  have I1 : Inv C D (fun a => X a ∨ a = s.heap.objs.size) σ { s with heap := s.heap.push oA } := I.grow k hx3 fun a h => by
    rcases h with h | rfl
    · obtain ⟨o, e⟩ := I.Xlt a h; exact ⟨o, k _ _ e⟩
    · exact ⟨_, Heap.get?_push_size _ hof⟩
  have F1 : FrE C env X0 (fun a => O a ∨ a = s.heap.objs.size) (fun a => X a ∨ a = s.heap.objs.size) r D (s.heap.push oA) :=
    (F.calm (Z := Nope) ⟨fun m h => h.keeps k, fun b o _ _ _ _ e => k b o e⟩ (fun _ _ _ f => f) (fun _ _ f => f) (fun f => f) m I.dxX fun _ h _ => .inl h).growO fun _ h => .inl h
  have hXn : ¬ X s.heap.objs.size := fun h => by obtain ⟨o, e⟩ := I.Xlt _ h; exact not_none e fr
  have hne : s.heap.objs.size ≠ env.locals := fun e => hXn (e ▸ F.locX)
  refine store_own (s := { s with heap := s.heap.push oA }) F1 I1 (fun a h => h.elim (fun h => .inl (S.oX a h)) .inr) hx hk (.inl S.oL) (.inr rfl) (.inr rfl) (fun h => hXn (S.x0 _ h)) hne (y _ _) fun s2 c F2 => ?_
  have P1 : StP C X O D s (fun a => X a ∨ a = s.heap.objs.size) (fun a => O a ∨ a = s.heap.objs.size) D σ { s with heap := s.heap.push oA } :=
    ⟨⟨_, s.toks, rfl⟩, .of_keeps k, ho3, hx3, fun _ h => .inl h, fun _ h => .inl h, I1⟩
  have hr : FrE C env X0 (fun a => O a ∨ a = s.heap.objs.size) (fun a => X a ∨ a = s.heap.objs.size) r' D s2.heap := by
    unfold Rho.own at ho
    cases hw : r.w with
    | none => rw [hw] at ho; exact Option.some.inj ho ▸ F2
    | some z =>
      rw [hw] at ho
      have ho : (if Nat.beq z.1 x then some (Rho.mk r.ρ (some (x, w))) else none) = some r' := ho
      by_cases hb : z.1 = x
      · rw [bq_t hb, if_pos rfl] at ho
        refine Option.some.inj ho ▸ F2.congr (fun y => ?_) rfl
        show fget r.ρ y = fget (fdel r.ρ x) y
        rw [fget_fdel]
        by_cases hy : y = x
        · rw [if_pos hy, hy]; exact hb ▸ (F.own _ _ (show r.w = some (z.1, z.2) from hw)).h0
        · rw [if_neg hy]
      · rw [bq_f hb] at ho; exact nn ho
  exact ⟨_, _, D, P1.trans (.of_chg c fun _ h => h), hr, ⟨fun a h => h.elim (fun h => .inl (S.oX a h)) .inr, .inl S.oL, fun n c e => .inl (S.oC n c e), fun a h => .inl (S.x0 a h)⟩⟩
theorem stm_newL {x : Nat} {id : Str} {tp lp : Pos} (h1 : locName env.scope x id = true) (F : FrE C env X0 O X r D s.heap) (S : FrS env X0 O X) (I : Inv C D X σ s) (ho : r.own x (.list []) = some r') :
    wpAny (model C.prog C.w) A (exec (.Assign [.Name id tp] (.List [] lp) pos) env) (SsP C env X0 X O D s (.next r') σ) (fun _ _ => False) s := by
  obtain ⟨hx, rfl, hk⟩ := locName_loc h1
  refine wpAny_Assign_Name (wpAny_List (args_nil ⟨Nat.zero_le _, ?_⟩)) rfl
  exact own_new (oA := { cls := .type "list", data := .seq #[] }) F S I rfl hx hk ho fun X' O' => .lst (items := #[]) (n := 0) (Heap.get?_push_size _ rfl) .nil
theorem stm_newD {x : Nat} {id : Str} {tp lp : Pos} (h1 : locName env.scope x id = true) (F : FrE C env X0 O X r D s.heap) (S : FrS env X0 O X) (I : Inv C D X σ s) (ho : r.own x (.dict []) = some r') :
    wpAny (model C.prog C.w) A (exec (.Assign [.Name id tp] (.Dict [] [] lp) pos) env) (SsP C env X0 X O D s (.next r') σ) (fun _ _ => False) s := by
  obtain ⟨hx, rfl, hk⟩ := locName_loc h1
  refine wpAny_Assign_Name ?_ rfl
  rw [eval_Dict_empty]
  refine wpAny_bind (wpAny_standAt ?_)
  refine wpAny_newObj_type ?_ (Nat.zero_le _)
  exact own_new (oA := { cls := .type "dict", data := .dict #[] }) F S I rfl hx hk ho fun X' O' => .dct (vt_nilDict (n := 0) (Heap.get?_push_size _ rfl) (I.low (get_size _)))
end
end Mine
namespace Mine
structure SetOK (C : Cfg) (gt : List (Str × List Nat)) : Prop extends MakeOK C gt where
  set : ∀ c, c = C.c0 ∨ c = C.c1 → findIn C.K (.ref c) "__setattr__" = some (some (.builtin "object.__setattr__")) ∧ plainOver C.K c = true ∧ ∀ f, f < 13 → takerIn C.K c (nm f) = some none
section
variable {C : Cfg} {gt : List (Str × List Nat)} {A : Around} {D D' D1 D2 : List FR} {X X' X0 X1 X2 O O' O1 O2 W : Addr → Prop} {σ σ' σ1 σ2 : Nums} {s s' s1 s2 : Shared} {env : Env} {r r' : Rho} {v : V} {p : Value} {n k : Nat} {pos : Pos}
theorem own_set {y : Nat} {u : V} {a : Addr} (F : FrE C env X0 O X r D s.heap) (I : Inv C D X σ s) (hy : y < 74) (h0 : fget r.ρ y = none) (hk : env.kindOf (nm y) = some .local) (vis : Vis env s.heap y (.ref a)) (ha : X a) (hoa : O a) (hx0 : ¬ X0 a) (hL : a ≠ env.locals)
    (hw : ∀ b, W b → X b) (kk : ∀ a o, s.heap.get? a = some o → ¬ W a → s'.heap.get? a = some o) (al : ∀ a, W a → ∀ o, s.heap.get? a = some o → ∃ o', s'.heap.get? a = some o') (ns : ∀ m, s.heap.Ns env.locals m → s'.heap.Ns env.locals m)
    (zc : ∀ n c, env.cells.lookup n = some c → ¬ W c) (new : OwnR C D X O env.locals s'.heap u a) : FrE C env X0 O X ⟨r.ρ, some (y, u)⟩ D s'.heap := by
  have x := (I.change (s' := s') hw kk al).2
  have m := x.mono (X := X) (X' := X) I.fat (fun b hb => .inl (hw b hb)) fun _ h => .inl h
  have F0 : FrE C env X0 Nope X ⟨r.ρ, none⟩ D s.heap := ⟨F.kind, F.glob, F.bltn, F.locX, F.ns, F.celX, F.apart, F.hasC, F.get, fun _ _ e => nomatch e⟩
  have cal : Calm env X (fun b => W b ∧ b ≠ env.locals) D s.heap D s'.heap := ⟨ns, fun b o _ hz hne _ e => kk b o e fun h => hz ⟨h, hne⟩⟩
  have zc' : ∀ n c, env.cells.lookup n = some c → ¬ (W c ∧ c ≠ env.locals) := fun n c e h => zc n c e h.1
  have F1 := F0.calm cal zc' (fun _ f => f.elim) (fun h => h.2 rfl) m I.dxX fun _ h _ => h
  exact ⟨F1.kind, F1.glob, F1.bltn, F1.locX, F1.ns, F1.celX, F1.apart, F1.hasC, F1.get, fun z w e => by
    cases e
    exact ⟨hy, h0, hk, a, vis.calm cal zc' F.celX F.ns I.dxX, ha, hoa, hx0, hL, new⟩⟩
theorem cell_ne {c a : Addr} {h : Heap} {o : Obj} {m : Option Value} (hc : h.IsCell c m) (e : h.get? a = some o) (hd : ∀ v, o.data ≠ .cell v) : c ≠ a := fun h => hd _ (IsCell.data e (h ▸ hc))
theorem swaps_attr {e o : Expr} {n : Str} {q : Pos} {line : Nat} : swapsWith e (some (.Attribute o n q)) line env = pure false := by cases e <;> rfl
theorem swaps_sub {e o i : Expr} {q : Pos} {line : Nat} : swapsWith e (some (.Subscript o i q)) line env = pure false := by cases e <;> rfl
theorem getL_norefs {g f : Str} {es : List DictEntry} (h : getL g es = some none) : (getL f es).isSome = true := by
  unfold getL at h ⊢
  cases hg : es.find? fun x => x.key.isStr g with
  | some => rw [hg] at h; exact nomatch h
  | none =>
    rw [hg] at h
    cases hr : es.any fun x => x.refKey with
    | true => rw [hr] at h; exact nomatch h
    | false =>
      cases es.find? fun x => x.key.isStr f with
      | some => rfl
      | none => rfl
theorem FS.has {h : Heap} {od : Obj} {fs : List (Nat × V)} (x : FS C D X h fs od) {f : Nat} (hm : f ∈ fs.map (fun e : Nat × V => e.1)) : ∃ q, lookIn (nm f) od = some (some q) :=
  x.ind (M := fun (fs : List (Nat × V)) => f ∈ fs.map (fun e : Nat × V => e.1) → ∃ q, lookIn (nm f) od = some (some q)) (fun h => nomatch h) (fun y p fs e _ _ _ ih h => (List.mem_cons.mp h).elim (fun h => ⟨p, h ▸ e⟩) ih) hm
theorem getL_any {f : Str} {es : List DictEntry} {q : Value} (h : getL f es = some (some q)) : es.any (fun x => x.key.isStr f) = true := by
  unfold getL at h
  cases hg : es.find? fun x => x.key.isStr f with
  | some z => exact List.any_eq_true.mpr ⟨z, List.mem_of_find?_eq_some hg, List.find?_some (p := fun x : DictEntry => x.key.isStr f) hg⟩
  | none =>
    rw [hg] at h
    cases hr : es.any fun x => x.refKey with
    | true => rw [hr] at h; exact nomatch h
    | false => rw [hr] at h; exact nomatch h
theorem keys_le {fs : List (Nat × V)} (nd : (fs.map (·.1)).Nodup) (lt : ∀ e ∈ fs, e.1 < 13) : fs.length ≤ 13 := (List.length_map ..) ▸ nodup_le 13 (fs.map (·.1)) nd fun x hx => (List.mem_map.mp hx).elim fun e he => he.2 ▸ lt e he.1
theorem StP.change {D1 : List FR} {h' : Heap} {t : Nat} (P : StP C X O D s X O D1 σ1 s1) (x : Ext W D1 s1.heap D1 h') (I : Inv C D1 X σ' { s1 with heap := h', toks := t }) (hw : ∀ b, W b → O b) : StP C X O D s X O D1 σ' { s1 with heap := h', toks := t } :=
  P.trans ⟨⟨_, _, rfl⟩, x.weak fun b hb => .inl (hw b hb), fun _ h => .inl h, fun _ h => .inl h, fun _ h => h, fun _ h => h, I⟩
theorem stm_setA (K : SetOK C gt) (hE : SE C gt n) {x f : Nat} {m : M} {e : Expr} {id nme : Str} {np ap : Pos} {fs : List (Nat × V)} (h1 : locName env.scope x id = true) (hn : nme = nm f) (hf : f < 13) (h2 : chkE gt k env.scope m e = true)
    (F : FrE C env X0 O X r D s.heap) (S : FrS env X0 O X) (I : Inv C D X σ s) (R : RoomN A n) (ev : (run prg n).e m r σ = some (v, σ')) (hw : r.w = some (x, .inst 0 fs none)) :
    wpAny (model C.prog C.w) A (exec (.Assign [.Attribute (.Name id np) nme ap] e pos) env) (SsP C env X0 X O D s (.next ⟨r.ρ, some (x, .inst 0 (fput fs f v) none)⟩) σ') (fun _ _ => False) s := by
  have g := locName_loc h1
  rw [g.2.1, hn, plainObj_exec_Assign_Attribute _ _ _ _ _ swaps_attr]
  refine wpAny_bind (wpAny_standAt (wpAny_bind ((hE h2 F I R ev).use fun p D1 s1 P1 V1 => ?_)))
  have F1 := F.step I P1
  cases F1.own _ _ hw with
  | mk hy h0 hk' a vis ha hoa hx0 hL own =>
    rw [assign_Attribute]
    refine wpAny_bind (wpAny_bind (wpAny_holding (name_vis F1 g.1 vis (wpAny_bind (wpAny_standAt (wpAny_bind (wpAny_holding ?_)))))))
    cases own with
    | @form _ _ dx es ep e1 e2 hxx hod hdl hne sm sh rr hp =>
      have st := K.set C.c0 (.inl rfl)
      exact F1.ns.elim fun m0 hm0 => setAttr_raw (K.KNow P1.inv) st.1 st.2.1 (st.2.2 f hf) (K.get C.c0 (.inl rfl)).2.1 hm0 hdl e1 e2 (getL_norefs (sh 26 rfl)) (Nat.le_trans sm.1 (Nat.le_trans (keys_le sm.2.1 sm.2.2) (by decide))) fun h' es' ep' SR => wpAny_release (wpAny_pure (by
        have hX : ∀ b, (b = env.locals ∨ b = dx) → X b := fun b hb => hb.elim (fun e => e ▸ F1.locX) fun e => e ▸ hxx
        have kk : ∀ b o, s1.heap.get? b = some o → ¬ (b = env.locals ∨ b = dx) → h'.get? b = some o := fun b o e hb => SR.keep b o e (fun h => hb (.inl h)) fun h => hb (.inr h)
        have al : ∀ b, (b = env.locals ∨ b = dx) → ∀ o, s1.heap.get? b = some o → ∃ o', h'.get? b = some o' := fun b hb o e => hb.elim (fun hb => SR.ns.elim fun o e => e.elim fun _ e => e.elim fun _ e => ⟨o, hb ▸ e.1⟩) fun hb => ⟨_, hb ▸ SR.at'⟩
        have J := P1.inv.change (W := fun b => b = env.locals ∨ b = dx) (s' := { s1 with heap := h', toks := s1.toks + 2 }) hX kk al
        have mm := J.2.mono (X := X) (X' := X) P1.inv.fat (fun b hb => .inl (hX b hb)) fun _ h => .inl h
        have KK := fput_keys (v := v) hf fs sm.2.1 sm.2.2
        have rr2 : FS C D1 X h' fs (dictOf es ep) := FS.mono mm rr
        have lookN : ∀ g, g < 74 → g ≠ f → nm g ≠ nm f := fun g hg hne e => hne (nm_inj g hg f (Nat.lt_trans hf (by decide)) e)
        have own2 : OwnR C D1 X O env.locals h' (.inst 0 (fput fs f v) none) a := by
          refine .form (SR.keep a _ e1 hL hne) SR.at' hxx hod hdl hne ⟨?_, KK.nd, KK.lt⟩ (fun g hg => (SR.rest _ (lookN g (meth_range hg).2 fun e => Nat.lt_irrefl _ (Nat.lt_of_lt_of_le hf (e ▸ (meth_range hg).1)))).trans (sh g hg))
            (FS.put (od := dictOf es ep) (od' := dictOf es' ep') (Nat.lt_trans hf (by decide)) (fun g hg hne => SR.rest _ (lookN g hg hne)) SR.got (V1.mono mm) rr2 (fun e he => Nat.lt_trans (sm.2.2 e he) (by decide)) sm.2.1) hp
          rw [SR.len, KK.len]
          by_cases hfm : f ∈ fs.map (fun e : Nat × V => e.1)
          · rw [if_pos ((rr2.has hfm).elim fun q hq => getL_any hq), if_pos hfm]; exact sm.1
          · rw [if_neg hfm]
            cases es.any fun x => x.key.isStr (nm f)
            · exact Nat.succ_le_succ sm.1
            · exact Nat.le_succ_of_le sm.1
        exact .next (StP.change (StP.of_pst P1 S) J.2 J.1 fun b hb => hb.elim (fun e => e ▸ S.oL) fun e => e ▸ hod) (own_set (s' := { s1 with heap := h', toks := s1.toks + 2 }) (W := fun b => b = env.locals ∨ b = dx) F1 P1.inv hy h0 hk' vis ha hoa hx0 hL hX kk al (fun m hm => Ns.uniq hm hm0 ▸ SR.ns)
          (fun n c e h => (F1.celX n c e).2.elim fun q hq => h.elim (IsCell_ne hq hm0) (cell_ne hq e2 fun v => Data.noConfusion)) own2) S))
theorem stm_setI (K : MakeOK C gt) (hE : SE C gt n) {x : Nat} {m mk : M} {e ke : Expr} {id : Str} {np sp : Pos} {es : List (V × V)} {kv : V} (h1 : locName env.scope x id = true) (hsl : isSlice ke = false) (h2 : chkE gt k env.scope m e = true) (h3 : chkE gt k env.scope mk ke = true)
    (F : FrE C env X0 O X r D s.heap) (S : FrS env X0 O X) (I : Inv C D X σ s) (R : RoomN A n) (ev : (run prg n).e m r σ = some (v, σ1)) (ev2 : (run prg n).e mk r σ1 = some (kv, σ')) (hw : r.w = some (x, .dict es)) (hsk : seek es kv = true) (hsm : small es = true) :
    wpAny (model C.prog C.w) A (exec (.Assign [.Subscript (.Name id np) ke sp] e pos) env) (SsP C env X0 X O D s (.next ⟨r.ρ, some (x, .dict (dput es kv v))⟩) σ') (fun _ _ => False) s := by
  have g := locName_loc h1
  rw [g.2.1]
  refine wpAny_Assign_Subscript ((hE h2 F I R ev).use fun p D1 s1 P1 V1 => ?_) swaps_sub
  have F1 := F.step I P1
  cases F1.own _ _ hw with
  | mk hy h0 hk' a vis ha hoa hx0 hL own =>
    refine name_vis F1 g.1 vis ((hE h3 F1 P1.inv R ev2).use fun pk D2 s2 P2 V2 => ?_)
    have F2 := F1.step P1.inv P2
    have own2 : VT C D2 X s2.heap (.dict es) (.ref a) := own.dct_vt.mono (P2.mono P1.inv F1.hw) fun b o eb g => Value.ref.inj eb ▸ P2.ext.keep _ _ (Value.ref.inj eb ▸ g) (fun r hr e => P1.inv.dxX r hr (e ▸ ha)) hL
    exact put_sound (sets := true) P2.inv R.room ha own2 V2 (V1.step P2 P1.inv F1.hw) hsk hsm fun h' t kk al I5 x5 vt => .next (StP.change ((StP.of_pst P1 S).trans (StP.of_pst P2 S)) x5 I5 fun b hb => hb ▸ hoa)
      (own_set (s' := { s2 with heap := h', toks := t }) (W := fun b => b = a) F2 P2.inv hy h0 hk' (vis.calm P2.calm (fun _ _ _ f => f) F1.celX F1.ns P1.inv.dxX) ha hoa hx0 hL (fun b hb => hb ▸ ha) kk (fun b hb o e => hb ▸ al) (fun m hm => Ns_keep hm fun o e => kk _ _ e (Ne.symm hL))
        (fun n c e h => (F2.celX n c e).2.elim fun q hq => own2.raw.rec fun b' eb' _ _ _ rd _ => (Value.ref.inj eb' ▸ rd : RawD s2.heap a _ _).notCell (h ▸ hq)) (.dct vt)) S
theorem stm_app (K : MakeOK C gt) (hE : SE C gt n) {x : Nat} {m : M} {e : Expr} {id nme : Str} {np ap cp : Pos} {vs : List V} (h1 : locName env.scope x id = true) (hn : nme = Str.ofString "append") (hline : Nat.beq ap.endLine cp.line = true) (h2 : chkE gt k env.scope m e = true)
    (F : FrE C env X0 O X r D s.heap) (S : FrS env X0 O X) (I : Inv C D X σ s) (R : RoomN A n) (ev : (run prg n).e m r σ = some (v, σ')) (hw : r.w = some (x, .list vs)) (hsm : small vs = true) :
    wpAny (model C.prog C.w) A (exec (.Expr (.Call (.Attribute (.Name id np) nme ap) [e] [] cp) pos) env) (SsP C env X0 X O D s (.next ⟨r.ρ, some (x, .list (vs ++ [v]))⟩) σ') (fun _ _ => False) s := by
  have g := locName_loc h1
  rw [g.2.1, hn]
  cases F.own _ _ hw with
  | mk hy h0 hk' a vis ha hoa hx0 hL own =>
    refine wpAny_Expr_any ?_ (by unfold interactive; rw [F.kind]; rfl) rfl
    cases own with
    | @lst _ _ items nn e1 r1 =>
      refine methodCall_eval rfl (plainArgs (es := [e]) [m] (show (chkE gt k env.scope m e && true) = true by rw [h2]; rfl)).2 (Nat.lt_of_sub_pos (Nat.succ_pos 18)) hline (name_vis F g.1 vis (Calls.getMethod_list_append e1 rfl rfl ?_))
      rw [notStar h2]
      refine Calls.callWith_builtin rfl (Calls.evalArgs_plain (Calls.spliced_cons ((hE h2 F I R ev).use fun p D1 s1 P1 V1 => Calls.spliced_nil ?_)))
      have F1 := F.step I P1
      have e2 : s1.heap.get? a = some (seqObj "list" items nn) := P1.ext.keep _ _ e1 (fun r hr e => I.dxX r hr (e ▸ ha)) hL
      exact app_sound P1.inv ha e2 (r1.mono (P1.mono I F.hw)) V1 (Nat.le_trans (small_le hsm) (by decide)) fun h' n' kk al I5 x5 vr => .next (StP.change (t := s1.toks) (StP.of_pst P1 S) x5 I5 fun b hb => hb ▸ hoa)
        (own_set (s' := { s1 with heap := h' }) (W := fun b => b = a) F1 P1.inv hy h0 hk' (vis.calm P1.calm (fun _ _ _ f => f) F.celX F.ns I.dxX) ha hoa hx0 hL (fun b hb => hb ▸ ha) kk (fun b hb o e => hb ▸ ⟨_, al⟩) (fun m hm => Ns_keep hm fun o e => kk _ _ e (Ne.symm hL))
          (fun n c e h => (F1.celX n c e).2.elim fun q hq => cell_ne hq e2 (fun v => Data.noConfusion) h) (.lst al vr)) S
theorem stm_ret (K : MakeOK C gt) (hE : SE C gt n) {m : M} {e : Expr} (h2 : chkE gt k env.scope m e = true) (F : FrE C env X0 O X r D s.heap) (S : FrS env X0 O X) (I : Inv C D X σ s) (R : RoomN A n) (ev : tr (run prg n).e m r σ = some (v, σ')) (hni : isRaw v = false) :
    wpAny (model C.prog C.w) A (exec (.Return (some e) pos) env) (SsP C env X0 X O D s (.ret v) σ') (fun _ _ => False) s :=
  have m0 : ∀ {D1 : List FR} {σ1 : Nums} {s1 : Shared}, Inv C D1 X σ1 s1 → Mono D1 X s1.heap D1 X0 s1.heap := fun I => (Ext.refl (W := Nope)).mono I.fat (fun _ f => f.elim) fun a h => .inl (S.x0 a h)
  wpAny_Return_some (wpAny_mono (tr_sound hE h2 F I R ev) (fun p s1 t => t.c (fun D1 P1 V => ⟨X, O, D1, StP.of_pst P1 S, V.mono (m0 P1.inv)⟩) fun D1 a P1 hp ha ho h0 w => ⟨X, O, D1, StP.of_pst P1 S, hp ▸
    ⟨w.c (fun _ _ x => x.mono (m0 P1.inv) fun _ _ _ g => g) (fun _ _ x => x.mono (m0 P1.inv) fun _ _ _ g => g) fun _ fs _ hv => ff (hni.symm.trans hv), .ref ⟨h0, fun r hr e => P1.inv.dxX r hr (e ▸ ha)⟩⟩⟩) fun _ _ f => f)
end
end Mine
namespace Mine
structure Drawn (It : Addr) (P : Nat → Value → Prop) (St : Nat → Heap → Prop) (n i : Nat) (h : Heap) (ps : List Value) (h' : Heap) : Prop where
  len : ps.length = n
  item : ∀ (j : Nat) (p : Value), ps[j]? = some p → P (i + j) p
  st : St (i + n) h'
  keep : ∀ b o, h.get? b = some o → b ≠ It → h'.get? b = some o
theorem draw_walk {prog : Program} {w : World} {A : Around} {E : Value → Shared → Prop} {It : Addr} {fp : List Addr} {N : Nat} {P : Nat → Value → Prop} {St : Nat → Heap → Prop} (W : Walks prog w A It fp [It] N P St) (n : Nat) :
    ∀ (i : Nat) (s : Shared) (Q : List Value → Shared → Prop), St i s.heap → i + n ≤ N → (∀ ps h' t, Drawn It P St n i s.heap ps h' → Q ps { s with heap := h', toks := t }) → wpAny (model prog w) A (draw (.ref It) n) Q E s := by
  induction n with
  | zero => exact fun i s Q st _ q => wpAny_pure (q [] s.heap s.toks ⟨rfl, fun j p e => nn e, st, fun _ _ e _ => e⟩)
  | succ n ih =>
    intro i s Q st hle q
    have hle' : i + 1 + n ≤ N := (Nat.succ_add_eq_add_succ i n).symm ▸ hle
    show wpAny _ _ (pyNext (.ref It) >>= _) Q E s
    exact wpAny_bind (W.item i s _ _ (Nat.lt_of_lt_of_le (Nat.lt_add_of_pos_right (Nat.succ_pos n)) hle) st fun v h1 t1 pv st1 k1 => wpAny_bind (wpAny_holding (ih (i + 1) _ _ st1 hle' fun ps h2 t2 d => wpAny_pure
      (q (v :: ps) h2 t2 ⟨congrArg (· + 1) d.len, fun j p => @Nat.casesOn (fun j => (v :: ps)[j]? = some p → P (i + j) p) j (fun e => Option.some.inj e ▸ pv) fun j e => Nat.succ_add_eq_add_succ i j ▸ d.item j p e, Nat.succ_add_eq_add_succ i n ▸ d.st,
        fun b o e hb => d.keep b o (k1 b o (fun h => hb (List.mem_singleton.mp h)) e) hb⟩))))
section
variable {C : Cfg} {gt : List (Str × List Nat)} {A : Around} {D D' D1 D2 : List FR} {X X' X0 X1 X2 O O' O1 O2 W : Addr → Prop} {σ σ' σ1 σ2 : Nums} {s s' s1 s2 : Shared} {env : Env} {r r' : Rho} {v : V} {p : Value} {n k : Nat} {pos : Pos} {G : Prop}
theorem seq_c {v : V} {vs : List V} (e : seqV v = some vs) (gT : v = .tuple vs → items v = some vs → G) (gL : v = .list vs → items v = some vs → G) : G := by
  cases v with
  | tuple us => exact iC (z := some vs) (x := some us) (y := none) e (fun h e => gT (Option.some.inj e ▸ rfl) (show oI (small us) (some us) = some vs from h ▸ e)) fun _ e => nn e
  | list us => exact iC (z := some vs) (x := some us) (y := none) e (fun h e => gL (Option.some.inj e ▸ rfl) (show oI (small us) (some us) = some vs from h ▸ e)) fun _ e => nn e
  | _ => exact nn e
theorem seq_items {v : V} {vs : List V} (e : seqV v = some vs) : items v = some vs := seq_c e (fun _ h => h) fun _ h => h
theorem seq_type {v : V} {vs : List V} (e : seqV v = some vs) (x : VT C D X s.heap v p) : ∃ T id, s.TypeIs p T ∧ typeLookup (.type T) "__iter__" = pure (some (.builtin id)) :=
  seq_c e (fun hv _ => (show VT C D X s.heap (.tuple vs) p from hv ▸ x).tuple_c fun a it ha el r => el.elim fun o g => ⟨"tuple", _, ha ▸ ⟨o, g.1, g.2.1⟩, PySem.F.slot_tuple_iter.lookup⟩)
    fun hv _ => (show VT C D X s.heap (.list vs) p from hv ▸ x).list_c fun a it ha el r => el.elim fun o g => ⟨"list", _, ha ▸ ⟨o, g.1, g.2.1⟩, PySem.F.slot_list_iter.lookup⟩
theorem unpackItems_sound (K : CfgOK C gt) (I : Inv C D X σ s) (R : Room A) {vs : List V} (x : VR C D X s.heap v p) (e : seqV v = some vs) {Q : List Value → Shared → Prop} {E : Value → Shared → Prop}
    (q : ∀ ps s', Pst C D X W s D σ s' → VRs C D X s'.heap vs ps → Q ps s') : wpAny (model C.prog C.w) A (unpackItems p vs.length none) Q E s := by
  obtain ⟨T, id, ht, hl⟩ := seq_type e x.1
  unfold unpackItems
  refine wpAny_bind ?_
  unfold notIterableAtAll
  refine wpAny_bind (wpAny_specialOf ht hl (wpAny_pure ?_))
  refine wpAny_bind (wpAny_holding (iter_sound R K.sys x.1 (seq_items e) fun o P St fp hof its st0 => ?_))
  refine wpAny_bind (wpAny_holding (draw_walk its.walks vs.length 0 _ _ st0 (Nat.le_of_eq (Nat.zero_add _)) fun ps h1 t1 d => ?_))
  rw [if_neg (fun h => Nat.lt_irrefl _ (d.len ▸ h))]
  refine wpAny_bind (wpAny_holding (its.walks.done _ _ _ (show St vs.length h1 from Nat.zero_add vs.length ▸ d.st) fun h2 t2 k2 => ?_))
  have kk : ∀ b o, s.heap.get? b = some o → h2.get? b = some o := fun b o e =>
    have hb : b ≠ s.heap.objs.size := Nat.ne_of_lt (Heap.lt_size e)
    k2 b o (fun h => hb (List.mem_singleton.mp h)) (d.keep b o (Heap.get?_push_of_some _ e) hb)
  have m : Mono D X s.heap D X h2 := (Ext.of_keeps (W := Nope) kk).mono I.fat (fun _ f => f.elim) fun _ h => .inl h
  exact wpAny_pure (q ps { s with heap := h2, toks := t2 } (.tok I h2 t2 kk) (.of_get vs d.len fun i p hpi => (its.item i p (Nat.zero_add i ▸ d.item i p hpi)).elim fun v hv => ⟨v, hv.1, hv.2.mono m⟩))
noncomputable def Tgts (C : Cfg) (A : Around) (env : Env) (xs : List Nat) (ts : List (Value → Sem Unit)) : Prop :=
  ∀ (i : Nat) (t : Value → Sem Unit) (x : Nat), ts[i]? = some t → xs[i]? = some x → ∀ (v : Value) (s : Shared) (Q : Unit → Shared → Prop) (E : Value → Shared → Prop), wpAny (model C.prog C.w) A (storeName env (nm x) v) Q E s → wpAny (model C.prog C.w) A (t v) Q E s
theorem stores_sound (xs : List Nat) : ∀ {vs : List V} {ps : List Value} {r r' : Rho} {s : Shared}, (∀ x ∈ xs, x < 74 ∧ (env.kindOf (nm x) = some .local ∨ env.kindOf (nm x) = some .cell)) → FrE C env X0 O X r D s.heap → FrS env X0 O X → Inv C D X σ s → VRs C D X s.heap vs ps → r.sets xs vs = some r' →
    ∀ {ts : List (Value → Sem Unit)}, ts.length = xs.length → Tgts C A env xs ts → ∀ {Q : Unit → Shared → Prop} {E : Value → Shared → Prop}, (∀ s', StP C X O D s X O D σ s' → FrE C env X0 O X r' D s'.heap → Q () s') → wpAny (model C.prog C.w) A (assignInOrder ts ps) Q E s := by
  induction xs with
  | nil =>
    intro vs ps r r' s hx F S I vr e ts hl ht Q E q
    cases ts with
    | cons => exact nomatch hl
    | nil =>
      cases vs with
      | cons => exact nn e
      | nil => rw [vr.nil_c]; exact wpAny_assignInOrder_none (q s (.of_chg ⟨⟨s.heap, s.toks, rfl⟩, .refl (W := O), I⟩ fun _ h => h) (Option.some.inj e ▸ F))
  | cons x xs ih =>
    intro vs ps r r' s hx F S I vr e ts hl ht Q E q
    cases ts with
    | nil => exact nomatch hl
    | cons t ts =>
      cases vs with
      | nil => exact nn e
      | cons v vs =>
        exact vr.cons_c fun p ps' hp a k rr => hp ▸ wpAny_assignInOrder_more (ht 0 t x rfl rfl _ _ _ _ (set_stm F S I (hx x List.mem_cons_self).1 (hx x List.mem_cons_self).2 ⟨a, k⟩ fun s1 P1 F1 =>
          ih (fun y hy => hx y (List.mem_cons_of_mem _ hy)) F1 S P1.inv (rr.mono (P1.ext.mono I.fat (fun b hb => .inl (S.oX b hb)) fun _ h => .inl h)) e (Nat.succ.inj hl) (fun i t x h1 h2 => ht (i + 1) t x h1 h2) fun s' P' F' => q s' (P1.trans P') F'))
theorem set_keep {a : Nat} {b u : V} {y : Nat} (h : r.w = some (y, u)) (hy : y ≠ a) : (r.set a b).w = some (y, u) := by
  unfold Rho.set
  rw [h]
  show (if Nat.beq y a then none else some (y, u)) = _
  rw [bq_f hy]; rfl
structure SetsF (xs : List Nat) (vs : List V) (r r' : Rho) : Prop where
  out : ∀ y, y ∉ xs → fget r'.ρ y = fget r.ρ y
  w : ∀ y u, r'.w = some (y, u) ↔ (r.w = some (y, u) ∧ y ∉ xs)
  len : xs.length = vs.length
theorem sets_fget (xs : List Nat) : ∀ {vs : List V} {r r' : Rho}, r.sets xs vs = some r' → SetsF xs vs r r' := by
  induction xs with
  | nil =>
    intro vs r r' e
    cases vs with
    | nil => cases e; exact ⟨fun _ _ => rfl, fun y u => ⟨fun h => ⟨h, List.not_mem_nil⟩, fun h => h.1⟩, rfl⟩
    | cons => exact nn e
  | cons a xs ih =>
    intro vs r r' e
    cases vs with
    | nil => exact nn e
    | cons b vs =>
      have S := ih e
      exact ⟨fun y hy => (S.out y fun h => hy (List.mem_cons_of_mem _ h)).trans (fget_fput2 _ _ fun h => hy (h ▸ List.mem_cons_self)),
        fun y u => ⟨fun h => have g := (S.w y u).mp h; have g2 := set_w g.1; ⟨g2.1, fun hm => (List.mem_cons.mp hm).elim g2.2 g.2⟩, fun h => (S.w y u).mpr ⟨set_keep h.1 fun e => h.2 (e ▸ List.mem_cons_self), fun hm => h.2 (List.mem_cons_of_mem _ hm)⟩⟩, congrArg (· + 1) S.len⟩
theorem sets_swap {x y : Nat} {u v : V} (hne : x ≠ y) {r r' : Rho} (e : r.sets [x, y] [u, v] = some r') : ∃ r2, r.sets [y, x] [v, u] = some r2 ∧ (∀ z, fget r'.ρ z = fget r2.ρ z) ∧ r'.w = r2.w := by
  refine ⟨(r.set y v).set x u, rfl, fun z => ?_, ?_⟩
  · cases e
    show fget (fput (fput r.ρ x u) y v) z = fget (fput (fput r.ρ y v) x u) z
    by_cases hz : z = x
    · rw [hz, fget_fput2 _ _ hne, fget_fput1, fget_fput1]
    · by_cases hy : z = y
      · rw [hy, fget_fput1, fget_fput2 _ _ hne.symm, fget_fput1]
      · rw [fget_fput2 _ _ hy, fget_fput2 _ _ hz, fget_fput2 _ _ hz, fget_fput2 _ _ hy]
  · have A := (sets_fget _ e).w
    have B := (sets_fget [y, x] (vs := [v, u]) (r := r) (r' := (r.set y v).set x u) rfl).w
    have sw : ∀ {z}, z ∉ [x, y] ↔ z ∉ [y, x] := fun {z} => not_congr ⟨fun h => (List.Perm.swap y x []).mem_iff.mp h, fun h => (List.Perm.swap y x []).mem_iff.mpr h⟩
    cases hw : r'.w with
    | none =>
      cases hw2 : ((r.set y v).set x u).w with
      | none => rfl
      | some z => exact nn (hw.symm.trans ((A z.1 z.2).mpr ⟨((B z.1 z.2).mp hw2).1, sw.mpr ((B z.1 z.2).mp hw2).2⟩))
    | some z => exact ((B z.1 z.2).mpr ⟨((A z.1 z.2).mp hw).1, sw.mp ((A z.1 z.2).mp hw).2⟩).symm
end
end Mine
namespace Mine
section
variable {C : Cfg} {gt : List (Str × List Nat)} {A : Around} {D D' D1 D2 : List FR} {X X' X0 X1 X2 O O' O1 O2 W : Addr → Prop} {σ σ' σ1 σ2 : Nums} {s s' s1 s2 : Shared} {env : Env} {r r' : Rho} {v : V} {p : Value} {n k : Nat} {pos : Pos} {G : Prop}
noncomputable def chkN (sc : Scope) (x : Nat) (t : Expr) : Bool := onName t (stoName sc x)
structure Names (env : Env) (xs : List Nat) (ts : List Expr) : Prop where
  each : assignEach ts env = ts.map (fun t => (false, assign t env))
  len : ts.length = xs.length
  kinds : ∀ x ∈ xs, x < 74 ∧ (env.kindOf (nm x) = some .local ∨ env.kindOf (nm x) = some .cell)
  names : ∀ (i : Nat) (t : Expr) (x : Nat), ts[i]? = some t → xs[i]? = some x → ∃ tp, t = .Name (nm x) tp
theorem names_each (xs : List Nat) : ∀ {ts : List Expr}, chkAll (chkN env.scope) xs ts = true → Names env xs ts := by
  induction xs with
  | nil =>
    intro ts h
    cases ts with
    | nil => exact ⟨rfl, rfl, fun _ h => (nomatch h), fun i t x h => nn h⟩
    | cons => exact ff h
  | cons x xs ih =>
    intro ts h
    cases ts with
    | nil => exact ff h
    | cons t ts =>
      have N := ih (bR h)
      exact onName_c (bL h) fun id tp ht h1 =>
        have g := stoName_sto h1
        ⟨by rw [ht, List.map_cons, ← N.each]; rfl, congrArg (· + 1) N.len, fun y hy => (List.mem_cons.mp hy).elim (fun e => e ▸ ⟨g.1, g.2.2⟩) (N.kinds y),
          fun i u y => @Nat.casesOn (fun i => (t :: ts)[i]? = some u → (x :: xs)[i]? = some y → ∃ tp, u = .Name (nm y) tp) i (fun h1 h2 => ⟨tp, (Option.some.inj h1).symm.trans (ht.trans (by rw [g.2.1, Option.some.inj h2]))⟩) fun i => N.names i u y⟩
theorem bindT_c {xs : List Nat} (e : bindT xs v r = some r') (g : ∀ vs, seqV v = some vs → r.sets xs vs = some r' → G) : G := by
  unfold bindT at e
  cases h : seqV v with
  | none => rw [h] at e; exact nn e
  | some vs => rw [h] at e; exact g vs h e
theorem assignT (K : CfgOK C gt) (R : Room A) {xs : List Nat} {ts : List Expr} {kk : Nat} {tp : Pos} (h : chkAll (chkN env.scope) xs ts = true) (F : FrE C env X0 O X r D s.heap) (S : FrS env X0 O X) (I : Inv C D X σ s) (hv : VR C D X s.heap v p) (e : bindT xs v r = some r') {Q : Unit → Shared → Prop} {E : Value → Shared → Prop}
    (q : ∀ s', StP C X O D s X O D σ s' → FrE C env X0 O X r' D s'.heap → Q () s') : wpAny (model C.prog C.w) A (assign (.Tuple ts kk tp) env p) Q E s :=
  bindT_c e fun vs hs e => by
    have N := names_each xs h
    refine wpAny_bind (m := standAt tp) (wpAny_standAt ?_)
    have e1 : (assignEach ts env).length = vs.length := by rw [N.each, List.length_map, N.len, (sets_fget _ e).len]
    have e2 : (assignEach ts env).findIdx? (·.1) = none := by
      rw [N.each, List.findIdx?_eq_none_iff]
      exact fun x hx => (List.mem_map.mp hx).elim fun t h => h.2 ▸ rfl
    have e3 : (assignEach ts env).map (·.2) = ts.map (fun t => assign t env) := by rw [N.each, List.map_map]; rfl
    unfold unpack
    rw [e1, e2, e3]
    exact wpAny_bind (wpAny_holding (unpackItems_sound (W := (· = env.locals)) K I R hv hs fun ps s1 P1 V1 => stores_sound xs N.kinds (F.step I P1) S P1.inv V1 e ((List.length_map ..).trans N.len)
      (fun i t x ht hx v s Q E w => (Option.map_eq_some_iff.mp ((List.getElem?_map ..).symm.trans ht)).elim fun t' h => (N.names i t' x h.1 hx).elim fun tp h' => h.2 ▸ h' ▸ wpAny_assign_Name w) fun s' P' F' => q s' ((StP.of_pst P1 S).trans P') F'))
theorem swapped_none {ts : List Expr} {kk : Nat} {tp : Pos} {e : Expr} (h : ∀ vs k2 p2, e ≠ .Tuple vs k2 p2) : swappedStores [.Tuple ts kk tp] e env = pure none := by
  cases e <;> first | rfl | exact absurd rfl (h _ _ _)
theorem ifs {c : Bool} {u z : Str} (h : (if c then some u else none) = some z) : z = u := by
  cases c
  · exact nn h
  · exact (Option.some.inj h).symm
theorem fm2 {f : Expr → Option Str} {a b : Expr} {u w : Str} {q : Bool} (ha : ∀ z, f a = some z → z = u) (hb : ∀ z, f b = some z → z = w) (h : (((List.filterMap f [a, b]).length != 2) || q) = false) : List.filterMap f [a, b] = [u, w] := by
  cases e1 : f a with
  | none =>
    rw [List.filterMap_cons_none e1] at h
    cases e2 : f b with
    | none => rw [List.filterMap_cons_none e2] at h; exact nomatch h
    | some y => rw [List.filterMap_cons_some e2] at h; exact nomatch h
  | some x =>
    rw [List.filterMap_cons_some e1] at h ⊢
    cases e2 : f b with
    | none => rw [List.filterMap_cons_none e2] at h; exact nomatch h
    | some y => rw [List.filterMap_cons_some e2, ha x e1, hb y e2]; rfl
noncomputable def SwP (ns : List Str) (t : Sem (Option (List Str))) : Prop := t = pure none ∨ t = pure (some ns)
theorem sw {ns : List Str} {b : Bool} {t u : Sem (Option (List Str))} (ht : SwP ns t) (hu : b = false → SwP ns u) : SwP ns (if b then t else u) := by
  cases b
  · exact hu rfl
  · exact ht
theorem sw5 {ns : List Str} {b : Bool} {t u : Sem (Option (List Str))} (hb : b = false) (hu : SwP ns u) : SwP ns (if b then t else u) := by
  subst hb
  exact hu
theorem swapped_two {x y : Nat} {p1 p2 : Pos} {kk : Nat} {tp : Pos} {vs : List Expr} {k2 : Nat} {vp : Pos} (h : vs.all (constantsAlone 8) = false) :
    SwP [nm x, nm y] (swappedStores [.Tuple [.Name (nm x) p1, .Name (nm y) p2] kk tp] (.Tuple vs k2 vp) env) :=
  sw (.inl rfl) fun _ => sw (.inl rfl) fun _ => sw (.inl rfl) fun h3 => sw (.inl rfl) fun _ => sw5 h (.inr (congrArg (fun n => pure (some n)) (fm2 (fun z hz => ifs hz) (fun z hz => ifs hz) h3)))
theorem exec_asgT {ts : List Expr} {kk : Nat} {tp : Pos} {e : Expr} : exec (.Assign [.Tuple ts kk tp] e pos) env = (do
    standAt pos
    let v ← eval e env
    assignStores env v (← swappedStores [.Tuple ts kk tp] e env) ((assignEach [.Tuple ts kk tp] env).map (·.2))) := by
  have hs : swapsWith e (some (.Tuple ts kk tp)) pos.line env = pure false := by cases e <;> rfl
  have : exec (.Assign [.Tuple ts kk tp] e pos) env = (do
    standAt pos
    if ← swapsWith e (some (.Tuple ts kk tp)) pos.line env then do
      evalThenUse e env fun v => assignAll v ((assignEach [.Tuple ts kk tp] env).map (·.2))
      pure .next
    else do
      let v ← eval e env
      assignStores env v (← swappedStores [.Tuple ts kk tp] e env) ((assignEach [.Tuple ts kk tp] env).map (·.2))) := rfl
  rw [this, hs]
  simp only [pure_bind, Bool.false_eq_true, if_false]
theorem twoOk_c {xs : List Nat} {vs : List Expr} {k2 : Nat} {vp : Pos} (h : twoOk xs (.Tuple vs k2 vp) = true) (g : vs.all (constantsAlone 8) = false → xs.length = 2 → G) : G := by
  have h : (!(vs.all (constantsAlone 8) || !(Nat.beq xs.length 2))) = true := h
  cases ha : vs.all (constantsAlone 8) with
  | true => rw [ha] at h; exact ff h
  | false =>
    rw [ha] at h
    exact g ha (Nat.eq_of_beq_eq_true (by cases hb : Nat.beq xs.length 2; rw [hb] at h; exact ff h; rfl))
theorem two_c {α : Type} {l : List α} (h : l.length = 2) (g : ∀ a b, l = [a, b] → G) : G := by
  cases l with
  | nil => exact nomatch h
  | cons a r => cases r with
    | nil => exact nomatch h
    | cons b r => cases r with
      | nil => exact g a b rfl
      | cons => exact nomatch h
theorem tgts_two {x y : Nat} : Tgts C A env [y, x] [bindName env (nm y), bindName env (nm x)] := fun i t z ht hz v s Q E wp => by
  cases i with
  | zero => cases ht; cases hz; exact wpAny_bindName wp
  | succ i => cases i with
    | zero => cases ht; cases hz; exact wpAny_bindName wp
    | succ i => exact nn ht
theorem asgT_swapped (K : CfgOK C gt) {x y : Nat} (F : FrE C env X0 O X r D s.heap) (S : FrS env X0 O X) (I : Inv C D X σ s) (R : Room A) (hv : VR C D X s.heap v p) (hk : ∀ z ∈ [x, y], z < 74 ∧ (env.kindOf (nm z) = some .local ∨ env.kindOf (nm z) = some .cell)) (hne : x ≠ y) (eb : bindT [x, y] v r = some r')
    {Q : Flow → Shared → Prop} {E : Value → Shared → Prop} (q : ∀ s', StP C X O D s X O D σ s' → FrE C env X0 O X r' D s'.heap → Q .next s') : wpAny (model C.prog C.w) A (assignStores env p (some [nm x, nm y]) []) Q E s :=
  bindT_c eb fun us hs eb => two_c (sets_fget _ eb).len.symm fun u w hu => (sets_swap hne (hu ▸ eb)).elim fun r2 h2 =>
    wpAny_bind (wpAny_rule (wpAny_bind (unpackItems_sound (vs := [u, w]) (W := (· = env.locals)) K I R hv (hu ▸ hs) fun ps s2 P2 V2 => V2.cons_c fun q1 _ e1 a1 k1 V2 => V2.cons_c fun q2 _ e2 a2 k2 V2 => by
      rw [e1, e2, V2.nil_c]
      exact wpAny_bind (stores_sound [y, x] (vs := [w, u]) (r := r) (r' := r2) (fun z hz => hk z ((List.Perm.swap y x []).mem_iff.mpr hz)) (F.step I P2) S P2.inv (.cons a2 k2 (.cons a1 k1 .nil)) h2.1 rfl tgts_two fun s3 P3 F3 => wpAny_pure (q s3 ((StP.of_pst P2 S).trans P3) (F3.congr (fun z => h2.2.1 z) h2.2.2))))))
theorem stm_asgT (K : MakeOK C gt) (hE : SE C gt n) {xs : List Nat} {m : M} {e : Expr} {ts : List Expr} {kk : Nat} {tp : Pos} (h1 : chkAll (chkN env.scope) xs ts = true) (hc : twoOk xs e = true) (nd : xs.Nodup) (h2 : chkE gt k env.scope m e = true)
    (F : FrE C env X0 O X r D s.heap) (S : FrS env X0 O X) (I : Inv C D X σ s) (R : RoomN A n) (ev : (run prg n).e m r σ = some (v, σ')) (eb : bindT xs v r = some r') :
    wpAny (model C.prog C.w) A (exec (.Assign [.Tuple ts kk tp] e pos) env) (SsP C env X0 X O D s (.next r') σ') (fun _ _ => False) s := by
  rw [exec_asgT]
  refine wpAny_bind (wpAny_standAt (wpAny_bind ((hE h2 F I R ev).use fun p D1 s1 P1 V1 => ?_)))
  have plainG : swappedStores [.Tuple ts kk tp] e env = pure none → wpAny (model C.prog C.w) A (do assignStores env p (← swappedStores [.Tuple ts kk tp] e env) ((assignEach [.Tuple ts kk tp] env).map (·.2))) (SsP C env X0 X O D s (.next r') σ') (fun _ _ => False) s1 := fun hn => by
    rw [hn, pure_bind]
    exact wpAny_bind (m := assign (.Tuple ts kk tp) env p) (assignT K.toCfgOK R.room h1 (F.step I P1) S P1.inv V1 eb fun s2 P2 F2 => wpAny_pure (.next ((StP.of_pst P1 S).trans P2) F2 S))
  cases e with
  | Tuple vs k2 vp =>
    exact twoOk_c hc fun hc1 hlen => two_c hlen fun x y hx => two_c ((names_each xs h1).len.trans hlen) fun t1 t2 ht => by
      subst hx; subst ht
      have N := names_each _ h1
      obtain ⟨p1, e1⟩ := N.names 0 t1 x rfl rfl
      obtain ⟨p2, e2⟩ := N.names 1 t2 y rfl rfl
      subst e1; subst e2
      refine (swapped_two (env := env) (x := x) (y := y) (p1 := p1) (p2 := p2) (kk := kk) (tp := tp) (k2 := k2) (vp := vp) hc1).elim plainG fun h => ?_
      rw [h, pure_bind]
      exact asgT_swapped K.toCfgOK (F.step I P1) S P1.inv R.room V1 N.kinds (fun e => (List.nodup_cons.mp nd).1 (e ▸ List.mem_cons_self)) eb fun s' P' F' => .next ((StP.of_pst P1 S).trans P') F' S
  | _ => exact plainG (swapped_none fun _ _ _ h => nomatch h)
end
end Mine
namespace Mine
theorem letOwned_ok {M : Model} {A : Around} {E : Value → Shared → Prop} {s : Shared} {It : Addr} {o : Obj} {n : String} {fs : Array Value} {target : Expr} {v : Value} {Q : Unit → Shared → Prop} (e : s.heap.get? It = some o) (hc : o.cls = .type n) (hd : o.data = .fields fs) (hn : owners.contains n = false) (q : Q () s) :
    wpAny M A (letOwnedTupleGo target (.ref It) v) Q E s := by
  have hn' : ["enumerate", "zip", "dict_itemiterator", "dict_reverseitemiterator", "odict_iterator", "itertools.zip_longest", "itertools.pairwise"].contains n = false := hn
  unfold letOwnedTupleGo
  cases target <;> first
    | exact wpAny_pure q
    | (cases v <;> first
        | exact wpAny_pure q
        | (refine wpAny_bind (wpAny_load e ?_)
           rw [hc, hd]
           dsimp only
           rw [hn', Bool.false_and]
           exact wpAny_pure q))
section
variable {C : Cfg} {gt : List (Str × List Nat)} {A : Around} {D D' D1 D2 : List FR} {X X' X0 X1 X2 O O' O1 O2 W : Addr → Prop} {σ σ' σ1 σ2 : Nums} {s s' s1 s2 : Shared} {env : Env} {r r' : Rho} {v : V} {p : Value} {n k : Nat} {pos : Pos}
inductive LpI (C : Cfg) (env : Env) (X0 X O : Addr → Prop) (D : List FR) (s : Shared) (It : Addr) (St : Nat → Heap → Prop) (len : Nat) (J : Nat → Rho → Nums → Prop) (k : Nat) (s' : Shared) : Prop
  | mk (i : Nat) (D1 : List FR) (σ1 : Nums) (X1 O1 : Addr → Prop) (r1 : Rho) (e : k = len + 1 - i) (hi : i ≤ len) (P : StP C X O D s X1 O1 D1 σ1 s') (F : FrE C env X0 O1 X1 r1 D1 s'.heap) (S : FrS env X0 O1 X1) (st : St i s'.heap) (hX : X1 It) (hO : ¬ O1 It) (ev : J i r1 σ1)
inductive TQ (C : Cfg) (env : Env) (X0 X O : Addr → Prop) (D : List FR) (s : Shared) (J : Rho → Nums → Prop) (fl : Fl) (σ' : Nums) (f : Flow) (s' : Shared) : Prop
  | go (r1 : Rho) (σ1 : Nums) (X1 O1 : Addr → Prop) (D1 : List FR) (e : f = .next ∨ f = .cont) (P : StP C X O D s X1 O1 D1 σ1 s') (F : FrE C env X0 O1 X1 r1 D1 s'.heap) (S : FrS env X0 O1 X1) (j : J r1 σ1)
  | ret (p : Value) (e : f = .ret p) (y : SsP C env X0 X O D s fl σ' (.ret p) s')
noncomputable def Turn (C : Cfg) (A : Around) (env : Env) (X0 : Addr → Prop) (body : List Stmt) (r : Rho) (σ : Nums) (J : Rho → Nums → Prop) (fl : Fl) (σ' : Nums) : Prop :=
  ∀ {D : List FR} {X O : Addr → Prop} {s : Shared}, FrE C env X0 O X r D s.heap → FrS env X0 O X → Inv C D X σ s → wpAny (model C.prog C.w) A (execs body env) (TQ C env X0 X O D s J fl σ') (fun _ _ => False) s
theorem StP.keepO {a : Addr} (P : StP C X O D s X1 O1 D1 σ1 s1) (I : Inv C D X σ s) (hx : X a) (ho : ¬ O a) : ∀ o, s.heap.get? a = some o → s1.heap.get? a = some o := fun o e => P.ext.keep _ _ e (fun r hr e => I.dxX r hr (e ▸ hx)) ho
theorem StP.mono (P : StP C X O D s X1 O1 D1 σ1 s1) (I : Inv C D X σ s) (S : FrS env X0 O X) : Mono D X s.heap D1 X1 s1.heap := P.ext.mono I.fat (fun b hb => .inl (S.oX b hb)) P.xg
theorem loop_gen (K : CfgOK C gt) {target : Expr} {body : List Stmt} {bind : V → Rho → Option Rho} {vi : V} {vs : List V} {fl : Fl} {pv : Value} (J : Nat → Rho → Nums → Prop)
    (hA : ∀ {D : List FR} {X O : Addr → Prop} {σ : Nums} {s : Shared} {r r1 : Rho} {v : V} {p : Value}, FrE C env X0 O X r D s.heap → FrS env X0 O X → Inv C D X σ s → VR C D X s.heap v p → bind v r = some r1 → ∀ {Q : Unit → Shared → Prop} {E : Value → Shared → Prop},
      (∀ s', StP C X O D s X O D σ s' → FrE C env X0 O X r1 D s'.heap → Q () s') → wpAny (model C.prog C.w) A (assign target env p) Q E s)
    (hT : ∀ {i : Nat} {r : Rho} {σ : Nums} {v : V}, vs[i]? = some v → J i r σ → ∃ r1, bind v r = some r1 ∧ Turn C A env X0 body r1 σ (J (i + 1)) fl σ')
    (F : FrE C env X0 O X r D s.heap) (S : FrS env X0 O X) (I : Inv C D X σ s) (R : Room A) (vv : VR C D X s.heap vi pv) (iv : items vi = some vs) (ev : J 0 r σ)
    {Rr : Result → Shared → Prop} {E : Value → Shared → Prop} (qr : ∀ p s', SsP C env X0 X O D s fl σ' (.ret p) s' → Rr (.ok (.ret p)) s') (qe : ∀ r1 σ1 s', J vs.length r1 σ1 → SsP C env X0 X O D s (.next r1) σ1 .next s' → Rr (.ok .next) s') :
    wpAny (model C.prog C.w) A (pyIter pv) (fun it s2 => codeAny (model C.prog C.w) A (.forLoop target it body [] env) Rr s2) E s := by
  refine iter_sound R K.sys vv.1 iv fun o P St fp hof its st0 => ?_
  generalize hIt : s.heap.objs.size = It at its st0 ⊢
  have frIt : s.heap.get? It = none := hIt ▸ get_size _
  have kp := push_keep s.heap o
  have hXIt : ¬ X It := fun h => (I.Xlt _ h).elim fun o' e => not_none e frIt
  have hx3 : ∀ a, (X a ∨ a = It) → X a ∨ s.heap.get? a = none := fun a h => h.imp_right fun e : a = It => e ▸ frIt
  have I0 : Inv C D (fun a => X a ∨ a = It) σ { s with heap := s.heap.push o } := I.grow kp hx3 fun a h => h.elim (fun h => (I.Xlt a h).elim fun o' e => ⟨o', kp _ _ e⟩) fun e : a = It => e ▸ (its.alive 0 _ st0).ex
  have F0 : FrE C env X0 O (fun a => X a ∨ a = It) r D (s.heap.push o) := F.calm (Z := Nope) ⟨fun m h => h.keeps kp, fun b o' _ _ _ _ e => kp b o' e⟩ (fun _ _ _ f => f) (fun _ _ f => f) (fun f => f) ((Ext.of_keeps (W := Nope) kp).mono I.fat (fun _ f => f.elim) hx3) I.dxX fun _ h _ => .inl h
  refine codeAny_forLoop_any (LpI C env X0 X O D s It St vs.length J) (fun k s' hI => ?_) (vs.length + 1)
    ⟨0, D, σ, _, O, r, rfl, Nat.zero_le _, ⟨⟨_, s.toks, rfl⟩, .of_keeps kp, fun _ h => .inl h, hx3, fun _ h => .inl h, fun _ h => h, I0⟩, F0, ⟨fun a h => .inl (S.oX a h), S.oL, S.oC, fun a h => .inl (S.x0 a h)⟩, st0, .inr rfl, fun h => hXIt (S.oX _ h), ev⟩
  have fpk : ∀ {D2 : List FR} {X2 : Addr → Prop} {h h' : Heap} {j : Nat}, Mono D X s.heap D2 X2 h → St j h → (∀ o', h.get? It = some o' → h'.get? It = some o') → (∀ b o', OkA D2 X2 b → h.get? b = some o' → h'.get? b = some o') → St j h' := fun mm st kI kO =>
    its.walks.frame _ _ _ st fun b hb o' e => (its.fp b hb).elim (fun h => h ▸ kI o' (h ▸ e)) fun h => kO b o' ((show VT C D X s.heap vi (.ref b) from h ▸ vv.1).top.elim (fun t => t.elim fun o2 e2 => mm.ok b o2 (vv.2 b h) e2) fun t => t.elim fun l t => t.elim fun rr t => t.2 ▸ mm.okf l rr t.1 (t.2.symm ▸ vv.2 b h)) e
  have kIt : ∀ {s' : Shared} {h2 : Heap}, (∀ b o', b ∉ [It] → s'.heap.get? b = some o' → h2.get? b = some o') → ∀ b o', s'.heap.get? b = some o' → ¬ b = It → h2.get? b = some o' := fun k2 b o' e hb => k2 b o' (fun h => hb (List.mem_singleton.mp h)) e
  generalize hJ : LpI C env X0 X O D s It St vs.length J = JJ
  cases hI with
  | mk i D1 σ1 X1 O1 r1 e hi P1 F1 S1 st1 hX1 hO1 ev1 =>
    subst e
    by_cases hlt : i < vs.length
    · refine its.walks.item i s' _ _ hlt st1 fun p h2 t2 hp st2 k2 => (its.item i p hp).elim fun v hv => ?_
      have kI := kIt k2
      have alI : ∃ o', h2.get? It = some o' := (its.alive _ _ st2).ex
      have J2 := P1.inv.change (W := (· = It)) (s' := { s' with heap := h2, toks := t2 }) (fun b hb => hb ▸ hX1) kI (fun b hb o' e => hb ▸ alI)
      have F2 : FrE C env X0 O1 X1 r1 D1 h2 := F1.other (s' := { s' with heap := h2, toks := t2 }) (W := (· = It)) P1.inv (fun b hb => hb ▸ hX1) kI (fun b hb o' e => hb ▸ alI) (fun e => hO1 (e ▸ S1.oL)) (fun n c e h => hO1 (h ▸ S1.oC n c e)) fun a ha e => hO1 (e ▸ ha)
      have P2 : StP C X O D s X1 O1 D1 σ1 { s' with heap := h2, toks := t2 } := ⟨same_trans P1.same ⟨h2, t2, rfl⟩, P1.ext.trans (J2.2.weak (W' := fun b => b = It) fun b hb => .inl hb) fun b hb => .inr (hb ▸ frIt), P1.og, P1.xg, P1.xx, P1.oo, J2.1⟩
      have mb2 := P2.mono I S
      cases its.alive _ _ st2 with
      | mk oI nI fsI g1 g2 g3 g4 =>
        refine letOwned_ok g1 g2 g3 g4 ((hT hv.1 ev1).elim fun r2 hr => hA F2 S1 J2.1 (hv.2.mono mb2) hr.1 fun s3 P3 F3 => ?_)
        have P13 := P2.trans P3
        have st3 : St (i + 1) s3.heap := fpk mb2 st2 (P3.keepO J2.1 hX1 hO1) (P3.mono J2.1 S1).keep
        refine wpAny_mono (hr.2 F3 S1 P3.inv) (fun f s4 x => ?_) fun _ _ f => f.elim
        cases x with
        | go r3 σ3 X4 O4 D4 e P4 F4 S4 j =>
          have go : ∃ m, m < vs.length + 1 - i ∧ JJ m s4 :=
            ⟨_, lt_turn hlt, hJ ▸ ⟨i + 1, D4, σ3, X4, O4, r3, rfl, hlt, P13.trans P4, F4, S4, fpk (P13.mono I S) st3 (P4.keepO P3.inv hX1 hO1) (P4.mono P3.inv S1).keep, P4.xx _ hX1, fun h => (P4.og _ h).elim hO1 fun h => (P3.inv.Xlt It hX1).elim fun o' e' => not_none e' h, j⟩⟩
          exact e.elim (fun e => by rw [e]; exact go) fun e => by rw [e]; exact go
        | ret p e y => rw [e]; exact qr _ _ (SsP.post P13 y)
    · have hi' := len_turn hi hlt
      subst hi'
      refine its.walks.done s' _ _ st1 fun h2 t2 k2 => wpAny_execs_nil (qe _ _ _ ev1 ?_)
      have kI := kIt k2
      have hneX : ∀ a, X a → a ≠ It := fun a h e => hXIt (e ▸ h)
      have hneO : ∀ a, O1 a → a ≠ It := fun a h e => hO1 (e ▸ h)
      have J4 := P1.inv.drop (s' := { s' with heap := h2, toks := t2 }) (X := fun a => X1 a ∧ a ≠ It) (Z := fun a => a = It) (fun a h => h ▸ hX1) (fun a h => h) kI
      have F4 : FrE C env X0 O1 (fun a => X1 a ∧ a ≠ It) r1 D1 h2 := F1.calm (Z := fun a => a = It) ⟨fun m hm => Ns_keep hm fun o e => kI _ _ e (hneO _ S1.oL), fun b o' _ hz _ _ e => kI b o' e hz⟩ (fun n c e => hneO _ (S1.oC n c e)) hneO (hneO _ S1.oL) J4.2 P1.inv.dxX fun b h hz => ⟨h, hz⟩
      have low : ∀ {b o'}, s.heap.get? b = some o' → ¬ b = It := fun e eb => not_none e (eb ▸ frIt)
      exact .next ⟨same_trans P1.same ⟨h2, t2, rfl⟩, ⟨fun b o' e => (P1.ext.alive b o' e).elim fun o2 e2 => ⟨o2, kI _ _ e2 (low e)⟩, P1.ext.grow, fun b o' e hd ho => kI _ _ (P1.ext.keep b o' e hd ho) (low e)⟩, P1.og, fun a h => P1.xg a h.1, fun a h => ⟨P1.xx a h, hneX a h⟩, P1.oo, J4.1⟩ F4
        ⟨fun a h => ⟨S1.oX a h, hneO a h⟩, S1.oL, S1.oC, fun a h => ⟨S1.x0 a h, hneX a (S.x0 a h)⟩⟩
theorem loop_sound (K : CfgOK C gt) (hS : SS C gt n) {target : Expr} {body : List Stmt} {b : List S} {bind : V → Rho → Option Rho} {vi : V} {vs : List V} {fl : Fl} {pv : Value} {kb : Nat} (hb : chkAll (chkS gt kb env.scope) b body = true)
    (hA : ∀ {D : List FR} {X O : Addr → Prop} {σ : Nums} {s : Shared} {r r1 : Rho} {v : V} {p : Value}, FrE C env X0 O X r D s.heap → FrS env X0 O X → Inv C D X σ s → VR C D X s.heap v p → bind v r = some r1 → ∀ {Q : Unit → Shared → Prop} {E : Value → Shared → Prop},
      (∀ s', StP C X O D s X O D σ s' → FrE C env X0 O X r1 D s'.heap → Q () s') → wpAny (model C.prog C.w) A (assign target env p) Q E s)
    (F : FrE C env X0 O X r D s.heap) (S : FrS env X0 O X) (I : Inv C D X σ s) (R : RoomN A n) (vv : VR C D X s.heap vi pv) (iv : items vi = some vs)
    (ev : forL (fun r σ => (run prg n).s b r σ) bind vs r σ = some (fl, σ')) {Rr : Result → Shared → Prop} {E : Value → Shared → Prop} (q : ∀ f s', SsP C env X0 X O D s fl σ' f s' → Rr (.ok f) s') :
    wpAny (model C.prog C.w) A (pyIter pv) (fun it s2 => codeAny (model C.prog C.w) A (.forLoop target it body [] env) Rr s2) E s := by
  refine loop_gen K (fun i r1 σ1 => forL (fun r σ => (run prg n).s b r σ) bind (vs.drop i) r1 σ1 = some (fl, σ')) hA (fun hv ev => o1_c (drop_cons hv ▸ ev) fun r2 hbind ev => ⟨r2, hbind, fun F3 S1 I3 => ?_⟩) F S I R.room vv iv ev (fun p s' => q _ s')
    fun r1 σ1 s' ev y => sE (List.drop_length ▸ ev : forL (fun r σ => (run prg n).s b r σ) bind [] r1 σ1 = some (fl, σ')) fun h5 h6 => q _ _ (h5 ▸ h6 ▸ y)
  exact oF_c ev (fun r3 σ3 eb ev => wpAny_mono (hS hb F3 S1 I3 R eb) (fun f s4 x => x.c fun X4 O4 D4 P4 hf => hf.next_c fun e F4 S4 => .go r3 σ3 X4 O4 D4 (.inl e) P4 F4 S4 ev) fun _ _ f => f)
    (fun r3 σ3 eb ev => wpAny_mono (hS hb F3 S1 I3 R eb) (fun f s4 x => x.c fun X4 O4 D4 P4 hf => hf.cont_c fun e F4 S4 => .go r3 σ3 X4 O4 D4 (.inr e) P4 F4 S4 ev) fun _ _ f => f)
    fun u σ3 eb ev => sE ev fun h5 h6 => wpAny_mono (hS hb F3 S1 I3 R eb) (fun f s4 x => x.c fun X4 O4 D4 P4 hf => hf.ret_c fun p e V => .ret p e ⟨X4, O4, D4, h6 ▸ P4, h5 ▸ V⟩) fun _ _ f => f
end
end Mine
namespace Mine
section
variable {C : Cfg} {gt : List (Str × List Nat)} {A : Around} {D D' D1 D2 : List FR} {X X' X0 X1 X2 O O' O1 O2 W : Addr → Prop} {σ σ' σ1 σ2 : Nums} {s s' s1 s2 : Shared} {env : Env} {r r' : Rho} {v : V} {p : Value} {n k : Nat} {pos : Pos} {G : Prop}
theorem S1_setA (K : SetOK C gt) (hE : SE C gt n) {x f : Nat} {m : M} {t : Stmt} {fl : Fl} (h : chkS gt (k + 1) env.scope (.setA x f m) t = true) (F : FrE C env X0 O X r D s.heap) (FS : FrS env X0 O X) (I : Inv C D X σ s) (R : RoomN A n)
    (ev : stepS1 (run prg n) (.setA x f m) r σ = some (fl, σ')) : wpAny (model C.prog C.w) A (exec t env) (SsP C env X0 X O D s fl σ') (fun _ _ => False) s :=
  oP_c ev fun v σ2 e1 ev => wOwn_c ev fun u hw ev => wRaw_c ev fun c fs hu ev => oI_c ev fun hc ev => sE ev fun h5 h6 => sAsg_c h fun l e p ht h => on1_c h fun y hy h => onAttr_c h fun o nme q ho h => b4 h fun h1 h2 h3 h4 => onName_c h1 fun id q2 hid h1 => by
    cases Nat.eq_of_beq_eq_true hc
    rw [ht, hy, ho, hid, ← h5]
    exact stm_setA K hE h1 (of_decide_eq_true h2) (Nat.blt_eq.mp h3) h4 F FS I R (h6 ▸ e1) (hu ▸ hw)
theorem S1_setI (K : MakeOK C gt) (hE : SE C gt n) {x : Nat} {kk m : M} {t : Stmt} {fl : Fl} (h : chkS gt (k + 1) env.scope (.setI x kk m) t = true) (F : FrE C env X0 O X r D s.heap) (FS : FrS env X0 O X) (I : Inv C D X σ s) (R : RoomN A n)
    (ev : stepS1 (run prg n) (.setI x kk m) r σ = some (fl, σ')) : wpAny (model C.prog C.w) A (exec t env) (SsP C env X0 X O D s fl σ') (fun _ _ => False) s :=
  oP_c ev fun v σ2 e1 ev => oP_c ev fun kv σ3 e2 ev => wOwn_c ev fun u hw ev => wDict_c ev fun es hu ev => oI_c ev fun hb ev => sE ev fun h5 h6 => sAsg_c h fun l e p ht h => on1_c h fun y hy h => onSub_c h fun o i q ho h => b4 h fun h1 h2 h3 h4 => onName_c h1 fun id q2 hid h1 => by
    rw [ht, hy, ho, hid, ← h5]
    exact stm_setI K hE h1 (bN h2) h4 h3 F FS I R e1 (h6 ▸ e2) (hu ▸ hw) (bL hb) (bR hb)
theorem S1_app (K : MakeOK C gt) (hE : SE C gt n) {x : Nat} {m : M} {t : Stmt} {fl : Fl} (h : chkS gt (k + 1) env.scope (.app x m) t = true) (F : FrE C env X0 O X r D s.heap) (FS : FrS env X0 O X) (I : Inv C D X σ s) (R : RoomN A n)
    (ev : stepS1 (run prg n) (.app x m) r σ = some (fl, σ')) : wpAny (model C.prog C.w) A (exec t env) (SsP C env X0 X O D s fl σ') (fun _ _ => False) s :=
  oP_c ev fun v σ2 e1 ev => wOwn_c ev fun u hw ev => wList_c ev fun vs hu ev => oI_c ev fun hb ev => sE ev fun h5 h6 => sExp_c h fun e p ht h => onMeth_c h fun o nme q l p he h => b4 h fun h1 h2 h3 h4 => onName_c h1 fun id q2 hid h1 => on1_c h4 fun z hz h4 => by
    rw [ht, he, hid, hz, ← h5]
    exact stm_app K hE h1 (of_decide_eq_true h2) h3 h4 F FS I R (h6 ▸ e1) (hu ▸ hw) hb
theorem S1_ife (hT : ST C gt n) (hS : SS C gt n) {c : M} {a b : List S} {t : Stmt} {fl : Fl} (h : chkS gt (k + 1) env.scope (.ife c a b) t = true) (F : FrE C env X0 O X r D s.heap) (FS : FrS env X0 O X) (I : Inv C D X σ s) (R : RoomN A n)
    (ev : stepS1 (run prg n) (.ife c a b) r σ = some (fl, σ')) : wpAny (model C.prog C.w) A (exec t env) (SsP C env X0 X O D s fl σ') (fun _ _ => False) s :=
  sIf_c h fun e x y p ht h => b3 h fun h1 h2 h3 => ht ▸ oB_c ev (fun σ2 e1 ev => wpAny_If ((hT h1 F I R e1).use fun D1 s1 P1 => wpAny_mono (hS h2 (F.step I P1) FS P1.inv R ev) (fun f s' hG => SsP.post (StP.of_pst P1 FS) hG) fun _ _ f => f))
    fun σ2 e1 ev => wpAny_If ((hT h1 F I R e1).use fun D1 s1 P1 => wpAny_mono (hS h3 (F.step I P1) FS P1.inv R ev) (fun f s' hG => SsP.post (StP.of_pst P1 FS) hG) fun _ _ f => f)
theorem S1_forI (K : CfgOK C gt) (hE : SE C gt n) (hS : SS C gt n) {x : Nat} {m : M} {b : List S} {t : Stmt} {fl : Fl} (h : chkS gt (k + 1) env.scope (.forI x m b) t = true) (F : FrE C env X0 O X r D s.heap) (FS : FrS env X0 O X) (I : Inv C D X σ s) (R : RoomN A n)
    (ev : stepS1 (run prg n) (.forI x m b) r σ = some (fl, σ')) : wpAny (model C.prog C.w) A (exec t env) (SsP C env X0 X O D s fl σ') (fun _ _ => False) s :=
  oP_c ev fun v σ2 e1 ev => o1_c ev fun vs e2 ev => sFor_c h fun y it body z p ht h => b5 h fun h0 h1 h2 h3 h4 => onName_c h1 fun id q hid h1 => by
    have g := stoName_sto h1
    rw [ht, hid, g.2.1, isEmpty_eq h0]
    exact wpAny_For ((hE h3 F I R e1).use fun p D1 s1 P1 V1 => loop_sound K hS h4 (bind := fun v r => some (r.set x v)) (fun F2 S2 I2 v2 e Q E q => wpAny_assign_Name (set_stm F2 S2 I2 g.1 g.2.2 v2 fun s' P F => q s' P (Option.some.inj e ▸ F))) (F.step I P1) FS P1.inv R V1 e2 ev fun f s' hG => SsP.post (StP.of_pst P1 FS) hG) (folded_plain h2 env)
theorem S1_forT (K : CfgOK C gt) (hE : SE C gt n) (hS : SS C gt n) {xs : List Nat} {m : M} {b : List S} {t : Stmt} {fl : Fl} (h : chkS gt (k + 1) env.scope (.forT xs m b) t = true) (F : FrE C env X0 O X r D s.heap) (FS : FrS env X0 O X) (I : Inv C D X σ s) (R : RoomN A n)
    (ev : stepS1 (run prg n) (.forT xs m b) r σ = some (fl, σ')) : wpAny (model C.prog C.w) A (exec t env) (SsP C env X0 X O D s fl σ') (fun _ _ => False) s :=
  oP_c ev fun v σ2 e1 ev => o1_c ev fun vs e2 ev => sFor_c h fun y it body z p ht h => b6 h fun h0 h1 h5 h2 h3 h4 => onTup_c h1 fun l q q2 hl h1 => by
    rw [ht, hl, isEmpty_eq h0]
    exact wpAny_For ((hE h3 F I R e1).use fun p D1 s1 P1 V1 => loop_sound K hS h4 (bind := bindT xs) (fun F2 S2 I2 v2 e Q E q => assignT K R.room h1 F2 S2 I2 v2 e q) (F.step I P1) FS P1.inv R V1 e2 ev fun f s' hG => SsP.post (StP.of_pst P1 FS) hG) (folded_plain h2 env)
theorem isCont_c {t : Stmt} (h : isCont t = true) (g : ∀ p, t = .Continue p → G) : G := by
  cases t with
  | Continue p => exact g p rfl
  | _ => exact ff h
theorem StP.refl (I : Inv C D X σ s) : StP C X O D s X O D σ s := .of_chg ⟨⟨s.heap, s.toks, rfl⟩, .refl (W := O), I⟩ fun _ h => h
theorem S1_step (K : SetOK C gt) (hE : SE C gt n) (hT : ST C gt n) (hS : SS C gt n) (hP : ∀ n', n = n' + 1 → SE C gt n' ∧ ST C gt n') {st : S} {t : Stmt} {fl : Fl} (h : chkS gt k env.scope st t = true) (F : FrE C env X0 O X r D s.heap) (FS : FrS env X0 O X) (I : Inv C D X σ s) (R : RoomN A n)
    (ev : stepS1 (run prg n) st r σ = some (fl, σ')) : wpAny (model C.prog C.w) A (exec t env) (SsP C env X0 X O D s fl σ') (fun _ _ => False) s := by
  cases k with
  | zero => exact ff h
  | succ k =>
  cases st with
  | asg x m =>
    exact oP_c ev fun v σ2 e1 ev => sE ev fun h5 h6 => sAsg_c h fun l e p ht h => on1_c h fun y hy h => onName_c (bL h) fun id q hid h1 => by
      rw [ht, hy, hid, ← h5]
      exact stm_asg K.toMakeOK hE hP h1 (bR h) F FS I R (h6 ▸ e1)
  | newL x =>
    exact o1_c ev fun r2 e1 ev => sE ev fun h5 h6 => sAsg_c h fun l e p ht h => on1_c h fun y hy h => onName_c (bL h) fun id q hid h1 => onLst_c (bR h) fun es q he h2 => by
      rw [ht, hy, hid, he, isEmpty_eq h2, ← h5, ← h6]
      exact stm_newL h1 F FS I e1
  | newD x =>
    exact o1_c ev fun r2 e1 ev => sE ev fun h5 h6 => sAsg_c h fun l e p ht h => on1_c h fun y hy h => onName_c (bL h) fun id q hid h1 => onDct_c (bR h) fun a b q he h2 => by
      rw [ht, hy, hid, he, isEmpty_eq (bL h2), isEmpty_eq (bR h2), ← h5, ← h6]
      exact stm_newD h1 F FS I e1
  | asgT xs m =>
    exact oP_c ev fun v σ2 e1 ev => o1_c ev fun r2 e2 ev => sE ev fun h5 h6 => sAsg_c h fun l e p ht h => on1_c h fun y hy h => b5 h fun h1 h2 h3 h4 h7 => onTup_c h1 fun l q q2 hl h1 => by
      rw [ht, hy, hl, ← h5]
      exact stm_asgT K.toMakeOK hE h1 h2 (of_decide_eq_true h3) h7 F FS I R (h6 ▸ e1) e2
  | setA x f m => exact S1_setA K hE h F FS I R ev
  | setI x kk m => exact S1_setI K.toMakeOK hE h F FS I R ev
  | app x m => exact S1_app K.toMakeOK hE h F FS I R ev
  | ife c a b => exact S1_ife hT hS h F FS I R ev
  | forI x m b => exact S1_forI K.toCfgOK hE hS h F FS I R ev
  | forT xs m b => exact S1_forT K.toCfgOK hE hS h F FS I R ev
  | ret m =>
    exact oP_c ev fun v σ2 e1 ev => oC_c ev (fun _ h => nn h) fun hr ev => sE ev fun h5 h6 => sRet_c h fun a p ht h => onSome_c h fun e he h => by
      rw [ht, he, ← h5]
      exact stm_ret K.toMakeOK hE h F FS I R (h6 ▸ e1) hr
  | cont =>
    exact sE ev fun h5 h6 => isCont_c h fun p ht => by
      rw [ht, ← h5, ← h6]
      exact wpAny_bind (m := standAt _) (wpAny_standAt (wpAny_pure ⟨X, O, D, .refl I, F, FS⟩))
theorem SS_step (K : SetOK C gt) (hE : SE C gt n) (hT : ST C gt n) (hS : SS C gt n) (hP : ∀ n', n = n' + 1 → SE C gt n' ∧ ST C gt n') : SS C gt (n + 1) := by
  intro k b ss env A D X0 O X σ σ' s r fl h F FS I R' ev
  have R : RoomN A n := R'.less (Nat.le_succ n)
  have ev : stepS (run prg n) b r σ = some (fl, σ') := ev
  induction b generalizing ss D O X σ s r with
  | nil =>
    cases ss with
    | cons => exact ff h
    | nil => exact sE ev fun h5 h6 => h5 ▸ h6 ▸ wpAny_execs_nil ⟨X, O, D, .refl I, F, FS⟩
  | cons st rest ih =>
    cases ss with
    | nil => exact ff h
    | cons t ts =>
      refine wpAny_execs_cons (oF_c ev (fun r2 σ2 e1 ev => wpAny_mono (S1_step K hE hT hS hP (bL h) F FS I R e1) (fun f s2 x => x.c fun X2 O2 D2 P2 hf => hf.next_c fun e F2 S2 => ?_) fun _ _ f => f)
        (fun r2 σ2 e1 ev => sE ev fun h5 h6 => wpAny_mono (S1_step K hE hT hS hP (bL h) F FS I R e1) (fun f s2 x => x.c fun X2 O2 D2 P2 hf => hf.cont_c fun e F2 S2 => ?_) fun _ _ f => f)
        fun v σ2 e1 ev => sE ev fun h5 h6 => wpAny_mono (S1_step K hE hT hS hP (bL h) F FS I R e1) (fun f s2 x => x.c fun X2 O2 D2 P2 hf => hf.ret_c fun p e V => ?_) fun _ _ f => f)
      · rw [e]
        exact wpAny_mono (ih (bR h) F2 S2 P2.inv ev ev) (fun f s' hG => SsP.post P2 hG) fun _ _ f => f
      · rw [e]
        exact h5 ▸ h6 ▸ ⟨X2, O2, D2, P2, F2, S2⟩
      · rw [e]
        exact h5 ▸ h6 ▸ ⟨X2, O2, D2, P2, V⟩
end
end Mine
namespace Mine
inductive InitAt (C : Cfg) (gt : List (Str × List Nat)) : Prop
  | mk (o : Obj) (fd : FuncData) (body : List Stmt) (T : Addr) (oT : Obj) (items : Array Value) (nT : Nat) (g1 : C.K.lookup (C.fa 101) = some o) (g2 : o.data = .func fd) (g3 : fd.body = .stmts body) (g4 : chkF gt fd.params body fd.scope f_Form_init = true) (g5 : codeIn C.K fd.code fd.qualname = true)
    (g6 : fd.closure = []) (g7 : fd.globals = mainGlobals) (g8 : fd.builtins = builtinsNs) (g9 : fd.defaults = .ref T) (g10 : C.K.lookup T = some oT) (g11 : oT.data = .seq items nT) (g12 : items.size ≤ fd.params.args.length) (g13 : (fd.scope.names.all fun e => decide (e.2 ≠ .cell)) = true)
structure AllOK (C : Cfg) (gt : List (Str × List Nat)) : Prop extends SetOK C gt where
  mk0 : makesIn C.K C.c0 = true ∧ findIn C.K (.ref C.c0) "__init__" = some (some (.ref (C.fa 101))) ∧ typeIn C.K (.ref (C.fa 101)) = some (.type "function")
  init : InitAt C gt
theorem lookup_nodup {α : Type} {l : List (Str × α)} {n : Str} {v : α} (nd : (l.map (·.1)).Nodup) (h : (n, v) ∈ l) : l.lookup n = some v := by
  induction l with
  | nil => exact nomatch h
  | cons x r ih =>
    have nd := List.nodup_cons.mp nd
    show (match n == x.1 with | true => some x.2 | false => r.lookup n) = some v
    refine (List.mem_cons.mp h).elim (fun h2 => ?_) fun h2 => ?_
    · rw [← h2, beq_self_eq_true]
    · rw [beq_eq_false_iff_ne.mpr fun e => nd.1 (List.mem_map.mpr ⟨(n, v), h2, e⟩)]
      exact ih nd.2 h2
theorem room_under {A : Around} {n : Nat} (R : RoomN A (n + 1)) {a : Addr} {rest : List Value} {kw : List (Str × Value)} : RoomN (A.under (.builtin "type.__call__" ⟨.ref a :: rest, kw⟩)) n := R.drop 1 1 (by decide) (by decide) rfl rfl rfl
theorem room_under2 {A : Around} {n : Nat} (R : RoomN A (n + 1)) {a : Addr} {rest : List Value} {kw : List (Str × Value)} (env : Env) : RoomN ((A.under (.builtin "type.__call__" ⟨.ref a :: rest, kw⟩)).deeper env) n := R.drop 4 2 (by decide) (by decide) rfl rfl rfl
end Mine
namespace Mine
theorem fdel_ne {e : Nat × V} {l : List (Nat × V)} {x : Nat} (h : ¬ e.1 = x) : fdel (e :: l) x = e :: fdel l x := show (if Nat.beq e.1 x then _ else _) = _ by rw [bq_f h]; rfl
theorem fdel_eq {e : Nat × V} {l : List (Nat × V)} {x : Nat} (h : e.1 = x) : fdel (e :: l) x = fdel l x := if_pos (bq_t h)
theorem fdel_get (l : List (Nat × V)) {od : Obj} {C : Cfg} {D : List FR} {X : Addr → Prop} {h : Heap} (r : FS C D X h l od) (x : Nat) : FS C D X h (fdel l x) od :=
  r.ind (M := fun l => FS C D X h (fdel l x) od) .nil fun y p fs e a k _ ih => (Classical.em (y.1 = x)).elim (fun hx => (fdel_eq hx).symm ▸ ih) fun hx => (fdel_ne hx).symm ▸ .cons e a k ih
theorem fdel_mem (x : Nat) (l : List (Nat × V)) (e : Nat × V) : e ∈ fdel l x → e ∈ l ∧ e.1 ≠ x := by
  induction l with
  | nil => exact fun h => nomatch h
  | cons a t ih =>
    by_cases hx : a.1 = x
    · rw [fdel_eq hx]; exact fun h => ⟨List.mem_cons_of_mem _ (ih h).1, (ih h).2⟩
    · rw [fdel_ne hx]; exact fun h => (List.mem_cons.mp h).elim (fun h => ⟨h ▸ List.mem_cons_self, h ▸ hx⟩) fun h => ⟨List.mem_cons_of_mem _ (ih h).1, (ih h).2⟩
section
variable {α : Type} {l : List α} {x y : α} {j : Nat}
theorem snoc_mem (h : y ∈ l ++ [x]) : y ∈ l ∨ y = x := (List.mem_append.mp h).imp_right List.mem_singleton.mp
theorem snoc_old (e : l[j]? = some y) : (l ++ [x])[j]? = some y := (List.getElem?_append_left (List.getElem?_eq_some_iff.mp e).1).trans e
theorem snoc_last : (l ++ [x])[l.length]? = some x := by rw [List.getElem?_append_right (Nat.le_refl _), Nat.sub_self]; rfl
theorem snoc_get (e : (l ++ [x])[j]? = some y) : l[j]? = some y ∨ (j = l.length ∧ y = x) := by
  by_cases hlt : j < l.length
  · exact .inl ((List.getElem?_append_left hlt).symm.trans e)
  · rw [List.getElem?_append_right (Nat.not_lt.mp hlt)] at e
    cases hz : j - l.length with
    | zero => rw [hz] at e; exact .inr ⟨Nat.le_antisymm (Nat.sub_eq_zero_iff_le.mp hz) (Nat.not_lt.mp hlt), (Option.some.inj e).symm⟩
    | succ k => rw [hz] at e; exact nn e
end
noncomputable def newH (h : Heap) (c : Addr) : Heap := (h.push emptyDict).push (instObj c h.objs.size)
theorem newH_size {h : Heap} {c : Addr} : (newH h c).objs.size = h.objs.size + 2 := (Heap.size_push ..).trans (congrArg (· + 1) (Heap.size_push ..))
theorem newH_keep {h : Heap} {c : Addr} : ∀ b o, h.get? b = some o → (newH h c).get? b = some o := fun b o e => push_keep _ _ _ _ (push_keep _ _ _ _ e)
theorem newH_dx {h : Heap} {c : Addr} : (newH h c).get? h.objs.size = some emptyDict := push_keep _ _ _ _ (Heap.get?_push_size _ rfl)
theorem newH_x {h : Heap} {c : Addr} : (newH h c).get? (h.objs.size + 1) = some (instObj c h.objs.size) := (congrArg (newH h c).get? (Heap.size_push ..)).symm.trans (Heap.get?_push_size _ rfl)
noncomputable def OO (dx : Addr) : Addr → Prop := fun a => a = dx + 2 ∨ a = dx + 1 ∨ a = dx
theorem OO.none {h : Heap} {a : Addr} (ha : OO h.objs.size a) : h.get? a = none := Heap.get?_none_of_le (ha.elim (fun e => e ▸ Nat.le_add_right _ _) fun ha => ha.elim (fun e => e ▸ Nat.le_succ _) fun e => e ▸ Nat.le_refl _)
structure NewF (C : Cfg) (D : List FR) (X : Addr → Prop) (σ : Nums) (s : Shared) (c : Addr) (m : Str → Option Value) (h0 : Heap) : Prop where
  keep : ∀ b o, s.heap.get? b = some o → h0.get? b = some o
  ns : h0.Ns (s.heap.objs.size + 2) m
  x : h0.get? (s.heap.objs.size + 1) = some (instObj c s.heap.objs.size)
  dx : h0.get? s.heap.objs.size = some emptyDict
  inv : Inv C D (fun a => X a ∨ OO s.heap.objs.size a) σ { s with heap := h0 }
  mono : Mono D X s.heap D (fun a => X a ∨ OO s.heap.objs.size a) h0
  low : ∀ a, OO s.heap.objs.size a → ¬ X a
section
variable {C : Cfg} {gt : List (Str × List Nat)} {n : Nat} {A : Around} {D D2 : List FR} {X X2 : Addr → Prop} {σ σ2 : Nums} {s s2 : Shared} {c : Addr} {m : Str → Option Value} {h0 : Heap}
theorem NewF.mk' (I : Inv C D X σ s) (hns : h0.Ns (newH s.heap c).objs.size m) (hk0 : ∀ b o, (newH s.heap c).get? b = some o → h0.get? b = some o) : NewF C D X σ s c m h0 := by
  rw [newH_size] at hns
  have kk : ∀ b o, s.heap.get? b = some o → h0.get? b = some o := fun b o e => hk0 b o (newH_keep b o e)
  have hx3 : ∀ a, (X a ∨ OO s.heap.objs.size a) → X a ∨ s.heap.get? a = none := fun a ha => ha.imp_right OO.none
  exact ⟨kk, hns, hk0 _ _ newH_x, hk0 _ _ newH_dx, I.grow kk hx3 fun a ha => ha.elim (fun h => (I.Xlt a h).elim fun o e => ⟨o, kk _ _ e⟩) fun h => h.elim (fun h => hns.elim fun o e => e.elim fun _ e => e.elim fun _ e => ⟨o, h ▸ e.1⟩) fun h => h.elim (fun h => ⟨_, h ▸ hk0 _ _ newH_x⟩) fun h => ⟨_, h ▸ hk0 _ _ newH_dx⟩,
    (Ext.of_keeps (W := Nope) kk).mono I.fat (fun _ f => f.elim) hx3, fun a ha h => (I.Xlt a h).elim fun o e => not_none e ha.none⟩
noncomputable def nfR (a dx : Addr) (fs : List (Nat × V)) (lt : ∀ e ∈ fs, e.1 < 13) : FR := ⟨a, dx, fdel fs N.number, fun e he => ⟨lt e (fdel_mem _ _ _ he).1, (fdel_mem _ _ _ he).2⟩⟩
structure Done (C : Cfg) (D2 : List FR) (X : Addr → Prop) (σ2 : Nums) (i : Int) (s2 : Shared) (nf : FR) : Prop where
  inv : Inv C (D2 ++ [nf]) X (σ2 ++ [i]) s2
  ok : OkA (D2 ++ [nf]) X nf.a
theorem form_done (I : Inv C D2 X2 σ2 s2) (hXX : ∀ b, X b → X2 b) {a dx : Addr} {fs : List (Nat × V)} {es : List DictEntry} {ep : Nat} {i : Int} (e1 : s2.heap.get? a = some (instObj C.c0 dx)) (e2 : s2.heap.get? dx = some (dictOf es ep)) (hxx : X2 dx) (ha : X2 a) (hXa : ¬ X a) (hXd : ¬ X dx) (hne : a ≠ dx)
    (sm : es.length ≤ fs.length ∧ (fs.map (·.1)).Nodup ∧ ∀ e ∈ fs, e.1 < 13) (sh : ∀ m, (methTab 0 m).isSome = true → getL (nm m) es = some none) (rr : FS C D2 X2 s2.heap fs (dictOf es ep)) (en : fget fs N.number = some (.int i)) : Done C D2 X σ2 i s2 (nfR a dx fs sm.2.2) := by
  have okA : ∀ b, OkA D2 X2 b → OkA (D2 ++ [nfR a dx fs sm.2.2]) X b := fun b hb => ⟨fun h => hb.1 (hXX b h), fun r hr => (snoc_mem hr).elim (hb.2 r) fun e h => hb.1 (h ▸ e ▸ hxx)⟩
  have mf : Mono D2 X2 s2.heap (D2 ++ [nfR a dx fs sm.2.2]) X s2.heap := ⟨fun l r e => snoc_old e, fun a o _ e => e, fun a o h _ => okA a h, fun l r _ h => okA _ h⟩
  have okx : OkA (D2 ++ [nfR a dx fs sm.2.2]) X a := ⟨hXa, fun r hr => (snoc_mem hr).elim (fun hr e => I.dxX r hr (e ▸ ha)) fun e h => hne (h.symm.trans (e ▸ rfl))⟩
  have apart : ∀ {r : FR}, r ∈ D2 → r.dx ≠ dx := fun hr e => I.dxX _ hr (e ▸ hxx)
  exact ⟨⟨I.base, by rw [List.length_append, List.length_append, I.len]; rfl, fun l r e => (snoc_get e).elim (fun h => (I.form l r h).mono mf h (fun _ h => h) (fun _ h => h) fun n h => snoc_old h) fun h => by
      rw [h.1, h.2]
      exact (rr.get en).elim fun p8 h8 => h8.2.1.int_c fun t8 ht => ⟨i, t8, es, ep, I.len ▸ snoc_last, e1, e2, Nat.le_trans sm.1 (Nat.le_trans (keys_le sm.2.1 sm.2.2) (by decide)), ht ▸ h8.1, sh, fdel_get _ (FS.mono mf rr) _, okx⟩,
    fun r hr h => (snoc_mem hr).elim (fun hr => I.dxX r hr (hXX _ h)) fun e => hXd (e ▸ h : X (nfR a dx fs sm.2.2).dx), fun r hr => (snoc_mem hr).elim (I.dxlo r) fun e => e ▸ I.Xlo _ hxx,
    fun j1 j2 r1 r2 h1 h2 e => (snoc_get h1).elim (fun h1 => (snoc_get h2).elim (fun h2 => I.apart j1 j2 r1 r2 h1 h2 e) fun h2 => (apart (List.mem_of_getElem? h1) (e.trans (h2.2 ▸ rfl))).elim)
      fun h1 => (snoc_get h2).elim (fun h2 => (apart (List.mem_of_getElem? h2) (e.symm.trans (h1.2 ▸ rfl))).elim) fun h2 => h1.1.trans h2.1.symm, fun b h => I.Xlt b (hXX b h), fun b h => I.Xlo b (hXX b h)⟩, okx⟩
theorem init_frame {fd : FuncData} {body : List Stmt} {r : Rho} {vs : List V} {ps : List Value} (ok : FnOk gt fd.params body fd.scope f_Form_init) (g6 : fd.closure = []) (g7 : fd.globals = mainGlobals) (g8 : fd.builtins = builtinsNs) (hcell : ∀ x ∈ fd.scope.names, x.2 ≠ .cell) (vr : VRs C D X s.heap vs ps)
    (hs : (Rho.mk [] (some (13, .inst 0 [] none))).sets f_Form_init.params.tail vs = some r) (N : NewF C D X σ s C.c0 m h0) (hm : ∀ (i x : Nat) (p : Value), f_Form_init.params[i]? = some x → (Value.ref (s.heap.objs.size + 1) :: ps)[i]? = some p → m (nm x) = some p) :
    FrE C (callEnv fd (s.heap.objs.size + 2) (C.fa 101)) X (OO s.heap.objs.size) (fun a => X a ∨ OO s.heap.objs.size a) r D h0 ∧ FrS (callEnv fd (s.heap.objs.size + 2) (C.fa 101)) X (OO s.heap.objs.size) (fun a => X a ∨ OO s.heap.objs.size a) := by
  have pn := params_names ok
  have S := sets_get _ (by decide) hs
  have S2 := sets_fget _ hs
  have nl : ∀ {n c} {G : Prop}, (callEnv fd (s.heap.objs.size + 2) (C.fa 101)).cells.lookup n = some c → G := fun {n c G} e => nn ((show ([] : List (Str × Addr)).lookup n = some c from g6 ▸ e) : none = some c)
  have hloc : ∀ x ∈ f_Form_init.params, fd.scope.names.lookup (nm x) = some .local := fun x hx => (pn.kinds x hx).2.elim id fun h => (hcell _ (lookup_mem' h) rfl).elim
  have vis : ∀ (i x : Nat) (p : Value), f_Form_init.params[i]? = some x → (Value.ref (s.heap.objs.size + 1) :: ps)[i]? = some p → Vis (callEnv fd (s.heap.objs.size + 2) (C.fa 101)) h0 x p := fun i x p e1 e2 => .inl ⟨hloc x (List.mem_of_getElem? e1), _, N.ns, hm i x p e1 e2⟩
  refine ⟨⟨ok.kind, g7, g8, .inr (.inl rfl), ⟨_, N.ns⟩, fun n c e => nl e, fun n n' c e e' => nl e, fun n e => e.elim (fun e => (hcell _ (lookup_mem' e) rfl).elim) fun e => (ok.fr n (lookup_mem' e)).elim,
    fun x v e => (S.get x v e).elim (fun h => h.elim fun j h => have e1 : f_Form_init.params[j + 1]? = some x := h.1; ⟨(pn.kinds x (List.mem_of_getElem? e1)).1, fun _ => (vr.get' h.2).elim fun p hp => ⟨p, vis (j + 1) x p e1 hp.1, hp.2.mono N.mono⟩⟩) fun h => nn h.2, fun y v e => ?_⟩, ⟨fun a h => .inr h, .inl rfl, fun n c e => nl e, fun a h => .inl h⟩⟩
  cases ((S2.w y v).mp e).1
  exact ⟨by decide, S2.out 13 (by decide), hloc 13 (by decide), s.heap.objs.size + 1, vis 0 13 _ rfl rfl, .inr (.inr (.inl rfl)), .inr (.inl rfl), N.low _ (.inr (.inl rfl)), (Nat.succ_ne_self _).symm,
    .form (ep := 0) (es := []) N.x N.dx (.inr (.inr (.inr rfl))) (.inr (.inr rfl)) (Nat.ne_of_lt (Nat.lt_add_of_pos_right (by decide))) (Nat.succ_ne_self _) ⟨Nat.le_refl _, List.nodup_nil, fun _ h => nomatch h⟩ (fun _ _ => rfl) .nil ⟨rfl, rfl⟩⟩
theorem NoLimit.now (K : CfgOK C gt) {h : Heap} (k : ∀ b o, C.H.get? b = some o → h.get? b = some o) : h.NoLimit := K.nolimit.elim fun mc w => ⟨mc, w.1.keeps k, w.2⟩
theorem zip_lookup {ns : List Str} {ps : List Value} (hl : ns.length = ps.length) (nd : ns.Nodup) {i : Nat} {x : Str} {p : Value} (e1 : ns[i]? = some x) (e2 : ps[i]? = some p) : (ns.zip ps).reverse.lookup x = some p :=
  lookup_nodup (by rw [List.map_reverse, List.map_fst_zip (Nat.le_of_eq hl)]; exact List.pairwise_reverse.mpr (nd.imp fun h => Ne.symm h)) (List.mem_reverse.mpr (List.mem_of_getElem? (i := i) (List.getElem?_zip_eq_some.mpr ⟨e1, e2⟩)))
theorem SF_step (K : AllOK C gt) (hS : SS C gt n) : SF C (n + 1) := by
  intro vs ps A D X σ σ' s fs i vr I R ev en
  refine o1_c (ev : initC (run prg n) f_Form_init (.inst 0 [] none :: vs) σ = some (.inst 0 fs none, σ')) fun r hs ev => oF_c ev (fun r2 σ2 hb ev => oP_c ev fun y2 v2 hw2 ev => sE ev fun hv hσ => ?_) (fun _ _ _ h => nn h) (fun _ _ _ h => nn h)
  cases K.init with
  | mk o fd body T oT itemsT nT g1 g2 g3 g4 g5 g6 g7 g8 g9 g10 g11 g12 g13 =>
    have ok := fnOk_of g4
    have pn := params_names ok
    have hcell : ∀ x ∈ fd.scope.names, x.2 ≠ .cell := fun x hx => of_decide_eq_true (List.all_eq_true.mp g13 x hx)
    have I1 : Inv C D X σ { s with heap := newH s.heap C.c0 } := I.keeps newH_keep
    have K1 : C.K.In (newH s.heap C.c0) := K.KNow I1
    have hlen : (fd.params.args.map (·.arg)).length = (Value.ref (s.heap.objs.size + 1) :: ps).length := by rw [pn.names, List.length_map, List.length_cons, ← vr.length, ← (sets_fget _ hs).len]; rfl
    refine wpAny_call (make_core (makes_of (K.KNow I) K.mk0.1) (looks_findIn (K.KNow I) K.mk0.2.1) (fun self => bind_fn (K.KNow I) self K.mk0.2.2) (.inl rfl) (codeAny_call_def (s := { s with heap := newH s.heap C.c0 }) (Nat.lt_of_le_of_lt (Nat.le_trans (Nat.le_add_right _ 30) (Nat.le_add_right _ _)) (room_under R (a := C.c0) (rest := ps) (kw := [])).depth)
      (K1 _ _ g1) g2 (NoLimit.now K.toCfgOK fun b o e => I1.base b o e) (codeRec_of K1 g5) g3 (binds_all (ds := some itemsT) ok.p1 ok.p2 ok.p3 ok.p4 (fun M A E Q hq => g9.symm ▸ wpAny_seqItems (K1 _ _ g10) g11 hq) hlen pn.nd) hcell (fun e he => ?_) (fun h0 hns hk0 => ?_) ok.co ok.gen ok.kind))
    · have hm : e.1 ∈ f_Form_init.params.map nm := pn.names ▸ (List.of_mem_zip (a := e.1) (b := e.2) he).1
      exact (List.mem_map.mp hm).elim fun x hx => hx.2 ▸ (pn.kinds x hx.1).2.elim id fun h => (hcell _ (lookup_mem' h) rfl).elim
    · have N := NewF.mk' I hns hk0
      have FF := init_frame ok g6 g7 g8 hcell vr hs N fun i x p e1 e2 => zip_lookup hlen pn.nd (by rw [pn.names, List.getElem?_map, e1]; rfl) e2
      have hsz := newH_size (h := s.heap) (c := C.c0)
      rw [hsz]
      refine wpAny_mono (hS (k := 60) (env := callEnv fd (s.heap.objs.size + 2) (C.fa 101)) ok.bd FF.1 FF.2 (s := { s with heap := h0, toks := s.toks + ((fd.params.args.map (·.arg)).zip (Value.ref (s.heap.objs.size + 1) :: ps)).length }) (N.inv.keeps fun _ _ e => e) (room_under2 R _) hb)
        (fun fl s2 x => x.c fun X2 O2 D2 P fr => fr.next_c fun hfl F2 S2 => ⟨hfl ▸ rfl, ?_⟩) fun _ _ f => f.elim
      cases F2.own y2 v2 hw2 with
      | mk w1 w2 w3 a w4 w5 w6 w7 w8 own =>
        subst hv
        cases own with
        | @form _ _ dx2 es ep e1 e2 hxx hod hdl hne sm sh rr hp =>
          cases (Nat.succ.inj hp.1 : s.heap.objs.size + 1 = a)
          cases (Nat.add_right_cancel hp.2 : s.heap.objs.size = dx2)
          have dn := form_done P.inv (fun b h => P.xx b (.inl h)) e1 e2 hxx w5 (N.low _ (.inr (.inl rfl))) (N.low _ (.inr (.inr rfl))) hne sm sh rr en
          have x0 : Ext Nope D s.heap D2 s2.heap := (Ext.of_keeps (W := Nope) (D := D) N.keep).trans P.ext fun a ha => .inr (OO.none ha)
          exact x0.grow.elim fun ex g => ⟨D2 ++ [nfR (s.heap.objs.size + 1) s.heap.objs.size fs sm.2.2], ⟨P.same.elim fun h2 e => e.elim fun t2 e => ⟨h2, t2, e⟩, ⟨x0.alive, ⟨ex ++ [nfR (s.heap.objs.size + 1) s.heap.objs.size fs sm.2.2], by rw [g.1, List.append_assoc], fun r hr => (snoc_mem hr).elim (g.2 r) fun e => e ▸ OO.none (.inr (.inr rfl))⟩, x0.keep⟩, fun _ f => f.elim, hσ ▸ dn.inv⟩,
            VT.form (r := nfR (s.heap.objs.size + 1) s.heap.objs.size fs sm.2.2) (by rw [← hσ, P.inv.len]; exact snoc_last), .ref dn.ok⟩
end
end Mine
namespace Mine
section
variable {C : Cfg} {gt : List (Str × List Nat)} {A : Around} {D D' : List FR} {X X' Q Q' W : Addr → Prop} {σ σ' : Nums} {s s' : Shared} {h h' : Heap} {b a : Addr} {es : List (V × V)} {v k : V} {p pk : Value} {κ : Type} {ky : κ → V} {pv : κ → Value} {zs : List κ} {t : κ → Bool} {G : Prop} {vs : List V}
inductive GotL (C : Cfg) (D : List FR) (X Q : Addr → Prop) (h : Heap) : Option V → Option Value → Prop
  | no : GotL C D X Q h none none
  | yes {vs : List V} {a : Addr} {items : Array Value} {n : Nat} (o : h.get? a = some (seqObj "list" items n)) (r : VRs C D X h vs items.toList) (q : Q a) : GotL C D X Q h (some (.list vs)) (some (.ref a))
theorem GotL.isSome {o : Option V} {q : Option Value} (x : GotL C D X Q h o q) : o.isSome = q.isSome := by cases x <;> rfl
theorem GotL.none {o : Option V} {q : Option Value} (x : GotL C D X Q h o q) (e : o = .none) : q = .none := by
  cases x with
  | no => rfl
  | yes => exact nn e.symm
theorem GotL.list_c {o : Option V} {q : Option Value} (x : GotL C D X Q h o q) (e : o = some (.list vs)) (g : ∀ a items n, q = some (.ref a) → h.get? a = some (seqObj "list" items n) → VRs C D X h vs items.toList → Q a → G) : G := by
  cases x with
  | no => exact nn e
  | yes o r q => cases e; exact g _ _ _ rfl o r q
theorem find_t {z : κ} (e : t z = true) : (z :: zs).find? t = some z := List.find?_cons_of_pos e
theorem find_f {z : κ} (e : t z = false) : (z :: zs).find? t = zs.find? t := List.find?_cons_of_neg (ne_true_of_eq_false e)
theorem dget_t {e : V × V} (h : veq e.1 k = true) : dget (e :: es) k = some e.2 := if_pos h
theorem dget_f {e : V × V} (h : veq e.1 k = false) : dget (e :: es) k = dget es k := if_neg (ne_true_of_eq_false h)
theorem GG.get (ht : ∀ z, veq (ky z) k = t z) (x : GG C D X Q h ky pv es zs) : GotL C D X Q h (dget es k) ((zs.find? t).map pv) :=
  x.ind (M := fun es zs => GotL C D X Q h (dget es k) ((zs.find? t).map pv)) .no fun z a it n vs es zs e o r q _ _ ih => by
    cases hz : t z with
    | true => rw [dget_t ((ht z).trans hz), find_t hz, Option.map_some, e]; exact .yes o r q
    | false => rw [dget_f ((ht z).trans hz), find_f hz]; exact ih
theorem GG.nilOf (x : GG C D X Q h ky pv es zs) (e : seek es k = true) (hk : ∀ z, sameKind (ky z) k = false) : es = [] ∧ zs = [] := by
  cases x with
  | nil => exact ⟨rfl, rfl⟩
  | cons => exact ff ((hk _).symm.trans (bR (bL (bR e))))
theorem GG.len (x : GG C D X Q h ky pv es zs) : zs.length = es.length := x.ind (M := fun es zs => zs.length = es.length) rfl fun _ _ _ _ _ _ _ _ _ _ _ _ _ ih => congrArg (· + 1) ih
theorem GG.away (x : GG C D X Q h ky pv es zs) (hq : ¬ Q a) : ∀ y ∈ zs, pv y ≠ .ref a :=
  x.ind (M := fun _ zs => ∀ y ∈ zs, pv y ≠ .ref a) (fun _ h => nomatch h) fun z c _ _ _ _ _ e _ _ q _ _ ih y hy => (List.mem_cons.mp hy).elim (fun hy e2 => hq (Value.ref.inj (e.symm.trans (hy ▸ e2)) ▸ q)) (ih y)
theorem GG.snoc {z : κ} {n : Nat} (hz : pv z = .ref a) (o : h.get? a = some (seqObj "list" #[] n)) (qa : Q a) (x : GG C D X Q h ky pv es zs) : (∀ y ∈ zs, pv y ≠ .ref a) → GG C D X Q h ky pv (es ++ [(ky z, .list [])]) (zs ++ [z]) :=
  x.ind (M := fun es zs => (∀ y ∈ zs, pv y ≠ .ref a) → GG C D X Q h ky pv (es ++ [(ky z, .list [])]) (zs ++ [z])) (fun _ => .cons hz o .nil qa (fun _ h => absurd h List.not_mem_nil) .nil)
    fun y c _ _ _ _ _ e o r q ap _ ih hn => .cons e o r q (fun w hw => (snoc_mem hw).elim (ap w) fun hw e2 => hn y List.mem_cons_self (e.trans (e2.symm.trans (hw ▸ hz)))) (ih fun w hw => hn w (List.mem_cons_of_mem _ hw))
theorem GG.app {items : Array Value} {n : Nat} (ht : ∀ z, veq (ky z) k = t z) (m : Mono D X h D' X' h') (kk : ∀ c it n, Q c → h.get? c = some (seqObj "list" it n) → c ≠ a → Q' c ∧ h'.get? c = some (seqObj "list" it n)) (o : h'.get? a = some (seqObj "list" items n)) (r : VRs C D' X' h' vs items.toList) (qa : Q' a)
    (x : GG C D X Q h ky pv es zs) : (zs.find? t).map pv = some (.ref a) → GG C D' X' Q' h' ky pv (dput es k (.list vs)) zs :=
  x.ind (M := fun es zs => (zs.find? t).map pv = some (.ref a) → GG C D' X' Q' h' ky pv (dput es k (.list vs)) zs) (fun e => nn e) fun z c it i us es zs e o1 r1 q ap g ih hf => by
    cases hz : t z with
    | true =>
      rw [find_t hz] at hf
      have hf : pv z = .ref a := Option.some.inj hf
      rw [dput_t ((ht z).trans hz)]
      exact .cons hf o r qa (Value.ref.inj (e.symm.trans hf) ▸ ap) (g.keep m fun y hy c it n hc q e2 => kk c it n q e2 fun ea => ap y hy (hc.trans (ea ▸ hf.symm.trans e)))
    | false =>
      rw [find_f hz] at hf
      rw [dput_f ((ht z).trans hz)]
      have hc : c ≠ a := fun hc => by
        cases hy : zs.find? t with
        | none => rw [hy] at hf; exact nn hf
        | some y => rw [hy] at hf; exact ap y (List.mem_of_find?_eq_some hy) ((Option.some.inj hf).trans (hc ▸ rfl))
      exact .cons e (kk c it i q o1 hc).2 (r1.mono m) (kk c it i q o1 hc).1 ap (ih hf)
theorem tS {l : List Nat} (z : Str × Value) : veq (kyS z) (.str l) = decide (z.1 = ⟨l.toArray⟩) := (leqN_eq _ l).trans (decide_eq_decide.mpr str_eq)
theorem tT {l : List Int} (z : List Int × Addr × Value) : veq (kyT z) (.tuple (l.map .int)) = decide (z.1 = l) := veqs_ints _ l
theorem map_map2 {l : List Int} {kvs : List (List Int × Addr × Value)} : (atKey kvs l).map (·.2) = (kvs.find? fun z => decide (z.1 = l)).map fun z => z.2.2 := by unfold atKey; rw [Option.map_map]; rfl
theorem Gp.key_c (hk : VT C D X h k pk) (g : Gp C D X Q h b es) (e : seek es k = true) (hkg : keyGp k = true) (gS : ∀ kvs l, k = .str l → h.DictOf C.sk b kvs → GG C D X Q h kyS Prod.snd es kvs → C.sk.is ⟨l.toArray⟩ pk = true → G)
    (gT : ∀ kvs l c, k = .tuple (l.map .int) → pk = .ref c → h.DictOfH C.tk b kvs → (∀ z ∈ kvs, OkA D X z.2.1) → GG C D X Q h kyT (fun z => z.2.2) es kvs → C.tk.is h l c → G) : G :=
  keyOk_c (bL e)
    (fun l hl => by
      have hs := isStr_of (hl ▸ hk)
      cases g with
      | str d g => exact gS _ l hl d g hs
      | tup d kb g => have n := g.nilOf e fun z => by rw [hl]; rfl
                      exact gS [] l hl (NilD.ofH (n.2 ▸ d)).to (n.1 ▸ .nil) hs)
    (fun l hl => by rw [hl] at hkg; exact ff hkg)
    fun l hl => (isKey_of (hl ▸ hk)).elim fun c hc => by
      cases g with
      | str d g => have n := g.nilOf e fun z => by rw [hl]; rfl
                   exact gT [] l c hl hc.1 (NilD.of (n.2 ▸ d)).toH (fun _ h => nomatch h) (n.1 ▸ .nil) hc.2
      | tup d kb g => exact gT _ l c hl hc.1 d kb g hc.2
theorem gp_notIn (K : CfgOK C gt) (I : Inv C D X σ s) (R : Room A) (hk : VT C D X s.heap k pk) (g : Gp C D X Q s.heap b es) (hb : X b) (e : seek es k = true) (hkg : keyGp k = true) {G : Value → Shared → Prop} {E : Value → Shared → Prop}
    (q : ∀ t, G (.bool (!(dget es k).isSome)) { s with toks := t }) : wpAny (model C.prog C.w) A (compareOp .NotIn pk (.ref b)) G E s :=
  g.key_c hk e hkg (fun kvs l hl d g is => by rw [hl, (g.get tS).isSome] at q; exact wpAny_notIn_of is (notSys K.sys (I.Xlo b hb)) d.mapOf (q _))
    fun kvs l c hl hc d _ g is => by rw [hl, (g.get tT).isSome, ← map_map2, Option.isSome_map] at q; rw [hc]; exact wpAny_notIn_heap (in1_room R) is (notSys K.sys (I.Xlo b hb)) d (q _)
theorem gp_find (R : Room A) (hk : VT C D X s.heap k pk) (g : Gp C D X Q s.heap b es) (e : seek es k = true) (hkg : keyGp k = true) (hd : dget es k = some (.list vs))
    (q : ∀ a items n, s.heap.get? a = some (seqObj "list" items n) → VRs C D X s.heap vs items.toList → Q a →
      (∀ {vx sx : Expr} {ops : List Value} {G E : Value → Shared → Prop}, subscripted sx false (.ref b) pk = operate ops (getItem (.ref b) pk) → (∀ t, G (.ref a) { s with toks := t }) → wpAny (model C.prog C.w) A (subscriptTail vx sx (.ref b) pk) G E s) →
      (∀ (D' : List FR) (X' Q' : Addr → Prop) (h' : Heap) (items' : Array Value) (n' : Nat) (vs' : List V), Mono D X s.heap D' X' h' → (∀ c it n, Q c → s.heap.get? c = some (seqObj "list" it n) → c ≠ a → Q' c ∧ h'.get? c = some (seqObj "list" it n)) → (∀ o, s.heap.get? b = some o → h'.get? b = some o) →
        h'.get? a = some (seqObj "list" items' n') → VRs C D' X' h' vs' items'.toList → Q' a → Gp C D' X' Q' h' b (dput es k (.list vs'))) → G) : G :=
  g.key_c hk e hkg (fun kvs l hl d g is => (g.get tS).list_c (hl ▸ hd) fun a it n hf o r qa => q a it n o r qa (fun hs q => tail_any d.typeIs PySem.slot_dict_getitem.lookup (wpAny_getItem_of is d.mapOf hf (q _)) hs)
      fun D' X' Q' h' it' n' vs' m kk kb o' r' qa' => hl ▸ .str (DictOf.mono d kb) (g.app tS m kk o' r' qa' hf))
    fun kvs l c hl hc d kx g is => (g.get tT).list_c (hl ▸ hd) fun a it n hf o r qa => by
      have ha : ∃ z, atKey kvs l = some z ∧ z.2 = .ref a := by
        cases hz : atKey kvs l with
        | none => rw [← map_map2, hz] at hf; exact nn hf
        | some z => rw [← map_map2, hz] at hf; exact ⟨z, rfl, Option.some.inj hf⟩
      exact q a it n o r qa (fun hs q => ha.elim fun z hz => hc ▸ tail_any d.typeIs PySem.slot_dict_getitem.lookup (wpAny_getItem_heap (in1_room R) is d (hz.1.trans (congrArg some (Prod.ext rfl hz.2 : z = (z.1, Value.ref a)))) (q _)) (hc ▸ hs))
        fun D' X' Q' h' it' n' vs' m kk kb o' r' qa' => hl ▸ .tup (DictOfH.mono d kb fun x hx o => m.keep _ o (kx x hx)) (fun z hz => (DictOfH.alive d z hz).elim fun o e => m.ok _ o (kx z hz) e) (g.app tT m kk o' r' qa' hf)
theorem stored_new {kvs : List (Str × Value)} {x : Str} (e : valueAt kvs x = none) : stored kvs x p = kvs ++ [(x, p)] := by
  unfold stored
  refine if_neg fun hany => ?_
  obtain ⟨kv, hkv, hk2⟩ := List.any_eq_true.mp hany
  exact List.find?_eq_none.mp (Option.map_eq_none_iff.mp e) kv hkv hk2
theorem gp_add (I : Inv C D X σ s) (R : Room A) (hk : VR C D X s.heap k pk) (g : Gp C D X Q s.heap b es) (hb : X b) (e : seek es k = true) (hkg : keyGp k = true) (hsm : small es = true) (hd : dget es k = none) (o : s.heap.get? a = some (seqObj "list" #[] 0)) (hqa : ¬ Q a) (hQ : ∀ c, Q c → Q' c) (qa : Q' a)
    {G : Unit → Shared → Prop} {E : Value → Shared → Prop}
    (q : ∀ h' t, (∀ c o', s.heap.get? c = some o' → ¬ c = b → h'.get? c = some o') → (∃ o', h'.get? b = some o') → Inv C D X σ { s with heap := h', toks := t } → Ext (· = b) D s.heap D h' → Mono D X s.heap D X h' → Gp C D X Q' h' b (es ++ [(k, .list [])]) → G () { s with heap := h', toks := t }) :
    wpAny (model C.prog C.w) A (setItem (.ref b) pk (.ref a)) G E s := by
  have nb : ∀ {c it n}, s.heap.get? c = some (seqObj "list" it n) → ¬ c = b := fun e1 hc => g.raw fun ents ep rd => rd.elim fun o2 rd => by
    cases rd.1.symm.trans (hc ▸ e1)
    exact nomatch rd.2.2
  have fin : ∀ h' t, Heap.SameBut b s.heap h' → (∃ o', h'.get? b = some o') → ((∀ c it n, s.heap.get? c = some (seqObj "list" it n) → h'.get? c = some (seqObj "list" it n)) → Mono D X s.heap D X h' → Gp C D X Q' h' b (es ++ [(k, .list [])])) → G () { s with heap := h', toks := t } := fun h' t sb al vt =>
    have kk : ∀ c o', s.heap.get? c = some o' → ¬ c = b → h'.get? c = some o' := fun c o' e hc => (sb.2 c hc).trans e
    have J := I.change (W := (· = b)) (s' := { s with heap := h', toks := t }) (fun c hc => hc ▸ hb) kk fun c hc o' e => hc ▸ al
    have m := J.2.mono (X := X) (X' := X) I.fat (fun c hc => .inl (hc ▸ hb)) fun _ h => .inl h
    q h' t kk al J.1 J.2 m (vt (fun c it n e => kk _ _ e (nb e)) m)
  refine g.key_c hk.1 e hkg (fun kvs l hl d g is => wpAny_setItem_pairs is d (fun h' d2 sb => fin h' _ sb (d2.elim fun o e => e.elim fun _ e => e.elim fun _ e => ⟨o, e.1⟩) fun kl m => ?_) (g.len ▸ small_line hsm))
    fun kvs l c hl hc d kb g is => ?_
  · rw [stored_new ((g.get tS).none (hl ▸ hd))] at d2
    have gg := GG.snoc (ky := kyS) (pv := Prod.snd) (z := ((⟨l.toArray⟩ : Str), Value.ref a)) rfl (kl _ _ _ o) qa (g.keep m fun _ _ a it n _ q e => ⟨hQ _ q, kl _ _ _ e⟩) (g.away hqa)
    exact hl ▸ .str d2 gg
  · rw [hc]
    have hn := (g.get tT).none (hl ▸ hd)
    have hn : atKey kvs l = none := Option.map_eq_none_iff.mp (map_map2.trans hn)
    refine wpAny_setItem_heap (in1_room R) is d (fun h' d2 sb => fin h' _ sb (d2.elim fun o e => e.elim fun _ e => e.elim fun _ e => ⟨o, e.1⟩) fun kl m => ?_) (g.len ▸ small_line hsm)
    rw [storedH_new hn] at d2
    have kc : OkA D X c := is.elim fun o e => e.elim fun _ e => e.elim fun _ e => m.ok _ _ (hk.2 c hc) e.1
    have gg := GG.snoc (ky := kyT) (pv := fun z => z.2.2) (z := (l, c, Value.ref a)) rfl (kl _ _ _ o) qa (g.keep m fun _ _ a it n _ q e => ⟨hQ _ q, kl _ _ _ e⟩) (g.away hqa)
    exact hl ▸ .tup d2 (fun z hz => (snoc_mem hz).elim (kb z) fun hz => hz ▸ kc) gg
end
end Mine
namespace Mine
section
variable {k v w : V} {es : List (V × V)}
theorem veq_self (h : keyGp k = true) (h2 : keyOk k = true) : veq k k = true :=
  keyOk_c h2 (fun l hl => hl ▸ (leqN_eq l l).trans (decide_eq_true rfl)) (fun i hi => by rw [hi] at h; exact ff h) fun l hl => hl ▸ (veqs_ints l l).trans (decide_eq_true rfl)
theorem dget_snoc (h : veq k k = true) : dget es k = none → dget (es ++ [(k, v)]) k = some v := by
  induction es with
  | nil => exact fun _ => if_pos h
  | cons e r ih =>
    cases he : veq e.1 k with
    | true => exact fun hn => nn ((hn.symm.trans (dget_t he)))
    | false => exact fun hn => (dget_f he).trans (ih ((dget_f he).symm.trans hn))
theorem dput_snoc (h : veq k k = true) : dget es k = none → dput (es ++ [(k, v)]) k w = es ++ [(k, w)] := by
  induction es with
  | nil => exact fun _ => if_pos h
  | cons e r ih =>
    cases he : veq e.1 k with
    | true => exact fun hn => nn ((hn.symm.trans (dget_t he)))
    | false => exact fun hn => (dput_f he).trans (congrArg (e :: ·) (ih ((dget_f he).symm.trans hn)))
theorem seek_snoc (h : seek es k = true) (hg : keyGp k = true) : seek (es ++ [(k, v)]) k = true := by
  show (keyOk k && (es ++ [(k, v)]).all _) = true
  rw [List.all_append, bL h, bR h, List.all_cons, bL h]
  cases k <;> first | rfl | exact ff hg
end
noncomputable def sV (i : Bool) (vs : List V) (aE bE : List (V × V)) : V := match i with
  | true => .inst 3 [(13, .list vs), (14, .dict aE), (15, .dict bE)] none
  | false => .inst 3 [(13, .list vs), (14, .dict bE), (15, .dict aE)] none
noncomputable def fA (i : Bool) : Nat := match i with | true => 11 | false => 12
theorem fA_lt (i : Bool) : fA i < 13 := by cases i <;> decide
theorem fA_ne (i : Bool) : fA i ≠ fA (!i) := by cases i <;> decide
section
variable {C : Cfg} {gt : List (Str × List Nat)} {A : Around} {D D' D1 : List FR} {X X' X0 O O' Q Q' W : Addr → Prop} {σ σ' : Nums} {s s' : Shared} {h h' : Heap} {v k : V} {p : Value} {env : Env} {r r' : Rho} {vs : List V} {aE bE aE' : List (V × V)} {i : Bool} {G : Prop} {L a dx b b' : Addr} {es : List DictEntry} {ep : Nat} {T : Addr → Nat} {lf : Value}
theorem IsetB.swap {f f' : Nat} (m : IsetB C D X O L h vs f f' aE bE a dx es ep T b b' lf) : IsetB C D X O L h vs f' f bE aE a dx es ep T b' b lf := ⟨m.e1, m.e2, m.o, m.mt, m.l, m.lv, m.s2, m.s1, m.ne.symm, m.hp⟩
theorem IsetB.own (m : IsetB C D X O L h vs (fA i) (fA (!i)) aE bE a dx es ep T b b' lf) : OwnR C D X O L h (sV i vs aE bE) a := by
  cases i with
  | true => exact .iset ⟨_, _, _, _, _, _, _, m⟩
  | false => exact .iset ⟨_, _, _, _, _, _, _, m.swap⟩
theorem OwnR.side (w : OwnR C D X O L h (sV i vs aE bE) a) (k : ∀ dx es ep T b b' lf, IsetB C D X O L h vs (fA i) (fA (!i)) aE bE a dx es ep T b b' lf → G) : G := by
  cases i with
  | true => cases w with
    | iset m => cases m with
      | mk dx es ep T b b' lf B => exact k _ _ _ _ _ _ _ B
  | false => cases w with
    | iset m => cases m with
      | mk dx es ep T b b' lf B => exact k _ _ _ _ _ _ _ B.swap
structure Mk (env : Env) (X0 O X : Addr → Prop) (r : Rho) (h : Heap) (a : Addr) : Prop where
  h0 : fget r.ρ 13 = none
  hk : env.kindOf (nm 13) = some .local
  vis : Vis env h 13 (.ref a)
  io : InO X O env.locals a
  x0 : ¬ X0 a
theorem FrE.iset_c (F : FrE C env X0 O X r D h) (hw : r.w = some (13, sV i vs aE bE)) (k : ∀ a dx es ep T b b' lf, Mk env X0 O X r h a → IsetB C D X O env.locals h vs (fA i) (fA (!i)) aE bE a dx es ep T b b' lf → G) : G := by
  cases F.own _ _ hw with
  | mk h1 h0 h2 a h3 h4 h5 h6 h7 h8 => exact h8.side fun dx es ep T b b' lf B => k a dx es ep T b b' lf ⟨h0, h2, h3, ⟨h4, h5, h7⟩, h6⟩ B
structure Held (C : Cfg) (env : Env) (X0 O X : Addr → Prop) (r : Rho) (D : List FR) (σ : Nums) (s : Shared) (oA : Obj) : Prop where
  fre : FrE C env X0 O (fun a => X a ∨ a = s.heap.objs.size) r D (s.heap.push oA)
  inv : Inv C D (fun a => X a ∨ a = s.heap.objs.size) σ { s with heap := s.heap.push oA }
  mono : Mono D X s.heap D (fun a => X a ∨ a = s.heap.objs.size) (s.heap.push oA)
theorem held {oA : Obj} (F : FrE C env X0 O X r D s.heap) (I : Inv C D X σ s) (hof : oA.isFreed = false) : Held C env X0 O X r D σ s oA :=
  have k := push_keep s.heap oA
  have hx3 : ∀ a, (X a ∨ a = s.heap.objs.size) → X a ∨ s.heap.get? a = none := fun a h => h.imp_right fun e : a = s.heap.objs.size => e ▸ get_size _
  have m : Mono D X s.heap D (fun a => X a ∨ a = s.heap.objs.size) (s.heap.push oA) := (Ext.of_keeps (W := Nope) k).mono I.fat (fun _ f => f.elim) hx3
  ⟨F.calm (Z := Nope) ⟨fun m h => h.keeps k, fun b o _ _ _ _ e => k b o e⟩ (fun _ _ _ f => f) (fun _ _ f => f) (fun f => f) m I.dxX fun _ h _ => .inl h, I.grow k hx3 fun a h => h.elim (fun h => (I.Xlt a h).elim fun o e => ⟨o, k _ _ e⟩) fun h : a = s.heap.objs.size => ⟨_, h ▸ Heap.get?_push_size _ hof⟩, m⟩
theorem Inv.tok (I : Inv C D X σ s) (t : Nat) : Inv C D X σ { s with toks := t } := I.keeps fun _ _ e => e
theorem StP.tok {s0 : Shared} {D0 : List FR} (P : StP C X O D0 s0 X' O' D σ s) (S : FrS env X0 O' X') (t : Nat) : StP C X O D0 s0 X' O' D σ { s with toks := t } := P.trans (StP.of_pst (env := env) (Pst.toks P.inv t) S)
theorem obj_ne {x y : Addr} {o o' : Obj} (e1 : h.get? x = some o) (e2 : h.get? y = some o') (hd : o.data ≠ o'.data) : ¬ x = y := fun hx => hd (congrArg Obj.data (Option.some.inj (e1.symm.trans (hx ▸ e2))))
theorem Gp.ne {y x : Addr} {E : List (V × V)} {o : Obj} (g : Gp C D X Q h x E) (e : h.get? y = some o) (hd : ∀ ents ep, o.data ≠ .dict ents ep) : ¬ y = x := fun hx => g.raw fun ents ep rd => rd.elim fun o2 rd => hd ents ep ((congrArg Obj.data (Option.some.inj (e.symm.trans (hx ▸ rd.1)))).trans rd.2.2)
structure Ran (C : Cfg) (env : Env) (X0 O X : Addr → Prop) (r : Rho) (D : List FR) (σ : Nums) (s : Shared) (vs : List V) (i : Bool) (aE bE : List (V × V)) (a dx : Addr) (es : List DictEntry) (ep : Nat) (T : Addr → Nat) (b b' : Addr) (lf : Value) : Prop where
  F : FrE C env X0 O X r D s.heap
  I : Inv C D X σ s
  M : Mk env X0 O X r s.heap a
  B : IsetB C D X O env.locals s.heap vs (fA i) (fA (!i)) aE bE a dx es ep T b b' lf
theorem Ran.tok (t : Ran C env X0 O X r D σ s vs i aE bE a dx es ep T b b' lf) (k : Nat) : Ran C env X0 O X r D σ { s with toks := k } vs i aE bE a dx es ep T b b' lf := ⟨t.F, t.I.tok k, t.M, t.B⟩
theorem Ran.step (t : Ran C env X0 O X r D σ s vs i aE bE a dx es ep T b b' lf) (P : Pst C D X (· = env.locals) s D' σ' s') : Ran C env X0 O X r D' σ' s' vs i aE bE a dx es ep T b b' lf :=
  ⟨t.F.step t.I P, P.inv, ⟨t.M.h0, t.M.hk, t.M.vis.calm P.calm (fun _ _ _ f => f) t.F.celX t.F.ns t.I.dxX, t.M.io, t.M.x0⟩, t.B.calm (P.mono t.I t.F.hw) (fun b o hb _ hL _ e => P.ext.keep b o e (fun r hr e => t.I.dxX r hr (e ▸ hb)) hL) t.M.io fun _ h _ => h⟩
theorem Ran.get (K : CfgOK C gt) (t : Ran C env X0 O X r D σ s vs i aE bE a dx es ep T b b' lf) {p q : Pos} {G E : Value → Shared → Prop} (g : G (.ref b) { s with toks := s.toks + 1 }) : wpAny (model C.prog C.w) A (eval (.Attribute (.Name (nm 13) p) (nm (fA i)) q) env) G E s := by
  cases t.B.s1 with
  | mk hg => exact Attribute_eval rfl (name_vis t.F (by decide) t.M.vis (attr_get K t.I (.inr rfl) (fA_lt i) t.B.e1 t.B.e2 hg rfl g))
noncomputable def KeyEv (C : Cfg) (A : Around) (env : Env) (X0 : Addr → Prop) (r : Rho) (k : V) (ke : Expr) : Prop :=
  ∀ {w : Option (Nat × V)} {X O : Addr → Prop} {D : List FR} {σ : Nums} {s : Shared}, FrE C env X0 O X ⟨r.ρ, w⟩ D s.heap → Inv C D X σ s → Gv C A D X (· = env.locals) s k σ (eval ke env)
theorem mk_done {s0 : Shared} {D0 : List FR} {XX OO : Addr → Prop} {x : Addr} {t' : Nat} (F : FrE C env X0 O X r D s.heap) (I : Inv C D X σ s) (M : Mk env X0 O X r s.heap a) (P : StP C XX OO D0 s0 X O D σ s) (S : FrS env X0 O X) (ix : InO X O env.locals x) (kk : ∀ c o, s.heap.get? c = some o → ¬ c = x → h'.get? c = some o) (al : ∃ o, h'.get? x = some o)
    (I' : Inv C D X σ { s with heap := h', toks := t' }) (e : Ext (· = x) D s.heap D h') (nc : ∀ v, ¬ s.heap.IsCell x v) (B : IsetB C D X O env.locals h' vs (fA i) (fA (!i)) aE' bE a dx es ep T b b' lf) : SsP C env X0 XX OO D0 s0 (.next ⟨r.ρ, some (13, sV i vs aE' bE)⟩) σ .next { s with heap := h', toks := t' } :=
  .next (P.trans ⟨⟨_, _, rfl⟩, e.weak fun c hc => .inl (hc ▸ ix.2.1), fun _ h => .inl h, fun _ h => .inl h, fun _ h => h, fun _ h => h, I'⟩)
    (own_set (s' := { s with heap := h', toks := t' }) (W := (· = x)) F I (by decide) M.h0 M.hk M.vis M.io.1 M.io.2.1 M.x0 M.io.2.2 (fun c hc => hc ▸ ix.1) kk (fun c hc o e => hc ▸ al) (fun m hm => Ns_keep hm fun o e => kk _ _ e (Ne.symm ix.2.2)) (fun n c e hc => (F.celX n c e).2.elim fun q hq => nc q (hc ▸ hq)) B.own) S
theorem putIf (K : CfgOK C gt) (R : Room A) (F : FrE C env X0 O X r D s.heap) (S : FrS env X0 O X) (I : Inv C D X σ s) (hw : r.w = some (13, sV i vs aE bE)) {ke ke' : Expr} (hk : KeyEv C A env X0 r k ke) (hk' : KeyEv C A env X0 r k ke') (e1 : keyGp k = true) (e2 : seek aE k = true) (e3 : small aE = true) {p : Nat → Pos} :
    wpAny (model C.prog C.w) A (exec (.If (.Compare ke [.NotIn] [.Attribute (.Name (nm 13) (p 0)) (nm (fA i)) (p 1)] (p 2)) [.Assign [.Subscript (.Attribute (.Name (nm 13) (p 3)) (nm (fA i)) (p 4)) ke' (p 5)] (.List [] (p 6)) (p 7)] [] (p 8)) env)
      (SsP C env X0 X O D s (.next ⟨r.ρ, some (13, sV i vs (oE (dget aE k) (aE ++ [(k, .list [])]) fun _ => aE) bE)⟩) σ) (fun _ _ => False) s := by
  refine wpAny_If (isTrue_cmp rfl ((hk F I).use fun pk D1 s1 P1 V1 => (F.step I P1).iset_c hw fun a dx es ep T b b' lf M B => ?_))
  have t1 : Ran C env X0 O X r D1 σ s1 vs i aE bE a dx es ep T b b' lf := ⟨F.step I P1, P1.inv, M, B⟩
  refine t1.get K ?_
  have t2 := t1.tok (s1.toks + 1)
  cases t2.B.s1 with
  | mk hg ob nd gp =>
    refine gp_notIn K t2.I R V1.1 gp ob.1 e2 e1 fun tk => wpAny_truthy_bool ?_
    have t3 := t1.tok tk
    have P3 := (StP.of_pst P1 S).tok S tk
    cases hq : dget aE k with
    | some w => exact wpAny_execs_nil (SsP.next P3 (t3.F.congr (fun _ => rfl) hw.symm) S)
    | none =>
      have H := held (oA := { cls := .type "list", data := .seq #[] }) t3.F t3.I rfl
      have kp := push_keep s1.heap { cls := .type "list", data := .seq #[] }
      have t4 : Ran C env X0 O (fun a => X a ∨ a = s1.heap.objs.size) r D1 σ { s1 with heap := s1.heap.push { cls := .type "list", data := .seq #[] }, toks := tk } vs i aE bE a dx es ep T b b' lf :=
        ⟨H.fre, H.inv, ⟨M.h0, M.hk, M.vis.keep (fun m hm => ⟨m, hm.keeps kp, rfl⟩) fun c _ v hc => IsCell_keep hc (kp c), ⟨.inl M.io.1, M.io.2⟩, M.x0⟩, B.calm H.mono (fun b o _ _ _ _ e => kp b o e) M.io fun b h _ => .inl h⟩
      refine wpAny_execs_cons (wpAny_Assign_Subscript (wpAny_List (args_nil ⟨Nat.zero_le _, t4.get K ?_⟩)) rfl)
      have t5 := t4.tok (tk + 1)
      refine (hk' t5.F t5.I).use fun pk2 D2 s2 P2 V2 => ?_
      have t6 := t5.step P2
      have nX : ¬ X s1.heap.objs.size := fun h => (P1.inv.Xlt _ h).elim fun o e => not_none e (get_size _)
      have nO : ∀ {z}, O z → ¬ z = s1.heap.objs.size := fun h e => nX (S.oX _ (e ▸ h))
      have nL : s1.heap.objs.size ≠ env.locals := fun e => nX (e ▸ t1.F.locX)
      have oL : s2.heap.get? s1.heap.objs.size = some (seqObj "list" #[] 0) := P2.ext.keep _ _ (Heap.get?_push_size _ rfl) (fun r hr e => t5.I.dxX r hr (.inr e)) nL
      have S' : FrS env X0 (fun a => O a ∨ a = s1.heap.objs.size) (fun a => X a ∨ a = s1.heap.objs.size) := ⟨fun a h => h.imp_left (S.oX a), .inl S.oL, fun n c e => .inl (S.oC n c e), fun a h => .inl (S.x0 a h)⟩
      have fz : s.heap.get? s1.heap.objs.size = none := P1.ext.fresh (get_size _)
      have P4 : StP C X O D s (fun a => X a ∨ a = s1.heap.objs.size) (fun a => O a ∨ a = s1.heap.objs.size) D2 σ s2 :=
        (P3.trans ⟨⟨_, _, rfl⟩, .of_keeps kp, fun z h => h.imp_right fun e : z = s1.heap.objs.size => e ▸ get_size _, fun z h => h.imp_right fun e : z = s1.heap.objs.size => e ▸ get_size _, fun _ h => .inl h, fun _ h => .inl h, H.inv⟩).trans ((StP.of_pst (env := env) (Pst.toks t4.I (tk + 1)) S').trans (StP.of_pst P2 S'))
      have i6 : ∀ {z}, InO (fun a => X a ∨ a = s1.heap.objs.size) O env.locals z → InO (fun a => X a ∨ a = s1.heap.objs.size) (fun a => O a ∨ a = s1.heap.objs.size) env.locals z := fun h => ⟨h.1, .inl h.2.1, h.2.2⟩
      cases t6.B.s1 with
      | mk hg ob nd gp =>
        refine gp_add (Q' := fun z => InO (fun a => X a ∨ a = s1.heap.objs.size) (fun a => O a ∨ a = s1.heap.objs.size) env.locals z ∧ (if z = s1.heap.objs.size then fA i else T z) = fA i) t6.I R V2 gp ob.1 e2 e1 e3 hq oL (fun q => nO q.1.2.1 rfl) (fun c q => ⟨i6 q.1, (if_neg (nO q.1.2.1)).trans q.2⟩) ⟨⟨.inr rfl, .inr rfl, nL⟩, if_pos rfl⟩ fun h' tk' kk al I7 x7 m7 g7 => ?_
        cases t6.B.s2 with
        | mk hg2 ob2 nd2 gp2 =>
          exact wpAny_execs_nil (mk_done (T := fun z => if z = s1.heap.objs.size then fA i else T z) (t6.F.growO fun _ h => .inl h) t6.I ⟨M.h0, M.hk, t6.M.vis, i6 t6.M.io, M.x0⟩ P4 S' (i6 ob) kk al I7 x7 (fun v hc => gp.raw fun _ _ rd => rd.notCell hc)
            ⟨kk _ _ t6.B.e1 (gp.ne t6.B.e1 fun _ _ => Data.noConfusion), kk _ _ t6.B.e2 (Ne.symm nd), i6 t6.B.o, t6.B.mt, t6.B.l, t6.B.lv.mono m7, ⟨hg, i6 ob, nd, g7⟩,
              ⟨hg2, i6 ob2, nd2, gp2.keep m7 (fun c it n q e => ⟨⟨i6 q.1, (if_neg (nO q.1.2.1)).trans q.2⟩, kk _ _ e (gp.ne e fun _ _ => Data.noConfusion)⟩) fun o e => kk _ _ e (Ne.symm t6.B.ne)⟩, t6.B.ne, t6.B.hp⟩)
theorem putApp (K : CfgOK C gt) (R : Room A) (F : FrE C env X0 O X r D s.heap) (S : FrS env X0 O X) (I : Inv C D X σ s) (hw : r.w = some (13, sV i vs aE bE)) {f : V} {ke fe : Expr} (hk : KeyEv C A env X0 r k ke) (hf : KeyEv C A env X0 r f fe) (hst : ∀ env, starEach [fe] env = [(false, eval fe env)]) (hsl : isSlice ke = false) (e1 : keyGp k = true) (e2 : seek aE k = true) {l : List V} (e3 : dget aE k = some (.list l)) (e4 : small l = true) {p : Nat → Pos}
    (hline : Nat.beq (p 3).endLine (p 5).line = true) :
    wpAny (model C.prog C.w) A (exec (.Expr (.Call (.Attribute (.Subscript (.Attribute (.Name (nm 13) (p 0)) (nm (fA i)) (p 1)) ke (p 2)) (Str.ofString "append") (p 3)) [fe] [] (p 5)) (p 6)) env)
      (SsP C env X0 X O D s (.next ⟨r.ρ, some (13, sV i vs (dput aE k (.list (l ++ [f]))) bE)⟩) σ) (fun _ _ => False) s := by
  refine F.iset_c hw fun a dx es ep T b b' lf M B => wpAny_Expr_any ?_ (by unfold interactive; rw [F.kind]; rfl) rfl
  have t0 : Ran C env X0 O X r D σ s vs i aE bE a dx es ep T b b' lf := ⟨F, I, M, B⟩
  refine methodCall_eval rfl (by rw [hst]; rfl) (Nat.lt_of_sub_pos (Nat.succ_pos 18)) hline (Subscript_ (t0.get K ?_))
  have t1 := t0.tok (s.toks + 1)
  refine (hk t1.F t1.I).use fun pk D2 s2 P2 V2 => ?_
  have t2 := t1.step P2
  cases t2.B.s1 with
  | mk hg ob nd gp =>
    refine gp_find R V2.1 gp e2 e1 e3 fun c it n oc vr qc get grow => get (subscripted_plain hsl _ _) fun tk => Calls.getMethod_list_append (s := { s2 with toks := tk }) oc rfl rfl ?_
    rw [hst]
    have t3 := t2.tok tk
    refine Calls.callWith_builtin rfl (Calls.evalArgs_plain (Calls.spliced_cons ((hf t3.F t3.I).use fun pf D4 s4 P4 V4 => Calls.spliced_nil ?_)))
    have t4 := t3.step P4
    have kx : ∀ {z o}, InO X O env.locals z → s2.heap.get? z = some o → s4.heap.get? z = some o := fun h e => P4.ext.keep _ _ e (fun r hr e => t3.I.dxX r hr (e ▸ h.1)) h.2.2
    have m4 := P4.mono t3.I t3.F.hw
    have oc4 := kx qc.1 oc
    refine app_sound P4.inv qc.1.1 oc4 (vr.mono m4) V4 (Nat.le_trans (small_le e4) (by decide)) fun h' n'' kk al I5 x5 vr5 => ?_
    have m5 : Mono D4 X s4.heap D4 X h' := x5.mono P4.inv.fat (fun z hz => .inl (hz ▸ qc.1.1)) fun _ h => .inl h
    have bc : ¬ b = c := fun e => gp.ne oc (fun _ _ => Data.noConfusion) e.symm
    have g5 := grow D4 X (fun z => InO X O env.locals z ∧ T z = fA i) h' _ _ _ (m4.trans m5) (fun z it n q e hne => ⟨q, kk _ _ (kx q.1 e) hne⟩) (fun o e => kk _ _ (kx ob e) bc) al vr5 qc
    cases t4.B.s2 with
    | mk hg2 ob2 nd2 gp2 =>
      exact mk_done (t' := s4.toks) t4.F t4.I t4.M (((StP.of_pst (Pst.toks I (s.toks + 1)) S).trans (StP.of_pst P2 S)).trans ((StP.of_pst (Pst.toks P2.inv tk) S).trans (StP.of_pst P4 S))) S qc.1 kk ⟨_, al⟩ I5 x5 (fun v hc => nomatch IsCell.data oc4 hc)
        ⟨kk _ _ t4.B.e1 (obj_ne t4.B.e1 oc4 Data.noConfusion), kk _ _ t4.B.e2 (obj_ne t4.B.e2 oc4 Data.noConfusion), t4.B.o, t4.B.mt, t4.B.l, t4.B.lv.mono m5, ⟨hg, ob, nd, g5⟩,
          ⟨hg2, ob2, nd2, gp2.keep m5 (fun z it n q e => ⟨q, kk _ _ e fun e => fA_ne i (qc.2.symm.trans (e ▸ q.2))⟩) fun o e => kk _ _ e fun e => gp2.ne oc4 (fun _ _ => Data.noConfusion) e.symm⟩, t4.B.ne, t4.B.hp⟩
theorem put_one (K : CfgOK C gt) (R : Room A) (F : FrE C env X0 O X r D s.heap) (S : FrS env X0 O X) (I : Inv C D X σ s) (hw : r.w = some (13, sV i vs aE bE)) {f : V} {ke ke' ke2 fe : Expr} (hk : KeyEv C A env X0 r k ke) (hk' : KeyEv C A env X0 r k ke') (hk2 : KeyEv C A env X0 r k ke2) (hf : KeyEv C A env X0 r f fe) (hst : ∀ env, starEach [fe] env = [(false, eval fe env)]) (hsl : isSlice ke2 = false)
    {ks : List V} {out : List (V × V)} (ev : putEach aE (k :: ks) f = some out) {p p2 : Nat → Pos} (hline : Nat.beq (p2 3).endLine (p2 5).line = true) {more : List Stmt} {Q : Flow → Shared → Prop}
    (q : ∀ E' s', putEach E' ks f = some out → SsP C env X0 X O D s (.next ⟨r.ρ, some (13, sV i vs E' bE)⟩) σ .next s' → wpAny (model C.prog C.w) A (execs more env) Q (fun _ _ => False) s') :
    wpAny (model C.prog C.w) A (execs (.If (.Compare ke [.NotIn] [.Attribute (.Name (nm 13) (p 0)) (nm (fA i)) (p 1)] (p 2)) [.Assign [.Subscript (.Attribute (.Name (nm 13) (p 3)) (nm (fA i)) (p 4)) ke' (p 5)] (.List [] (p 6)) (p 7)] [] (p 8)
      :: .Expr (.Call (.Attribute (.Subscript (.Attribute (.Name (nm 13) (p2 0)) (nm (fA i)) (p2 1)) ke2 (p2 2)) (Str.ofString "append") (p2 3)) [fe] [] (p2 5)) (p2 6) :: more) env) Q (fun _ _ => False) s :=
  oI_c ev fun hb ev => b3 hb fun e1 e2 e3 => wpAny_execs_cons (wpAny_mono (putIf K R F S I hw hk hk' e1 e2 e3) (fun f1 s1 x => x.c fun X1 O1 D1 P1 fr => fr.next_c fun hf1 F1 S1 => by
    rw [hf1]
    have go : ∀ {E1 l}, dget aE k = none ∨ dget aE k = some (.list l) → oE (dget aE k) (aE ++ [(k, .list [])]) (fun _ => aE) = E1 → seek E1 k = true → dget E1 k = some (.list l) → small l = true → putEach (dput E1 k (.list (l ++ [f]))) ks f = some out → wpAny (model C.prog C.w) A (execs (_ :: more) env) Q (fun _ _ => False) s1 := fun {E1 l} _ hE e2 e3 e4 ev =>
      wpAny_execs_cons (wpAny_mono (putApp (r := ⟨r.ρ, some (13, sV i vs E1 bE)⟩) K R (hE ▸ F1) S1 P1.inv rfl (fun F I => hk2 F I) (fun F I => hf F I) hst hsl e1 e2 e3 e4 hline) (fun f2 s2 y => y.c fun X2 O2 D2 P2 fr => fr.next_c fun hf2 F2 S2 => by
        rw [hf2]
        exact q _ _ ev ⟨X2, O2, D2, P1.trans P2, F2, S2⟩) fun _ _ f => f)
    exact oE_c ev (fun hn ev => go (l := []) (.inl hn) (by rw [hn]; rfl) (seek_snoc e2 e1) (dget_snoc (veq_self e1 (bL e2)) hn) rfl ((dput_snoc (veq_self e1 (bL e2)) hn).symm ▸ ev))
      fun w hn ev => wList_c ev fun l hl ev => oI_c ev fun e4 ev => go (.inr (hl ▸ hn)) (by rw [hn]; rfl) e2 (hl ▸ hn) e4 ev) fun _ _ f => f)
end
end Mine
namespace Mine
section
variable {C : Cfg} {gt : List (Str × List Nat)} {A : Around} {D D' : List FR} {X X' X0 O : Addr → Prop} {σ σ' : Nums} {s s' : Shared} {h h' : Heap} {v : V} {p : Value} {env : Env} {r : Rho} {pos pos2 : Pos}
theorem key_var {x : Nat} (hf : fget r.ρ x = some v) (hs : Seen env x) : KeyEv C A env X0 r v (.Name (nm x) pos) := fun F I =>
  ((F.get x v hf).2 hs).elim fun p g => name_vis F (F.get x v hf).1 g.1 ⟨_, .refl I, g.2⟩
theorem key_name (K : CfgOK C gt) {fs : List (Nat × V)} {k ℓ : Nat} (hf : fget r.ρ 14 = some (.inst k fs (some ℓ))) (hs : Seen env 14) (hn : fget fs 0 = some v) : KeyEv C A env X0 r v (.Attribute (.Name (nm 14) pos) (nm 0) pos2) := fun F I =>
  ((F.get 14 _ hf).2 hs).elim fun p g => Attribute_eval rfl (name_vis F (F.get 14 _ hf).1 g.1 (attr_sound K I (by decide) g.2 hn))
structure NumR (C : Cfg) (D : List FR) (X : Addr → Prop) (L : Addr) (σ : Nums) (s : Shared) (h' : Heap) (t : Nat) : Prop where
  inv : Inv C D X σ { s with heap := h', toks := t }
  ext : Ext (· = L) D s.heap D h'
theorem num_set (I : Inv C D X σ s) {ℓ : Nat} {fr : FR} (el : D[ℓ]? = some fr) {L : Addr} {i n : Int} {tk t0 : Tok} {es es' : List DictEntry} {ep ep' t : Nat} {m0 : Str → Option Value} (hXL : X L) (a2 : s.heap.get? fr.a = some (instObj C.c0 fr.dx)) (a4 : es.length ≤ 20) (a5 : getL (nm N.number) es = some (some (.int n t0)))
    (a6 : ∀ m, (methTab 0 m).isSome = true → getL (nm m) es = some none) (a7 : FS C D X s.heap fr.fs (dictOf es ep)) (a8 : OkA D X fr.a) (SR : SetR s.heap L fr.dx m0 es 8 (.int i tk) h' es' ep') : NumR C D X L (σ.set ℓ i) s h' t := by
  have hfr := List.mem_of_getElem? el
  have al : ∃ o, h'.get? L = some o := SR.ns.elim fun o e => e.elim fun _ e => e.elim fun _ e => ⟨o, e.1⟩
  have x : Ext (· = L) D s.heap D h' := ⟨fun b o e => (Classical.em (b = L)).elim (fun h1 => h1 ▸ al) fun h1 => (Classical.em (b = fr.dx)).elim (fun h2 => ⟨_, h2 ▸ SR.at'⟩) fun h2 => ⟨o, SR.keep b o e h1 h2⟩, ⟨[], (List.append_nil _).symm, fun _ h => nomatch h⟩, fun b o e hd hw => SR.keep b o e hw fun h => hd fr hfr h.symm⟩
  have m : Mono D X s.heap D X h' := x.mono I.fat (fun b hb => .inl (hb ▸ hXL)) fun _ h => .inl h
  have hlt : ℓ < σ.length := I.len ▸ (List.getElem?_eq_some_iff.mp el).1
  have kX : ∀ {b o}, s.heap.get? b = some o → ¬ X b → b ≠ fr.dx → h'.get? b = some o := fun e hx hne => SR.keep _ _ e (fun h => hx (h ▸ hXL)) hne
  have lookN : ∀ g, g < 74 → g ≠ 8 → getL (nm g) es' = getL (nm g) es := fun g hg hne => SR.rest _ fun e => hne (nm_inj g hg 8 (by decide) e)
  have few : es'.length ≤ 20 := by rw [SR.len, if_pos (getL_any a5)]; exact a4
  exact ⟨⟨fun b o e => kX (I.base b o e) (fun h => not_none e (I.Xlo b h)) fun h => not_none e (h ▸ I.dxlo fr hfr), (List.length_set ..).trans I.len, fun l r e => (Classical.em (l = ℓ)).elim
      (fun hq => by
        cases Option.some.inj (el.symm.trans (hq ▸ e))
        rw [hq]
        exact ⟨i, tk, es', ep', List.getElem?_set_self hlt, kX a2 a8.1 fun h => a8.2 fr hfr h.symm, SR.at', few, SR.got, fun m0 hm => (lookN m0 (meth_range hm).2 fun e => absurd (e ▸ (meth_range hm).1) (by decide)).trans (a6 m0 hm),
          FS.mono m (FS.same (od := dictOf es ep) (od' := dictOf es' ep') (f := 8) lookN a7 (fun e he => Nat.lt_trans (fr.ok e he).1 (by decide)) fun hm => (List.mem_map.mp hm).elim fun e he => (fr.ok e he.1).2 he.2), m.okf _ _ el a8⟩)
      fun hq => (I.form l r e).mono m e (fun o g => kX g (I.form l r e).okA.1 fun h => (I.form l r e).okA.2 fr hfr h.symm) (fun o g => kX g (I.dxX r (List.mem_of_getElem? e)) fun h => hq (I.apart _ _ _ _ e el h)) fun n h => (List.getElem?_set_ne (Ne.symm hq)).trans h,
    I.dxX, I.dxlo, I.apart, fun a ha => (I.Xlt a ha).elim fun o e => x.alive a o e, I.Xlo⟩, x⟩
theorem stm_num (K : SetOK C gt) (F : FrE C env X0 O X r D s.heap) (S : FrS env X0 O X) (I : Inv C D X σ s) {fs : List (Nat × V)} {ℓ k : Nat} {i : Int} (hf : fget r.ρ 14 = some (.inst k fs (some ℓ))) (hi : fget r.ρ 8 = some (.int i)) (hs : Seen env 14) (hs8 : Seen env 8) {q1 q2 q3 q4 : Pos} :
    wpAny (model C.prog C.w) A (exec (.Assign [.Attribute (.Name (nm 14) q1) (nm 8) q2] (.Name (nm 8) q3) q4) env) (SsP C env X0 X O D s (.next r) (σ.set ℓ i)) (fun _ _ => False) s := by
  rw [plainObj_exec_Assign_Attribute _ _ _ _ _ rfl]
  refine ((F.get 8 _ hi).2 hs8).elim fun p8 g8 => ((F.get 14 _ hf).2 hs).elim fun p14 g14 => wpAny_bind (wpAny_standAt (wpAny_bind (name_vis F (F.get 8 _ hi).1 g8.1 ?_)))
  rw [assign_Attribute]
  refine wpAny_bind (wpAny_bind (wpAny_holding (name_vis F (F.get 14 _ hf).1 g14.1 (wpAny_bind (wpAny_standAt (wpAny_bind (wpAny_holding ?_)))))))
  refine g14.2.1.inst_c (fun l fr hk hfs hl hp el => ?_) fun _ _ _ _ hn => nomatch hn
  refine g8.2.1.int_c fun tk h8 => ?_
  rw [hp, h8]
  cases Option.some.inj hl
  cases I.form _ _ el with
  | mk n t' es ep a1 a2 a3 a4 a5 a6 a7 a8 =>
    have g := K.set C.c0 (.inl rfl)
    have hne : fr.dx ≠ env.locals := fun e => I.dxX fr (List.mem_of_getElem? el) (e ▸ F.locX)
    exact F.ns.elim fun m0 hm0 => setAttr_raw (K.KNow I) g.1 g.2.1 (g.2.2 8 (by decide)) (K.get C.c0 (.inl rfl)).2.1 hm0 hne a2 a3 (show (getL (nm 8) es).isSome = true from a5 ▸ rfl) (Nat.le_trans a4 (by decide)) fun h' es' ep' SR => wpAny_release (wpAny_pure (by
      have J := num_set (t := s.toks + 2) I el F.locX a2 a4 a5 a6 a7 a8 SR
      exact .next (StP.of_chg ⟨⟨_, _, rfl⟩, J.ext, J.inv⟩ fun b hb => hb ▸ S.oL) (F.calm (Z := Nope) ⟨fun m hm => Ns.uniq hm0 hm ▸ SR.ns, fun b o _ _ h1 hd e => SR.keep b o e h1 fun h => hd fr (List.mem_of_getElem? el) h.symm⟩ (fun _ _ _ f => f) (fun _ _ f => f) (fun f => f) (J.ext.mono I.fat (fun b hb => .inl (hb ▸ F.locX)) fun _ h => .inl h) I.dxX fun _ h _ => h) S))
end
end Mine
namespace Mine
noncomputable def innerBody (q : Nat → Pos) : List Stmt :=
  [.If (.Compare (.Name (nm 15) (q 60)) [.NotIn] [.Attribute (.Name (nm 13) (q 61)) (nm 12) (q 62)] (q 63)) [.Assign [.Subscript (.Attribute (.Name (nm 13) (q 64)) (nm 12) (q 65)) (.Name (nm 15) (q 70)) (q 66)] (.List [] (q 67)) (q 68)] [] (q 69),
   .Expr (.Call (.Attribute (.Subscript (.Attribute (.Name (nm 13) (q 71)) (nm 12) (q 72)) (.Name (nm 15) (q 78)) (q 73)) (Str.ofString "append") (q 74)) [.Name (nm 14) (q 79)] [] (q 76)) (q 77)]
noncomputable def outerBody (q : Nat → Pos) : List Stmt :=
  [.Assign [.Name (nm 14) (q 22)] (.Subscript (.Attribute (.Name (nm 13) (q 23)) (nm 10) (q 24)) (.Name (nm 8) (q 25)) (q 26)) (q 27),
   .Assign [.Attribute (.Name (nm 14) (q 28)) (nm 8) (q 29)] (.Name (nm 8) (q 30)) (q 31),
   .If (.Compare (.Attribute (.Name (nm 14) (q 32)) (nm 0) (q 33)) [.NotIn] [.Attribute (.Name (nm 13) (q 34)) (nm 11) (q 35)] (q 36)) [.Assign [.Subscript (.Attribute (.Name (nm 13) (q 37)) (nm 11) (q 38)) (.Attribute (.Name (nm 14) (q 43)) (nm 0) (q 44)) (q 39)] (.List [] (q 40)) (q 41)] [] (q 42),
   .Expr (.Call (.Attribute (.Subscript (.Attribute (.Name (nm 13) (q 45)) (nm 11) (q 46)) (.Attribute (.Name (nm 14) (q 52)) (nm 0) (q 53)) (q 47)) (Str.ofString "append") (q 48)) [.Name (nm 14) (q 54)] [] (q 50)) (q 51),
   .For (.Name (nm 15) (q 55)) (.Call (.Name (Str.ofString "codes_of") (q 56)) [.Name (nm 14) (q 57)] [] (q 58)) (innerBody q) [] (q 59)]
noncomputable def initBody (q : Nat → Pos) : List Stmt :=
  [.Assign [.Attribute (.Name (nm 13) (q 0)) (nm 10) (q 1)] (.Call (.Name (Str.ofString "list") (q 2)) [.Name (nm 10) (q 3)] [] (q 4)) (q 5),
   .Assign [.Attribute (.Name (nm 13) (q 6)) (nm 11) (q 7)] (.Dict [] [] (q 8)) (q 9),
   .Assign [.Attribute (.Name (nm 13) (q 10)) (nm 12) (q 11)] (.Dict [] [] (q 12)) (q 13),
   .For (.Name (nm 8) (q 14)) (.Call (.Name (Str.ofString "range") (q 15)) [.Call (.Name (Str.ofString "len") (q 16)) [.Attribute (.Name (nm 13) (q 17)) (nm 10) (q 18)] [] (q 19)] [] (q 20)) (outerBody q) [] (q 21)]
structure IniSc (sc : Scope) : Prop where
  kind : sc.kind = .function
  gen : sc.isGenerator = false
  co : sc.isCoroutine = false
  loc : ∀ x ∈ [13, 10, 8, 14, 15], sc.names.lookup (nm x) = some .local
  glo : ∀ n ∈ ["list", "range", "len", "codes_of"], kindIs sc (Str.ofString n) globKind = true
  no : ∀ x ∈ sc.names, x.2 ≠ .cell ∧ x.2 ≠ .free
inductive IniAt (C : Cfg) : Prop
  | mk (fi : Addr) (o : Obj) (fd : FuncData) (q : Nat → Pos) (m1 : makesIn C.K C.c1 = true) (m2 : findIn C.K (.ref C.c1) "__init__" = some (some (.ref fi))) (m3 : typeIn C.K (.ref fi) = some (.type "function")) (g1 : C.K.lookup fi = some o) (g2 : o.data = .func fd) (g3 : fd.body = .stmts (initBody q))
    (l1 : Nat.beq (q 48).endLine (q 50).line = true) (l2 : Nat.beq (q 74).endLine (q 76).line = true) (g5 : codeIn C.K fd.code fd.qualname = true) (g6 : fd.closure = []) (g7 : fd.globals = mainGlobals) (g8 : fd.builtins = builtinsNs) (g9 : fd.defaults = .none)
    (p1 : fd.params.posonlyargs = []) (p2 : fd.params.vararg = none) (p3 : fd.params.kwonlyargs = []) (p4 : fd.params.kwarg = none) (pn : fd.params.args.map (·.arg) = [nm 13, nm 10]) (S : IniSc fd.scope)
structure IsOK (C : Cfg) (gt : List (Str × List Nat)) : Prop extends AllOK C gt where
  mk1 : IniAt C
section
variable {C : Cfg} {gt : List (Str × List Nat)} {A : Around} {D D' : List FR} {X X' X0 O : Addr → Prop} {σ σ' : Nums} {s s' : Shared} {v : V} {p : Value} {env : Env} {r r' : Rho} {vs : List V} {nE cE : List (V × V)} {n : Nat}
theorem IniSc.seen (S : IniSc env.scope) {x : Nat} (h : x ∈ [13, 10, 8, 14, 15]) : Seen env x := .inl (S.loc x h)
theorem set_own {x : Nat} {u : V} (h : r.w = some (13, u)) (hx : Nat.beq 13 x = false) : (r.set x v).w = some (13, u) := by
  show (match r.w with | some (y, u) => if Nat.beq y x then none else some (y, u) | none => none) = _
  rw [h]
  exact if_neg (ne_true_of_eq_false hx)
theorem fset1 {x : Nat} : fget (r.set x v).ρ x = some v := fget_fput1 ..
theorem fset2 {x y : Nat} {u : V} (h : fget r.ρ y = some u) (hx : y ≠ x) : fget (r.set x v).ρ y = some u := (fget_fput2 _ _ hx).trans h
theorem asgN {x : Nat} {q : Pos} (hx : x < 74) (hk : env.kindOf (nm x) = some .local) {D : List FR} {X O : Addr → Prop} {σ : Nums} {s : Shared} {r r1 : Rho} {v : V} {p : Value} (F : FrE C env X0 O X r D s.heap) (S : FrS env X0 O X) (I : Inv C D X σ s) (hv : VR C D X s.heap v p) (e : some (r.set x v) = some r1) {Q : Unit → Shared → Prop} {E : Value → Shared → Prop}
    (g : ∀ s', StP C X O D s X O D σ s' → FrE C env X0 O X r1 D s'.heap → Q () s') : wpAny (model C.prog C.w) A (assign (.Name (nm x) q) env p) Q E s :=
  wpAny_assign_Name (set_stm F S I hx (.inl hk) hv fun s' P F => g s' P (Option.some.inj e ▸ F))
inductive Ji (vs : List V) (nE : List (V × V)) (f : V) (ks : List V) (bc : List (V × V)) (σ : Nums) (j : Nat) (r : Rho) (σ1 : Nums) : Prop
  | mk (e : σ1 = σ) (hf : fget r.ρ 14 = some f) (cE : List (V × V)) (hw : r.w = some (13, sV false vs cE nE)) (ev : putEach cE (ks.drop j) f = some bc)
theorem inner_loop (K : IsOK C gt) (R : Room A) (Sc : IniSc env.scope) {f : V} {ks : List V} {bc : List (V × V)} (hks : small ks = true) (ev : putEach cE ks f = some bc) (hf : fget r.ρ 14 = some f) {q : Nat → Pos} (hline : Nat.beq (q 74).endLine (q 76).line = true)
    (F : FrE C env X0 O X r D s.heap) (S : FrS env X0 O X) (I : Inv C D X σ s) (hw : r.w = some (13, sV false vs cE nE)) {pv : Value} (vv : VR C D X s.heap (.list ks) pv) {Rr : Result → Shared → Prop} {E : Value → Shared → Prop}
    (g : ∀ r' s', r'.w = some (13, sV true vs nE bc) → SsP C env X0 X O D s (.next r') σ .next s' → Rr (.ok .next) s') :
    wpAny (model C.prog C.w) A (pyIter pv) (fun it s2 => codeAny (model C.prog C.w) A (.forLoop (.Name (nm 15) (q 55)) it (innerBody q) [] env) Rr s2) E s := by
  have s14 : Seen env 14 := Sc.seen (by decide)
  have s15 : Seen env 15 := Sc.seen (by decide)
  refine loop_gen K.toCfgOK (vi := .list ks) (vs := ks) (fl := .next r) (σ' := σ) (bind := fun v r => some (r.set 15 v)) (Ji vs nE f ks bc σ) (asgN (by decide) (Sc.loc 15 (by decide))) (fun hv j => ?_) F S I R vv (congrArg (oI · (some ks)) hks) ⟨rfl, hf, cE, hw, ev⟩ (fun p s' y => y.c fun X' O' D' P R => R.elim) fun r1 σ1 s' j y => ?_
  · cases j with
    | mk e hf1 cE1 hw1 ev1 =>
      rw [drop_cons hv] at ev1
      refine ⟨_, rfl, fun F1 S1 I1 => ?_⟩
      rw [e] at I1
      exact put_one (i := false) K.toCfgOK R F1 S1 I1 (set_own hw1 rfl) (key_var fset1 s15) (key_var fset1 s15) (key_var fset1 s15) (key_var (fset2 hf1 (by decide)) s14) (fun _ => rfl) rfl ev1 (p := fun i => q (61 + i)) (p2 := fun i => q (71 + i)) hline (more := []) fun E2 s2 ev2 y =>
        y.c fun X2 O2 D2 P2 fr => fr.next_c fun _ F2 S2 => wpAny_execs_nil (.go _ _ X2 O2 D2 (.inl rfl) P2 F2 S2 ⟨rfl, fset2 hf1 (by decide), E2, rfl, ev2⟩)
  · cases j with
    | mk e hf1 cE1 hw1 ev1 =>
      rw [List.drop_length] at ev1
      exact g r1 s' (Option.some.inj ev1 ▸ hw1) (e ▸ y)
inductive Jo (n : Nat) (vs : List V) (bn bc : List (V × V)) (σ' : Nums) (j : Nat) (r : Rho) (σ1 : Nums) : Prop
  | mk (nE cE : List (V × V)) (hw : r.w = some (13, sV true vs nE cE)) (ev : isetL (fun v σ => (run prg n).c N.codesOf [v] σ) j (vs.drop j) nE cE σ1 = some (bn, bc, σ'))
theorem outer_turn (K : IsOK C gt) (hC : SC C n) (R : RoomN A n) (Sc : IniSc env.scope) {q : Nat → Pos} (hl1 : Nat.beq (q 48).endLine (q 50).line = true) (hl2 : Nat.beq (q 74).endLine (q 76).line = true) {i : Nat} {bn bc : List (V × V)} {u : V} {fl : Fl}
    (ev : isetL (fun v σ => (run prg n).c N.codesOf [v] σ) i (vs.drop i) nE cE σ = some (bn, bc, σ')) (hu : vs[i]? = some u) (hsm : small vs = true) (hf8 : fget r.ρ 8 = some (.int (.ofNat i))) (hw : r.w = some (13, sV true vs nE cE)) : Turn C A env X0 (outerBody q) r σ (Jo n vs bn bc σ' (i + 1)) fl σ' := by
  intro D X O s F S I
  rw [drop_cons hu] at ev
  have s8 : Seen env 8 := Sc.seen (by decide)
  have s14 : Seen env 14 := Sc.seen (by decide)
  refine wDone_c ev fun k fs ℓ hk ev => o1_c ev fun name hn ev => o1_c ev fun nE2 e1 ev => oP_c ev fun w σ2 e2 ev => wList_c ev fun ks hw2 ev => oI_c ev fun hks ev => o1_c ev fun cE2 e3 ev => ?_
  unfold outerBody
  refine F.iset_c hw fun a dx es ep T b b' lf M B => wpAny_execs_cons (wpAny_Assign_Name (Subscript_ (Attribute_eval rfl (name_vis F (by decide) M.vis (attr_get K.toCfgOK I (.inr rfl) (by decide) B.e1 B.e2 B.l B.lv.1.handed ?_)))) rfl)
  refine ((F.get 8 _ hf8).2 s8).elim fun p8 g8 => name_vis F (by decide) g8.1 ?_
  have ix := idx_sound (W := (· = env.locals)) (A := A) (I.tok (s.toks + 1)) R.room (vx := .Attribute (.Name (nm 13) (q 23)) (nm 10) (q 24)) (sx := .Name (nm 8) (q 25)) B.lv.1 g8.2.1 (z := u) (show idxV (.list vs) (.int (.ofNat i)) = some u from (congrArg (oI · vs[i]?) hsm).trans hu) (subscripted_plain rfl _ _)
  refine ix.use fun pf D2 s2 P2 V2 => set_stm (F.step (s := { s with toks := s.toks + 1 }) (I.tok _) P2) S P2.inv (by decide) (.inl (Sc.loc 14 (by decide))) V2 fun s3 P3 F3 => ?_
  have P13 := (StP.of_pst (Pst.toks I (s.toks + 1)) S).trans ((StP.of_pst P2 S).trans P3)
  refine wpAny_execs_cons (wpAny_mono (stm_num K.toSetOK F3 S P3.inv (fset1.trans (congrArg some hk)) (fset2 hf8 (by decide)) s14 s8) (fun fl s4 x => x.c fun X4 O4 D4 P4 fr => fr.next_c fun hfl F4 S4 => ?_) fun _ _ f => f.elim)
  rw [hfl]
  have kn : ∀ {p1 p2 : Pos}, KeyEv C A env X0 (r.set 14 u) name (.Attribute (.Name (nm 14) p1) (nm 0) p2) := key_name K.toCfgOK (fset1.trans (congrArg some hk)) s14 hn
  refine put_one (i := true) K.toCfgOK R.room F4 S4 P4.inv (set_own hw rfl) kn kn kn (key_var fset1 s14) (fun _ => rfl) rfl e1 (p := fun i => q (34 + i)) (p2 := fun i => q (45 + i)) hl1 fun E5 s5 e5 y => y.c fun X5 O5 D5 P5 fr => fr.next_c fun _ F5 S5 => ?_
  cases Option.some.inj (e5 : some E5 = some nE2)
  refine wpAny_execs_cons (wpAny_For (pos := q 59) (wpAny_Call_Name_kw (glob_read F5 K.toCfgOK P5.inv (Sc.glo "codes_of" (by decide)) (by decide +kernel) (K.fns 100 "codes_of" rfl) ?_)) (folded_plain rfl env))
  refine ((F5.get 14 u fset1).2 s14).elim fun p14 g14 => callWith_K K.K (K.isFn 100 _ rfl).1 (args_cons (name_vis F5 (by decide) g14.1 (args_nil ⟨K.KNow P5.inv, ?_⟩)) rfl) rfl rfl
  refine ((hC (A := A) (f := 100) (by decide) (.cons g14.2.1 g14.2.2 .nil) P5.inv R e2).lift P5.inv (W := (· = env.locals)) F5.hw).use fun pk D6 s6 P6 V6 => ?_
  refine inner_loop K R.room Sc hks e3 (r := ⟨(r.set 14 u).ρ, some (13, sV true vs nE2 cE)⟩) fset1 hl2 (F5.step P5.inv P6) S5 P6.inv rfl (hw2 ▸ V6) fun r7 s7 hw7 y => y.c fun X7 O7 D7 P7 fr => fr.next_c fun _ F7 S7 => ?_
  exact wpAny_execs_nil (.go r7 _ X7 O7 D7 (.inl rfl) (P13.trans (P4.trans (P5.trans ((StP.of_pst P6 S5).trans P7)))) F7 S7 ⟨_, _, hw7, ev⟩)
end
end Mine
namespace Mine
section
variable {C : Cfg} {gt : List (Str × List Nat)} {A : Around} {D D' D1 : List FR} {X X' X0 O O' Q Q' W : Addr → Prop} {σ σ' σ1 : Nums} {s s' : Shared} {h h' : Heap} {u v z : V} {p : Value} {env : Env} {r r' : Rho} {vs : List V} {a dx : Addr} {es es' : List DictEntry} {ep ep' f n : Nat} {pos pos2 : Pos}
theorem bif_call (K : CfgOK C gt) (F : FrE C env X0 O X r D s.heap) (I : Inv C D X σ s) (R : Room A) (b : Bif) (hg : kindIs env.scope (Bname b) globKind = true) {x : Expr} (hst : ∀ env, starEach [x] env = [(false, eval x env)]) (hx : Gv C A D X (· = env.locals) s u σ1 (eval x env)) (e : bifV b u = some z) :
    Gv C A D X (· = env.locals) s z σ1 (eval (.Call (.Name (Bname b) pos) [x] [] pos2) env) :=
  wpAny_Call_Name_kw (bltn_read F K I hg (Bname_debug b) (K.bifs b).1 (K.bifs b).2 (callWith_bif (args_cons (hx.use fun p D' s' P V => args_nil ⟨p, rfl, (F.step I P).ns.elim fun m hm => Gv.then P (bif_sound K P.inv R hm F.locX V.1 (.inl V.2) e)⟩) (hst _)) (hst _)))
structure Pr (C : Cfg) (env : Env) (X0 O X : Addr → Prop) (r : Rho) (D : List FR) (σ : Nums) (s : Shared) (a dx : Addr) (es : List DictEntry) (ep : Nat) : Prop where
  F : FrE C env X0 O X r D s.heap
  S : FrS env X0 O X
  I : Inv C D X σ s
  M : Mk env X0 O X r s.heap a
  e1 : s.heap.get? a = some (instObj C.c1 dx)
  e2 : s.heap.get? dx = some (dictOf es ep)
  o : InO X O env.locals dx
  hp : env.locals = a + 1
theorem Pr.step (t : Pr C env X0 O X r D σ s a dx es ep) (P : Pst C D X (· = env.locals) s D' σ' s') : Pr C env X0 O X r D' σ' s' a dx es ep :=
  have k : ∀ {b o}, InO X O env.locals b → s.heap.get? b = some o → s'.heap.get? b = some o := fun h e => P.ext.keep _ _ e (fun r hr e => t.I.dxX r hr (e ▸ h.1)) h.2.2
  ⟨t.F.step t.I P, t.S, P.inv, ⟨t.M.h0, t.M.hk, t.M.vis.calm P.calm (fun _ _ _ f => f) t.F.celX t.F.ns t.I.dxX, t.M.io, t.M.x0⟩, k t.M.io t.e1, k t.o t.e2, t.o, t.hp⟩
structure PrSet (C : Cfg) (env : Env) (X0 O X : Addr → Prop) (r : Rho) (D : List FR) (σ : Nums) (s : Shared) (a dx : Addr) (es : List DictEntry) (f : Nat) (p : Value) (s' : Shared) (es' : List DictEntry) (ep' : Nat) : Prop where
  t : Pr C env X0 O X r D σ s' a dx es' ep'
  P : StP C X O D s X O D σ s'
  keep : ∀ b o, s.heap.get? b = some o → b ≠ env.locals → b ≠ dx → s'.heap.get? b = some o
  got : getL (nm f) es' = some (some p)
  rest : ∀ g, g ≠ nm f → getL g es' = getL g es
  len : es'.length ≤ es.length + 1
  m : Mono D X s.heap D X s'.heap
theorem pre_set (K : SetOK C gt) (t : Pr C env X0 O X r D σ s a dx es ep) (hw : r.w = some (13, .inst 2 [] none)) (hf : f < 13) (hk : (getL (nm f) es).isSome = true) (hz : es.length ≤ 900) {q1 q2 : Pos} {Q : Unit → Shared → Prop} {E : Value → Shared → Prop} (q : ∀ s' es' ep', PrSet C env X0 O X r D σ s a dx es f p s' es' ep' → Q () s') :
    wpAny (model C.prog C.w) A (assign (.Attribute (.Name (nm 13) q1) (nm f) q2) env p) Q E s := by
  rw [assign_Attribute]
  refine wpAny_bind (wpAny_holding (name_vis t.F (by decide) t.M.vis (wpAny_bind (wpAny_standAt (wpAny_bind (wpAny_holding ?_))))))
  have st := K.set C.c1 (.inr rfl)
  refine t.F.ns.elim fun m0 hm0 => setAttr_raw (K.KNow t.I) st.1 st.2.1 (st.2.2 f hf) (K.get C.c1 (.inr rfl)).2.1 hm0 t.o.2.2 t.e1 t.e2 hk hz fun h' es' ep' SR => wpAny_release (q _ es' ep' ?_)
  have hX : ∀ b, (b = env.locals ∨ b = dx) → X b := fun b hb => hb.elim (fun e => e ▸ t.F.locX) fun e => e ▸ t.o.1
  have kk : ∀ b o, s.heap.get? b = some o → ¬ (b = env.locals ∨ b = dx) → h'.get? b = some o := fun b o e hb => SR.keep b o e (fun h => hb (.inl h)) fun h => hb (.inr h)
  have al : ∀ b, (b = env.locals ∨ b = dx) → ∀ o, s.heap.get? b = some o → ∃ o', h'.get? b = some o' := fun b hb o e => hb.elim (fun hb => SR.ns.elim fun o e => e.elim fun _ e => e.elim fun _ e => ⟨o, hb ▸ e.1⟩) fun hb => ⟨_, hb ▸ SR.at'⟩
  have J := t.I.change (W := fun b => b = env.locals ∨ b = dx) (s' := { s with heap := h', toks := s.toks + 2 }) hX kk al
  have e1 := SR.keep a _ t.e1 t.M.io.2.2 (obj_ne t.e1 t.e2 Data.noConfusion)
  have nc : ∀ n c, env.cells.lookup n = some c → ¬ (c = env.locals ∨ c = dx) := fun n c e h => (t.F.celX n c e).2.elim fun q hq => h.elim (IsCell_ne hq hm0) (cell_ne hq t.e2 fun v => Data.noConfusion)
  have P : StP C X O D s X O D σ { s with heap := h', toks := s.toks + 2 } := .of_chg ⟨⟨_, _, rfl⟩, J.2, J.1⟩ fun b hb => hb.elim (fun e => e ▸ t.S.oL) fun e => e ▸ t.o.2.1
  have F' := own_set (s' := { s with heap := h', toks := s.toks + 2 }) (W := fun b => b = env.locals ∨ b = dx) t.F t.I (by decide) t.M.h0 t.M.hk t.M.vis t.M.io.1 t.M.io.2.1 t.M.x0 t.M.io.2.2 hX kk al (fun m hm => Ns.uniq hm hm0 ▸ SR.ns) nc (.pre e1 SR.at' t.o t.hp)
  refine ⟨⟨F'.congr (fun _ => rfl) hw, t.S, J.1, ⟨t.M.h0, t.M.hk, t.M.vis.keep (fun m hm => ⟨m, Ns.uniq hm hm0 ▸ SR.ns, rfl⟩) fun c e v hv => IsCell_keep hv fun o e' => kk c o e' (nc _ c e), t.M.io, t.M.x0⟩, e1, SR.at', t.o, t.hp⟩, P, SR.keep, SR.got, SR.rest, ?_, P.mono t.I t.S⟩
  rw [SR.len]
  cases es.any fun x => x.key.isStr (nm f)
  · exact Nat.le_refl _
  · exact Nat.le_succ _
structure PrDict (C : Cfg) (env : Env) (X0 O X : Addr → Prop) (r : Rho) (D : List FR) (σ : Nums) (s : Shared) (a dx : Addr) (es : List DictEntry) (f b : Nat) (O' X' : Addr → Prop) (s' : Shared) (es' : List DictEntry) (ep' : Nat) : Prop where
  t : Pr C env X0 O' X' r D σ s' a dx es' ep'
  P : StP C X O D s X' O' D σ s'
  keep : ∀ b o, s.heap.get? b = some o → b ≠ env.locals → b ≠ dx → s'.heap.get? b = some o
  got : getL (nm f) es' = some (some (.ref b))
  rest : ∀ g, g ≠ nm f → getL g es' = getL g es
  len : es'.length ≤ es.length + 1
  m : Mono D X s.heap D X' s'.heap
  at' : s'.heap.get? b = some { cls := .type "dict", data := .dict #[] 0 }
  new : s.heap.get? b = none
  io : InO X' O' env.locals b
  nd : b ≠ dx
theorem pre_dict (K : SetOK C gt) (t : Pr C env X0 O X r D σ s a dx es ep) (hw : r.w = some (13, .inst 2 [] none)) (hf : f < 13) (hk : (getL (nm f) es).isSome = true) (hz : es.length ≤ 900) {q1 q2 q3 q4 : Pos} {Q : Flow → Shared → Prop} (q : ∀ s' es' ep' b O' X', PrDict C env X0 O X r D σ s a dx es f b O' X' s' es' ep' → Q .next s') :
    wpAny (model C.prog C.w) A (exec (.Assign [.Attribute (.Name (nm 13) q1) (nm f) q2] (.Dict [] [] q3) q4) env) Q (fun _ _ => False) s := by
  rw [plainObj_exec_Assign_Attribute _ _ _ _ _ rfl]
  refine wpAny_bind (wpAny_standAt (wpAny_bind ?_))
  rw [eval_Dict_empty]
  refine wpAny_bind (wpAny_standAt (wpAny_newObj_type ?_ (Nat.zero_le _)))
  have H := held (oA := { cls := .type "dict", data := .dict #[] }) t.F t.I rfl
  have kp := push_keep s.heap { cls := .type "dict", data := .dict #[] }
  have nX : ∀ {z}, X z → z ≠ s.heap.objs.size := fun h e => (t.I.Xlt _ h).elim fun o e' => not_none e' (e ▸ get_size _)
  have io' : ∀ {z}, InO X O env.locals z → InO (fun z => X z ∨ z = s.heap.objs.size) (fun z => O z ∨ z = s.heap.objs.size) env.locals z := fun h => ⟨.inl h.1, .inl h.2.1, h.2.2⟩
  have S' : FrS env X0 (fun a => O a ∨ a = s.heap.objs.size) (fun a => X a ∨ a = s.heap.objs.size) := ⟨fun a h => h.imp_left (t.S.oX a), .inl t.S.oL, fun n c e => .inl (t.S.oC n c e), fun a h => .inl (t.S.x0 a h)⟩
  have t1 : Pr C env X0 (fun z => O z ∨ z = s.heap.objs.size) (fun z => X z ∨ z = s.heap.objs.size) r D σ { s with heap := s.heap.push { cls := .type "dict", data := .dict #[] } } a dx es ep :=
    ⟨H.fre.growO fun _ h => .inl h, S', H.inv, ⟨t.M.h0, t.M.hk, t.M.vis.keep (fun m hm => ⟨m, hm.keeps kp, rfl⟩) fun c _ v hc => IsCell_keep hc (kp c), io' t.M.io, t.M.x0⟩, kp _ _ t.e1, kp _ _ t.e2, io' t.o, t.hp⟩
  refine wpAny_bind (pre_set K t1 hw hf hk hz fun s' es' ep' y => wpAny_pure (q s' es' ep' s.heap.objs.size (fun z => O z ∨ z = s.heap.objs.size) (fun z => X z ∨ z = s.heap.objs.size) ?_))
  have P1 : StP C X O D s (fun a => X a ∨ a = s.heap.objs.size) (fun a => O a ∨ a = s.heap.objs.size) D σ { s with heap := s.heap.push { cls := .type "dict", data := .dict #[] } } := ⟨⟨_, s.toks, rfl⟩, .of_keeps kp, fun z h => h.imp_right fun e : z = s.heap.objs.size => e ▸ get_size _, fun z h => h.imp_right fun e : z = s.heap.objs.size => e ▸ get_size _, fun _ h => .inl h, fun _ h => .inl h, H.inv⟩
  have nl : s.heap.objs.size ≠ env.locals := (nX t.F.locX).symm
  exact ⟨y.t, P1.trans y.P, fun b o e h1 h2 => y.keep b o (kp b o e) h1 h2, y.got, y.rest, y.len, H.mono.trans y.m, y.keep _ _ (Heap.get?_push_size _ rfl) nl (nX t.o.1).symm, get_size _, ⟨.inr rfl, .inr rfl, nl⟩, (nX t.o.1).symm⟩
theorem gp_nil {a : Addr} {n : Nat} (e : h.get? a = some { cls := .type "dict", data := .dict #[] n }) : Gp C D X Q h a [] := .str (kvs := []) (NilD.mk _ #[] n e ⟨rfl, rfl, rfl⟩ rfl rfl).to .nil
theorem GG.done {κ : Type} {ky : κ → V} {pv : κ → Value} {zs : List κ} {E : List (V × V)} (m : Mono D X h D X' h) (hq : ∀ a, Q a → OkA D X' a) (x : GG C D X Q h ky pv E zs) {M : List (V × V) → List κ → Prop} (n : M [] []) (c : ∀ z v es zs, VT C D X' h v (pv z) → OkV D X' (pv z) → M es zs → M ((ky z, v) :: es) (z :: zs)) : M E zs :=
  x.ind (M := M) n fun z a it n vs es zs e o r q _ _ ih => c z _ es zs (by rw [e]; exact .list ⟨_, o, rfl, _, rfl⟩ (r.mono m)) (by rw [e]; exact .ref (hq a q)) ih
theorem Gp.done {E : List (V × V)} {b : Addr} (g : Gp C D X Q h b E) (m : Mono D X h D X' h) (hq : ∀ a, Q a → OkA D X' a) (lo : C.H.get? b = none) : VT C D X' h (.dict E) (.ref b) := by
  cases g with
  | str d g => exact .dictS d lo (g.done m hq (M := fun E zs => KS C D X' h E zs) .nil fun z v es zs a k ih => .cons rfl a k ih)
  | @tup kvs d kb g =>
    have al : ∀ z ∈ kvs, OkA D X' z.2.1 := fun z hz => (DictOfH.alive d z hz).elim fun o e => m.ok _ o (kb z hz) e
    exact .dictT d lo (g.done m hq (M := fun E (zs : List (List Int × Addr × Value)) => (∀ z ∈ zs, OkA D X' z.2.1) → KT C D X' h E zs) (fun _ => .nil) (fun z v es zs a k ih al => .cons (al z List.mem_cons_self) a k (ih fun y hy => al y (List.mem_cons_of_mem _ hy))) al)
end
end Mine
namespace Mine
section
variable {C : Cfg} {gt : List (Str × List Nat)} {A : Around} {D D' D1 : List FR} {X X' X0 O O' Q Q' W : Addr → Prop} {σ σ' σ1 : Nums} {s s' : Shared} {h h' : Heap} {u v z : V} {p : Value} {env : Env} {r r' : Rho} {vs : List V} {a dx : Addr} {es es' : List DictEntry} {ep ep' f n : Nat} {pos pos2 : Pos}
theorem nm_ne {x y : Nat} (hx : x < 74) (hy : y < 74) (h : x ≠ y) : nm x ≠ nm y := fun e => h (nm_inj x hx y hy e)
theorem ini_body (K : IsOK C gt) (hC : SC C n) (R : RoomN A n) (Sc : IniSc env.scope) {q : Nat → Pos} (hl1 : Nat.beq (q 48).endLine (q 50).line = true) (hl2 : Nat.beq (q 74).endLine (q 76).line = true) (t : Pr C env X0 O X r D σ s a dx [] ep) (hw : r.w = some (13, .inst 2 [] none)) (h10 : fget r.ρ 10 = some (.list vs)) (hsm : small vs = true)
    {bn bc : List (V × V)} (ev : isetL (fun v σ => (run prg n).c N.codesOf [v] σ) 0 vs [] [] σ = some (bn, bc, σ')) {Q : Flow → Shared → Prop} (g : ∀ r' s', r'.w = some (13, sV true vs bn bc) → SsP C env X0 X O D s (.next r') σ' .next s' → Q .next s') : wpAny (model C.prog C.w) A (execs (initBody q) env) Q (fun _ _ => False) s := by
  unfold initBody
  refine wpAny_execs_cons ?_
  rw [plainObj_exec_Assign_Attribute _ _ _ _ _ rfl]
  have hit : items (.list vs) = some vs := congrArg (oI · (some vs)) hsm
  refine wpAny_bind (wpAny_standAt (wpAny_bind ((bif_call K.toCfgOK t.F t.I R.room .list (Sc.glo "list" (by decide)) (fun _ => rfl) (key_var h10 (Sc.seen (by decide)) t.F t.I) (z := .list vs) (congrArg (o1 · fun vs => some (V.list vs)) hit)).use fun lf D1 s1 P1 V1 => ?_)))
  have t1 := t.step P1
  refine wpAny_bind (pre_set K.toSetOK t1 hw (f := 10) (by decide) rfl (by decide) fun s2 es2 ep2 y2 => wpAny_pure ?_)
  have l2 : es2.length ≤ 1 := y2.len
  refine wpAny_execs_cons (pre_dict K.toSetOK y2.t hw (f := 11) (by decide) ((y2.rest (nm 11) (nm_ne (by decide) (by decide) (by decide))).symm ▸ rfl) (Nat.le_trans l2 (by decide)) fun s3 es3 ep3 b O3 X3 y3 => ?_)
  have l3 : es3.length ≤ 2 := Nat.le_trans y3.len (Nat.succ_le_succ l2)
  refine wpAny_execs_cons (pre_dict K.toSetOK y3.t hw (f := 12) (by decide) (((y3.rest (nm 12) (nm_ne (by decide) (by decide) (by decide))).trans (y2.rest (nm 12) (nm_ne (by decide) (by decide) (by decide)))).symm ▸ rfl) (Nat.le_trans l3 (by decide)) fun s4 es4 ep4 b' O4 X4 y4 => ?_)
  have g10 : getL (nm 10) es4 = some (some lf) := (y4.rest _ (nm_ne (by decide) (by decide) (by decide))).trans ((y3.rest _ (nm_ne (by decide) (by decide) (by decide))).trans y2.got)
  have g11 : getL (nm 11) es4 = some (some (.ref b)) := (y4.rest _ (nm_ne (by decide) (by decide) (by decide))).trans y3.got
  have mt : ∀ m, (methTab 1 m).isSome = true → getL (nm m) es4 = some none := fun m hm =>
    have k : ∀ f, f < 13 → nm m ≠ nm f := fun f hf => nm_ne (meth_range hm).2 (Nat.lt_trans hf (by decide)) fun e => Nat.lt_irrefl _ (Nat.lt_of_lt_of_le hf (e ▸ (meth_range hm).1))
    (y4.rest _ (k 12 (by decide))).trans ((y3.rest _ (k 11 (by decide))).trans (y2.rest _ (k 10 (by decide))))
  have B : IsetB C D1 X4 O4 env.locals s4.heap vs (fA true) (fA (!true)) [] [] a dx es4 ep4 (fun _ => 0) b b' lf := ⟨y4.t.e1, y4.t.e2, y4.t.o, mt, g10, ((V1.mono y2.m).mono y3.m).mono y4.m, ⟨g11, ⟨y4.P.xx _ y3.io.1, y4.P.oo _ y3.io.2.1, y3.io.2.2⟩, y3.nd, gp_nil (y4.keep _ _ y3.at' y3.io.2.2 y3.nd)⟩, ⟨y4.got, y4.io, y4.nd, gp_nil y4.at'⟩, fun e => not_none y3.at' (e ▸ y4.new), y4.t.hp⟩
  have M := y4.t.M
  have F4 := own_set (s' := s4) (W := Nope) y4.t.F y4.t.I (by decide) M.h0 M.hk M.vis M.io.1 M.io.2.1 M.x0 M.io.2.2 (fun _ f => f.elim) (fun _ _ e _ => e) (fun _ f => f.elim) (fun _ h => h) (fun _ _ _ f => f) B.own
  have I4 := y4.t.I
  have gl : Gv C A D1 X4 (· = env.locals) s4 (.list vs) σ (eval (.Attribute (.Name (nm 13) (q 17)) (nm 10) (q 18)) env) := Attribute_eval rfl (name_vis F4 (by decide) M.vis (attr_get K.toCfgOK I4 (.inr rfl) (by decide) B.e1 B.e2 B.l B.lv.1.handed ⟨D1, .toks I4 _, B.lv⟩))
  refine wpAny_execs_cons (wpAny_For (pos := q 21) ((bif_call K.toCfgOK F4 I4 R.room .range (Sc.glo "range" (by decide)) (fun _ => rfl) (bif_call K.toCfgOK F4 I4 R.room .len (Sc.glo "len" (by decide)) (fun _ => rfl) gl (z := .int (.ofNat vs.length)) (congrArg (oI · (some (V.int (.ofNat vs.length)))) hsm)) (z := .rng vs.length) (congrArg (oI · (some (V.rng vs.length))) hsm)).use fun p9 D9 s9 P9 V9 => ?_) (folded_plain rfl env))
  refine loop_gen K.toCfgOK (vi := .rng vs.length) (vs := intsFrom 0 vs.length) (fl := .next r) (σ' := σ') (bind := fun v r => some (r.set 8 v)) (Jo n vs bn bc σ') (asgN (by decide) (Sc.loc 8 (by decide))) (fun {i r1 σ1 v} hv j => ?_) (F4.step I4 P9) y4.t.S P9.inv R.room V9 (congrArg (oI · (some (intsFrom 0 vs.length))) hsm) ⟨[], [], rfl, ev⟩ (fun p s' y => y.c fun X' O' D' P R => R.elim) fun r1 σ1 s' j y => ?_
  · have hj : i < vs.length := ints_len vs.length 0 ▸ (List.getElem?_eq_some_iff.mp hv).1
    have e : v = .int (.ofNat i) := (Option.some.inj (hv.symm.trans (ints_get _ 0 _ hj))).trans (by rw [Nat.zero_add])
    cases j with
    | mk nE cE hw1 ev1 => exact ⟨_, rfl, outer_turn K hC R Sc hl1 hl2 ev1 (List.getElem?_eq_getElem hj) hsm (fset1.trans (congrArg some e)) (set_own hw1 rfl)⟩
  · cases j with
    | mk nE cE hw1 ev1 =>
      rw [ints_len, List.drop_length] at ev1
      have e := Option.some.inj ev1
      have e1 : nE = bn := congrArg Prod.fst e
      have e2 : cE = bc := congrArg (fun z => z.2.1) e
      have e3 : σ1 = σ' := congrArg (fun z => z.2.2) e
      rw [e1, e2] at hw1
      rw [e3] at y
      exact wpAny_execs_nil (g r1 s' hw1 (SsP.post ((StP.of_pst P1 t.S).trans (y2.P.trans (y3.P.trans (y4.P.trans (StP.of_pst P9 y4.t.S))))) y))
theorem ini_frame {fd : FuncData} {fi : Addr} {m : Str → Option Value} {h0 : Heap} (Sc : IniSc fd.scope) (g6 : fd.closure = []) (g7 : fd.globals = mainGlobals) (g8 : fd.builtins = builtinsNs) (vr : VR C D X s.heap (.list vs) p) (N : NewF C D X σ s C.c1 m h0) (h13 : m (nm 13) = some (.ref (s.heap.objs.size + 1))) (h10 : m (nm 10) = some p) (t : Nat) :
    Pr C (callEnv fd (s.heap.objs.size + 2) fi) X (OO s.heap.objs.size) (fun a => X a ∨ OO s.heap.objs.size a) ⟨[(10, .list vs)], some (13, .inst 2 [] none)⟩ D σ { s with heap := h0, toks := t } (s.heap.objs.size + 1) s.heap.objs.size [] 0 := by
  have nl : ∀ {n c} {G : Prop}, (callEnv fd (s.heap.objs.size + 2) fi).cells.lookup n = some c → G := fun {n c G} e => nn ((show ([] : List (Str × Addr)).lookup n = some c from g6 ▸ e) : none = some c)
  have v13 : Vis (callEnv fd (s.heap.objs.size + 2) fi) h0 13 (.ref (s.heap.objs.size + 1)) := .inl ⟨Sc.loc 13 (by decide), m, N.ns, h13⟩
  have i1 : InO (fun a => X a ∨ OO s.heap.objs.size a) (OO s.heap.objs.size) (s.heap.objs.size + 2) (s.heap.objs.size + 1) := ⟨.inr (.inr (.inl rfl)), .inr (.inl rfl), (Nat.succ_ne_self _).symm⟩
  have i0 : InO (fun a => X a ∨ OO s.heap.objs.size a) (OO s.heap.objs.size) (s.heap.objs.size + 2) s.heap.objs.size := ⟨.inr (.inr (.inr rfl)), .inr (.inr rfl), Nat.ne_of_lt (Nat.lt_add_of_pos_right (by decide))⟩
  have nX := N.low _ (.inr (.inl rfl))
  refine ⟨⟨Sc.kind, g7, g8, .inr (.inl rfl), ⟨_, N.ns⟩, fun n c e => nl e, fun n n' c e e' => nl e, fun n e => e.elim (fun e => ((Sc.no _ (lookup_mem' e)).1 rfl).elim) fun e => ((Sc.no _ (lookup_mem' e)).2 rfl).elim, fun x v e => ?_, fun y v e => ?_⟩, ⟨fun a h => .inr h, .inl rfl, fun n c e => nl e, fun a h => .inl h⟩, N.inv.keeps fun _ _ e => e, ⟨rfl, Sc.loc 13 (by decide), v13, i1, nX⟩, N.x, N.dx, i0, rfl⟩
  · by_cases hx : 10 = x
    · rw [← hx] at e ⊢
      exact (Option.some.inj e : V.list vs = v) ▸ ⟨by decide, fun _ => ⟨p, .inl ⟨Sc.loc 10 (by decide), m, N.ns, h10⟩, vr.mono N.mono⟩⟩
    · exact nn ((if_neg (ne_true_of_eq_false (bq_f hx))).symm.trans e)
  · cases e
    exact ⟨by decide, rfl, Sc.loc 13 (by decide), _, v13, i1.1, i1.2.1, nX, i1.2.2, .pre (es := []) (ep := 0) N.x N.dx i0 rfl⟩
theorem SI_of (K : IsOK C gt) (hC : SC C n) : SI C n := by
  intro vs p A D X σ σ' s bn bc vr hsm I R ev
  cases K.mk1 with
  | mk fi o fd q m1 m2 m3 g1 g2 g3 l1 l2 g5 g6 g7 g8 g9 p1 p2 p3 p4 pn Sc =>
    have I1 : Inv C D X σ { s with heap := newH s.heap C.c1 } := I.keeps newH_keep
    have K1 : C.K.In (newH s.heap C.c1) := K.KNow I1
    have hlen : (fd.params.args.map (·.arg)).length = [Value.ref (s.heap.objs.size + 1), p].length := by rw [pn]; rfl
    have nd : (fd.params.args.map (·.arg)).Nodup := by rw [pn]; decide
    refine wpAny_call (make_core (makes_of (K.KNow I) m1) (looks_findIn (K.KNow I) m2) (fun self => bind_fn (K.KNow I) self m3) (.inl rfl) (codeAny_call_def (s := { s with heap := newH s.heap C.c1 }) (Nat.lt_of_le_of_lt (Nat.le_trans (Nat.le_add_right _ 30) (Nat.le_add_right _ _)) (room_under R (a := C.c1) (rest := [p]) (kw := [])).depth)
      (K1 _ _ g1) g2 (NoLimit.now K.toCfgOK fun b o e => I1.base b o e) (codeRec_of K1 g5) g3 (binds_all (ds := none) p1 p2 p3 p4 (fun M A E Q hq => g9.symm ▸ (wpAny_pure hq : wpAny M A (seqItems? .none) Q E _)) hlen nd) (fun x hx => (Sc.no x hx).1) (fun e he => ?_) (fun h0 hns hk0 => ?_) Sc.co Sc.gen Sc.kind))
    · have hm : e.1 ∈ [nm 13, nm 10] := pn ▸ (List.of_mem_zip (a := e.1) (b := e.2) he).1
      exact (List.mem_cons.mp hm).elim (fun h => h ▸ Sc.loc 13 (by decide)) fun h => List.mem_singleton.mp h ▸ Sc.loc 10 (by decide)
    · have N := NewF.mk' I hns hk0
      rw [newH_size]
      refine wpAny_mono (ini_body K hC (room_under2 R _) Sc l1 l2 (ini_frame (fi := fi) Sc g6 g7 g8 vr N (zip_lookup hlen nd (i := 0) (by rw [pn]; rfl) rfl) (zip_lookup hlen nd (i := 1) (by rw [pn]; rfl) rfl) _) rfl rfl hsm ev (Q := fun f s2 => f = .next ∧ GvP C D X Nope s (.inst 1 [(Mine.N.forms, .list vs), (Mine.N.by_name, .dict bn), (Mine.N.by_code, .dict bc)] none) σ' (.ref (s.heap.objs.size + 1)) s2) fun r2 s2 hw y => ⟨rfl, ?_⟩) (fun fl s2 x => ⟨x.1 ▸ rfl, x.2⟩) fun _ _ f => f.elim
      refine y.c fun X2 O2 D2 P fr => fr.next_c fun _ F2 S2 => F2.iset_c hw fun a dx es ep T b b' lf M B => ?_
      cases (Nat.succ.inj B.hp : s.heap.objs.size + 1 = a)
      have m : Mono D2 X2 s2.heap D2 X s2.heap := (Ext.refl (W := Nope)).mono P.inv.fat (fun _ f => f.elim) fun a h => .inl (P.xx a (.inl h))
      have ok : ∀ {z}, InO X2 O2 (s.heap.objs.size + 2) z → OkA D2 X z := fun {z} h => ⟨fun hx => (I.Xlt z hx).elim fun o e => (P.og z h.2.1).elim (fun ho => not_none e ho.none) fun ho => not_none (N.keep z o e) ho, fun r hr e => P.inv.dxX r hr (e ▸ h.1)⟩
      have x0 : Ext Nope D s.heap D2 s2.heap := (Ext.of_keeps (W := Nope) (D := D) N.keep).trans P.ext fun a ha => .inr (OO.none ha)
      have lv := B.lv.mono m
      cases B.s1 with
      | mk h1 o1 _ d1 => cases B.s2 with
        | mk h2 o2 _ d2 => exact ⟨D2, ⟨P.same.elim fun h2 e => e.elim fun t2 e => ⟨h2, t2, e⟩, x0, fun _ f => f.elim, P.inv.less fun a h => P.xx a (.inl h)⟩, .iset B.e1 B.e2 (ok B.o) B.mt (.cons B.l lv.1 lv.2 (.cons h1 (d1.done m (fun _ q => ok q.1) (P.inv.Xlo _ o1.1)) (.ref (ok o1)) (.cons h2 (d2.done m (fun _ q => ok q.1) (P.inv.Xlo _ o2.1)) (.ref (ok o2)) .nil))), .ref (ok M.io)⟩
end
end Mine
namespace Mine
structure Snd (C : Cfg) (gt : List (Str × List Nat)) (n : Nat) : Prop where
  e : SE C gt n
  t : ST C gt n
  c : SC C n
  s : SS C gt n
  f : SF C n
  i : SI C n
theorem snd_all {C : Cfg} {gt : List (Str × List Nat)} (K : IsOK C gt) : ∀ n, Snd C gt n ∧ ∀ n', n = n' + 1 → Snd C gt n'
  | 0 => by
    have hc : SC C 0 := fun {f vs ps A D X σ σ' s v} _ _ _ _ ev => nomatch (show (none : Option (V × Nums)) = some (v, σ') from ev)
    have he : SE C gt 0 := fun {k m e env A D X0 O X σ σ' s r v} _ _ _ _ ev => (nomatch (show (none : Option (V × Nums)) = some (v, σ') from ev))
    have ht : ST C gt 0 := fun {k m e env A D X0 O X σ σ' s r b} _ _ _ _ ev => (nomatch (show (none : Option (V × Nums)) = some (.bool b, σ') from ev))
    have hs : SS C gt 0 := fun {k b ss env A D X0 O X σ σ' s r fl} _ _ _ _ _ ev => (nomatch (show (none : Option (Fl × Nums)) = some (fl, σ') from ev))
    have hf : SF C 0 := fun {vs ps A D X σ σ' s fs i} _ _ _ ev _ => (nomatch (show (none : Option (V × Nums)) = some (.inst 0 fs none, σ') from ev))
    exact ⟨⟨he, ht, hc, hs, hf, SI_of K hc⟩, fun n' e => absurd e (Nat.succ_ne_zero n').symm⟩
  | n + 1 => by
    obtain ⟨h, hp⟩ := snd_all K n
    have hP : ∀ n', n = n' + 1 → SE C gt n' ∧ ST C gt n' := fun n' e => ⟨(hp n' e).e, (hp n' e).t⟩
    have hc : SC C (n + 1) := SC_step K.toAllOK.toCfgOK h.s
    have he : SE C gt (n + 1) := SE_step K.toMakeOK h.e h.t h.c h.f h.i
    refine ⟨⟨he, ST_step K.toMakeOK h.e h.t he, hc, SS_step K.toSetOK h.e h.t h.s hP, SF_step K.toAllOK h.s, SI_of K hc⟩, fun n' e => ?_⟩
    cases e; exact h
end Mine
namespace Mine
noncomputable def qL : List Pos := [⟨42, 8, 42, 12⟩, ⟨42, 8, 42, 18⟩, ⟨42, 21, 42, 25⟩, ⟨42, 26, 42, 31⟩, ⟨42, 21, 42, 32⟩, ⟨42, 8, 42, 32⟩, ⟨43, 8, 43, 12⟩, ⟨43, 8, 43, 20⟩, ⟨43, 23, 43, 25⟩, ⟨43, 8, 43, 25⟩, ⟨44, 8, 44, 12⟩, ⟨44, 8, 44, 20⟩, ⟨44, 23, 44, 25⟩, ⟨44, 8, 44, 25⟩, ⟨45, 12, 45, 18⟩, ⟨45, 22, 45, 27⟩, ⟨45, 28, 45, 31⟩, ⟨45, 32, 45, 36⟩, ⟨45, 32, 45, 42⟩, ⟨45, 28, 45, 43⟩, ⟨45, 22, 45, 44⟩, ⟨45, 8, 54, 47⟩, ⟨46, 12, 46, 16⟩, ⟨46, 19, 46, 23⟩, ⟨46, 19, 46, 29⟩, ⟨46, 30, 46, 36⟩, ⟨46, 19, 46, 37⟩, ⟨46, 12, 46, 37⟩, ⟨47, 12, 47, 16⟩, ⟨47, 12, 47, 23⟩, ⟨47, 26, 47, 32⟩, ⟨47, 12, 47, 32⟩, ⟨48, 15, 48, 19⟩, ⟨48, 15, 48, 24⟩, ⟨48, 32, 48, 36⟩, ⟨48, 32, 48, 44⟩, ⟨48, 15, 48, 44⟩, ⟨49, 16, 49, 20⟩, ⟨49, 16, 49, 28⟩, ⟨49, 16, 49, 39⟩, ⟨49, 42, 49, 44⟩, ⟨49, 16, 49, 44⟩, ⟨48, 12, 49, 44⟩, ⟨49, 29, 49, 33⟩, ⟨49, 29, 49, 38⟩, ⟨50, 12, 50, 16⟩, ⟨50, 12, 50, 24⟩, ⟨50, 12, 50, 35⟩, ⟨50, 12, 50, 42⟩, ⟨0, 0, 0, 0⟩, ⟨50, 12, 50, 48⟩, ⟨50, 12, 50, 48⟩, ⟨50, 25, 50, 29⟩, ⟨50, 25, 50, 34⟩, ⟨50, 43, 50, 47⟩, ⟨51, 16, 51, 20⟩, ⟨51, 24, 51, 32⟩, ⟨51, 33, 51, 37⟩, ⟨51, 24, 51, 38⟩, ⟨51, 12, 54, 47⟩, ⟨52, 19, 52, 23⟩, ⟨52, 31, 52, 35⟩, ⟨52, 31, 52, 43⟩, ⟨52, 19, 52, 43⟩, ⟨53, 20, 53, 24⟩, ⟨53, 20, 53, 32⟩, ⟨53, 20, 53, 38⟩, ⟨53, 41, 53, 43⟩, ⟨53, 20, 53, 43⟩, ⟨52, 16, 53, 43⟩, ⟨53, 33, 53, 37⟩, ⟨54, 16, 54, 20⟩, ⟨54, 16, 54, 28⟩, ⟨54, 16, 54, 34⟩, ⟨54, 16, 54, 41⟩, ⟨0, 0, 0, 0⟩, ⟨54, 16, 54, 47⟩, ⟨54, 16, 54, 47⟩, ⟨54, 29, 54, 33⟩, ⟨54, 42, 54, 46⟩]
noncomputable def qF (i : Nat) : Pos := qL.getD i ⟨0, 0, 0, 0⟩
noncomputable def faL : List (Nat × Addr) := [(100, 47), (101, 201), (102, 28), (103, 35), (104, 42), (105, 66), (106, 73), (107, 80), (108, 87), (109, 94), (110, 101), (111, 106), (112, 113), (113, 127), (114, 134), (115, 141), (116, 146), (117, 153), (118, 160), (119, 167), (120, 174), (121, 181), (122, 188), (123, 208), (124, 222), (125, 229), (126, 236), (127, 241), (128, 255), (129, 262), (130, 267), (131, 272), (132, 279), (133, 286), (134, 291), (135, 296), (136, 301)]
noncomputable def faT (f : Nat) : Addr := (faL.lookup f).getD 0
noncomputable def gt1 : List (Str × List Nat) := ["ALIASES", "OTHER_NAMES", "_law_conditions", "_law_others", "_law_memory"].zip
  ["c:b nae:b nb:ae nc:ae z:e nz:ne na:be nbe:a pe:p po:np nge:l nl:ge ng:le nle:g", "sal:shl loopz:loope loopnz:loopne repe:rep repz:rep repnz:repne", "b:c,nae ae:nb,nc e:z ne:nz be:na a:nbe p:pe np:po l:nge ge:nl le:ng g:nle o: no: s: ns:", "shl:sal loope:loopz loopne:loopnz rep:repe,repz repne:repnz mov: jmp: jrcxz: setup: cmov: loop:", "rm8:8 rm16:16 rm32:32 rm64:64 xm128:128 m64:64 m32:32 m:0"] |>.map fun (a, b) => (Str.ofString a, (Str.ofString b).cps.toList)
noncomputable def isRefB (x : Option (Option Value)) (b : Addr) : Bool := decide (x = some (some (.ref b)))
noncomputable def isNoB (x : Option (Option Value)) : Bool := decide (x = some none)
noncomputable def isFnB (x : Option Value) : Bool := decide (x = some (.type "function"))
noncomputable def oT {α : Type} (x : Option α) (F : α → Bool) : Bool := match x with
  | some a => F a
  | none => false
theorem oT_c {α : Type} {x : Option α} {F : α → Bool} {G : Prop} (h : oT x F = true) (k : ∀ a, x = some a → F a = true → G) : G := by
  cases x with
  | none => exact ff h
  | some a => exact k a rfl h
noncomputable def dFn : Data → Option FuncData
  | .func fd => some fd
  | _ => none
theorem dFn_c {d : Data} {fd : FuncData} (h : dFn d = some fd) : d = .func fd := by
  cases d with
  | func fd' => exact congrArg _ (Option.some.inj h)
  | _ => exact nn h
noncomputable def fdOf (K : Frag) (a : Addr) : Option FuncData := o1 (K.lookup a) fun o => dFn o.data
noncomputable def bStm : FuncBody → Option (List Stmt)
  | .stmts b => some b
  | _ => none
theorem bStm_c {b : FuncBody} {ss : List Stmt} (h : bStm b = some ss) : b = .stmts ss := by
  cases b with
  | stmts => exact congrArg _ (Option.some.inj h)
  | _ => exact nn h
noncomputable def dSeq : Data → Option (Array Value)
  | .seq xs _ => some xs
  | _ => none
theorem dSeq_c {d : Data} {xs : Array Value} (h : dSeq d = some xs) : ∃ n, d = .seq xs n := by
  cases d with
  | seq ys n => exact ⟨n, Option.some.inj h ▸ rfl⟩
  | _ => exact nn h
noncomputable def vRef : Value → Option Addr
  | .ref a => some a
  | _ => none
theorem vRef_c {v : Value} {a : Addr} (h : vRef v = some a) : v = .ref a := by
  cases v with
  | ref b => exact congrArg _ (Option.some.inj h)
  | _ => exact nn h
noncomputable def vTxt : Value → Option Str
  | .str s _ => some s
  | _ => none
theorem vTxt_c {v : Value} {s : Str} (h : vTxt v = some s) : ∃ t, v = .str s t := by
  cases v with
  | str s' t => exact ⟨t, Option.some.inj h ▸ rfl⟩
  | _ => exact nn h
noncomputable def fnB (K : Frag) (f : Nat) (a : Addr) (d : Fn) : Bool := oT (fdOf K a) fun fd => oT (bStm fd.body) (fun body => chkF gt1 fd.params body fd.scope d) && codeIn K fd.code fd.qualname && fd.closure.isEmpty && Nat.beq fd.globals mainGlobals && Nat.beq fd.builtins builtinsNs &&
  (Nat.beq f 101 || (fd.params.defaults.isEmpty && decide (fd.defaults = .none) && decide (fd.kwdefaults = .none)))
noncomputable def fnsB (K : Frag) : Bool := fnL.all fun e => fnB K e.1 (faT e.1) e.2 && (keepIn K (.ref (faT e.1)) && isFnB (typeIn K (.ref (faT e.1))))
noncomputable def namesB (K : Frag) : Bool := fnNames.all fun e => isRefB (nsIn K mainGlobals (Str.ofString e.2)) (faT e.1)
noncomputable def bifsB (K : Frag) : Bool := [Bif.len, .sorted, .any, .range, .list, .tuple, .int].all fun b => isNoB (nsIn K mainGlobals (Bname b))
noncomputable def strB (x : Option (Option Value)) (l : List Nat) : Bool := oT x fun y => oT y fun v => oT (vTxt v) fun s => decide (s.cps.toList = l)
noncomputable def gtB (K : Frag) : Bool := gt1.all fun e => strB (nsIn K mainGlobals e.1) e.2
noncomputable def methsB (K : Frag) : Bool := methL.all fun e => isRefB (findIn K (.ref (if Nat.beq e.1.1 0 then 244 else 116)) (nm e.1.2)) (faT e.2)
noncomputable def clsB (K : Frag) (c : Addr) : Bool := plainGet K c (Str.ofString "") && hasDictIn K c && (List.range 13).all (fun f => isNoB (findIn K (.ref c) (nm f)) && decide (takerIn K c (nm f) = some none)) && keepIn K (.ref c) && makesIn K c &&
  decide (findIn K (.ref c) "__setattr__" = some (some (.builtin "object.__setattr__"))) && plainOver K c
noncomputable def initB (K : Frag) : Bool := oT (fdOf K 201) fun fd => oT (vRef fd.defaults) (fun T => oT (K.lookup T) fun oT' => oT (dSeq oT'.data) fun items => Nat.ble items.size fd.params.args.length) && fd.scope.names.all fun e => decide (e.2 ≠ .cell)
noncomputable def iniScB (sc : Scope) : Bool := decide (sc.kind = .function) && !sc.isGenerator && !sc.isCoroutine &&
  [13, 10, 8, 14, 15].all (fun x => decide (sc.names.lookup (nm x) = some .local)) && ["list", "range", "len", "codes_of"].all (fun n => kindIs sc (Str.ofString n) globKind) && sc.names.all fun e => decide (e.2 ≠ .cell) && decide (e.2 ≠ .free)
noncomputable def isetB (K : Frag) : Bool := oT (fdOf K 61) fun fd => (codeIn K fd.code fd.qualname && fd.closure.isEmpty && Nat.beq fd.globals mainGlobals && Nat.beq fd.builtins builtinsNs && decide (fd.defaults = .none) && fd.params.posonlyargs.isEmpty) &&
  (fd.params.vararg.isNone && fd.params.kwonlyargs.isEmpty && fd.params.kwarg.isNone && decide (fd.params.args.map (·.arg) = [nm 13, nm 10]) && iniScB fd.scope && isFnB (typeIn K (.ref 61)))
structure KFacts (K : Frag) : Prop where
  fns : fnsB K = true
  names : namesB K = true
  bifs : bifsB K = true
  gt : gtB K = true
  meths : methsB K = true
  c0 : clsB K 244 = true
  c1 : clsB K 116 = true
  n0 : isRefB (nsIn K mainGlobals (Str.ofString "Form")) 244 = true
  n1 : isRefB (nsIn K mainGlobals (Str.ofString "InstructionSet")) 116 = true
  i0 : isRefB (findIn K (.ref 244) "__init__") 201 = true
  i1 : isRefB (findIn K (.ref 116) "__init__") 61 = true
  init : initB K = true
  iset : isetB K = true
  body : (fdOf K 61).map (·.body) = some (.stmts (initBody qF))
section
variable {K : Frag}
theorem fd_c {a : Addr} {fd : FuncData} {G : Prop} (h : fdOf K a = some fd) (k : ∀ o, K.lookup a = some o → o.data = .func fd → G) : G := o1_c h fun o e h => k o e (dFn_c h)
theorem iniScB_of {sc : Scope} (h : iniScB sc = true) : IniSc sc :=
  b6 h fun h1 h2 h3 h4 h5 h6 => ⟨of_decide_eq_true h1, bN h2, bN h3, fun x hx => of_decide_eq_true (List.all_eq_true.mp h4 x hx), fun n hn => List.all_eq_true.mp h5 n hn, fun e he => ⟨of_decide_eq_true (bL (List.all_eq_true.mp h6 e he)), of_decide_eq_true (bR (List.all_eq_true.mp h6 e he))⟩⟩
theorem boot_bif (b : Bif) : bootBuiltins (Bname b) = some (bifVal b) := by cases b <;> decide +kernel
theorem Bname_name (b : Bif) : Bname b ≠ Str.ofString "__name__" := by cases b <;> decide +kernel
theorem bif_mem (b : Bif) : b ∈ [Bif.len, .sorted, .any, .range, .list, .tuple, .int] := by cases b <;> (repeat (first | exact List.Mem.head _ | apply List.Mem.tail))
variable {prog : Program} {w : World} {H : Heap} {mg mb : Str → Option Value}
noncomputable abbrev cfgOf (prog : Program) (w : World) (K : Frag) (H : Heap) (mg mb : Str → Option Value) : Cfg := ⟨prog, w, K, H, mg, mb, 244, 116, faT⟩
theorem fnB_of {f : Nat} {d : Fn} (h : fnB K f (faT f) d = true) : FnAt (cfgOf prog w K H mg mb) gt1 f d :=
  oT_c h fun fd e h => b6 h fun h1 h2 h3 h4 h5 h6 => oT_c h1 fun body eb h1 => fd_c e fun o e1 e2 => ⟨o, fd, body, e1, e2, bStm_c eb, h1, h2, List.isEmpty_iff.mp h3, Nat.eq_of_beq_eq_true h4, Nat.eq_of_beq_eq_true h5, fun hf => ((Bool.or_eq_true _ _).mp h6).elim (fun h => (hf (Nat.eq_of_beq_eq_true h)).elim)
    fun h => b3 h fun h1 h2 h3 => ⟨List.isEmpty_iff.mp h1, of_decide_eq_true h2, of_decide_eq_true h3⟩⟩
structure ClsAt (K : Frag) (c : Addr) : Prop where
  get : plainGet K c (Str.ofString "") = true ∧ hasDictIn K c = true ∧ ∀ f, f < 13 → findIn K (.ref c) (nm f) = some none
  keep : keepIn K (.ref c) = true
  make : makesIn K c = true
  set : findIn K (.ref c) "__setattr__" = some (some (.builtin "object.__setattr__")) ∧ plainOver K c = true ∧ ∀ f, f < 13 → takerIn K c (nm f) = some none
theorem cls_of {c : Addr} (h : clsB K c = true) : ClsAt K c :=
  b2 h fun h h7 => b6 h fun h1 h2 h3 h4 h5 h6 =>
    have r : ∀ f, f < 13 → _ := fun f hf => List.all_eq_true.mp h3 f (List.mem_range.mpr hf)
    ⟨⟨h1, h2, fun f hf => of_decide_eq_true (bL (r f hf))⟩, h4, h5, of_decide_eq_true h6, h7, fun f hf => of_decide_eq_true (bR (r f hf))⟩
theorem cfg_of (F : KFacts K) (KX : K.In H) (g : H.Ns mainGlobals mg) (b : H.Ns builtinsNs mb) (nl : H.NoLimit) (sys : ∃ o, H.get? sysModules = some o) (bb : ∀ x, x ≠ Str.ofString "__name__" → mb x = bootBuiltins x) : CfgOK (cfgOf prog w K H mg mb) gt1 :=
  have fnF : ∀ f d, fnTab f = some d → _ := fun f d h => List.all_eq_true.mp F.fns (f, d) (mem_lookup h)
  have mt : ∀ c m i, methTab c m = some i → _ := fun c m i h => of_decide_eq_true (List.all_eq_true.mp F.meths ((c, m), i) (mem_lookup h))
  ⟨g, b, nl, KX, sys, fun n l h => oT_c (List.all_eq_true.mp F.gt (n, l) (mem_lookup h)) fun y e1 h => oT_c h fun v e2 h => oT_c h fun s e3 h => (vTxt_c e3).elim fun t ht => ⟨s, t, mg_of KX g (e1.trans (congrArg some (e2.trans (congrArg some ht)))), of_decide_eq_true h⟩,
    fun f n h => mg_of KX g (of_decide_eq_true (List.all_eq_true.mp F.names (f, n) (mem_lookup h))), fun f d h => ⟨bL (bR (fnF f d h)), of_decide_eq_true (bR (bR (fnF f d h)))⟩, fun f d h => fnB_of (bL (fnF f d h)),
    fun x => ⟨mg_none_of KX g (of_decide_eq_true (List.all_eq_true.mp F.bifs x (bif_mem x))), (bb _ (Bname_name x)).trans (boot_bif x)⟩, fun c hc => hc.elim (fun h => h ▸ (cls_of F.c0).get) fun h => h ▸ (cls_of F.c1).get, mt 0, mt 1⟩
theorem isOK_of (F : KFacts K) (KX : K.In H) (g : H.Ns mainGlobals mg) (b : H.Ns builtinsNs mb) (nl : H.NoLimit) (sys : ∃ o, H.get? sysModules = some o) (bb : ∀ x, x ≠ Str.ofString "__name__" → mb x = bootBuiltins x) : IsOK (cfgOf prog w K H mg mb) gt1 := by
  have a := cls_of F.c0
  have c := cls_of F.c1
  have cfg : CfgOK (cfgOf prog w K H mg mb) gt1 := cfg_of F KX g b nl sys bb
  have set : SetOK (cfgOf prog w K H mg mb) gt1 := ⟨⟨cfg, mg_of KX g (of_decide_eq_true F.n0), mg_of KX g (of_decide_eq_true F.n1), a.keep, c.keep⟩, fun x hx => hx.elim (fun h => h ▸ a.set) fun h => h ▸ c.set⟩
  refine ⟨⟨set, ⟨a.make, of_decide_eq_true F.i0, (cfg.isFn 101 _ rfl).2⟩, ?_⟩, oT_c F.iset fun fd e h => b2 h fun h h' => b6 h fun h1 h2 h3 h4 h5 h6 => b6 h' fun h7 h8 h9 h10 h11 h12 => fd_c e fun o e1 e2 => ?_⟩
  · cases cfg.fn 101 _ rfl with
    | mk o fd body g1 g2 g3 g4 g5 g6 g7 g8 g9 =>
      refine oT_c F.init fun fd' e h => fd_c e fun o' e1 e2 => ?_
      cases Option.some.inj ((show K.lookup 201 = some o from g1).symm.trans e1)
      cases Data.func.inj (g2.symm.trans e2)
      exact oT_c (bL h) fun T eT h1 => oT_c h1 fun oT' eo h1 => oT_c h1 fun items ei h1 => (dSeq_c ei).elim fun nT hn => ⟨o, fd, body, T, oT', items, nT, g1, g2, g3, g4, g5, g6, g7, g8, vRef_c eT, eo, hn, Nat.le_of_ble_eq_true h1, bR h⟩
  · exact ⟨61, o, fd, qF, c.make, of_decide_eq_true F.i1, of_decide_eq_true h12, e1, e2, Option.some.inj ((congrArg (Option.map fun fd : FuncData => fd.body) e).symm.trans F.body), rfl, rfl, h1, List.isEmpty_iff.mp h2, Nat.eq_of_beq_eq_true h3, Nat.eq_of_beq_eq_true h4, of_decide_eq_true h5, List.isEmpty_iff.mp h6, Option.isNone_iff_eq_none.mp h7, List.isEmpty_iff.mp h8, Option.isNone_iff_eq_none.mp h9, of_decide_eq_true h10, iniScB_of h11⟩
end
end Mine
namespace Mine
theorem ints_vrs {C : Cfg} {D : List FR} {X : Addr → Prop} {h : Heap} {vs : List Value} {ns : List Int} (x : IntsAre vs ns) : VRs C D X h (ns.map .int) vs := by
  induction x with
  | nil => exact .nil
  | cons n t _ ih => exact .cons (.int n t) .int ih
theorem law_walk {C : Cfg} {gt : List (Str × List Nat)} (K : IsOK C gt) {env : Env} {body : List Stmt} {A : Around} {s : Shared} {L : Addr} {m : Str → Option Value} {a : Addr} {ns : List Int} {vs : List Value} {σ' : Nums} {n : Nat}
    (hb : chkAll (chkS gt 60 env.scope) f_law.body body = true) (kind : env.scope.kind = .function) (glob : env.globals = mainGlobals) (bltn : env.builtins = builtinsNs) (hL : env.locals = L) (cells : env.cells = [])
    (noC : (env.scope.names.all fun e => decide (e.2 ≠ .cell) && decide (e.2 ≠ .free)) = true) (hk : env.scope.names.lookup (nm 70) = some .local) (hns : s.heap.Ns L m) (hm : m (nm 70) = some (.ref a)) (low : C.H.get? L = none) (base : ∀ b o, C.H.get? b = some o → s.heap.get? b = some o)
    (isl : s.heap.IsList a vs.toArray) (ia : IntsAre vs ns) (ha : a ≠ L) (R : RoomN A n) (ev : (run prg n).s f_law.body ⟨[(70, .list (ns.map .int))], none⟩ [] = some (.ret (.bool true), σ')) :
    wpAny (model C.prog C.w) A (execs body env) (fun f s' => f = .ret (.bool true) ∧ (∃ h' t', s' = { s with heap := h', toks := t' }) ∧ ∀ b o, s.heap.get? b = some o → b ≠ L → s'.heap.get? b = some o) (fun _ _ => False) s := by
  have I : Inv C [] (· = L) [] s := ⟨base, rfl, fun l r e => nn e, (fun _ h => nomatch h), (fun _ h => nomatch h), fun i j r r' e => nn e, fun b hb => hns.elim fun o e => e.elim fun _ e => e.elim fun _ e => ⟨o, hb ▸ e.1⟩, fun b hb => hb ▸ low⟩
  have no : ∀ n k, env.scope.names.lookup n = some k → k ≠ .cell ∧ k ≠ .free := fun n k e => have h := List.all_eq_true.mp noC _ (lookup_mem' e); ⟨of_decide_eq_true (bL h), of_decide_eq_true (bR h)⟩
  have nl : ∀ {n c} {G : Prop}, env.cells.lookup n = some c → G := fun {n c G} e => nn ((show ([] : List (Str × Addr)).lookup n = some c from cells ▸ e) : none = some c)
  have F : FrE C env Nope (· = L) (· = L) ⟨[(70, .list (ns.map .int))], none⟩ [] s.heap :=
    ⟨kind, glob, bltn, hL, ⟨m, hL ▸ hns⟩, fun n c e => nl e, fun n n' c e e' => nl e, fun n e => e.elim (fun e => ((no _ _ e).1 rfl).elim) fun e => ((no _ _ e).2 rfl).elim, fun x v e => by
      by_cases hx : 70 = x
      · rw [← hx] at e ⊢
        exact (Option.some.inj e : V.list (ns.map .int) = v) ▸ ⟨by decide, fun _ => ⟨.ref a, .inl ⟨hk, m, hL ▸ hns, hm⟩, .list isl (ints_vrs ia), .ref ⟨ha, fun r hr => nomatch hr⟩⟩⟩
      · exact nn ((if_neg (ne_true_of_eq_false (bq_f hx))).symm.trans e), fun y v e => nomatch e⟩
  exact wpAny_mono ((snd_all K n).1.s hb F ⟨fun _ h => h, hL, fun n c e => nl e, fun _ f => f.elim⟩ I R ev) (fun f s' x => x.c fun X' O' D' P fr => fr.ret_c fun p hf V => ⟨V.1.bool_c ▸ hf, P.same, fun b o e hb => P.ext.keep b o e (fun r hr => nomatch hr) hb⟩) fun _ _ f => f
end Mine
namespace Mine.Pl
structure KD where
  kinds : List (List Nat)
  digit : Int
  size : Int
  wide : Bool
  places : List (List Nat)
  plus : Bool
  mem : Int
  digits : List Int
  mods : List Int
noncomputable def kdT : List KD :=
  let rm := [114, 109]; let reg := [114, 101, 103]; let imm := [105, 109, 109]; let plus := [112, 108, 117, 115]; let fixed := [102, 105, 120, 101, 100]
  let all := [0, 1, 2, 3, 4, 5, 6, 7]
  [⟨[[114, 109, 51, 50], [114, 51, 50]], -1, 32, false, [rm, reg], false, 32, all, [0, 1]⟩,
   ⟨[[114, 109, 49, 54], [114, 49, 54]], -1, 16, false, [rm, reg], false, 16, all, [0, 1]⟩,
   ⟨[[114, 109, 54, 52], [114, 54, 52]], -1, 64, false, [rm, reg], false, 64, all, [0, 1]⟩,
   ⟨[[114, 109, 56], [114, 56]], -1, 8, false, [rm, reg], false, 8, all, [0, 1]⟩,
   ⟨[[120], [120, 109, 49, 50, 56]], -1, 0, false, [reg, rm], false, 128, all, [0, 1]⟩,
   ⟨[[120], [109, 54, 52]], -1, 0, false, [reg, rm], false, 64, all, [0]⟩,
   ⟨[[114, 109, 54, 52]], -1, 64, true, [rm], false, 64, all, [0, 1]⟩,
   ⟨[[111, 54, 52]], -1, 64, true, [plus], true, -1, all, [0, 1]⟩,
   ⟨[[111, 49, 54]], -1, 16, false, [plus], true, -1, all, [0, 1]⟩,
   ⟨[], -1, 0, false, [], false, -1, all, [0, 1]⟩,
   ⟨[[101, 97, 120], [105, 109, 109, 51, 50]], -1, 32, false, [fixed, imm], false, -1, all, [0, 1]⟩,
   ⟨[[114, 51, 50], [109]], -1, 32, false, [reg, rm], false, 0, all, [0]⟩,
   ⟨[[109, 51, 50], [114, 51, 50]], -1, 32, false, [rm, reg], false, 32, all, [0]⟩,
   ⟨[[114, 109, 51, 50], [117, 105, 109, 109, 56]], -1, 32, false, [rm, imm], false, 32, all, [0, 1]⟩,
   ⟨[[114, 109, 54, 52]], 0, 64, true, [rm], false, 64, [0], [0, 1]⟩,
   ⟨[[114, 109, 54, 52]], 1, 64, true, [rm], false, 64, [1], [0, 1]⟩,
   ⟨[[114, 109, 51, 50], [117, 105, 109, 109, 56]], 0, 32, false, [rm, imm], false, 32, [0], [0, 1]⟩,
   ⟨[[114, 109, 51, 50], [117, 105, 109, 109, 56]], 1, 32, false, [rm, imm], false, 32, [1], [0, 1]⟩]
noncomputable def kd (k : Nat) : KD := kdT.getD k ⟨[], -1, 0, false, [], false, -1, [], []⟩
structure Row where
  name : List Nat
  k : Nat
  op : Int
  esc : Int
  must : Int
noncomputable def fieldsG (name : List Nat) (kinds : List (List Nat)) (op esc digit size must : Int) (wide : Bool) (places : List (List Nat)) : List (Nat × V) :=
  [(0, .str name), (1, .tuple (kinds.map .str)), (2, .int op), (3, .int esc), (4, .int digit), (5, .int size), (6, .int must), (7, .bool wide), (9, .tuple (places.map .str))]
noncomputable def formV (l : Nat) (r : Row) : V := .inst 0 (fieldsG r.name (kd r.k).kinds r.op r.esc (kd r.k).digit (kd r.k).size r.must (kd r.k).wide (kd r.k).places) (some l)
noncomputable def codes (r : Row) : List (Int × Int × Int) := if (kd r.k).plus then (List.range 8).map fun i => (r.must, r.esc, r.op + .ofNat i) else [(r.must, r.esc, r.op)]
noncomputable def codeV (c : Int × Int × Int) : V := .tuple [.int c.1, .int c.2.1, .int c.2.2]
noncomputable def toldV (r : Row) : V := .tuple [.str r.name, .tuple ((kd r.k).kinds.map .str), .int r.op, .int r.esc, .int (kd r.k).digit, .int (kd r.k).size, .int r.must, .bool (kd r.k).wide]
theorem by_k {P : Nat → Prop} (h0 : P 0) (h1 : P 1) (h2 : P 2) (h3 : P 3) (h4 : P 4) (h5 : P 5) (h6 : P 6) (h7 : P 7) (h8 : P 8) (h9 : P 9) (h10 : P 10) (h11 : P 11) (h12 : P 12) (h13 : P 13) (h14 : P 14) (h15 : P 15) (h16 : P 16) (h17 : P 17) : ∀ k, k < 18 → P k
  | 0, _ => h0 | 1, _ => h1 | 2, _ => h2 | 3, _ => h3 | 4, _ => h4 | 5, _ => h5 | 6, _ => h6 | 7, _ => h7 | 8, _ => h8 | 9, _ => h9 | 10, _ => h10 | 11, _ => h11 | 12, _ => h12 | 13, _ => h13 | 14, _ => h14 | 15, _ => h15 | 16, _ => h16 | 17, _ => h17
  | k + 18, h => absurd h (by omega)
set_option maxHeartbeats 4000000
theorem c_spans (n l : Nat) (σ : Nums) (name : List Nat) (op esc must : Int) : ∀ k, k < 18 → (run prg (n + 9)).c 130 [formV l ⟨name, k, op, esc, must⟩] σ = some (.list ((codes ⟨name, k, op, esc, must⟩).map codeV), σ) :=
  by_k (by kernel_rfl) (by kernel_rfl) (by kernel_rfl) (by kernel_rfl) (by kernel_rfl) (by kernel_rfl) (by kernel_rfl) (by kernel_rfl) (by kernel_rfl) (by kernel_rfl) (by kernel_rfl) (by kernel_rfl) (by kernel_rfl) (by kernel_rfl) (by kernel_rfl) (by kernel_rfl) (by kernel_rfl) (by kernel_rfl)
theorem c_codes (n l : Nat) (σ : Nums) (name : List Nat) (op esc must : Int) : ∀ k, k < 18 → (run prg (n + 9)).c 100 [formV l ⟨name, k, op, esc, must⟩] σ = some (.list ((codes ⟨name, k, op, esc, must⟩).map codeV), σ) :=
  by_k (by kernel_rfl) (by kernel_rfl) (by kernel_rfl) (by kernel_rfl) (by kernel_rfl) (by kernel_rfl) (by kernel_rfl) (by kernel_rfl) (by kernel_rfl) (by kernel_rfl) (by kernel_rfl) (by kernel_rfl) (by kernel_rfl) (by kernel_rfl) (by kernel_rfl) (by kernel_rfl) (by kernel_rfl) (by kernel_rfl)
theorem c_told (n l : Nat) (σ : Nums) (name : List Nat) (op esc must : Int) (k : Nat) : (run prg (n + 5)).c 123 [formV l ⟨name, k, op, esc, must⟩] σ = some (toldV ⟨name, k, op, esc, must⟩, σ) := by kernel_rfl
theorem c_msize (n l : Nat) (σ : Nums) (name : List Nat) (op esc must : Int) : ∀ k, k < 18 → (run prg (n + 14)).c 126 [formV l ⟨name, k, op, esc, must⟩] σ = some (.int (kd k).mem, σ) :=
  by_k (by kernel_rfl) (by kernel_rfl) (by kernel_rfl) (by kernel_rfl) (by kernel_rfl) (by kernel_rfl) (by kernel_rfl) (by kernel_rfl) (by kernel_rfl) (by kernel_rfl) (by kernel_rfl) (by kernel_rfl) (by kernel_rfl) (by kernel_rfl) (by kernel_rfl) (by kernel_rfl) (by kernel_rfl) (by kernel_rfl)
theorem c_part (n l : Nat) (σ : Nums) (name : List Nat) (op esc must : Int) : ∀ k, k < 18 → (run prg (n + 12)).c 114 [formV l ⟨name, k, op, esc, must⟩] σ = some (.tuple [.list ((kd k).digits.map .int), .list ((kd k).mods.map .int)], σ) :=
  by_k (by kernel_rfl) (by kernel_rfl) (by kernel_rfl) (by kernel_rfl) (by kernel_rfl) (by kernel_rfl) (by kernel_rfl) (by kernel_rfl) (by kernel_rfl) (by kernel_rfl) (by kernel_rfl) (by kernel_rfl) (by kernel_rfl) (by kernel_rfl) (by kernel_rfl) (by kernel_rfl) (by kernel_rfl) (by kernel_rfl)
end Mine.Pl
namespace Mine.Pl
set_option maxHeartbeats 4000000
noncomputable def fitsP (a : KD) (narrow w : Bool) (mod three : Int) : Bool :=
  if decide (0 ≤ a.digit) && !(a.digit == three) then false
  else if mod == 1 && a.kinds.any (fun k => k.head? == some 109) then false
  else if a.size == 0 || a.size == 8 then true
  else if a.wide then !narrow
  else if w then a.size == 64
  else a.size == (if narrow then 16 else 32)
noncomputable def twoB : List Bool := [false, true]
noncomputable def meetP (a b : KD) (mods threes : List Int) : Bool := twoB.any fun narrow => twoB.any fun w => mods.any fun m => threes.any fun t => fitsP a narrow w m t && fitsP b narrow w m t
noncomputable def toldP (a : KD) : Int := if a.size == 0 || a.size == 8 || a.wide then 0 else a.size
noncomputable def sizesP (a b : KD) : Bool :=
  if a.wide || b.wide then
    if a.wide && b.wide then (a.size == 16) == (b.size == 16)
    else
      let p := if a.wide then (a, b) else (b, a)
      if toldP p.2 == 0 then true else (p.1.size == 16) == (p.2.size == 16)
  else toldP a == toldP b || toldP a == 0 || toldP b == 0
noncomputable def clashP (a b : KD) : Bool := a.digits.any (fun d => b.digits.contains d) && a.mods.any (fun m => b.mods.contains m) && sizesP a b
theorem clash_meet : (List.range 18).all (fun a => (List.range 18).all fun b => clashP (kd a) (kd b) == meetP (kd a) (kd b) [0, 1] [0, 1]) = true := by decide +kernel
noncomputable abbrev m01 : V := .tuple [.int 0, .int 1]
theorem meet_0 (n l l' : Nat) (σ : Nums) (name name' : List Nat) (op esc must op' esc' must' : Int) : ∀ k, k < 18 → (run prg (n + 17)).c 132 [formV l ⟨name, 0, op, esc, must⟩, formV l' ⟨name', k, op', esc', must'⟩, m01, m01] σ = some (.bool (meetP (kd 0) (kd k) [0, 1] [0, 1]), σ) :=
  by_k (by kernel_rfl) (by kernel_rfl) (by kernel_rfl) (by kernel_rfl) (by kernel_rfl) (by kernel_rfl) (by kernel_rfl) (by kernel_rfl) (by kernel_rfl) (by kernel_rfl) (by kernel_rfl) (by kernel_rfl) (by kernel_rfl) (by kernel_rfl) (by kernel_rfl) (by kernel_rfl) (by kernel_rfl) (by kernel_rfl)
theorem sizes_0 (n l l' : Nat) (σ : Nums) (name name' : List Nat) (op esc must op' esc' must' : Int) : ∀ k, k < 18 → (run prg (n + 12)).c 115 [formV l ⟨name, 0, op, esc, must⟩, formV l' ⟨name', k, op', esc', must'⟩] σ = some (.bool (sizesP (kd 0) (kd k)), σ) :=
  by_k (by kernel_rfl) (by kernel_rfl) (by kernel_rfl) (by kernel_rfl) (by kernel_rfl) (by kernel_rfl) (by kernel_rfl) (by kernel_rfl) (by kernel_rfl) (by kernel_rfl) (by kernel_rfl) (by kernel_rfl) (by kernel_rfl) (by kernel_rfl) (by kernel_rfl) (by kernel_rfl) (by kernel_rfl) (by kernel_rfl)
theorem meet_1 (n l l' : Nat) (σ : Nums) (name name' : List Nat) (op esc must op' esc' must' : Int) : ∀ k, k < 18 → (run prg (n + 17)).c 132 [formV l ⟨name, 1, op, esc, must⟩, formV l' ⟨name', k, op', esc', must'⟩, m01, m01] σ = some (.bool (meetP (kd 1) (kd k) [0, 1] [0, 1]), σ) :=
  by_k (by kernel_rfl) (by kernel_rfl) (by kernel_rfl) (by kernel_rfl) (by kernel_rfl) (by kernel_rfl) (by kernel_rfl) (by kernel_rfl) (by kernel_rfl) (by kernel_rfl) (by kernel_rfl) (by kernel_rfl) (by kernel_rfl) (by kernel_rfl) (by kernel_rfl) (by kernel_rfl) (by kernel_rfl) (by kernel_rfl)
theorem sizes_1 (n l l' : Nat) (σ : Nums) (name name' : List Nat) (op esc must op' esc' must' : Int) : ∀ k, k < 18 → (run prg (n + 12)).c 115 [formV l ⟨name, 1, op, esc, must⟩, formV l' ⟨name', k, op', esc', must'⟩] σ = some (.bool (sizesP (kd 1) (kd k)), σ) :=
  by_k (by kernel_rfl) (by kernel_rfl) (by kernel_rfl) (by kernel_rfl) (by kernel_rfl) (by kernel_rfl) (by kernel_rfl) (by kernel_rfl) (by kernel_rfl) (by kernel_rfl) (by kernel_rfl) (by kernel_rfl) (by kernel_rfl) (by kernel_rfl) (by kernel_rfl) (by kernel_rfl) (by kernel_rfl) (by kernel_rfl)
theorem meet_2 (n l l' : Nat) (σ : Nums) (name name' : List Nat) (op esc must op' esc' must' : Int) : ∀ k, k < 18 → (run prg (n + 17)).c 132 [formV l ⟨name, 2, op, esc, must⟩, formV l' ⟨name', k, op', esc', must'⟩, m01, m01] σ = some (.bool (meetP (kd 2) (kd k) [0, 1] [0, 1]), σ) :=
  by_k (by kernel_rfl) (by kernel_rfl) (by kernel_rfl) (by kernel_rfl) (by kernel_rfl) (by kernel_rfl) (by kernel_rfl) (by kernel_rfl) (by kernel_rfl) (by kernel_rfl) (by kernel_rfl) (by kernel_rfl) (by kernel_rfl) (by kernel_rfl) (by kernel_rfl) (by kernel_rfl) (by kernel_rfl) (by kernel_rfl)
theorem sizes_2 (n l l' : Nat) (σ : Nums) (name name' : List Nat) (op esc must op' esc' must' : Int) : ∀ k, k < 18 → (run prg (n + 12)).c 115 [formV l ⟨name, 2, op, esc, must⟩, formV l' ⟨name', k, op', esc', must'⟩] σ = some (.bool (sizesP (kd 2) (kd k)), σ) :=
  by_k (by kernel_rfl) (by kernel_rfl) (by kernel_rfl) (by kernel_rfl) (by kernel_rfl) (by kernel_rfl) (by kernel_rfl) (by kernel_rfl) (by kernel_rfl) (by kernel_rfl) (by kernel_rfl) (by kernel_rfl) (by kernel_rfl) (by kernel_rfl) (by kernel_rfl) (by kernel_rfl) (by kernel_rfl) (by kernel_rfl)
theorem meet_3 (n l l' : Nat) (σ : Nums) (name name' : List Nat) (op esc must op' esc' must' : Int) : ∀ k, k < 18 → (run prg (n + 17)).c 132 [formV l ⟨name, 3, op, esc, must⟩, formV l' ⟨name', k, op', esc', must'⟩, m01, m01] σ = some (.bool (meetP (kd 3) (kd k) [0, 1] [0, 1]), σ) :=
  by_k (by kernel_rfl) (by kernel_rfl) (by kernel_rfl) (by kernel_rfl) (by kernel_rfl) (by kernel_rfl) (by kernel_rfl) (by kernel_rfl) (by kernel_rfl) (by kernel_rfl) (by kernel_rfl) (by kernel_rfl) (by kernel_rfl) (by kernel_rfl) (by kernel_rfl) (by kernel_rfl) (by kernel_rfl) (by kernel_rfl)
theorem sizes_3 (n l l' : Nat) (σ : Nums) (name name' : List Nat) (op esc must op' esc' must' : Int) : ∀ k, k < 18 → (run prg (n + 12)).c 115 [formV l ⟨name, 3, op, esc, must⟩, formV l' ⟨name', k, op', esc', must'⟩] σ = some (.bool (sizesP (kd 3) (kd k)), σ) :=
  by_k (by kernel_rfl) (by kernel_rfl) (by kernel_rfl) (by kernel_rfl) (by kernel_rfl) (by kernel_rfl) (by kernel_rfl) (by kernel_rfl) (by kernel_rfl) (by kernel_rfl) (by kernel_rfl) (by kernel_rfl) (by kernel_rfl) (by kernel_rfl) (by kernel_rfl) (by kernel_rfl) (by kernel_rfl) (by kernel_rfl)
theorem meet_4 (n l l' : Nat) (σ : Nums) (name name' : List Nat) (op esc must op' esc' must' : Int) : ∀ k, k < 18 → (run prg (n + 17)).c 132 [formV l ⟨name, 4, op, esc, must⟩, formV l' ⟨name', k, op', esc', must'⟩, m01, m01] σ = some (.bool (meetP (kd 4) (kd k) [0, 1] [0, 1]), σ) :=
  by_k (by kernel_rfl) (by kernel_rfl) (by kernel_rfl) (by kernel_rfl) (by kernel_rfl) (by kernel_rfl) (by kernel_rfl) (by kernel_rfl) (by kernel_rfl) (by kernel_rfl) (by kernel_rfl) (by kernel_rfl) (by kernel_rfl) (by kernel_rfl) (by kernel_rfl) (by kernel_rfl) (by kernel_rfl) (by kernel_rfl)
theorem sizes_4 (n l l' : Nat) (σ : Nums) (name name' : List Nat) (op esc must op' esc' must' : Int) : ∀ k, k < 18 → (run prg (n + 12)).c 115 [formV l ⟨name, 4, op, esc, must⟩, formV l' ⟨name', k, op', esc', must'⟩] σ = some (.bool (sizesP (kd 4) (kd k)), σ) :=
  by_k (by kernel_rfl) (by kernel_rfl) (by kernel_rfl) (by kernel_rfl) (by kernel_rfl) (by kernel_rfl) (by kernel_rfl) (by kernel_rfl) (by kernel_rfl) (by kernel_rfl) (by kernel_rfl) (by kernel_rfl) (by kernel_rfl) (by kernel_rfl) (by kernel_rfl) (by kernel_rfl) (by kernel_rfl) (by kernel_rfl)
theorem meet_5 (n l l' : Nat) (σ : Nums) (name name' : List Nat) (op esc must op' esc' must' : Int) : ∀ k, k < 18 → (run prg (n + 17)).c 132 [formV l ⟨name, 5, op, esc, must⟩, formV l' ⟨name', k, op', esc', must'⟩, m01, m01] σ = some (.bool (meetP (kd 5) (kd k) [0, 1] [0, 1]), σ) :=
  by_k (by kernel_rfl) (by kernel_rfl) (by kernel_rfl) (by kernel_rfl) (by kernel_rfl) (by kernel_rfl) (by kernel_rfl) (by kernel_rfl) (by kernel_rfl) (by kernel_rfl) (by kernel_rfl) (by kernel_rfl) (by kernel_rfl) (by kernel_rfl) (by kernel_rfl) (by kernel_rfl) (by kernel_rfl) (by kernel_rfl)
theorem sizes_5 (n l l' : Nat) (σ : Nums) (name name' : List Nat) (op esc must op' esc' must' : Int) : ∀ k, k < 18 → (run prg (n + 12)).c 115 [formV l ⟨name, 5, op, esc, must⟩, formV l' ⟨name', k, op', esc', must'⟩] σ = some (.bool (sizesP (kd 5) (kd k)), σ) :=
  by_k (by kernel_rfl) (by kernel_rfl) (by kernel_rfl) (by kernel_rfl) (by kernel_rfl) (by kernel_rfl) (by kernel_rfl) (by kernel_rfl) (by kernel_rfl) (by kernel_rfl) (by kernel_rfl) (by kernel_rfl) (by kernel_rfl) (by kernel_rfl) (by kernel_rfl) (by kernel_rfl) (by kernel_rfl) (by kernel_rfl)
theorem meet_6 (n l l' : Nat) (σ : Nums) (name name' : List Nat) (op esc must op' esc' must' : Int) : ∀ k, k < 18 → (run prg (n + 17)).c 132 [formV l ⟨name, 6, op, esc, must⟩, formV l' ⟨name', k, op', esc', must'⟩, m01, m01] σ = some (.bool (meetP (kd 6) (kd k) [0, 1] [0, 1]), σ) :=
  by_k (by kernel_rfl) (by kernel_rfl) (by kernel_rfl) (by kernel_rfl) (by kernel_rfl) (by kernel_rfl) (by kernel_rfl) (by kernel_rfl) (by kernel_rfl) (by kernel_rfl) (by kernel_rfl) (by kernel_rfl) (by kernel_rfl) (by kernel_rfl) (by kernel_rfl) (by kernel_rfl) (by kernel_rfl) (by kernel_rfl)
theorem sizes_6 (n l l' : Nat) (σ : Nums) (name name' : List Nat) (op esc must op' esc' must' : Int) : ∀ k, k < 18 → (run prg (n + 12)).c 115 [formV l ⟨name, 6, op, esc, must⟩, formV l' ⟨name', k, op', esc', must'⟩] σ = some (.bool (sizesP (kd 6) (kd k)), σ) :=
  by_k (by kernel_rfl) (by kernel_rfl) (by kernel_rfl) (by kernel_rfl) (by kernel_rfl) (by kernel_rfl) (by kernel_rfl) (by kernel_rfl) (by kernel_rfl) (by kernel_rfl) (by kernel_rfl) (by kernel_rfl) (by kernel_rfl) (by kernel_rfl) (by kernel_rfl) (by kernel_rfl) (by kernel_rfl) (by kernel_rfl)
theorem meet_7 (n l l' : Nat) (σ : Nums) (name name' : List Nat) (op esc must op' esc' must' : Int) : ∀ k, k < 18 → (run prg (n + 17)).c 132 [formV l ⟨name, 7, op, esc, must⟩, formV l' ⟨name', k, op', esc', must'⟩, m01, m01] σ = some (.bool (meetP (kd 7) (kd k) [0, 1] [0, 1]), σ) :=
  by_k (by kernel_rfl) (by kernel_rfl) (by kernel_rfl) (by kernel_rfl) (by kernel_rfl) (by kernel_rfl) (by kernel_rfl) (by kernel_rfl) (by kernel_rfl) (by kernel_rfl) (by kernel_rfl) (by kernel_rfl) (by kernel_rfl) (by kernel_rfl) (by kernel_rfl) (by kernel_rfl) (by kernel_rfl) (by kernel_rfl)
theorem sizes_7 (n l l' : Nat) (σ : Nums) (name name' : List Nat) (op esc must op' esc' must' : Int) : ∀ k, k < 18 → (run prg (n + 12)).c 115 [formV l ⟨name, 7, op, esc, must⟩, formV l' ⟨name', k, op', esc', must'⟩] σ = some (.bool (sizesP (kd 7) (kd k)), σ) :=
  by_k (by kernel_rfl) (by kernel_rfl) (by kernel_rfl) (by kernel_rfl) (by kernel_rfl) (by kernel_rfl) (by kernel_rfl) (by kernel_rfl) (by kernel_rfl) (by kernel_rfl) (by kernel_rfl) (by kernel_rfl) (by kernel_rfl) (by kernel_rfl) (by kernel_rfl) (by kernel_rfl) (by kernel_rfl) (by kernel_rfl)
theorem meet_8 (n l l' : Nat) (σ : Nums) (name name' : List Nat) (op esc must op' esc' must' : Int) : ∀ k, k < 18 → (run prg (n + 17)).c 132 [formV l ⟨name, 8, op, esc, must⟩, formV l' ⟨name', k, op', esc', must'⟩, m01, m01] σ = some (.bool (meetP (kd 8) (kd k) [0, 1] [0, 1]), σ) :=
  by_k (by kernel_rfl) (by kernel_rfl) (by kernel_rfl) (by kernel_rfl) (by kernel_rfl) (by kernel_rfl) (by kernel_rfl) (by kernel_rfl) (by kernel_rfl) (by kernel_rfl) (by kernel_rfl) (by kernel_rfl) (by kernel_rfl) (by kernel_rfl) (by kernel_rfl) (by kernel_rfl) (by kernel_rfl) (by kernel_rfl)
theorem sizes_8 (n l l' : Nat) (σ : Nums) (name name' : List Nat) (op esc must op' esc' must' : Int) : ∀ k, k < 18 → (run prg (n + 12)).c 115 [formV l ⟨name, 8, op, esc, must⟩, formV l' ⟨name', k, op', esc', must'⟩] σ = some (.bool (sizesP (kd 8) (kd k)), σ) :=
  by_k (by kernel_rfl) (by kernel_rfl) (by kernel_rfl) (by kernel_rfl) (by kernel_rfl) (by kernel_rfl) (by kernel_rfl) (by kernel_rfl) (by kernel_rfl) (by kernel_rfl) (by kernel_rfl) (by kernel_rfl) (by kernel_rfl) (by kernel_rfl) (by kernel_rfl) (by kernel_rfl) (by kernel_rfl) (by kernel_rfl)
theorem meet_9 (n l l' : Nat) (σ : Nums) (name name' : List Nat) (op esc must op' esc' must' : Int) : ∀ k, k < 18 → (run prg (n + 17)).c 132 [formV l ⟨name, 9, op, esc, must⟩, formV l' ⟨name', k, op', esc', must'⟩, m01, m01] σ = some (.bool (meetP (kd 9) (kd k) [0, 1] [0, 1]), σ) :=
  by_k (by kernel_rfl) (by kernel_rfl) (by kernel_rfl) (by kernel_rfl) (by kernel_rfl) (by kernel_rfl) (by kernel_rfl) (by kernel_rfl) (by kernel_rfl) (by kernel_rfl) (by kernel_rfl) (by kernel_rfl) (by kernel_rfl) (by kernel_rfl) (by kernel_rfl) (by kernel_rfl) (by kernel_rfl) (by kernel_rfl)
theorem sizes_9 (n l l' : Nat) (σ : Nums) (name name' : List Nat) (op esc must op' esc' must' : Int) : ∀ k, k < 18 → (run prg (n + 12)).c 115 [formV l ⟨name, 9, op, esc, must⟩, formV l' ⟨name', k, op', esc', must'⟩] σ = some (.bool (sizesP (kd 9) (kd k)), σ) :=
  by_k (by kernel_rfl) (by kernel_rfl) (by kernel_rfl) (by kernel_rfl) (by kernel_rfl) (by kernel_rfl) (by kernel_rfl) (by kernel_rfl) (by kernel_rfl) (by kernel_rfl) (by kernel_rfl) (by kernel_rfl) (by kernel_rfl) (by kernel_rfl) (by kernel_rfl) (by kernel_rfl) (by kernel_rfl) (by kernel_rfl)
theorem meet_10 (n l l' : Nat) (σ : Nums) (name name' : List Nat) (op esc must op' esc' must' : Int) : ∀ k, k < 18 → (run prg (n + 17)).c 132 [formV l ⟨name, 10, op, esc, must⟩, formV l' ⟨name', k, op', esc', must'⟩, m01, m01] σ = some (.bool (meetP (kd 10) (kd k) [0, 1] [0, 1]), σ) :=
  by_k (by kernel_rfl) (by kernel_rfl) (by kernel_rfl) (by kernel_rfl) (by kernel_rfl) (by kernel_rfl) (by kernel_rfl) (by kernel_rfl) (by kernel_rfl) (by kernel_rfl) (by kernel_rfl) (by kernel_rfl) (by kernel_rfl) (by kernel_rfl) (by kernel_rfl) (by kernel_rfl) (by kernel_rfl) (by kernel_rfl)
theorem sizes_10 (n l l' : Nat) (σ : Nums) (name name' : List Nat) (op esc must op' esc' must' : Int) : ∀ k, k < 18 → (run prg (n + 12)).c 115 [formV l ⟨name, 10, op, esc, must⟩, formV l' ⟨name', k, op', esc', must'⟩] σ = some (.bool (sizesP (kd 10) (kd k)), σ) :=
  by_k (by kernel_rfl) (by kernel_rfl) (by kernel_rfl) (by kernel_rfl) (by kernel_rfl) (by kernel_rfl) (by kernel_rfl) (by kernel_rfl) (by kernel_rfl) (by kernel_rfl) (by kernel_rfl) (by kernel_rfl) (by kernel_rfl) (by kernel_rfl) (by kernel_rfl) (by kernel_rfl) (by kernel_rfl) (by kernel_rfl)
theorem meet_11 (n l l' : Nat) (σ : Nums) (name name' : List Nat) (op esc must op' esc' must' : Int) : ∀ k, k < 18 → (run prg (n + 17)).c 132 [formV l ⟨name, 11, op, esc, must⟩, formV l' ⟨name', k, op', esc', must'⟩, m01, m01] σ = some (.bool (meetP (kd 11) (kd k) [0, 1] [0, 1]), σ) :=
  by_k (by kernel_rfl) (by kernel_rfl) (by kernel_rfl) (by kernel_rfl) (by kernel_rfl) (by kernel_rfl) (by kernel_rfl) (by kernel_rfl) (by kernel_rfl) (by kernel_rfl) (by kernel_rfl) (by kernel_rfl) (by kernel_rfl) (by kernel_rfl) (by kernel_rfl) (by kernel_rfl) (by kernel_rfl) (by kernel_rfl)
theorem sizes_11 (n l l' : Nat) (σ : Nums) (name name' : List Nat) (op esc must op' esc' must' : Int) : ∀ k, k < 18 → (run prg (n + 12)).c 115 [formV l ⟨name, 11, op, esc, must⟩, formV l' ⟨name', k, op', esc', must'⟩] σ = some (.bool (sizesP (kd 11) (kd k)), σ) :=
  by_k (by kernel_rfl) (by kernel_rfl) (by kernel_rfl) (by kernel_rfl) (by kernel_rfl) (by kernel_rfl) (by kernel_rfl) (by kernel_rfl) (by kernel_rfl) (by kernel_rfl) (by kernel_rfl) (by kernel_rfl) (by kernel_rfl) (by kernel_rfl) (by kernel_rfl) (by kernel_rfl) (by kernel_rfl) (by kernel_rfl)
theorem meet_12 (n l l' : Nat) (σ : Nums) (name name' : List Nat) (op esc must op' esc' must' : Int) : ∀ k, k < 18 → (run prg (n + 17)).c 132 [formV l ⟨name, 12, op, esc, must⟩, formV l' ⟨name', k, op', esc', must'⟩, m01, m01] σ = some (.bool (meetP (kd 12) (kd k) [0, 1] [0, 1]), σ) :=
  by_k (by kernel_rfl) (by kernel_rfl) (by kernel_rfl) (by kernel_rfl) (by kernel_rfl) (by kernel_rfl) (by kernel_rfl) (by kernel_rfl) (by kernel_rfl) (by kernel_rfl) (by kernel_rfl) (by kernel_rfl) (by kernel_rfl) (by kernel_rfl) (by kernel_rfl) (by kernel_rfl) (by kernel_rfl) (by kernel_rfl)
theorem sizes_12 (n l l' : Nat) (σ : Nums) (name name' : List Nat) (op esc must op' esc' must' : Int) : ∀ k, k < 18 → (run prg (n + 12)).c 115 [formV l ⟨name, 12, op, esc, must⟩, formV l' ⟨name', k, op', esc', must'⟩] σ = some (.bool (sizesP (kd 12) (kd k)), σ) :=
  by_k (by kernel_rfl) (by kernel_rfl) (by kernel_rfl) (by kernel_rfl) (by kernel_rfl) (by kernel_rfl) (by kernel_rfl) (by kernel_rfl) (by kernel_rfl) (by kernel_rfl) (by kernel_rfl) (by kernel_rfl) (by kernel_rfl) (by kernel_rfl) (by kernel_rfl) (by kernel_rfl) (by kernel_rfl) (by kernel_rfl)
theorem meet_13 (n l l' : Nat) (σ : Nums) (name name' : List Nat) (op esc must op' esc' must' : Int) : ∀ k, k < 18 → (run prg (n + 17)).c 132 [formV l ⟨name, 13, op, esc, must⟩, formV l' ⟨name', k, op', esc', must'⟩, m01, m01] σ = some (.bool (meetP (kd 13) (kd k) [0, 1] [0, 1]), σ) :=
  by_k (by kernel_rfl) (by kernel_rfl) (by kernel_rfl) (by kernel_rfl) (by kernel_rfl) (by kernel_rfl) (by kernel_rfl) (by kernel_rfl) (by kernel_rfl) (by kernel_rfl) (by kernel_rfl) (by kernel_rfl) (by kernel_rfl) (by kernel_rfl) (by kernel_rfl) (by kernel_rfl) (by kernel_rfl) (by kernel_rfl)
theorem sizes_13 (n l l' : Nat) (σ : Nums) (name name' : List Nat) (op esc must op' esc' must' : Int) : ∀ k, k < 18 → (run prg (n + 12)).c 115 [formV l ⟨name, 13, op, esc, must⟩, formV l' ⟨name', k, op', esc', must'⟩] σ = some (.bool (sizesP (kd 13) (kd k)), σ) :=
  by_k (by kernel_rfl) (by kernel_rfl) (by kernel_rfl) (by kernel_rfl) (by kernel_rfl) (by kernel_rfl) (by kernel_rfl) (by kernel_rfl) (by kernel_rfl) (by kernel_rfl) (by kernel_rfl) (by kernel_rfl) (by kernel_rfl) (by kernel_rfl) (by kernel_rfl) (by kernel_rfl) (by kernel_rfl) (by kernel_rfl)
theorem meet_14 (n l l' : Nat) (σ : Nums) (name name' : List Nat) (op esc must op' esc' must' : Int) : ∀ k, k < 18 → (run prg (n + 17)).c 132 [formV l ⟨name, 14, op, esc, must⟩, formV l' ⟨name', k, op', esc', must'⟩, m01, m01] σ = some (.bool (meetP (kd 14) (kd k) [0, 1] [0, 1]), σ) :=
  by_k (by kernel_rfl) (by kernel_rfl) (by kernel_rfl) (by kernel_rfl) (by kernel_rfl) (by kernel_rfl) (by kernel_rfl) (by kernel_rfl) (by kernel_rfl) (by kernel_rfl) (by kernel_rfl) (by kernel_rfl) (by kernel_rfl) (by kernel_rfl) (by kernel_rfl) (by kernel_rfl) (by kernel_rfl) (by kernel_rfl)
theorem sizes_14 (n l l' : Nat) (σ : Nums) (name name' : List Nat) (op esc must op' esc' must' : Int) : ∀ k, k < 18 → (run prg (n + 12)).c 115 [formV l ⟨name, 14, op, esc, must⟩, formV l' ⟨name', k, op', esc', must'⟩] σ = some (.bool (sizesP (kd 14) (kd k)), σ) :=
  by_k (by kernel_rfl) (by kernel_rfl) (by kernel_rfl) (by kernel_rfl) (by kernel_rfl) (by kernel_rfl) (by kernel_rfl) (by kernel_rfl) (by kernel_rfl) (by kernel_rfl) (by kernel_rfl) (by kernel_rfl) (by kernel_rfl) (by kernel_rfl) (by kernel_rfl) (by kernel_rfl) (by kernel_rfl) (by kernel_rfl)
theorem meet_15 (n l l' : Nat) (σ : Nums) (name name' : List Nat) (op esc must op' esc' must' : Int) : ∀ k, k < 18 → (run prg (n + 17)).c 132 [formV l ⟨name, 15, op, esc, must⟩, formV l' ⟨name', k, op', esc', must'⟩, m01, m01] σ = some (.bool (meetP (kd 15) (kd k) [0, 1] [0, 1]), σ) :=
  by_k (by kernel_rfl) (by kernel_rfl) (by kernel_rfl) (by kernel_rfl) (by kernel_rfl) (by kernel_rfl) (by kernel_rfl) (by kernel_rfl) (by kernel_rfl) (by kernel_rfl) (by kernel_rfl) (by kernel_rfl) (by kernel_rfl) (by kernel_rfl) (by kernel_rfl) (by kernel_rfl) (by kernel_rfl) (by kernel_rfl)
theorem sizes_15 (n l l' : Nat) (σ : Nums) (name name' : List Nat) (op esc must op' esc' must' : Int) : ∀ k, k < 18 → (run prg (n + 12)).c 115 [formV l ⟨name, 15, op, esc, must⟩, formV l' ⟨name', k, op', esc', must'⟩] σ = some (.bool (sizesP (kd 15) (kd k)), σ) :=
  by_k (by kernel_rfl) (by kernel_rfl) (by kernel_rfl) (by kernel_rfl) (by kernel_rfl) (by kernel_rfl) (by kernel_rfl) (by kernel_rfl) (by kernel_rfl) (by kernel_rfl) (by kernel_rfl) (by kernel_rfl) (by kernel_rfl) (by kernel_rfl) (by kernel_rfl) (by kernel_rfl) (by kernel_rfl) (by kernel_rfl)
theorem meet_16 (n l l' : Nat) (σ : Nums) (name name' : List Nat) (op esc must op' esc' must' : Int) : ∀ k, k < 18 → (run prg (n + 17)).c 132 [formV l ⟨name, 16, op, esc, must⟩, formV l' ⟨name', k, op', esc', must'⟩, m01, m01] σ = some (.bool (meetP (kd 16) (kd k) [0, 1] [0, 1]), σ) :=
  by_k (by kernel_rfl) (by kernel_rfl) (by kernel_rfl) (by kernel_rfl) (by kernel_rfl) (by kernel_rfl) (by kernel_rfl) (by kernel_rfl) (by kernel_rfl) (by kernel_rfl) (by kernel_rfl) (by kernel_rfl) (by kernel_rfl) (by kernel_rfl) (by kernel_rfl) (by kernel_rfl) (by kernel_rfl) (by kernel_rfl)
theorem sizes_16 (n l l' : Nat) (σ : Nums) (name name' : List Nat) (op esc must op' esc' must' : Int) : ∀ k, k < 18 → (run prg (n + 12)).c 115 [formV l ⟨name, 16, op, esc, must⟩, formV l' ⟨name', k, op', esc', must'⟩] σ = some (.bool (sizesP (kd 16) (kd k)), σ) :=
  by_k (by kernel_rfl) (by kernel_rfl) (by kernel_rfl) (by kernel_rfl) (by kernel_rfl) (by kernel_rfl) (by kernel_rfl) (by kernel_rfl) (by kernel_rfl) (by kernel_rfl) (by kernel_rfl) (by kernel_rfl) (by kernel_rfl) (by kernel_rfl) (by kernel_rfl) (by kernel_rfl) (by kernel_rfl) (by kernel_rfl)
theorem meet_17 (n l l' : Nat) (σ : Nums) (name name' : List Nat) (op esc must op' esc' must' : Int) : ∀ k, k < 18 → (run prg (n + 17)).c 132 [formV l ⟨name, 17, op, esc, must⟩, formV l' ⟨name', k, op', esc', must'⟩, m01, m01] σ = some (.bool (meetP (kd 17) (kd k) [0, 1] [0, 1]), σ) :=
  by_k (by kernel_rfl) (by kernel_rfl) (by kernel_rfl) (by kernel_rfl) (by kernel_rfl) (by kernel_rfl) (by kernel_rfl) (by kernel_rfl) (by kernel_rfl) (by kernel_rfl) (by kernel_rfl) (by kernel_rfl) (by kernel_rfl) (by kernel_rfl) (by kernel_rfl) (by kernel_rfl) (by kernel_rfl) (by kernel_rfl)
theorem sizes_17 (n l l' : Nat) (σ : Nums) (name name' : List Nat) (op esc must op' esc' must' : Int) : ∀ k, k < 18 → (run prg (n + 12)).c 115 [formV l ⟨name, 17, op, esc, must⟩, formV l' ⟨name', k, op', esc', must'⟩] σ = some (.bool (sizesP (kd 17) (kd k)), σ) :=
  by_k (by kernel_rfl) (by kernel_rfl) (by kernel_rfl) (by kernel_rfl) (by kernel_rfl) (by kernel_rfl) (by kernel_rfl) (by kernel_rfl) (by kernel_rfl) (by kernel_rfl) (by kernel_rfl) (by kernel_rfl) (by kernel_rfl) (by kernel_rfl) (by kernel_rfl) (by kernel_rfl) (by kernel_rfl) (by kernel_rfl)
theorem c_meet {n l l' : Nat} {σ : Nums} {r r' : Row} (h : r.k < 18) (h' : r'.k < 18) : (run prg (n + 17)).c 132 [formV l r, formV l' r', m01, m01] σ = some (.bool (meetP (kd r.k) (kd r'.k) [0, 1] [0, 1]), σ) := by
  obtain ⟨name, k, op, esc, must⟩ := r
  obtain ⟨name', k', op', esc', must'⟩ := r'
  revert k
  exact fun k h => by_k (P := fun k => (run prg (n + 17)).c 132 [formV l ⟨name, k, op, esc, must⟩, formV l' ⟨name', k', op', esc', must'⟩, m01, m01] σ = some (.bool (meetP (kd k) (kd k') [0, 1] [0, 1]), σ)) (meet_0 n l l' σ name name' op esc must op' esc' must' k' h') (meet_1 n l l' σ name name' op esc must op' esc' must' k' h') (meet_2 n l l' σ name name' op esc must op' esc' must' k' h') (meet_3 n l l' σ name name' op esc must op' esc' must' k' h') (meet_4 n l l' σ name name' op esc must op' esc' must' k' h') (meet_5 n l l' σ name name' op esc must op' esc' must' k' h') (meet_6 n l l' σ name name' op esc must op' esc' must' k' h') (meet_7 n l l' σ name name' op esc must op' esc' must' k' h') (meet_8 n l l' σ name name' op esc must op' esc' must' k' h') (meet_9 n l l' σ name name' op esc must op' esc' must' k' h') (meet_10 n l l' σ name name' op esc must op' esc' must' k' h') (meet_11 n l l' σ name name' op esc must op' esc' must' k' h') (meet_12 n l l' σ name name' op esc must op' esc' must' k' h') (meet_13 n l l' σ name name' op esc must op' esc' must' k' h') (meet_14 n l l' σ name name' op esc must op' esc' must' k' h') (meet_15 n l l' σ name name' op esc must op' esc' must' k' h') (meet_16 n l l' σ name name' op esc must op' esc' must' k' h') (meet_17 n l l' σ name name' op esc must op' esc' must' k' h') k h
theorem c_sizes {n l l' : Nat} {σ : Nums} {r r' : Row} (h : r.k < 18) (h' : r'.k < 18) : (run prg (n + 12)).c 115 [formV l r, formV l' r'] σ = some (.bool (sizesP (kd r.k) (kd r'.k)), σ) := by
  obtain ⟨name, k, op, esc, must⟩ := r
  obtain ⟨name', k', op', esc', must'⟩ := r'
  revert k
  exact fun k h => by_k (P := fun k => (run prg (n + 12)).c 115 [formV l ⟨name, k, op, esc, must⟩, formV l' ⟨name', k', op', esc', must'⟩] σ = some (.bool (sizesP (kd k) (kd k')), σ)) (sizes_0 n l l' σ name name' op esc must op' esc' must' k' h') (sizes_1 n l l' σ name name' op esc must op' esc' must' k' h') (sizes_2 n l l' σ name name' op esc must op' esc' must' k' h') (sizes_3 n l l' σ name name' op esc must op' esc' must' k' h') (sizes_4 n l l' σ name name' op esc must op' esc' must' k' h') (sizes_5 n l l' σ name name' op esc must op' esc' must' k' h') (sizes_6 n l l' σ name name' op esc must op' esc' must' k' h') (sizes_7 n l l' σ name name' op esc must op' esc' must' k' h') (sizes_8 n l l' σ name name' op esc must op' esc' must' k' h') (sizes_9 n l l' σ name name' op esc must op' esc' must' k' h') (sizes_10 n l l' σ name name' op esc must op' esc' must' k' h') (sizes_11 n l l' σ name name' op esc must op' esc' must' k' h') (sizes_12 n l l' σ name name' op esc must op' esc' must' k' h') (sizes_13 n l l' σ name name' op esc must op' esc' must' k' h') (sizes_14 n l l' σ name name' op esc must op' esc' must' k' h') (sizes_15 n l l' σ name name' op esc must op' esc' must' k' h') (sizes_16 n l l' σ name name' op esc must op' esc' must' k' h') (sizes_17 n l l' σ name name' op esc must op' esc' must' k' h') k h
end Mine.Pl
namespace Mine.Pl
section
variable {n : Nat} {r r' : Rho} {σ σ' σ1 σ2 : Nums} {u v z : V} {x : Nat}
theorem e_cst : (run prg (n + 1)).e (.cst v) r σ = some (v, σ) := rfl
theorem oPe {α β γ : Type} {x : Option (α × β)} {F : α → β → Option γ} {u : α} {s : β} (h : x = some (u, s)) : oP x F = F u s := congrArg (oP · F) h
theorem o1e {α γ : Type} {x : Option α} {F : α → Option γ} {u : α} (h : x = some u) : o1 x F = F u := congrArg (o1 · F) h
theorem oIe {γ : Type} {b : Bool} {x : Option γ} (h : b = true) : oI b x = x := congrArg (oI · x) h
theorem oCt {γ : Type} {b : Bool} {x y : γ} (h : b = true) : oC b x y = x := congrArg (oC · x y) h
theorem oEn {α γ : Type} {x : Option α} {y : γ} {F : α → γ} (h : x = none) : oE x y F = y := congrArg (oE · y F) h
theorem oEs {α γ : Type} {x : Option α} {y : γ} {F : α → γ} {u : α} (h : x = some u) : oE x y F = F u := congrArg (oE · y F) h
theorem e_var (h : fget r.ρ x = some v) : (run prg (n + 1)).e (.var x) r σ = some (v, σ) := o1e h
theorem tr_e {m : M} (h : ∀ x, m = .var x → ∀ y u, r.w = some (y, u) → y ≠ x) (e : (run prg n).e m r σ = some (v, σ')) : tr (run prg n).e m r σ = some (v, σ') := by
  have hn : trW m r.w = none := by
    unfold trW
    cases hx : varOf m with
    | none => rfl
    | some x =>
      cases hw : r.w with
      | none => rfl
      | some z => exact congrArg (oI · (some z.2)) (bq_f (h x (varOf_c hx) z.1 z.2 hw))
  exact (congrArg (oE · ((run prg n).e m r σ) fun v => some (v, σ)) hn).trans e
theorem tr_n {m : M} (h : r.w = none) (e : (run prg n).e m r σ = some (v, σ')) : tr (run prg n).e m r σ = some (v, σ') := tr_e (fun x _ y u hw => nn (h.symm.trans hw)) e
theorem tr_o {m : M} (h : ∀ x, m ≠ .var x) (e : (run prg n).e m r σ = some (v, σ')) : tr (run prg n).e m r σ = some (v, σ') := tr_e (fun x hm => absurd hm (h x)) e
theorem tr_w (h : r.w = some (x, v)) : tr (run prg n).e (.var x) r σ = some (v, σ) :=
  congrArg (oE · ((run prg n).e (.var x) r σ) fun v => some (v, σ)) (show wOwn r.w x some = some v by rw [h]; exact congrArg (oI · (some v)) (Nat.beq_refl x))
theorem e_cmp {op : COp} {a b : M} (ha : (run prg n).e a r σ = some (u, σ1)) (hb : tr (run prg n).e b r σ1 = some (v, σ2)) (hc : cmpV op u v = some z) : (run prg (n + 1)).e (.cmp op a b) r σ = some (z, σ2) := (oPe ha).trans ((oPe hb).trans (o1e hc))
theorem e_attr {a : M} {f c : Nat} {fs : List (Nat × V)} {l : Option Nat} (ha : tr (run prg n).e a r σ = some (.inst c fs l, σ1)) (hf : Nat.beq f N.number = false) (hg : fget fs f = some v) : (run prg (n + 1)).e (.attr a f) r σ = some (v, σ1) :=
  (oPe ha).trans (o1e (show attrV σ1 fs f l = some v by
    cases l with
    | none => exact hg
    | some ℓ => exact (congrArg (oC · ((σ1[ℓ]?).map .int) (fget fs f)) hf).trans hg))
theorem e_number {a : M} {c ℓ : Nat} {fs : List (Nat × V)} {i : Int} (ha : tr (run prg n).e a r σ = some (.inst c fs (some ℓ), σ1)) (hg : σ1[ℓ]? = some i) : (run prg (n + 1)).e (.attr a 8) r σ = some (.int i, σ1) :=
  (oPe ha).trans (o1e (show attrV σ1 fs 8 (some ℓ) = some (.int i) from congrArg (Option.map V.int) hg))
theorem e_bin {g : V → V → Option V} {a b : M} (ha : (run prg n).e a r σ = some (u, σ1)) (hb : (run prg n).e b r σ1 = some (v, σ2)) (hc : g u v = some z) : stepE.bin (run prg n) r σ g a b = some (z, σ2) := (oPe ha).trans ((oPe hb).trans (o1e hc))
theorem e_idx {a b : M} (ha : (run prg n).e a r σ = some (u, σ1)) (hb : (run prg n).e b r σ1 = some (v, σ2)) (hc : idxV u v = some z) : (run prg (n + 1)).e (.idx a b) r σ = some (z, σ2) := e_bin ha hb hc
theorem e_fmod {a b : M} (ha : (run prg n).e a r σ = some (u, σ1)) (hb : (run prg n).e b r σ1 = some (v, σ2)) (hc : fmodV u v = some z) : (run prg (n + 1)).e (.fmod a b) r σ = some (z, σ2) := e_bin ha hb hc
theorem e_fdiv {a b : M} (ha : (run prg n).e a r σ = some (u, σ1)) (hb : (run prg n).e b r σ1 = some (v, σ2)) (hc : fdivV u v = some z) : (run prg (n + 1)).e (.fdiv a b) r σ = some (z, σ2) := e_bin ha hb hc
theorem e_bif {b : Bif} {a : M} (ha : tr (run prg n).e a r σ = some (v, σ1)) (hc : bifV b v = some z) : (run prg (n + 1)).e (.bif b a) r σ = some (z, σ1) := (oPe ha).trans (o1e hc)
theorem e_not {a : M} {b : Bool} (ha : (run prg n).e a r σ = some (.bool b, σ1)) : (run prg (n + 1)).e (.not a) r σ = some (.bool (!b), σ1) := oPe ha
theorem e_call {f : Nat} {as : List M} {vs : List V} (ha : evs (fun m σ => (run prg n).e m r σ) as σ = some (vs, σ1)) (hc : (run prg n).c f vs σ1 = some (z, σ2)) : (run prg (n + 1)).e (.call f as) r σ = some (z, σ2) := (oPe ha).trans hc
theorem e_meth {a : M} {m f c : Nat} {as : List M} {vs : List V} {fs : List (Nat × V)} {l : Option Nat} (h0 : (run prg n).e a r σ = some (.inst c fs l, σ1)) (hm : methTab c m = some f) (ha : evs (fun m σ => (run prg n).e m r σ) as σ1 = some (vs, σ2)) (hc : (run prg n).c f (.inst c fs l :: vs) σ2 = some (z, σ')) : (run prg (n + 1)).e (.meth a m as) r σ = some (z, σ') :=
  (oPe h0).trans ((o1e (show prg.meth c m = some f from hm)).trans ((oPe ha).trans hc))
theorem e_get {d k q : M} {dv kv zv : V} (h1 : (run prg n).e d r σ = some (dv, σ1)) (h2 : (run prg n).e k r σ1 = some (kv, σ2)) (h3 : (run prg n).e q r σ2 = some (zv, σ')) (h4 : getV dv kv zv = some v) : (run prg (n + 1)).e (.get d k q) r σ = some (v, σ') := (oPe h1).trans ((oPe h2).trans ((oPe h3).trans (o1e h4)))
theorem e_tup {es : List M} {vs : List V} (h : evs (fun m σ => (run prg n).e m r σ) es σ = some (vs, σ1)) (hs : small vs = true) : (run prg (n + 1)).e (.tup es) r σ = some (.tuple vs, σ1) := (oPe h).trans (oIe hs)
theorem e_lst {es : List M} {vs : List V} (h : evs (fun m σ => (run prg n).e m r σ) es σ = some (vs, σ1)) (hs : small vs = true) : (run prg (n + 1)).e (.lst es) r σ = some (.list vs, σ1) := (oPe h).trans (oIe hs)
theorem ev_nil {f : M → Nums → Option (V × Nums)} : evs f [] σ = some ([], σ) := rfl
theorem ev_cons {f : M → Nums → Option (V × Nums)} {a : M} {as : List M} {vs : List V} (h : f a σ = some (v, σ1)) (h2 : evs f as σ1 = some (vs, σ2)) : evs f (a :: as) σ = some (v :: vs, σ2) := (oPe h).trans (oPe h2)
theorem e_and {es : List M} (h : andE (fun m σ => (run prg n).e m r σ) es σ = some (v, σ1)) : (run prg (n + 1)).e (.and es) r σ = some (v, σ1) := h
theorem e_or {es : List M} (h : orE (fun m σ => (run prg n).e m r σ) es σ = some (v, σ1)) : (run prg (n + 1)).e (.or es) r σ = some (v, σ1) := h
theorem or_cons {f : M → Nums → Option (V × Nums)} {a b : M} {t : List M} {q q2 : Bool} (h : f a σ = some (.bool q, σ)) (h2 : orE f (b :: t) σ = some (.bool q2, σ)) : orE f (a :: b :: t) σ = some (.bool (q || q2), σ) := by
  cases q
  · exact (oPe h).trans h2
  · exact oPe h
theorem or_one {f : M → Nums → Option (V × Nums)} {a : M} {q : Bool} (h : f a σ = some (.bool q, σ1)) : orE f [a] σ = some (.bool q, σ1) := oPe h
theorem and_cons {f : M → Nums → Option (V × Nums)} {a b : M} {t : List M} {q q2 : Bool} (h : f a σ = some (.bool q, σ)) (h2 : andE f (b :: t) σ = some (.bool q2, σ)) : andE f (a :: b :: t) σ = some (.bool (q && q2), σ) := by
  cases q
  · exact oPe h
  · exact (oPe h).trans h2
theorem and_one {f : M → Nums → Option (V × Nums)} {a : M} {q : Bool} (h : f a σ = some (.bool q, σ1)) : andE f [a] σ = some (.bool q, σ1) := oPe h
theorem small_of {α : Type} {l : List α} (h : l.length ≤ 1000) : small l = true := Nat.ble_eq.mpr h
theorem e_comp {elt it : M} {cs : List M} {vs us : List V} (h : (run prg n).e it r σ = some (v, σ1)) (hi : items v = some vs) (hc : compL (run prg n).e elt x cs r.ρ vs σ1 = some (us, σ2)) : (run prg (n + 1)).e (.comp elt x it cs) r σ = some (.list us, σ2) := (oPe h).trans ((o1e hi).trans (oPe hc))
theorem e_dcomp {k q it : M} {vs : List V} {es : List (V × V)} (h : (run prg n).e it r σ = some (v, σ1)) (hi : items v = some vs) (hc : dcompL (run prg n).e k q x r.ρ vs [] σ1 = some (es, σ2)) : (run prg (n + 1)).e (.dcomp k q x it) r σ = some (.dict es, σ2) := (oPe h).trans ((o1e hi).trans (oPe hc))
variable {b a rest : List S} {out : Option (Fl × Nums)} {e c : M}
theorem s_nil : (run prg (n + 1)).s [] r σ = some (.next r, σ) := rfl
theorem s_of {st : S} (h : stepS1 (run prg n) st r σ = some (.next r', σ1)) (h2 : (run prg (n + 1)).s rest r' σ1 = out) : (run prg (n + 1)).s (st :: rest) r σ = out := (oPe h).trans h2
theorem s_asg (h : (run prg n).e e r σ = some (v, σ1)) (h2 : (run prg (n + 1)).s rest (r.set x v) σ1 = out) : (run prg (n + 1)).s (.asg x e :: rest) r σ = out := s_of (oPe h) h2
theorem s_newL (h : r.own x (.list []) = some r') (h2 : (run prg (n + 1)).s rest r' σ = out) : (run prg (n + 1)).s (.newL x :: rest) r σ = out := s_of (o1e h) h2
theorem s_newD (h : r.own x (.dict []) = some r') (h2 : (run prg (n + 1)).s rest r' σ = out) : (run prg (n + 1)).s (.newD x :: rest) r σ = out := s_of (o1e h) h2
theorem s_asgT {xs : List Nat} (h : (run prg n).e e r σ = some (v, σ1)) (hb : bindT xs v r = some r') (h2 : (run prg (n + 1)).s rest r' σ1 = out) : (run prg (n + 1)).s (.asgT xs e :: rest) r σ = out := s_of ((oPe h).trans (o1e hb)) h2
theorem wOwn_e {γ : Type} {w : Option (Nat × V)} {F : V → Option γ} (h : w = some (x, v)) : wOwn w x F = F v := (oPe h).trans (oIe (Nat.beq_refl x))
theorem s_app {vs : List V} (h : (run prg n).e e r σ = some (v, σ1)) (hw : r.w = some (x, .list vs)) (hs : small vs = true) (h2 : (run prg (n + 1)).s rest ⟨r.ρ, some (x, .list (vs ++ [v]))⟩ σ1 = out) : (run prg (n + 1)).s (.app x e :: rest) r σ = out :=
  s_of ((oPe h).trans ((wOwn_e hw).trans (oIe hs))) h2
theorem s_setI {es : List (V × V)} {k : M} {kv : V} (h : (run prg n).e e r σ = some (v, σ1)) (hk : (run prg n).e k r σ1 = some (kv, σ2)) (hw : r.w = some (x, .dict es)) (hs : seek es kv = true) (hz : small es = true) (h2 : (run prg (n + 1)).s rest ⟨r.ρ, some (x, .dict (dput es kv v))⟩ σ2 = out) : (run prg (n + 1)).s (.setI x k e :: rest) r σ = out :=
  s_of ((oPe h).trans ((oPe hk).trans ((wOwn_e hw).trans (oIe (show (seek es kv && small es) = true by rw [hs, hz]; rfl))))) h2
theorem s_ife {q : Bool} (h : (run prg n).e c r σ = some (.bool q, σ1)) (hb : (run prg n).s (if q then a else b) r σ1 = some (.next r', σ2)) (h2 : (run prg (n + 1)).s rest r' σ2 = out) : (run prg (n + 1)).s (.ife c a b :: rest) r σ = out := by
  cases q
  · exact s_of ((oPe h).trans hb) h2
  · exact s_of ((oPe h).trans hb) h2
theorem s_no {n : Nat} (h : (run prg (n + 1)).e c r σ = some (.bool false, σ1)) (h2 : (run prg (n + 2)).s rest r σ1 = out) : (run prg (n + 2)).s (.ife c a [] :: rest) r σ = out :=
  s_ife h rfl h2
theorem s_ret (h : tr (run prg n).e e r σ = some (v, σ1)) (hv : isRaw v = false) : (run prg (n + 1)).s (.ret e :: rest) r σ = some (.ret v, σ1) :=
  (oPe ((oPe h).trans (congrArg (oC · none (some (Fl.ret v, σ1))) hv))).trans rfl
theorem s_retIf (h : (run prg (n + 1)).e c r σ = some (.bool true, σ1)) (h2 : tr (run prg n).e e r σ1 = some (v, σ2)) (hv : isRaw v = false) : (run prg (n + 2)).s (.ife c [.ret e] b :: rest) r σ = some (.ret v, σ2) :=
  (oPe ((oPe h).trans (s_ret (rest := []) h2 hv))).trans rfl
theorem s_forI {vs : List V} {body : List S} (h : (run prg n).e e r σ = some (v, σ1)) (hi : items v = some vs) (hl : forL (fun r σ => (run prg n).s body r σ) (fun v r => some (r.set x v)) vs r σ1 = some (.next r', σ2)) (h2 : (run prg (n + 1)).s rest r' σ2 = out) : (run prg (n + 1)).s (.forI x e body :: rest) r σ = out :=
  s_of ((oPe h).trans ((o1e hi).trans hl)) h2
theorem s_forT {vs : List V} {xs : List Nat} {body : List S} (h : (run prg n).e e r σ = some (v, σ1)) (hi : items v = some vs) (hl : forL (fun r σ => (run prg n).s body r σ) (bindT xs) vs r σ1 = some (.next r', σ2)) (h2 : (run prg (n + 1)).s rest r' σ2 = out) : (run prg (n + 1)).s (.forT xs e body :: rest) r σ = out :=
  s_of ((oPe h).trans ((o1e hi).trans hl)) h2
theorem forL_inv {body : Rho → Nums → Option (Fl × Nums)} {bind : V → Rho → Option Rho} {vs : List V} (I : Nat → Rho → Nums → Prop)
    (h : ∀ i v r σ, vs[i]? = some v → I i r σ → ∃ r1, bind v r = some r1 ∧ ∃ r2 σ2, (body r1 σ = some (.next r2, σ2) ∨ body r1 σ = some (.cont r2, σ2)) ∧ I (i + 1) r2 σ2) : ∀ {r σ}, I 0 r σ → ∃ r' σ', forL body bind vs r σ = some (.next r', σ') ∧ I vs.length r' σ' := by
  induction vs generalizing I with
  | nil => exact fun h0 => ⟨_, _, rfl, h0⟩
  | cons v t ih =>
    exact fun {r σ} h0 => (h 0 v r σ rfl h0).elim fun r1 e1 => e1.2.elim fun r2 e2 => e2.elim fun σ2 e2 => (ih (fun i => I (i + 1)) (fun i w r σ hw hI => h (i + 1) w r σ hw hI) e2.2).elim fun r' e3 => e3.elim fun σ' e3 =>
      ⟨r', σ', (o1e e1.1).trans (e2.1.elim (fun e2 => (oPe e2).trans e3.1) fun e2 => (oPe e2).trans e3.1), e3.2⟩
theorem forL_set {body : Rho → Nums → Option (Fl × Nums)} {vs : List V} (I : Nat → Rho → Prop)
    (h : ∀ i v r, vs[i]? = some v → I i r → ∃ r2, (body (r.set x v) σ = some (.next r2, σ) ∨ body (r.set x v) σ = some (.cont r2, σ)) ∧ I (i + 1) r2) (h0 : I 0 r) : ∃ r', forL body (fun v r => some (r.set x v)) vs r σ = some (.next r', σ) ∧ I vs.length r' :=
  (forL_inv (body := body) (bind := fun v r => some (r.set x v)) (vs := vs) (fun i r s => s = σ ∧ I i r) (fun i v r s hv hI => (h i v r hv hI.2).elim fun r2 e => ⟨_, rfl, r2, σ, hI.1 ▸ e.1, rfl, e.2⟩) ⟨rfl, h0⟩).elim fun r' e => e.elim fun σ' e => ⟨r', e.2.1 ▸ e.1, e.2.2⟩
theorem get_set {y : Nat} : fget (r.set x v).ρ y = if y = x then some v else fget r.ρ y := by
  by_cases h : y = x
  · rw [if_pos h, h]; exact fget_fput1 ..
  · rw [if_neg h]; exact fget_fput2 _ _ h
theorem w_set : (r.set x v).w = (match r.w with | some (y, u) => if Nat.beq y x then none else some (y, u) | none => none) := rfl
theorem leqN_refl (l : List Nat) : leqN l l = true := (leqN_eq l l).trans (decide_eq_true rfl)
theorem veqs_refl {P : V → Bool} (ih : ∀ v, P v = true → veq v v = true) (vs : List V) : vs.all P = true → veqs vs vs = true := by
  induction vs with
  | nil => exact fun _ => rfl
  | cons a t iht =>
    intro h
    show (veq a a && veqs t t) = true
    rw [ih a (bL h), iht (bR h)]; rfl
theorem veq_refl (k : Nat) : ∀ v, plain k v = true → veq v v = true := by
  induction k with
  | zero =>
    intro v h
    cases v with
    | str s => exact leqN_refl s
    | none => rfl
    | bool b => exact beq_self_eq_true b
    | int i => exact beq_self_eq_true i
    | _ => exact ff h
  | succ k ih =>
    intro v h
    cases v with
    | str s => exact leqN_refl s
    | none => rfl
    | bool b => exact beq_self_eq_true b
    | int i => exact beq_self_eq_true i
    | list vs => exact veqs_refl ih vs h
    | tuple vs => exact veqs_refl ih vs h
    | _ => exact ff h
theorem eqV_refl {v : V} (h : plain 8 v = true) : eqV v v = some true := by
  unfold eqV; rw [h, veq_refl 8 v h]; rfl
theorem ne_refl {v : V} (h : plain 8 v = true) : cmpV .ne v v = some (.bool false) := by
  show (eqV v v).map _ = _; rw [eqV_refl h]; rfl
theorem eq_refl {v : V} (h : plain 8 v = true) : cmpV .eq v v = some (.bool true) := by
  show (eqV v v).map _ = _; rw [eqV_refl h]; rfl
end
end Mine.Pl
namespace Mine.Pl
section
variable {K : Type} [DecidableEq K] {enc : K → V}
noncomputable def addNew (acc : List K) (c : K) : List K := if c ∈ acc then acc else acc ++ [c]
noncomputable def dd (cs : List K) : List K := cs.foldl addNew []
noncomputable def put1 : List (K × List V) → K → V → List (K × List V)
  | [], k, f => [(k, [f])]
  | e :: r, k, f => if e.1 = k then (e.1, e.2 ++ [f]) :: r else e :: put1 r k f
noncomputable def look : List (K × List V) → K → Option (List V)
  | [], _ => none
  | e :: r, k => if e.1 = k then some e.2 else look r k
noncomputable def encD (enc : K → V) (es : List (K × List V)) : List (V × V) := es.map fun e => (enc e.1, .list e.2)
theorem put1_keys (k : K) (f : V) : ∀ es : List (K × List V), (put1 es k f).map (·.1) = addNew (es.map (·.1)) k
  | [] => by simp [put1, addNew]
  | e :: r => by
    simp only [put1]
    by_cases h : e.1 = k
    · rw [if_pos h]; simp [addNew, h]
    · rw [if_neg h, List.map_cons, put1_keys k f r]
      have h' : ¬ k = e.1 := fun x => h x.symm
      simp only [addNew, List.map_cons, List.mem_cons, h', false_or]
      split <;> rfl
theorem put1_look (k k' : K) (f : V) : ∀ es : List (K × List V), look (put1 es k f) k' = if k = k' then some ((look es k).getD [] ++ [f]) else look es k'
  | [] => by
    simp only [put1, look]
    rfl
  | e :: r => by
    simp only [put1]
    by_cases h : e.1 = k
    · rw [if_pos h]
      simp only [look, h, if_true]
      by_cases h2 : k = k'
      · simp [h2]
      · simp [h2]
    · rw [if_neg h]
      simp only [look, h, if_false]
      by_cases h2 : e.1 = k'
      · have : ¬ k = k' := fun x => h (h2.trans x.symm)
        rw [if_pos h2, if_pos h2, if_neg this]
      · rw [if_neg h2, if_neg h2, put1_look k k' f r]
theorem put1_lens (m : Nat) (k : K) (f : V) : ∀ es : List (K × List V), (es.length ≤ m ∧ ∀ e ∈ es, e.2.length ≤ m) → (put1 es k f).length ≤ m + 1 ∧ ∀ e ∈ put1 es k f, e.2.length ≤ m + 1
  | [], h => ⟨by simp [put1], by simp [put1]⟩
  | e :: r, h => by
    simp only [put1]
    by_cases hk : e.1 = k
    · rw [if_pos hk]
      refine ⟨by have := h.1; simp at this ⊢; omega, fun x hx => ?_⟩
      rcases List.mem_cons.mp hx with rfl | hx
      · have := h.2 e List.mem_cons_self; simp; omega
      · have := h.2 x (List.mem_cons_of_mem _ hx); omega
    · rw [if_neg hk]
      cases m with
      | zero => have := h.1; simp at this
      | succ m =>
        have hr : r.length ≤ m := by have := h.1; simp at this; omega
        have key : ∀ es : List (K × List V), (∀ e ∈ es, e.2.length ≤ m + 1) → (put1 es k f).length ≤ es.length + 1 ∧ ∀ e ∈ put1 es k f, e.2.length ≤ m + 2 := by
          intro es
          induction es with
          | nil => intro _; exact ⟨by simp [put1], by simp [put1]⟩
          | cons a t ih =>
            intro ha
            simp only [put1]
            by_cases hk : a.1 = k
            · rw [if_pos hk]
              refine ⟨by simp, fun x hx => ?_⟩
              rcases List.mem_cons.mp hx with rfl | hx
              · have := ha a List.mem_cons_self; simp; omega
              · have := ha x (List.mem_cons_of_mem _ hx); omega
            · rw [if_neg hk]
              obtain ⟨i1, i2⟩ := ih fun e he => ha e (List.mem_cons_of_mem _ he)
              refine ⟨by simp; omega, fun x hx => ?_⟩
              rcases List.mem_cons.mp hx with rfl | hx
              · have := ha _ List.mem_cons_self; omega
              · exact i2 x hx
        obtain ⟨i1, i2⟩ := key r fun e he => h.2 e (List.mem_cons_of_mem _ he)
        refine ⟨by simp; omega, fun x hx => ?_⟩
        rcases List.mem_cons.mp hx with rfl | hx
        · have := h.2 _ List.mem_cons_self; omega
        · exact i2 x hx
structure EncOK (enc : K → V) (P : K → Prop) : Prop where
  eq : ∀ a b, veq (enc a) (enc b) = decide (a = b)
  gp : ∀ a, keyGp (enc a) = true
  ok : ∀ a, P a → keyOk (enc a) = true
  same : ∀ a b, sameKind (enc a) (enc b) = true
variable {P : K → Prop}
theorem dget_enc (E : EncOK enc P) (k : K) : ∀ es : List (K × List V), dget (encD enc es) (enc k) = (look es k).map .list
  | [] => rfl
  | e :: r => by
    show (if veq (enc e.1) (enc k) then some (V.list e.2) else dget (encD enc r) (enc k)) = _
    rw [E.eq, dget_enc E k r]
    simp only [look]
    by_cases h : e.1 = k
    · simp [h]
    · simp [h]
theorem seek_enc (E : EncOK enc P) {k : K} (hk : P k) {es : List (K × List V)} (h : ∀ e ∈ es, P e.1) : seek (encD enc es) (enc k) = true := by
  unfold seek encD
  rw [E.ok k hk, Bool.true_and, List.all_eq_true]
  intro x hx
  obtain ⟨e, he, rfl⟩ := List.mem_map.mp hx
  simp [E.ok e.1 (h e he), E.same]
theorem dput_enc (E : EncOK enc P) (k : K) (f : V) : ∀ (es : List (K × List V)) (l : List V), look es k = some l → dput (encD enc es) (enc k) (.list (l ++ [f])) = encD enc (put1 es k f)
  | [], l, h => by cases h
  | e :: r, l, h => by
    simp only [look] at h
    show (if veq (enc e.1) (enc k) then (enc e.1, V.list (l ++ [f])) :: encD enc r else (enc e.1, V.list e.2) :: dput (encD enc r) (enc k) (V.list (l ++ [f]))) = _
    rw [E.eq]
    by_cases hk : e.1 = k
    · rw [if_pos hk] at h; cases h
      simp [put1, hk, encD]
    · rw [if_neg hk] at h
      simp only [hk, decide_false]
      rw [dput_enc E k f r l h]
      simp [put1, hk, encD]
theorem put1_none (k : K) (f : V) : ∀ es : List (K × List V), look es k = none → put1 es k f = es ++ [(k, [f])]
  | [], _ => rfl
  | e :: r, h => by
    simp only [look] at h
    by_cases hk : e.1 = k
    · rw [if_pos hk] at h; cases h
    · rw [if_neg hk] at h
      simp [put1, hk, put1_none k f r h]
theorem look_mem {k : K} {l : List V} : ∀ {es : List (K × List V)}, look es k = some l → ∃ e ∈ es, e.2 = l
  | [], h => by cases h
  | e :: r, h => by
    simp only [look] at h
    by_cases hk : e.1 = k
    · rw [if_pos hk] at h; cases h; exact ⟨e, List.mem_cons_self, rfl⟩
    · rw [if_neg hk] at h
      obtain ⟨x, hx, e⟩ := look_mem h
      exact ⟨x, List.mem_cons_of_mem _ hx, e⟩
theorem look_key {k : K} : ∀ {es : List (K × List V)}, (look es k).isSome = true ↔ k ∈ es.map (·.1)
  | [] => by simp [look]
  | e :: r => by
    simp only [look, List.map_cons, List.mem_cons]
    by_cases hk : e.1 = k
    · simp [hk]
    · rw [if_neg hk, look_key (es := r)]
      have : ¬ k = e.1 := fun x => hk x.symm
      simp [this]
noncomputable def puts (ps : List (K × V)) (es : List (K × List V)) : List (K × List V) := ps.foldl (fun es p => put1 es p.1 p.2) es
theorem putEach_enc (E : EncOK enc P) (f : V) : ∀ (ks : List K) (es : List (K × List V)) (m : Nat), (es.length ≤ m ∧ ∀ e ∈ es, e.2.length ≤ m) → m + ks.length ≤ 900 → (∀ e ∈ es, P e.1) → (∀ k ∈ ks, P k) →
    putEach (encD enc es) (ks.map enc) f = some (encD enc (puts (ks.map fun k => (k, f)) es))
  | [], es, m, _, _, _, _ => rfl
  | k :: t, es, m, hm, hl, hp, hk => by
    have hkk := hk k List.mem_cons_self
    have hs : small (encD enc es) = true := small_of (by unfold encD; rw [List.length_map]; have := hm.1; omega)
    have hb : (keyGp (enc k) && seek (encD enc es) (enc k) && small (encD enc es)) = true := by rw [E.gp, seek_enc E hkk hp, hs]; rfl
    have hl' : m + 1 + t.length ≤ 900 := by simp at hl; omega
    have hp' : ∀ e ∈ put1 es k f, P e.1 := fun e he => by
      have : e.1 ∈ (put1 es k f).map (·.1) := List.mem_map_of_mem he
      rw [put1_keys] at this
      unfold addNew at this
      split at this
      · obtain ⟨x, hx, e2⟩ := List.mem_map.mp this
        rw [← e2]; exact hp x hx
      · rcases List.mem_append.mp this with h | h
        · obtain ⟨x, hx, e2⟩ := List.mem_map.mp h
          rw [← e2]; exact hp x hx
        · rw [List.mem_singleton] at h; rw [h]; exact hkk
    have ih := putEach_enc E f t (put1 es k f) (m + 1) (put1_lens m k f es hm) hl' hp' fun k hk' => hk k (List.mem_cons_of_mem _ hk')
    have e0 := dget_enc E k es
    cases hq : look es k with
    | none =>
      rw [hq] at e0
      have c : encD enc es ++ [(enc k, V.list [f])] = encD enc (put1 es k f) := by rw [put1_none k f es hq]; exact (show encD enc (es ++ [(k, [f])]) = encD enc es ++ [(enc k, V.list [f])] from List.map_append).symm
      exact (oIe hb).trans ((oEn e0).trans ((congrArg (putEach · (t.map enc) f) c).trans ih))
    | some l =>
      rw [hq] at e0
      have hs : small l = true := (look_mem hq).elim fun x hx => small_of (Nat.le_trans (hx.2 ▸ hm.2 x hx.1) (Nat.le_trans (Nat.le_add_right _ _) (Nat.le_trans hl (by decide))))
      exact (oIe hb).trans ((oEs e0).trans ((oIe hs).trans ((congrArg (putEach · (t.map enc) f) (dput_enc E k f es l hq)).trans ih)))
theorem puts_append (a b : List (K × V)) (es : List (K × List V)) : puts (a ++ b) es = puts b (puts a es) := by simp [puts]
theorem puts_lens (ps : List (K × V)) : ∀ (es : List (K × List V)) (m : Nat), (es.length ≤ m ∧ ∀ e ∈ es, e.2.length ≤ m) → (puts ps es).length ≤ m + ps.length ∧ ∀ e ∈ puts ps es, e.2.length ≤ m + ps.length := by
  induction ps with
  | nil => intro es m h; exact h
  | cons p t ih =>
    intro es m h
    have := ih (put1 es p.1 p.2) (m + 1) (put1_lens m p.1 p.2 es h)
    simp only [List.length_cons]
    have e : m + (t.length + 1) = m + 1 + t.length := by omega
    rw [e]; exact this
theorem puts_keys (ps : List (K × V)) : ∀ es : List (K × List V), (puts ps es).map (·.1) = (ps.map (·.1)).foldl addNew (es.map (·.1)) := by
  induction ps with
  | nil => intro es; rfl
  | cons p t ih =>
    intro es
    show (puts t (put1 es p.1 p.2)).map (·.1) = _
    rw [ih, put1_keys]; rfl
theorem addNew_mem {acc : List K} {c x : K} : x ∈ addNew acc c ↔ x ∈ acc ∨ x = c := by
  unfold addNew
  split
  · constructor
    · exact .inl
    · rintro (h | rfl) <;> assumption
  · simp
theorem foldl_addNew_mem {x : K} : ∀ (cs acc : List K), x ∈ cs.foldl addNew acc ↔ x ∈ acc ∨ x ∈ cs
  | [], acc => by simp
  | c :: t, acc => by
    rw [List.foldl_cons, foldl_addNew_mem t, addNew_mem]
    simp [or_assoc]
theorem dd_mem {x : K} {cs : List K} : x ∈ dd cs ↔ x ∈ cs := by unfold dd; rw [foldl_addNew_mem]; simp
theorem dd_len (cs : List K) : (dd cs).length ≤ cs.length := by
  have : ∀ (cs acc : List K), (cs.foldl addNew acc).length ≤ acc.length + cs.length := by
    intro cs
    induction cs with
    | nil => intro acc; simp
    | cons c t ih =>
      intro acc
      have := ih (addNew acc c)
      have h2 : (addNew acc c).length ≤ acc.length + 1 := by unfold addNew; split <;> simp
      simp only [List.foldl_cons, List.length_cons]; omega
  have := this cs []
  simpa [dd] using this
noncomputable def withKey (ps : List (K × V)) (k : K) : List V := (ps.filter fun p => p.1 = k).map (·.2)
theorem puts_look (ps : List (K × V)) : ∀ (es : List (K × List V)) (k : K), (look (puts ps es) k).getD [] = (look es k).getD [] ++ withKey ps k := by
  induction ps with
  | nil => intro es k; simp [puts, withKey]
  | cons p t ih =>
    intro es k
    show (look (puts t (put1 es p.1 p.2)) k).getD [] = _
    rw [ih, put1_look]
    by_cases h : p.1 = k
    · simp [withKey, h]
    · simp [withKey, h]
theorem puts0_look (ps : List (K × V)) (k : K) : look (puts ps []) k = if withKey ps k = [] then none else some (withKey ps k) := by
  have h := puts_look ps [] k
  have hk := look_key (k := k) (es := puts ps [])
  rw [puts_keys] at hk
  have hm : k ∈ ps.map (·.1) ↔ ¬ withKey ps k = [] := by
    unfold withKey
    rw [List.map_eq_nil_iff, List.filter_eq_nil_iff]
    simp only [List.mem_map, decide_eq_true_eq]
    constructor
    · rintro ⟨p, hp, e⟩ hn; exact hn p hp e
    · intro hn
      refine Classical.byContradiction fun hc => hn fun p hp e => hc ⟨p, hp, e⟩
  rw [show List.map (fun x => x.1) ([] : List (K × List V)) = [] from rfl, foldl_addNew_mem] at hk
  simp only [List.not_mem_nil, false_or] at hk
  rw [hm] at hk
  by_cases hw : withKey ps k = []
  · rw [if_pos hw]
    cases hq : look (puts ps []) k with
    | none => rfl
    | some l => rw [hq] at hk; simp [hw] at hk
  · rw [if_neg hw]
    have := hk.mpr hw
    obtain ⟨l, hl⟩ := Option.isSome_iff_exists.mp this
    rw [hl] at h ⊢
    simpa [look] using h
end
noncomputable def encS (s : List Nat) : V := .str s
noncomputable def okS (s : List Nat) : Prop := okStr s = true
theorem encS_ok : EncOK encS okS := by
  refine ⟨fun a b => ?_, fun _ => rfl, fun a h => ?_, fun _ _ => rfl⟩
  · show leqN a b = _; rw [leqN_eq]
  · unfold keyOk; simp [encS, isStrV, show okStr a = true from h]
theorem codeV_eq (a b : Int × Int × Int) : veq (codeV a) (codeV b) = decide (a = b) := by
  obtain ⟨a1, a2, a3⟩ := a
  obtain ⟨b1, b2, b3⟩ := b
  exact (veqs_ints [a1, a2, a3] [b1, b2, b3]).trans (decide_eq_decide.mpr ⟨fun e => by cases e; rfl, fun e => congrArg (fun a : Int × Int × Int => [a.1, a.2.1, a.2.2]) e⟩)
theorem encC_ok : EncOK codeV (fun _ => True) := ⟨codeV_eq, fun _ => rfl, fun a _ => by obtain ⟨a1, a2, a3⟩ := a; rfl, fun _ _ => rfl⟩
noncomputable def formsV : Nat → List Row → List V
  | _, [] => []
  | i, r :: t => formV i r :: formsV (i + 1) t
noncomputable def nameP : Nat → List Row → List (List Nat × V)
  | _, [] => []
  | i, r :: t => (r.name, formV i r) :: nameP (i + 1) t
noncomputable def codeP : Nat → List Row → List ((Int × Int × Int) × V)
  | _, [] => []
  | i, r :: t => ((codes r).map fun c => (c, formV i r)) ++ codeP (i + 1) t
theorem formsV_len : ∀ (rs : List Row) (i : Nat), (formsV i rs).length = rs.length
  | [], _ => rfl
  | r :: t, i => by simp [formsV, formsV_len t]
theorem codes_len (r : Row) : (codes r).length ≤ 8 := by unfold codes; split <;> simp
structure RowOK (r : Row) : Prop where
  k : r.k < 18
  name : okStr r.name = true
theorem iset_rows (n : Nat) : ∀ (rs : List Row) (i : Nat) (bn : List (List Nat × List V)) (bc : List ((Int × Int × Int) × List V)) (σ : Nums) (m : Nat), (∀ r ∈ rs, RowOK r) → (bn.length ≤ m ∧ ∀ e ∈ bn, e.2.length ≤ m) → (bc.length ≤ m ∧ ∀ e ∈ bc, e.2.length ≤ m) → m + 8 * rs.length ≤ 900 →
    (∀ e ∈ bn, okS e.1) → σ.length = i + rs.length → (∀ j, j < i → σ[j]? = some (.ofNat j)) →
    ∃ σ', isetL (fun v σ => (run prg (n + 9)).c N.codesOf [v] σ) i (formsV i rs) (encD encS bn) (encD codeV bc) σ = some (encD encS (puts (nameP i rs) bn), encD codeV (puts (codeP i rs) bc), σ') ∧ σ'.length = i + rs.length ∧ ∀ j, j < i + rs.length → σ'[j]? = some (.ofNat j)
  | [], i, bn, bc, σ, m, _, _, _, _, _, hl, hj => ⟨σ, rfl, hl, by simpa using hj⟩
  | r :: t, i, bn, bc, σ, m, ho, h1, h2, hm, hb, hl, hj => by
    have hr := ho r List.mem_cons_self
    simp only [List.length_cons] at hm hl
    have e1 := putEach_enc encS_ok (formV i r) [r.name] bn m h1 (by simp; omega) hb (fun k hk => by rw [List.mem_singleton] at hk; rw [hk]; exact hr.name)
    have e2 : (run prg (n + 9)).c N.codesOf [formV i r] (σ.set i (.ofNat i)) = some (.list ((codes r).map codeV), σ.set i (.ofNat i)) := by
      obtain ⟨name, k, op, esc, must⟩ := r
      exact c_codes n i _ name op esc must k hr.k
    have hc := codes_len r
    have e3 := putEach_enc encC_ok (formV i r) (codes r) bc m h2 (by omega) (fun _ _ => trivial) (fun _ _ => trivial)
    have hsm : small ((codes r).map codeV) = true := small_of (by rw [List.length_map]; omega)
    have b1 := puts_lens [(r.name, formV i r)] bn m h1
    have b2 := puts_lens ((codes r).map fun c => (c, formV i r)) bc m h2
    have hbn : ∀ e ∈ puts [(r.name, formV i r)] bn, okS e.1 := fun e he => by
      have : e.1 ∈ (puts [(r.name, formV i r)] bn).map (·.1) := List.mem_map_of_mem he
      rw [puts_keys, foldl_addNew_mem] at this
      rcases this with h | h
      · obtain ⟨x, hx, e2⟩ := List.mem_map.mp h
        rw [← e2]; exact hb x hx
      · simp only [List.map_cons, List.map_nil, List.mem_singleton] at h
        rw [h]; exact hr.name
    obtain ⟨σ', e4, h4, h5⟩ := iset_rows n t (i + 1) (puts [(r.name, formV i r)] bn) (puts ((codes r).map fun c => (c, formV i r)) bc) (σ.set i (.ofNat i)) (m + 8) (fun x hx => ho x (List.mem_cons_of_mem _ hx)) ⟨by have := b1.1; simp at this; omega, fun e he => by have := b1.2 e he; simp at this; omega⟩
      ⟨by have := b2.1; simp at this; omega, fun e he => by have := b2.2 e he; simp at this; omega⟩ (by omega) hbn (by rw [List.length_set]; omega) (fun j hjl => by
        by_cases hji : j = i
        · subst hji; rw [List.getElem?_set_self (by omega)]
        · rw [List.getElem?_set_ne (Ne.symm hji)]; exact hj j (by omega))
    refine ⟨σ', ?_, by rw [h4]; simp; omega, fun j hjl => h5 j (by simp at hjl; omega)⟩
    show o1 (putEach (encD encS bn) ([r.name].map encS) (formV i r)) (fun bn => oP ((run prg (n + 9)).c N.codesOf [formV i r] (σ.set i (.ofNat i))) fun w σ => wList w fun ks => oI (small ks) (o1 (putEach (encD codeV bc) ks (formV i r)) fun bc => isetL (fun v σ => (run prg (n + 9)).c N.codesOf [v] σ) (i + 1) (formsV (i + 1) t) bn bc σ)) = _
    refine (((o1e e1).trans ((oPe e2).trans ((oIe hsm).trans ((o1e e3).trans e4))))).trans ?_
    show _ = some (_, encD codeV (puts (_ ++ _) bc), _)
    rw [puts_append]; rfl
end Mine.Pl
namespace Mine.Pl
noncomputable def ix : Nat → List Row → List (Nat × Row)
  | _, [] => []
  | i, r :: t => (i, r) :: ix (i + 1) t
noncomputable def fv (q : Nat × Row) : V := formV q.1 q.2
noncomputable def numI (q : Nat × Row) : V := .int (.ofNat q.1)
theorem formsV_ix : ∀ (rs : List Row) (i : Nat), formsV i rs = (ix i rs).map fv
  | [], _ => rfl
  | r :: t, i => by simp [formsV, ix, fv, formsV_ix t]
theorem ix_len : ∀ (rs : List Row) (i : Nat), (ix i rs).length = rs.length
  | [], _ => rfl
  | r :: t, i => by simp [ix, ix_len t]
theorem ix_get : ∀ (rs : List Row) (i : Nat) (q : Nat × Row), q ∈ ix i rs → i ≤ q.1 ∧ (ix i rs)[q.1 - i]? = some q ∧ q.2 ∈ rs
  | [], _, q, h => by simp [ix] at h
  | r :: t, i, q, h => by
    rcases List.mem_cons.mp h with rfl | h
    · exact ⟨Nat.le_refl _, by simp [ix], List.mem_cons_self⟩
    · obtain ⟨h1, h2, h3⟩ := ix_get t (i + 1) q h
      refine ⟨by omega, ?_, List.mem_cons_of_mem _ h3⟩
      have e : q.1 - i = (q.1 - (i + 1)) + 1 := by omega
      rw [e]; simpa [ix] using h2
theorem ints_ix : ∀ (rs : List Row) (i : Nat), intsFrom i rs.length = (ix i rs).map numI
  | [], _ => rfl
  | r :: t, i => by simp [intsFrom, ix, numI, ints_ix t]
theorem codes_nodup (r : Row) : (codes r).Nodup := by
  unfold codes
  split
  · exact List.pairwise_map.mpr (List.nodup_range.imp fun hne e => hne (Int.ofNat.inj (Int.add_left_cancel (congrArg (fun z => z.2.2) e))))
  · exact List.nodup_cons.mpr ⟨List.not_mem_nil, List.nodup_nil⟩
theorem nameP_key (k : List Nat) : ∀ (rs : List Row) (i : Nat), withKey (nameP i rs) k = ((ix i rs).filter fun q => decide (q.2.name = k)).map fv
  | [], _ => rfl
  | r :: t, i => by
    have ih := nameP_key k t (i + 1)
    unfold withKey at ih ⊢
    simp only [nameP, ix, List.filter_cons]
    by_cases h : r.name = k
    · simp [h, ih, fv]
    · simp [h, ih]
theorem filter_one {α β : Type} [DecidableEq α] (c : α) (f : β) : ∀ l : List α, l.Nodup → (((l.map fun x => (x, f)).filter fun p => p.1 = c).map (·.2)) = if c ∈ l then [f] else []
  | [], _ => rfl
  | a :: t, h => by
    have h := List.nodup_cons.mp h
    have ih := filter_one c f t h.2
    simp only [List.map_cons, List.filter_cons]
    by_cases hac : a = c
    · subst hac
      rw [if_neg h.1] at ih
      simp only [decide_true, if_true, List.map_cons, ih, List.mem_cons, true_or]
    · have hca : ¬ c = a := fun e => hac e.symm
      simp only [hac, decide_false, List.mem_cons, hca, false_or]
      exact ih
theorem codeP_key (c : Int × Int × Int) : ∀ (rs : List Row) (i : Nat), withKey (codeP i rs) c = ((ix i rs).filter fun q => decide (c ∈ codes q.2)).map fv
  | [], _ => rfl
  | r :: t, i => by
    have ih := codeP_key c t (i + 1)
    have h1 := filter_one c (formV i r) (codes r) (codes_nodup r)
    unfold withKey at ih ⊢
    simp only [codeP, ix, List.filter_append, List.map_append, List.filter_cons, ih, h1]
    by_cases h : c ∈ codes r
    · simp [h, fv]
    · simp [h]
theorem nameP_fst : ∀ (rs : List Row) (i : Nat), (nameP i rs).map (·.1) = rs.map (·.name)
  | [], _ => rfl
  | r :: t, i => by simp [nameP, nameP_fst t]
theorem codeP_fst : ∀ (rs : List Row) (i : Nat), (codeP i rs).map (·.1) = rs.flatMap codes
  | [], _ => rfl
  | r :: t, i => by simp [codeP, codeP_fst t, Function.comp_def]
theorem codeP_len : ∀ (rs : List Row) (i : Nat), (codeP i rs).length ≤ 8 * rs.length
  | [], _ => by simp [codeP]
  | r :: t, i => by have := codeP_len t (i + 1); have := codes_len r; simp [codeP]; omega
theorem flat_len : ∀ (rs : List Row), (rs.flatMap codes).length ≤ 8 * rs.length := fun rs => by
  rw [← codeP_fst rs 0, List.length_map]; exact codeP_len rs 0
noncomputable def BN (rs : List Row) : List (List Nat × List V) := puts (nameP 0 rs) []
noncomputable def BC (rs : List Row) : List ((Int × Int × Int) × List V) := puts (codeP 0 rs) []
noncomputable def madeV (rs : List Row) : V := .inst 1 [(N.forms, .list (formsV 0 rs)), (N.by_name, .dict (encD encS (BN rs))), (N.by_code, .dict (encD codeV (BC rs)))] none
noncomputable def uName (rs : List Row) (k : List Nat) : List (Nat × Row) := (ix 0 rs).filter fun q => decide (q.2.name = k)
noncomputable def uCode (rs : List Row) (c : Int × Int × Int) : List (Nat × Row) := (ix 0 rs).filter fun q => decide (c ∈ codes q.2)
structure RsOK (rs : List Row) : Prop where
  row : ∀ r ∈ rs, RowOK r
  len : rs.length ≤ 4
  ne : rs ≠ []
section
variable {rs : List Row} {σ : Nums} {n : Nat}
theorem uName_len (O : RsOK rs) (k : List Nat) : (uName rs k).length ≤ 4 := by have := List.length_filter_le (fun q : Nat × Row => decide (q.2.name = k)) (ix 0 rs); rw [ix_len] at this; have := O.len; unfold uName; omega
theorem uCode_len (O : RsOK rs) (c : Int × Int × Int) : (uCode rs c).length ≤ 4 := by have := List.length_filter_le (fun q : Nat × Row => decide (c ∈ codes q.2)) (ix 0 rs); rw [ix_len] at this; have := O.len; unfold uCode; omega
theorem BN_keys : (BN rs).map (·.1) = dd (rs.map (·.name)) := by unfold BN; rw [puts_keys, nameP_fst]; rfl
theorem BC_keys : (BC rs).map (·.1) = dd (rs.flatMap codes) := by unfold BC; rw [puts_keys, codeP_fst]; rfl
theorem BN_ok (O : RsOK rs) : ∀ e ∈ BN rs, okS e.1 := fun e he => by
  have : e.1 ∈ (BN rs).map (·.1) := List.mem_map_of_mem he
  rw [BN_keys, dd_mem] at this
  obtain ⟨r, hr, e2⟩ := List.mem_map.mp this
  rw [← e2]; exact (O.row r hr).name
theorem BC_ok : ∀ e ∈ BC rs, True := fun _ _ => trivial
theorem BN_look (k : List Nat) : look (BN rs) k = if uName rs k = [] then none else some ((uName rs k).map fv) := by
  unfold BN; rw [puts0_look, nameP_key]
  by_cases h : uName rs k = []
  · rw [if_pos h, if_pos (by unfold uName at h; rw [h]; rfl)]
  · rw [if_neg h]; exact if_neg fun e => h (List.map_eq_nil_iff.mp e)
theorem BC_look (c : Int × Int × Int) : look (BC rs) c = if uCode rs c = [] then none else some ((uCode rs c).map fv) := by
  unfold BC; rw [puts0_look, codeP_key]
  by_cases h : uCode rs c = []
  · rw [if_pos h, if_pos (by unfold uCode at h; rw [h]; rfl)]
  · rw [if_neg h]; exact if_neg fun e => h (List.map_eq_nil_iff.mp e)
theorem get_name (O : RsOK rs) {k : List Nat} (hk : okStr k = true) : getV (.dict (encD encS (BN rs))) (.str k) (.list []) = some (.list ((uName rs k).map fv)) := by
  refine (oIe (seek_enc encS_ok hk (BN_ok O))).trans ?_
  show some ((dget (encD encS (BN rs)) (encS k)).getD (.list [])) = _
  rw [dget_enc encS_ok, BN_look]
  by_cases h : uName rs k = []
  · rw [if_pos h, h]; rfl
  · rw [if_neg h]; rfl
theorem get_code (c : Int × Int × Int) : getV (.dict (encD codeV (BC rs))) (codeV c) (.list []) = some (.list ((uCode rs c).map fv)) := by
  refine (oIe (seek_enc encC_ok trivial BC_ok)).trans ?_
  rw [dget_enc encC_ok, BC_look]
  by_cases h : uCode rs c = []
  · rw [if_pos h, h]; rfl
  · rw [if_neg h]; rfl
theorem a_byname {r : Rho} (h : fget r.ρ 13 = some (madeV rs)) (hw : r.w = none) : (run prg (n + 2)).e (.attr (.var 13) 11) r σ = some (.dict (encD encS (BN rs)), σ) := e_attr (tr_n hw (e_var h)) rfl rfl
theorem a_bycode {r : Rho} (h : fget r.ρ 13 = some (madeV rs)) (hw : r.w = none) : (run prg (n + 2)).e (.attr (.var 13) 12) r σ = some (.dict (encD codeV (BC rs)), σ) := e_attr (tr_n hw (e_var h)) rfl rfl
theorem run_c {f : Nat} {vs : List V} {d : Fn} {r : Rho} {v : V} {σ' : Nums} (hd : fnTab f = some d) (hf : Nat.beq f N.form_init = false) (hs : (Rho.mk [] none).sets d.params vs = some r) (h : (run prg n).s d.body r σ = some (.ret v, σ')) : (run prg (n + 1)).c f vs σ = some (v, σ') := (o1e (show prg.fn f = some d from hd)).trans ((congrArg (oC · (initC (run prg n) d vs σ) (o1 ((Rho.mk [] none).sets d.params vs) fun r => oF ((run prg n).s d.body r σ) (fun _ _ => none) (fun _ _ => none) fun v σ => some (v, σ))) hf).trans ((o1e hs).trans (oPe h)))
theorem items_list {vs : List V} (h : vs.length ≤ 1000) : items (.list vs) = some vs := oIe (small_of h)
theorem items_tup {vs : List V} (h : vs.length ≤ 1000) : items (.tuple vs) = some vs := oIe (small_of h)
theorem items_rng0 {n : Nat} (h : n ≤ 1000) : items (.rng n) = some (intsFrom 0 n) := oIe (Nat.ble_eq.mpr h)
theorem len_list {vs : List V} (h : vs.length ≤ 1000) : bifV .len (.list vs) = some (.int (.ofNat vs.length)) := oIe (small_of h)
theorem len_tup {vs : List V} (h : vs.length ≤ 1000) : bifV .len (.tuple vs) = some (.int (.ofNat vs.length)) := oIe (small_of h)
theorem list_self {vs : List V} (h : vs.length ≤ 1000) : bifV .list (.list vs) = some (.list vs) := o1e (show items (.list vs) = some vs from oIe (small_of h))
theorem c_find (O : RsOK rs) {k : List Nat} (hk : okStr k = true) : (run prg (n + 8)).c 106 [madeV rs, .str k] σ = some (.list ((uName rs k).map fv), σ) := by
  refine run_c (r := ⟨[(13, madeV rs), (0, .str k)], none⟩) rfl rfl rfl (s_ret (tr_n rfl (e_bif (tr_n rfl (e_get (a_byname rfl rfl) (e_var rfl) (e_lst ev_nil rfl) (get_name O hk))) (list_self ?_))) rfl)
  rw [List.length_map]; have := uName_len O k; omega
theorem c_at (O : RsOK rs) (a b c : Int) : (run prg (n + 8)).c 108 [madeV rs, .int a, .int b, .int c] σ = some (.list ((uCode rs (a, b, c)).map fv), σ) := by
  refine run_c (r := ⟨[(13, madeV rs), (6, .int a), (3, .int b), (2, .int c)], none⟩) rfl rfl rfl (s_ret (tr_n rfl (e_bif (tr_n rfl (e_get (a_bycode rfl rfl) (e_tup (ev_cons (e_var rfl) (ev_cons (e_var rfl) (ev_cons (e_var rfl) ev_nil))) rfl) (e_lst ev_nil rfl) (get_code (a, b, c)))) (list_self ?_))) rfl)
  rw [List.length_map]; have := uCode_len O (a, b, c); omega
theorem in_name (O : RsOK rs) {k : List Nat} (hk : okStr k = true) : inV (.str k) (.dict (encD encS (BN rs))) = some (!(uName rs k).isEmpty) := by
  refine (oIe (seek_enc encS_ok hk (BN_ok O))).trans ?_
  show some (dget (encD encS (BN rs)) (encS k)).isSome = _
  rw [dget_enc encS_ok, BN_look]
  by_cases h : uName rs k = []
  · rw [if_pos h, h]; rfl
  · rw [if_neg h]
    cases hq : uName rs k with
    | nil => exact absurd hq h
    | cons => rfl
theorem c_has (O : RsOK rs) {k : List Nat} (hk : okStr k = true) : (run prg (n + 8)).c 107 [madeV rs, .str k] σ = some (.bool (!(uName rs k).isEmpty), σ) := by
  refine run_c (r := ⟨[(13, madeV rs), (0, .str k)], none⟩) rfl rfl rfl (s_ret (tr_n rfl (e_cmp (e_var rfl) (tr_n rfl (a_byname rfl rfl)) ?_)) rfl)
  show (inV _ _).map _ = _
  rw [in_name O hk]; rfl
theorem keysV_name : (encD encS (BN rs)).map (·.1) = (dd (rs.map (·.name))).map .str := by
  rw [← BN_keys]; simp [encD, encS, Function.comp_def]
theorem keysV_code : (encD codeV (BC rs)).map (·.1) = (dd (rs.flatMap codes)).map codeV := by
  rw [← BC_keys]; simp [encD, Function.comp_def]
theorem ddn_len (O : RsOK rs) : (dd (rs.map (·.name))).length ≤ 4 := by have := dd_len (rs.map (·.name)); rw [List.length_map] at this; have := O.len; omega
theorem ddc_len (O : RsOK rs) : (dd (rs.flatMap codes)).length ≤ 32 := by have := dd_len (rs.flatMap codes); have := flat_len rs; have := O.len; omega
theorem list_names (O : RsOK rs) : bifV .list (.dict (encD encS (BN rs))) = some (.list ((dd (rs.map (·.name))).map .str)) := by
  have h := ddn_len O
  have hl : (encD encS (BN rs)).length ≤ 4 := by rw [← List.length_map (f := (·.1)), keysV_name, List.length_map]; exact h
  exact o1e ((oIe (small_of (Nat.le_trans hl (by decide)))).trans (congrArg some keysV_name))
theorem list_codes (O : RsOK rs) : bifV .list (.dict (encD codeV (BC rs))) = some (.list ((dd (rs.flatMap codes)).map codeV)) := by
  have h := ddc_len O
  have hl : (encD codeV (BC rs)).length ≤ 32 := by rw [← List.length_map (f := (·.1)), keysV_code, List.length_map]; exact h
  exact o1e ((oIe (small_of (Nat.le_trans hl (by decide)))).trans (congrArg some keysV_code))
theorem c_names (O : RsOK rs) {s : List V} (hs : sortV ((dd (rs.map (·.name))).map .str) = some s) : (run prg (n + 8)).c 109 [madeV rs] σ = some (.list s, σ) := by
  refine run_c (r := ⟨[(13, madeV rs)], none⟩) rfl rfl rfl (s_ret (tr_n rfl (e_bif (tr_n rfl (e_bif (tr_n rfl (a_byname rfl rfl)) (list_names O))) ?_)) rfl)
  exact o1e hs
theorem c_codesL (O : RsOK rs) {s : List V} (hs : sortV ((dd (rs.flatMap codes)).map codeV) = some s) : (run prg (n + 8)).c 110 [madeV rs] σ = some (.list s, σ) := by
  refine run_c (r := ⟨[(13, madeV rs)], none⟩) rfl rfl rfl (s_ret (tr_n rfl (e_bif (tr_n rfl (e_bif (tr_n rfl (a_bycode rfl rfl)) (list_codes O))) ?_)) rfl)
  exact o1e hs
theorem sort_codes {cs : List (Int × Int × Int)} (hl : cs.length ≤ 32) (h0 : cs ≠ []) : ∃ cs' : List (Int × Int × Int), sortV (cs.map codeV) = some (cs'.map codeV) ∧ cs'.length = cs.length ∧ ∀ c ∈ cs', c ∈ cs := by
  have hall : (cs.map codeV).all isTup3 = true := by
    rw [List.all_eq_true]; intro x hx; obtain ⟨c, _, rfl⟩ := List.mem_map.mp hx; rfl
  have hno : ((cs.map codeV).all isIntV || (cs.map codeV).all isStrV) = false := by
    cases cs with
    | nil => exact absurd rfl h0
    | cons c t => rfl
  have hlt : Nat.blt (cs.map codeV).length 64 = true := by rw [List.length_map]; exact Nat.blt_eq.mpr (by omega)
  unfold sortV
  rw [if_pos hlt, hno, if_neg (by simp), if_pos hall]
  unfold sortL
  by_cases h2 : Nat.blt (cs.map codeV).length 2 = true
  · rw [if_pos h2]; exact ⟨cs, rfl, rfl, fun _ h => h⟩
  · rw [if_neg h2]
    have hpos : 0 < (cs.map codeV).length := by cases cs with | nil => exact absurd rfl h0 | cons => simp
    have ok := ok_sort (n := (cs.map codeV).length) hpos
    have key : ∀ (f : Nat → Nat → Bool) (t : KasT (Array Nat)), OkT (cs.map codeV).length (Lt (cs.map codeV).length) t → Lt (cs.map codeV).length (kasRun f t) := by
      intro f t h
      induction h with
      | ret h => exact h
      | ask hi hj h ih => exact ih _
    have hL := key (fun i j => ltV ((cs.map codeV).getD i .none) ((cs.map codeV).getD j .none)) _ ok
    generalize kasRun _ (kas_sort (cs.map codeV).length) = p at hL ⊢
    refine ⟨p.toList.map fun i => cs.getD i (0, 0, 0), ?_, ?_, ?_⟩
    · rw [List.map_map]
      congr 1
      refine List.map_congr_left fun i hi => ?_
      have hi := hL.2 i (Array.mem_toList_iff.mp hi)
      rw [List.length_map] at hi
      simp [List.getD_eq_getElem?_getD, hi]
    · have := hL.1; rw [List.length_map] at this; simp [this]
    · intro c hc
      obtain ⟨i, hi, rfl⟩ := List.mem_map.mp hc
      have hi := hL.2 i (Array.mem_toList_iff.mp hi)
      rw [List.length_map] at hi
      simp [List.getD_eq_getElem?_getD, hi]
end
end Mine.Pl
namespace Mine.Pl
section
variable {n : Nat} {r r' : Rho} {σ σ' σ1 σ2 : Nums} {u v z : V} {x : Nat} {rs : List Row}
theorem e_split {a b : M} (ha : (run prg n).e a r σ = some (u, σ1)) (hb : (run prg n).e b r σ1 = some (v, σ2)) (hc : splitV u v = some z) : (run prg (n + 1)).e (.split a b) r σ = some (z, σ2) := e_bin ha hb hc
noncomputable def dI (ds : List Int) : List (V × V) := ds.map fun d => (.int d, .bool true)
noncomputable abbrev bnd (d : Int) : Prop := -1000000 ≤ d ∧ d ≤ 1000000
theorem bnd_ok {d : Int} (h : bnd d) : isIntV (.int d) = true := by simp [isIntV, h.1, h.2]
theorem seek_dI {d : Int} {ds : List Int} (h : bnd d) (hd : ∀ x ∈ ds, bnd x) : seek (dI ds) (.int d) = true := by
  unfold seek dI
  simp only [Bool.and_eq_true, List.all_eq_true, List.mem_map]
  refine ⟨by simp [keyOk, bnd_ok h], ?_⟩
  rintro _ ⟨y, hy, rfl⟩
  exact ⟨by simp [keyOk, bnd_ok (hd y hy)], rfl⟩
theorem addNew_ne {K : Type} [DecidableEq K] {a k : K} {l : List K} (h : ¬ a = k) : addNew (a :: l) k = a :: addNew l k := by
  unfold addNew
  by_cases hm : k ∈ l
  · rw [if_pos hm, if_pos (List.mem_cons_of_mem _ hm)]
  · rw [if_neg hm, if_neg fun e => (List.mem_cons.mp e).elim (fun e => h e.symm) hm]; rfl
theorem dput_dI (d : Int) (ds : List Int) : dput (dI ds) (.int d) (.bool true) = dI (addNew ds d) := by
  induction ds with
  | nil => rfl
  | cons x t ih =>
    by_cases h : x = d
    · exact (dput_t (k := V.int d) (e := (V.int x, V.bool true)) (es := dI t) (beq_iff_eq.mpr h : veq (.int x) (.int d) = true)).trans (congrArg dI (if_pos (h ▸ List.mem_cons_self) : addNew (x :: t) d = x :: t)).symm
    · exact ((dput_f (k := V.int d) (e := (V.int x, V.bool true)) (es := dI t) (beq_eq_false_iff_ne.mpr h : veq (.int x) (.int d) = false)).trans (congrArg ((V.int x, V.bool true) :: ·) ih)).trans (congrArg dI (addNew_ne h)).symm
theorem addNew_bnd {acc : List Int} {d : Int} (h : bnd d) (ha : ∀ x ∈ acc, bnd x) : ∀ x ∈ addNew acc d, bnd x := fun x hx => by
  rcases addNew_mem.mp hx with h2 | rfl
  · exact ha x h2
  · exact h
theorem dcomp_ints {f : M → Rho → Nums → Option (V × Nums)} {k q : M} {ρ : List (Nat × V)} {h : Nat × Row → Int} : ∀ (us : List (Nat × Row)) (ds : List Int), (∀ p ∈ us, f k ⟨fput ρ x (fv p), none⟩ σ = some (.int (h p), σ)) → (∀ p ∈ us, f q ⟨fput ρ x (fv p), none⟩ σ = some (.bool true, σ)) → (∀ p ∈ us, bnd (h p)) → (∀ d ∈ ds, bnd d) →
    dcompL f k q x ρ (us.map fv) (dI ds) σ = some (dI ((us.map h).foldl addNew ds), σ)
  | [], ds, _, _, _, _ => rfl
  | p :: t, ds, h1, h2, h3, h4 => by
    refine (oPe (h1 p List.mem_cons_self)).trans ((oPe (h2 p List.mem_cons_self)).trans ((oIe (seek_dI (h3 p List.mem_cons_self) h4)).trans ((congrArg (dcompL f k q x ρ (t.map fv) · σ) (dput_dI (h p) ds)).trans ?_)))
    exact dcomp_ints t _ (fun q hq => h1 q (List.mem_cons_of_mem _ hq)) (fun q hq => h2 q (List.mem_cons_of_mem _ hq)) (fun q hq => h3 q (List.mem_cons_of_mem _ hq)) (addNew_bnd (h3 p List.mem_cons_self) h4)
theorem list_dI {ds : List Int} (h : ds.length ≤ 1000) : bifV .list (.dict (dI ds)) = some (.list (ds.map .int)) := by
  exact o1e ((oIe (small_of (by unfold dI; rw [List.length_map]; exact h))).trans (congrArg some (show (dI ds).map (·.1) = ds.map .int by unfold dI; rw [List.map_map]; rfl)))
theorem fold_len (cs : List Int) (acc : List Int) : (cs.foldl addNew acc).length ≤ acc.length + cs.length := by
  induction cs generalizing acc with
  | nil => simp
  | cons c t ih =>
    have := ih (addNew acc c)
    have h2 : (addNew acc c).length ≤ acc.length + 1 := by unfold addNew; split <;> simp
    simp only [List.foldl_cons, List.length_cons]; omega
theorem p_ins (d : Int) : ∀ l : List Int, ∃ l' : List Int, insV (.int d) (l.map .int) = l'.map .int
  | [] => ⟨[d], rfl⟩
  | y :: t => by
    obtain ⟨l', e⟩ := p_ins d t
    simp only [List.map_cons, insV]
    by_cases h : ltV (.int y) (.int d) = true
    · rw [if_pos h, e]; exact ⟨y :: l', rfl⟩
    · rw [if_neg h]; exact ⟨d :: y :: t, rfl⟩
theorem p_isort : ∀ l : List Int, ∃ l' : List Int, isortV (l.map .int) = l'.map .int
  | [] => ⟨[], rfl⟩
  | d :: t => by
    obtain ⟨l', e⟩ := p_isort t
    simp only [List.map_cons, isortV, e]
    exact p_ins d l'
theorem p_sorts {ds : List Int} (hl : ds.length < 64) (hb : ∀ d ∈ ds, bnd d) : ∃ ds' : List Int, sortV (ds.map .int) = some (ds'.map .int) := by
  have hall : (ds.map V.int).all isIntV = true := by
    rw [List.all_eq_true]; intro x hx; obtain ⟨c, hc, rfl⟩ := List.mem_map.mp hx; exact bnd_ok (hb c hc)
  obtain ⟨ds', e⟩ := p_isort ds
  refine ⟨ds', ?_⟩
  unfold sortV
  rw [if_pos (by rw [List.length_map]; exact Nat.blt_eq.mpr hl), hall, Bool.true_or, if_pos rfl, e]
theorem plain_ints (ds : List Int) : plain 8 (.list (ds.map .int)) = true := by
  show (ds.map V.int).all (plain 7) = true
  rw [List.all_eq_true]; intro x hx; obtain ⟨c, hc, rfl⟩ := List.mem_map.mp hx; rfl
noncomputable def lenI (q : Nat × Row) : Int := .ofNat (kd q.2.k).kinds.length
noncomputable def memI (q : Nat × Row) : Int := (kd q.2.k).mem
theorem kd_len (k : Nat) : (kd k).kinds.length ≤ 2 := by
  by_cases h : k < 18
  · revert k; exact by_k (by decide) (by decide) (by decide) (by decide) (by decide) (by decide) (by decide) (by decide) (by decide) (by decide) (by decide) (by decide) (by decide) (by decide) (by decide) (by decide) (by decide) (by decide)
  · have : kd k = ⟨[], -1, 0, false, [], false, -1, [], []⟩ := by
      unfold kd; rw [List.getD_eq_getElem?_getD, List.getElem?_eq_none (by show kdT.length ≤ k; exact Nat.le_of_not_lt h)]; rfl
    rw [this]; decide
theorem kd_mem (k : Nat) : bnd (kd k).mem := by
  by_cases h : k < 18
  · revert k; exact by_k (by decide) (by decide) (by decide) (by decide) (by decide) (by decide) (by decide) (by decide) (by decide) (by decide) (by decide) (by decide) (by decide) (by decide) (by decide) (by decide) (by decide) (by decide)
  · have : kd k = ⟨[], -1, 0, false, [], false, -1, [], []⟩ := by
      unfold kd; rw [List.getD_eq_getElem?_getD, List.getElem?_eq_none (by show kdT.length ≤ k; exact Nat.le_of_not_lt h)]; rfl
    rw [this]; decide
theorem e_kinds {a : M} {q : Nat × Row} (h : (run prg n).e a r σ = some (fv q, σ)) (ho : ∀ x, a = .var x → ∀ y u, r.w = some (y, u) → y ≠ x) : (run prg (n + 1)).e (.attr a 1) r σ = some (.tuple ((kd q.2.k).kinds.map .str), σ) := by
  exact e_attr (tr_e ho h) rfl rfl
theorem c_counts (O : RsOK rs) {k : List Nat} (hk : okStr k = true) {s : List V} (hs : sortV ((dd ((uName rs k).map lenI)).map .int) = some s) : (run prg (n + 9)).c 111 [madeV rs, .str k] σ = some (.list s, σ) := by
  have hu := uName_len O k
  have hd := dcomp_ints (x := 14) (σ := σ) (f := (run prg (n + 4)).e) (k := .bif .len (.attr (.var 14) 1)) (q := .cst (.bool true)) (ρ := [(13, madeV rs), (0, .str k)]) (h := lenI) (uName rs k) [] (fun p _ => by
      refine e_bif (tr_n rfl (e_kinds (q := p) (e_var rfl) (fun _ _ y u e => nomatch e))) ?_
      have := kd_len p.2.k
      exact (len_tup (by rw [List.length_map]; omega)).trans (by rw [List.length_map]; rfl)) (fun _ _ => rfl) (fun p _ => by have := kd_len p.2.k; unfold lenI bnd; simp only [Int.ofNat_eq_natCast]; omega) (fun _ h => nomatch h)
  refine run_c (r := ⟨[(13, madeV rs), (0, .str k)], none⟩) rfl rfl rfl (s_ret (tr_n rfl (e_bif (tr_n rfl (e_bif (tr_n rfl (e_dcomp (e_get (a_byname rfl rfl) (e_var rfl) (e_lst ev_nil rfl) (get_name O hk)) (vs := (uName rs k).map fv) (items_list (by rw [List.length_map]; omega)) hd)) (list_dI ?_))) ?_)) rfl)
  · have := fold_len ((uName rs k).map lenI) []; simp at this ⊢; omega
  · exact o1e hs
noncomputable def memsOf (us : List (Nat × Row)) : List Int := us.filterMap fun q => if 0 ≤ memI q then some (memI q) else none
theorem memsOf_bnd (us : List (Nat × Row)) : ∀ d ∈ memsOf us, bnd d := fun d hd => by
  obtain ⟨q, _, e⟩ := List.mem_filterMap.mp hd
  split at e
  · cases e; exact kd_mem _
  · cases e
theorem memsOf_len (us : List (Nat × Row)) : (memsOf us).length ≤ us.length := List.length_filterMap_le _ _
theorem ge_int {a b : Int} : cmpV .ge (.int a) (.int b) = some (.bool (decide (b ≤ a))) := rfl
theorem a_byname2 {r : Rho} (h : fget r.ρ 13 = some (madeV rs)) (hw : ∀ y u, r.w = some (y, u) → y ≠ 13) : (run prg (n + 2)).e (.attr (.var 13) 11) r σ = some (.dict (encD encS (BN rs)), σ) :=
  e_attr (tr_e (fun x hx y u e => by cases hx; exact hw y u e) (e_var h)) rfl rfl
theorem c_msizes (O : RsOK rs) {k : List Nat} (hk : okStr k = true) {s : List V} (hs : sortV ((dd (memsOf (uName rs k))).map .int) = some s) : (run prg (n + 20)).c 112 [madeV rs, .str k] σ = some (.list s, σ) := by
  have hu := uName_len O k
  refine run_c (r := ⟨[(13, madeV rs), (0, .str k)], none⟩) rfl rfl rfl (s_newD (r' := ⟨[(13, madeV rs), (0, .str k)], some (28, .dict [])⟩) rfl ?_)
  obtain ⟨r', e, hI⟩ := forL_set (x := 14) (σ := σ) (vs := (uName rs k).map fv) (r := ⟨[(13, madeV rs), (0, .str k)], some (28, .dict [])⟩) (body := fun r σ => (run prg (n + 18)).s [.ife (.cmp .ge (.meth (.var 14) 29 []) (.cst (.int 0))) [.setI 28 (.meth (.var 14) 29 []) (.cst (.bool true))] []] r σ)
    (fun j r => r.w = some (28, .dict (dI (dd (memsOf ((uName rs k).take j)))))) (fun j v r hv hI => by
      rw [List.getElem?_map] at hv
      obtain ⟨q, hq, rfl⟩ := Option.map_eq_some_iff.mp hv
      have hqm : q ∈ uName rs k := List.mem_of_getElem? hq
      have hqr : q.2 ∈ rs := (ix_get rs 0 q (List.mem_filter.mp hqm).1).2.2
      have hm : ∀ n' r', fget r'.ρ 14 = some (fv q) → (run prg (n' + 15)).e (.meth (.var 14) 29 []) r' σ = some (.int (memI q), σ) := fun n' r' h14 => by
        obtain ⟨i, ⟨name, kk, op, esc, must⟩⟩ := q
        exact e_meth (e_var h14) rfl ev_nil (c_msize n' i σ name op esc must kk (O.row _ hqr).k)
      have f14 : fget (r.set 14 (fv q)).ρ 14 = some (fv q) := by rw [get_set]; rfl
      have hw : (r.set 14 (fv q)).w = some (28, .dict (dI (dd (memsOf ((uName rs k).take j))))) := by rw [w_set, hI]; rfl
      have etk : (uName rs k).take (j + 1) = (uName rs k).take j ++ [q] := by rw [List.take_add_one, hq]; rfl
      have hsnoc : memsOf ((uName rs k).take (j + 1)) = memsOf ((uName rs k).take j) ++ (if 0 ≤ memI q then [memI q] else []) := by
        rw [etk]; unfold memsOf; rw [List.filterMap_append]; congr 1
        by_cases h0 : 0 ≤ memI q
        · simp [h0]
        · simp [h0]
      have hbn : ∀ d ∈ dd (memsOf ((uName rs k).take j)), bnd d := fun d hd => memsOf_bnd _ d (dd_mem.mp hd)
      have hlen : (dd (memsOf ((uName rs k).take j))).length ≤ 4 := by
        have h1 := dd_len (memsOf ((uName rs k).take j))
        have h2 := memsOf_len ((uName rs k).take j)
        rw [List.length_take] at h2; omega
      have hcond : (run prg (n + 17)).e (.cmp .ge (.meth (.var 14) 29 []) (.cst (.int 0))) (r.set 14 (fv q)) σ = some (.bool (decide (0 ≤ memI q)), σ) :=
        e_cmp (hm _ _ f14) (tr_o (fun _ => by simp) e_cst) ge_int
      by_cases hge : 0 ≤ memI q
      · refine ⟨⟨(r.set 14 (fv q)).ρ, some (28, .dict (dput (dI (dd (memsOf ((uName rs k).take j)))) (.int (memI q)) (.bool true)))⟩, .inl ?_, ?_⟩
        · refine s_ife hcond ?_ s_nil
          rw [decide_eq_true hge]
          exact s_setI e_cst (hm _ _ f14) hw (seek_dI (kd_mem _) hbn) (small_of (by unfold dI; rw [List.length_map]; omega)) s_nil
        · show some _ = some _
          rw [dput_dI, hsnoc, if_pos hge]
          unfold dd; rw [List.foldl_append]; rfl
      · refine ⟨r.set 14 (fv q), .inl ?_, ?_⟩
        · refine s_ife hcond ?_ s_nil
          rw [decide_eq_false hge]
          exact s_nil
        · rw [hw, hsnoc, if_neg hge, List.append_nil]) rfl
  rw [List.length_map, List.take_length] at hI
  refine s_forI (e_get (a_byname2 rfl (fun y u e => by cases e; decide)) (e_var rfl) (e_lst ev_nil rfl) (get_name O hk)) (vs := (uName rs k).map fv) (items_list (by rw [List.length_map]; omega)) e ?_
  refine s_ret (tr_o (fun _ => by simp) (e_bif (tr_o (fun _ => by simp) (e_bif (tr_w hI) (list_dI ?_))) ?_)) rfl
  · have h1 := dd_len (memsOf (uName rs k))
    have h2 := memsOf_len (uName rs k)
    omega
  · exact o1e hs
end
end Mine.Pl
namespace Mine.Pl
section
variable {n : Nat} {r r' : Rho} {σ σ' σ1 σ2 : Nums} {u v z : V} {x : Nat} {rs : List Row}
theorem forL_fold {α β : Type} {body : Rho → Nums → Option (Fl × Nums)} (F : α → V) (step : β → α → β) (W : Nat → β → Rho → Prop) (c M : Nat) : ∀ (l : List α) {m : Nat} {b : β} {r : Rho}, m + c * l.length ≤ M → (∀ a ∈ l, ∀ m b r, m + c ≤ M → W m b r → ∃ r2, (body (r.set x (F a)) σ = some (.next r2, σ) ∨ body (r.set x (F a)) σ = some (.cont r2, σ)) ∧ W (m + c) (step b a) r2) → W m b r →
    ∃ r', forL body (fun v r => some (r.set x v)) (l.map F) r σ = some (.next r', σ) ∧ W (m + c * l.length) (l.foldl step b) r'
  | [], m, b, r, _, _, h0 => ⟨r, rfl, by simpa using h0⟩
  | a :: t, m, b, r, hM, h, h0 => by
    rw [List.length_cons, Nat.mul_succ] at hM
    obtain ⟨r2, e, h2⟩ := h a List.mem_cons_self m b r (by have := Nat.zero_le (c * t.length); omega) h0
    obtain ⟨r', e', h3⟩ := forL_fold F step W c M t (by omega) (fun a ha => h a (List.mem_cons_of_mem _ ha)) h2
    refine ⟨r', ?_, ?_⟩
    · exact e.elim (fun e => (oPe e).trans e') fun e => (oPe e).trans e'
    · have : m + c * (a :: t).length = m + c + c * t.length := by rw [List.length_cons, Nat.mul_succ]; omega
      rw [this]; exact h3
theorem eqV_str {a b : List Nat} (ha : okStr a = true) (hb : okStr b = true) : eqV (.str a) (.str b) = some (decide (a = b)) := (oCt (show (okStr a && okStr b) = true by rw [ha, hb]; rfl)).trans (congrArg some (leqN_eq a b))
theorem eq_str {a b : List Nat} (ha : okStr a = true) (hb : okStr b = true) : cmpV .eq (.str a) (.str b) = some (.bool (decide (a = b))) := o1e (eqV_str ha hb)
theorem ne_str {a b : List Nat} (ha : okStr a = true) (hb : okStr b = true) : cmpV .ne (.str a) (.str b) = some (.bool (!decide (a = b))) := o1e (eqV_str ha hb)
theorem in_ints (m : Int) {l : List Int} (h : l.length ≤ 1000) : inV (.int m) (.list (l.map .int)) = some (decide (m ∈ l)) := by
  have h1 : (l.map V.int).all (plain 8) = true := by
    rw [List.all_eq_true]; intro x hx; obtain ⟨c, _, rfl⟩ := List.mem_map.mp hx; rfl
  refine (oIe (show (plain 8 (.int m) && (l.map V.int).all (plain 8) && small (l.map V.int)) = true by rw [h1, small_of (by rw [List.length_map]; exact h)]; rfl)).trans (congrArg some ?_)
  rw [List.any_map]
  induction l with
  | nil => rfl
  | cons a t ih =>
    have ih := ih (by simp at h; omega) (by
      rw [List.all_eq_true]; intro x hx; obtain ⟨c, _, rfl⟩ := List.mem_map.mp hx; rfl)
    rw [List.any_cons, ih]
    show ((a == m) || decide (m ∈ t)) = _
    by_cases h2 : a = m
    · simp [h2]
    · have : ¬ m = a := fun e => h2 e.symm
      simp [h2, this]
theorem idx_list {vs : List V} {i : Nat} {w : V} (h : vs.length ≤ 1000) (hw : vs[i]? = some w) : idxV (.list vs) (.int (.ofNat i)) = some w := by
  exact (oIe (small_of h)).trans hw
noncomputable def memL : List (List Nat × List Nat × List Nat × Int) :=
  [([114, 109, 56, 58, 56], [114, 109, 56], [56], 8), ([114, 109, 49, 54, 58, 49, 54], [114, 109, 49, 54], [49, 54], 16), ([114, 109, 51, 50, 58, 51, 50], [114, 109, 51, 50], [51, 50], 32), ([114, 109, 54, 52, 58, 54, 52], [114, 109, 54, 52], [54, 52], 64),
   ([120, 109, 49, 50, 56, 58, 49, 50, 56], [120, 109, 49, 50, 56], [49, 50, 56], 128), ([109, 54, 52, 58, 54, 52], [109, 54, 52], [54, 52], 64), ([109, 51, 50, 58, 51, 50], [109, 51, 50], [51, 50], 32), ([109, 58, 48], [109], [48], 0)]
theorem memL_ok : ∀ t ∈ memL, splitV (.str t.1) (.str [58]) = some (.list [.str t.2.1, .str t.2.2.1]) ∧ bifV .int (.str t.2.2.1) = some (.int t.2.2.2) ∧ okStr t.2.1 = true := by
  intro t ht
  simp only [memL, List.mem_cons, List.not_mem_nil, or_false] at ht
  rcases ht with rfl | rfl | rfl | rfl | rfl | rfl | rfl | rfl <;> exact ⟨rfl, rfl, rfl⟩
noncomputable def wordB : List S := [(.ife (.and [(.cmp .eq (.attr (.var 38) 0) (.var 0)), (.cmp .eq (.idx (.split (.var 17) (.cst (.str [58]))) (.cst (.int 0))) (.var 44)), (.cmp .notin (.bif .int (.idx (.split (.var 17) (.cst (.str [58]))) (.cst (.int 1)))) (.var 24))]) [(.app 24 (.bif .int (.idx (.split (.var 17) (.cst (.str [58]))) (.cst (.int 1)))))] [])]
noncomputable def kindB : List S := [(.forI 17 (.split (.cst (.str [114, 109, 56, 58, 56, 32, 114, 109, 49, 54, 58, 49, 54, 32, 114, 109, 51, 50, 58, 51, 50, 32, 114, 109, 54, 52, 58, 54, 52, 32, 120, 109, 49, 50, 56, 58, 49, 50, 56, 32, 109, 54, 52, 58, 54, 52, 32, 109, 51, 50, 58, 51, 50, 32, 109, 58, 48])) (.cst (.str [32]))) wordB)]
noncomputable def rowB : List S := [(.forI 44 (.attr (.var 38) 1) kindB)]
noncomputable def stW (b : Bool) (kind : List Nat) (found : List Int) (t : List Nat × List Nat × List Nat × Int) : List Int := if b = true ∧ t.2.1 = kind then addNew found t.2.2.2 else found
structure SzI (q : Nat × Row) (nm : List Nat) (m : Nat) (found : List Int) (r : Rho) : Prop where
  h38 : fget r.ρ 38 = some (fv q)
  h0 : fget r.ρ 0 = some (.str nm)
  w : r.w = some (24, .list (found.map .int))
  len : found.length ≤ m
theorem word_step {q : Nat × Row} {nm kind : List Nat} {m : Nat} {found : List Int} {t : List Nat × List Nat × List Nat × Int} (ht : t ∈ memL) (hq : okStr q.2.name = true) (hn : okStr nm = true) (hk : okStr kind = true) (I : SzI q nm m found r) (h17 : fget r.ρ 17 = some (.str t.1)) (h44 : fget r.ρ 44 = some (.str kind)) (hm : m ≤ 900) :
    ∃ r2, (run prg (n + 10)).s wordB r σ = some (.next r2, σ) ∧ r2.ρ = r.ρ ∧ SzI q nm (m + 1) (stW (decide (q.2.name = nm)) kind found t) r2 := by
  obtain ⟨t1, t2, t3⟩ := memL_ok t ht
  have no24 : ∀ x, x ≠ 24 → ∀ y u, r.w = some (y, u) → y ≠ x := fun x hx y u e => by rw [I.w] at e; cases e; exact Ne.symm hx
  have hs : ∀ k i w, ([.str t.2.1, .str t.2.2.1] : List V)[i]? = some w → (run prg (k + 3)).e (.idx (.split (.var 17) (.cst (.str [58]))) (.cst (.int (.ofNat i)))) r σ = some (w, σ) := fun k i w hw =>
    e_idx (e_split (e_var h17) e_cst t1) e_cst (idx_list (by simp) hw)
  have c1 : (run prg (n + 8)).e (.cmp .eq (.attr (.var 38) 0) (.var 0)) r σ = some (.bool (decide (q.2.name = nm)), σ) :=
    e_cmp (e_attr (v := .str q.2.name) (tr_e (fun x hx => by cases hx; exact no24 38 (by decide)) (e_var I.h38)) rfl rfl) (tr_e (fun x hx => by cases hx; exact no24 0 (by decide)) (e_var I.h0)) (eq_str hq hn)
  have c2 : (run prg (n + 8)).e (.cmp .eq (.idx (.split (.var 17) (.cst (.str [58]))) (.cst (.int 0))) (.var 44)) r σ = some (.bool (decide (t.2.1 = kind)), σ) :=
    e_cmp (hs _ 0 _ rfl) (tr_e (fun x hx => by cases hx; exact no24 44 (by decide)) (e_var h44)) (eq_str t3 hk)
  have ci : ∀ k, (run prg (k + 4)).e (.bif .int (.idx (.split (.var 17) (.cst (.str [58]))) (.cst (.int 1)))) r σ = some (.int t.2.2.2, σ) := fun k => e_bif (tr_o (fun _ => by simp) (hs _ 1 _ rfl)) t2
  have c3 : (run prg (n + 8)).e (.cmp .notin (.bif .int (.idx (.split (.var 17) (.cst (.str [58]))) (.cst (.int 1)))) (.var 24)) r σ = some (.bool (!decide (t.2.2.2 ∈ found)), σ) :=
    e_cmp (ci _) (tr_w I.w) (o1e (in_ints _ (by have := I.len; omega)))
  have hc : (run prg (n + 9)).e (.and [(.cmp .eq (.attr (.var 38) 0) (.var 0)), (.cmp .eq (.idx (.split (.var 17) (.cst (.str [58]))) (.cst (.int 0))) (.var 44)), (.cmp .notin (.bif .int (.idx (.split (.var 17) (.cst (.str [58]))) (.cst (.int 1)))) (.var 24))]) r σ = some (.bool (decide (q.2.name = nm) && (decide (t.2.1 = kind) && !decide (t.2.2.2 ∈ found))), σ) :=
    e_and (and_cons c1 (and_cons c2 (and_one c3)))
  by_cases hb : (decide (q.2.name = nm) && (decide (t.2.1 = kind) && !decide (t.2.2.2 ∈ found))) = true
  · have hb2 := hb
    simp only [Bool.and_eq_true, decide_eq_true_eq, Bool.not_eq_true', decide_eq_false_iff_not] at hb2
    refine ⟨⟨r.ρ, some (24, .list (found.map .int ++ [.int t.2.2.2]))⟩, ?_, rfl, I.h38, I.h0, ?_, ?_⟩
    · refine s_ife hc ?_ s_nil
      rw [hb]
      exact s_app (ci _) I.w (small_of (by rw [List.length_map]; have := I.len; omega)) s_nil
    · unfold stW addNew
      rw [if_pos ⟨by simp [hb2.1], hb2.2.1⟩, if_neg hb2.2.2]; simp
    · have := I.len
      unfold stW addNew
      rw [if_pos ⟨by simp [hb2.1], hb2.2.1⟩, if_neg hb2.2.2]; simp; omega
  · have hb3 : (decide (q.2.name = nm) && (decide (t.2.1 = kind) && !decide (t.2.2.2 ∈ found))) = false := by simpa using hb
    have heq : stW (decide (q.2.name = nm)) kind found t = found := by
      unfold stW addNew
      simp only [decide_eq_true_eq]
      split
      · rename_i h
        simp [h.1, h.2] at hb3
        rw [if_pos hb3]
      · rfl
    refine ⟨r, ?_, rfl, I.h38, I.h0, by rw [heq]; exact I.w, by rw [heq]; have := I.len; omega⟩
    refine s_ife hc ?_ s_nil
    rw [hb3]; exact s_nil
theorem set_w {y : Nat} {w : V} (h : r.w = some (y, w)) (hn : y ≠ x) : (r.set x v).w = some (y, w) := by
  rw [w_set, h]; simp only; rw [if_neg (fun hb => hn (Nat.eq_of_beq_eq_true hb))]
theorem SzI.set {q : Nat × Row} {nm : List Nat} {m : Nat} {found : List Int} (I : SzI q nm m found r) (h1 : x ≠ 38) (h2 : x ≠ 0) (h3 : x ≠ 24) : SzI q nm m found (r.set x v) :=
  ⟨by rw [get_set, if_neg (Ne.symm h1)]; exact I.h38, by rw [get_set, if_neg (Ne.symm h2)]; exact I.h0, set_w I.w (Ne.symm h3), I.len⟩
theorem kind_step {q : Nat × Row} {nm kind : List Nat} {m : Nat} {found : List Int} (hq : okStr q.2.name = true) (hn : okStr nm = true) (hk : okStr kind = true) (I : SzI q nm m found r) (h44 : fget r.ρ 44 = some (.str kind)) (hm : m ≤ 800) :
    ∃ r2, (run prg (n + 12)).s kindB r σ = some (.next r2, σ) ∧ SzI q nm (m + 8) (memL.foldl (stW (decide (q.2.name = nm)) kind) found) r2 := by
  obtain ⟨r2, e, h1, h2⟩ := forL_fold (x := 17) (σ := σ) (body := fun r σ => (run prg (n + 11)).s wordB r σ) (fun t : List Nat × List Nat × List Nat × Int => V.str t.1) (stW (decide (q.2.name = nm)) kind)
    (fun m' b r => SzI q nm m' b r ∧ fget r.ρ 44 = some (.str kind)) 1 (m + 8) memL (m := m) (b := found) (r := r) (by show m + 1 * 8 ≤ m + 8; omega) (fun t ht m' b r hle hI => by
      obtain ⟨I1, h1⟩ := hI
      have I2 : SzI q nm m' b (r.set 17 (.str t.1)) := I1.set (by decide) (by decide) (by decide)
      obtain ⟨r2, e, hr, I3⟩ := word_step (n := n + 1) (σ := σ) ht hq hn hk I2 (by rw [get_set]; rfl) (by rw [get_set]; exact h1) (by omega)
      exact ⟨r2, .inl e, I3, by rw [hr, get_set]; exact h1⟩) ⟨I, h44⟩
  have es : (run prg (n + 11)).e (.split (.cst (.str [114, 109, 56, 58, 56, 32, 114, 109, 49, 54, 58, 49, 54, 32, 114, 109, 51, 50, 58, 51, 50, 32, 114, 109, 54, 52, 58, 54, 52, 32, 120, 109, 49, 50, 56, 58, 49, 50, 56, 32, 109, 54, 52, 58, 54, 52, 32, 109, 51, 50, 58, 51, 50, 32, 109, 58, 48])) (.cst (.str [32]))) r σ = some (.list (memL.map fun t => V.str t.1), σ) :=
    e_split e_cst e_cst (by kernel_rfl)
  have hi : items (.list (memL.map fun t => V.str t.1)) = some (memL.map fun t => V.str t.1) := items_list (by decide)
  exact ⟨r2, s_forI es hi e s_nil, h1⟩
noncomputable def stK (b : Bool) (found : List Int) (kind : List Nat) : List Int := memL.foldl (stW b kind) found
theorem row_step {q : Nat × Row} {nm : List Nat} {m : Nat} {found : List Int} (hk : q.2.k < 18) (hq : okStr q.2.name = true) (hn : okStr nm = true) (I : SzI q nm m found r) (hm : m ≤ 700) :
    ∃ r2, (run prg (n + 14)).s rowB r σ = some (.next r2, σ) ∧ SzI q nm (m + 16) ((kd q.2.k).kinds.foldl (stK (decide (q.2.name = nm))) found) r2 := by
  have hl := kd_len q.2.k
  have hok : ∀ kind ∈ (kd q.2.k).kinds, okStr kind = true := by
    have : ∀ k, k < 18 → (kd k).kinds.all okStr = true := by_k rfl rfl rfl rfl rfl rfl rfl rfl rfl rfl rfl rfl rfl rfl rfl rfl rfl rfl
    have := this _ hk
    rw [List.all_eq_true] at this; exact this
  obtain ⟨r2, e, h1⟩ := forL_fold (x := 44) (σ := σ) (body := fun r σ => (run prg (n + 13)).s kindB r σ) V.str (stK (decide (q.2.name = nm))) (fun m' b r => SzI q nm m' b r) 8 (m + 16) (kd q.2.k).kinds (m := m) (b := found) (r := r) (by omega) (fun kind hkm m' b r hle hI => by
      obtain ⟨r2, e, I3⟩ := kind_step (n := n + 1) (σ := σ) hq hn (hok kind hkm) (hI.set (x := 44) (v := .str kind) (by decide) (by decide) (by decide)) (by rw [get_set]; rfl) (by omega)
      exact ⟨r2, .inl e, I3⟩) I
  refine ⟨r2, s_forI (e_kinds (q := q) (e_var I.h38) (fun x hx y u e => by cases hx; rw [I.w] at e; cases e; decide)) (vs := (kd q.2.k).kinds.map .str) (items_tup (by rw [List.length_map]; omega)) e s_nil, ⟨h1.h38, h1.h0, h1.w, by have := h1.len; omega⟩⟩
theorem stK_eq {q : Nat × Row} {b : Bool} (hk : q.2.k < 18) (found : List Int) : (kd q.2.k).kinds.foldl (stK b) found = if b = true ∧ 0 ≤ memI q then addNew found (memI q) else found := by
  cases b with
  | false =>
    have h1 : ∀ kind (f : List Int), stK false f kind = f := fun kind f => by
      unfold stK
      have : ∀ (l : List (List Nat × List Nat × List Nat × Int)), l.foldl (stW false kind) f = f := by
        intro l
        induction l with
        | nil => rfl
        | cons a t ih => rw [List.foldl_cons]; unfold stW; rw [if_neg (by simp)]; exact ih
      exact this _
    have : ∀ (l : List (List Nat)), l.foldl (stK false) found = found := by
      intro l
      induction l with
      | nil => rfl
      | cons a t ih => rw [List.foldl_cons, h1]; exact ih
    rw [this]; simp
  | true =>
    have : ∀ k, k < 18 → (kd k).kinds.foldl (stK true) found = if 0 ≤ (kd k).mem then addNew found (kd k).mem else found :=
      by_k (by kernel_rfl) (by kernel_rfl) (by kernel_rfl) (by kernel_rfl) (by kernel_rfl) (by kernel_rfl) (by kernel_rfl) (by kernel_rfl) (by kernel_rfl) (by kernel_rfl) (by kernel_rfl) (by kernel_rfl) (by kernel_rfl) (by kernel_rfl) (by kernel_rfl) (by kernel_rfl) (by kernel_rfl) (by kernel_rfl)
    rw [this _ hk]; simp [memI]
theorem sizes_fold (nm : List Nat) : ∀ (us : List (Nat × Row)) (found : List Int), (∀ q ∈ us, q.2.k < 18) → us.foldl (fun f q => (kd q.2.k).kinds.foldl (stK (decide (q.2.name = nm))) f) found = (memsOf (us.filter fun q => decide (q.2.name = nm))).foldl addNew found
  | [], _, _ => rfl
  | q :: t, found, h => by
    have ih := fun f => sizes_fold nm t f fun p hp => h p (List.mem_cons_of_mem _ hp)
    rw [List.foldl_cons, stK_eq (h q List.mem_cons_self), ih]
    by_cases hn : q.2.name = nm
    · by_cases hm : 0 ≤ memI q
      · simp [hn, hm, memsOf]
      · simp [hn, hm, memsOf]
    · simp [hn, memsOf]
theorem c_lsizes (O : RsOK rs) {nm : List Nat} (hn : okStr nm = true) {s : List V} (hs : sortV ((dd (memsOf (uName rs nm))).map .int) = some s) : (run prg (n + 18)).c 133 [.list ((ix 0 rs).map fv), .str nm] σ = some (.list s, σ) := by
  have hlen : (ix 0 rs).length ≤ 4 := by rw [ix_len]; exact O.len
  refine run_c (r := ⟨[(45, .list ((ix 0 rs).map fv)), (0, .str nm)], none⟩) rfl rfl rfl (s_newL (r' := ⟨[(45, .list ((ix 0 rs).map fv)), (0, .str nm)], some (24, .list [])⟩) rfl ?_)
  obtain ⟨r2, e, h1, h2⟩ := forL_fold (x := 38) (σ := σ) (r := ⟨[(45, .list ((ix 0 rs).map fv)), (0, .str nm)], some (24, .list [])⟩) (m := 0) (b := ([] : List Int)) (body := fun r σ => (run prg (n + 16)).s rowB r σ) fv (fun f q => (kd q.2.k).kinds.foldl (stK (decide (q.2.name = nm))) f) (fun m b r => fget r.ρ 0 = some (.str nm) ∧ r.w = some (24, .list (b.map .int)) ∧ b.length ≤ m) 16 64 (ix 0 rs) (by omega) (fun q hq m b r hle hI => by
    obtain ⟨i0, iw, il⟩ := hI
    have hr := O.row _ (ix_get rs 0 q hq).2.2
    obtain ⟨r2, e, I3⟩ := row_step (n := n + 2) (σ := σ) (q := q) (m := m) (found := b) (r := r.set 38 (fv q)) hr.k hr.name hn ⟨by rw [get_set]; rfl, by rw [get_set]; exact i0, set_w iw (by decide), il⟩ (by omega)
    exact ⟨r2, .inl e, I3.h0, I3.w, I3.len⟩) ⟨rfl, rfl, Nat.le_refl _⟩
  obtain ⟨hw, hl⟩ := h2
  rw [sizes_fold nm (ix 0 rs) [] fun q hq => (O.row _ (ix_get rs 0 q hq).2.2).k] at hw
  refine s_forI (e_var rfl) (vs := (ix 0 rs).map fv) (items_list (by rw [List.length_map]; omega)) e ?_
  refine s_ret (tr_o (fun _ => by simp) (e_bif (tr_w hw) ?_)) rfl
  exact o1e hs
end
end Mine.Pl
namespace Mine.Pl
noncomputable def nOne : List Nat := [111, 110, 101]
noncomputable def nTwo : List Nat := [116, 119, 111]
noncomputable def nSix : List Nat := [115, 105, 120]
noncomputable def nTen : List Nat := [116, 101, 110]
noncomputable def NM3 : List (List Nat) := [nOne, nTwo, nSix]
noncomputable def NM4 : List (List Nat) := [nOne, nTwo, nSix, nTen]
theorem nm_ok : ∀ nm ∈ NM4, okStr nm = true := by
  intro nm h
  simp only [NM4, List.mem_cons, List.not_mem_nil, or_false] at h
  rcases h with rfl | rfl | rfl | rfl <;> rfl
structure RsOK2 (rs : List Row) : Prop extends RsOK rs where
  three : ∀ r ∈ rs, r.name ∈ NM3
  must : ∀ r ∈ rs, r.must ≠ 242
noncomputable def listsOf {α : Type} (xs : List α) : Nat → List (List α)
  | 0 => [[]]
  | n + 1 => xs.flatMap fun x => (listsOf xs n).map (x :: ·)
theorem listsOf_mem {α : Type} {xs : List α} : ∀ {l : List α}, (∀ x ∈ l, x ∈ xs) → l ∈ listsOf xs l.length
  | [], _ => by simp [listsOf]
  | a :: t, h => by
    simp only [List.length_cons, listsOf, List.mem_flatMap, List.mem_map]
    exact ⟨a, h a List.mem_cons_self, t, listsOf_mem fun x hx => h x (List.mem_cons_of_mem _ hx), rfl⟩
noncomputable def isT : Option V → Bool
  | some (.bool true) => true
  | _ => false
noncomputable def isF : Option V → Bool
  | some (.bool false) => true
  | _ => false
theorem isT_of {o : Option V} (h : isT o = true) : o = some (.bool true) := by
  unfold isT at h; split at h
  · rfl
  · cases h
theorem isF_of {o : Option V} (h : isF o = true) : o = some (.bool false) := by
  unfold isF at h; split at h
  · rfl
  · cases h
noncomputable def chkN (l : List (List Nat)) : Bool := match sortV ((dd l).map .str) with
  | some s => (match sortV s with
    | some t => isT (cmpV .eq (.list s) (.list t))
    | none => false) && NM4.all fun nm => match inV (.str nm) (.list s) with
      | some b => b == decide (nm ∈ l)
      | none => false
  | none => false
theorem chkN_all : (List.range 5).all (fun n => (listsOf NM3 n).all chkN) = true := by decide +kernel
noncomputable def chkC (l : List Nat) : Bool := match sortV ((dd (l.map Int.ofNat)).map .int) with
  | some s => isF (cmpV .ne (.list s) (.list (((List.range 4).filter fun m => l.contains m).map fun m => .int (.ofNat m))))
  | none => false
theorem chkC_all : (List.range 5).all (fun n => (listsOf [0, 1, 2] n).all chkC) = true := by decide +kernel
section
variable {n : Nat} {r r' : Rho} {σ σ' σ1 σ2 : Nums} {u v z : V} {x : Nat} {rs : List Row}
theorem names_ok (O : RsOK2 rs) : ∃ s, sortV ((dd (rs.map (·.name))).map .str) = some s ∧ (∃ t, sortV s = some t ∧ cmpV .eq (.list s) (.list t) = some (.bool true)) ∧ ∀ nm ∈ NM4, inV (.str nm) (.list s) = some (decide (nm ∈ rs.map (·.name))) := by
  have h1 := chkN_all
  rw [List.all_eq_true] at h1
  have h2 := h1 (rs.map (·.name)).length (by rw [List.length_map, List.mem_range]; have := O.len; omega)
  rw [List.all_eq_true] at h2
  have h3 := h2 _ (listsOf_mem fun x hx => by obtain ⟨r, hr, rfl⟩ := List.mem_map.mp hx; exact O.three r hr)
  unfold chkN at h3
  split at h3
  · rename_i s hs
    simp only [Bool.and_eq_true, List.all_eq_true] at h3
    obtain ⟨h4, h5⟩ := h3
    refine ⟨s, hs, ?_, fun nm hnm => ?_⟩
    · split at h4
      · rename_i t ht; exact ⟨t, ht, isT_of h4⟩
      · cases h4
    · have := h5 nm hnm
      split at this
      · rename_i b hb; rw [hb, beq_iff_eq.mp this]
      · cases this
  · cases h3
theorem counts_ok {l : List Nat} (hl : l.length ≤ 4) (h : ∀ x ∈ l, x ≤ 2) : ∃ s, sortV ((dd (l.map Int.ofNat)).map .int) = some s ∧ cmpV .ne (.list s) (.list (((List.range 4).filter fun m => l.contains m).map fun m => .int (.ofNat m))) = some (.bool false) := by
  have h1 := chkC_all
  rw [List.all_eq_true] at h1
  have h2 := h1 l.length (by rw [List.mem_range]; omega)
  rw [List.all_eq_true] at h2
  have h3 := h2 _ (listsOf_mem fun x hx => by
    have := h x hx
    rcases x with _ | _ | _ | x
    · simp
    · simp
    · simp
    · omega)
  unfold chkC at h3
  split at h3
  · rename_i s hs; exact ⟨s, hs, isF_of h3⟩
  · cases h3
theorem compL_mapm {α : Type} {f : M → Rho → Nums → Option (V × Nums)} {elt : M} {ρ : List (Nat × V)} (F g : α → V) {l : List α} : (∀ a ∈ l, f elt ⟨fput ρ x (F a), none⟩ σ = some (g a, σ)) → compL f elt x [] ρ (l.map F) σ = some (l.map g, σ) := by
  induction l with
  | nil => exact fun _ => rfl
  | cons v t ih => exact fun h => (oPe (h v List.mem_cons_self)).trans (oPe (ih fun w hw => h w (List.mem_cons_of_mem _ hw)))
theorem compL_ifm {α : Type} {f : M → Rho → Nums → Option (V × Nums)} {elt : M} {ρ : List (Nat × V)} {c : M} {cs : List M} (F g : α → V) (p : α → Bool) {l : List α} : (∀ a ∈ l, andE (fun m σ => f m ⟨fput ρ x (F a), none⟩ σ) (c :: cs) σ = some (.bool (p a), σ)) → (∀ a ∈ l, p a = true → f elt ⟨fput ρ x (F a), none⟩ σ = some (g a, σ)) →
    compL f elt x (c :: cs) ρ (l.map F) σ = some ((l.filter p).map g, σ) := by
  induction l with
  | nil => exact fun _ _ => rfl
  | cons v t ih =>
    intro h h2
    have ih := ih (fun w hw => h w (List.mem_cons_of_mem _ hw)) fun w hw => h2 w (List.mem_cons_of_mem _ hw)
    have hv := h v List.mem_cons_self
    cases hp : p v with
    | true => rw [List.filter_cons, if_pos hp]; exact (oPe (hv.trans (congrArg (fun b => some (V.bool b, σ)) hp))).trans ((oPe (h2 v List.mem_cons_self hp)).trans (oPe ih))
    | false => rw [List.filter_cons, if_neg (ne_true_of_eq_false hp)]; exact (oPe (hv.trans (congrArg (fun b => some (V.bool b, σ)) hp))).trans ih
theorem get_fput {ρ : List (Nat × V)} {y : Nat} : fget (fput ρ x v) y = if y = x then some v else fget ρ y := get_set (r := ⟨ρ, none⟩)
noncomputable def spV (q : Nat × Row) : V := .list ((codes q.2).map codeV)
structure SR (rs : List Row) (r : Rho) : Prop where
  h45 : fget r.ρ 45 = some (.list ((ix 0 rs).map fv))
  h55 : fget r.ρ 55 = some (madeV rs)
  h52 : fget r.ρ 52 = some (.list ((ix 0 rs).map spV))
theorem SR.set (I : SR rs r) (h1 : x ≠ 45) (h2 : x ≠ 55) (h3 : x ≠ 52) : SR rs (r.set x v) :=
  ⟨by rw [get_set, if_neg (Ne.symm h1)]; exact I.h45, by rw [get_set, if_neg (Ne.symm h2)]; exact I.h55, by rw [get_set, if_neg (Ne.symm h3)]; exact I.h52⟩
theorem SR.same (I : SR rs r) (h : r'.ρ = r.ρ) : SR rs r' := ⟨by rw [h]; exact I.h45, by rw [h]; exact I.h55, by rw [h]; exact I.h52⟩
theorem ix_le (O : RsOK rs) : (ix 0 rs).length ≤ 4 := by rw [ix_len]; exact O.len
theorem spans_sound (O : RsOK rs) {a : M} (h : (run prg (n + 12)).e a r σ = some (.list ((ix 0 rs).map fv), σ)) : (run prg (n + 13)).e (.comp (.call 130 [(.var 38)]) 38 a []) r σ = some (.list ((ix 0 rs).map spV), σ) := by
  refine e_comp h (items_list (by rw [List.length_map]; have := ix_le O; omega)) (compL_mapm fv spV fun q hq => ?_)
  have hr := O.row _ (ix_get rs 0 q hq).2.2
  obtain ⟨i, ⟨name, k, op, esc, must⟩⟩ := q
  exact e_call (ev_cons (e_var (by rw [get_fput]; rfl)) ev_nil) (c_spans (n + 2) i σ name op esc must k hr.k)
theorem in_codes (c : Int × Int × Int) {l : List (Int × Int × Int)} (h : l.length ≤ 1000) : inV (codeV c) (.list (l.map codeV)) = some (decide (c ∈ l)) := by
  have h1 : (l.map codeV).all (plain 8) = true := by
    rw [List.all_eq_true]; intro x hx; obtain ⟨c, _, rfl⟩ := List.mem_map.mp hx; rfl
  refine (oIe (show (plain 8 (codeV c) && (l.map codeV).all (plain 8) && small (l.map codeV)) = true by rw [h1, small_of (by rw [List.length_map]; exact h)]; rfl)).trans (congrArg some ?_)
  rw [List.any_map]
  clear h h1
  induction l with
  | nil => rfl
  | cons a t ih =>
    rw [List.any_cons, ih]
    simp only [Function.comp, codeV_eq, List.mem_cons]
    by_cases h2 : a = c
    · simp [h2]
    · have : ¬ c = a := fun e => h2 e.symm
      simp [h2, this]
noncomputable def dueB2 : List S := [(.ife (.cmp .notin (.var 15) (.var 53)) [(.app 53 (.var 15))] [])]
noncomputable def dueB1 : List S := [(.forI 15 (.var 54) dueB2)]
theorem due_sound (O : RsOK rs) (I : SR rs r) (hw : r.w = some (53, .list [])) : ∃ r2, forL (fun r σ => (run prg (n + 10)).s dueB1 r σ) (fun v r => some (r.set 54 v)) ((ix 0 rs).map spV) r σ = some (.next r2, σ) ∧ SR rs r2 ∧ r2.w = some (53, .list ((dd (rs.flatMap codes)).map codeV)) := by
  have hl := ix_le O
  obtain ⟨r2, e, h1, h2, h3⟩ := forL_fold (x := 54) (σ := σ) (r := r) (m := 0) (b := ([] : List (Int × Int × Int))) (body := fun r σ => (run prg (n + 10)).s dueB1 r σ) spV (fun acc q => (codes q.2).foldl addNew acc) (fun m acc r => SR rs r ∧ r.w = some (53, .list (acc.map codeV)) ∧ acc.length ≤ m) 8 32 (ix 0 rs) (by omega) (fun q hq m acc r hle hI => by
    obtain ⟨i1, i2, i3⟩ := hI
    have hc := codes_len q.2
    obtain ⟨r3, e3, g1, g2, g3⟩ := forL_fold (x := 15) (σ := σ) (r := r.set 54 (spV q)) (m := m) (b := acc) (body := fun r σ => (run prg (n + 9)).s dueB2 r σ) codeV addNew (fun m acc r => SR rs r ∧ r.w = some (53, .list (acc.map codeV)) ∧ acc.length ≤ m) 1 (m + 8) (codes q.2) (by omega) (fun c hcm m' acc r hle2 hI => by
      obtain ⟨i1, i2, i3⟩ := hI
      have w2 : (r.set 15 (codeV c)).w = some (53, .list (acc.map codeV)) := set_w i2 (by decide)
      have f15 : fget (r.set 15 (codeV c)).ρ 15 = some (codeV c) := by rw [get_set]; rfl
      have s1 : SR rs (r.set 15 (codeV c)) := i1.set (by decide) (by decide) (by decide)
      have hcond : (run prg (n + 8)).e (.cmp .notin (.var 15) (.var 53)) (r.set 15 (codeV c)) σ = some (.bool (!decide (c ∈ acc)), σ) :=
        e_cmp (e_var f15) (tr_w w2) (by show (inV _ _).map _ = _; rw [in_codes c (by omega)]; rfl)
      by_cases hm : c ∈ acc
      · refine ⟨r.set 15 (codeV c), .inl (s_ife hcond (by rw [decide_eq_true hm]; exact s_nil) s_nil), s1, ?_, ?_⟩
        · rw [w2]; simp [addNew, hm]
        · simp [addNew, hm]; omega
      · refine ⟨⟨(r.set 15 (codeV c)).ρ, some (53, .list (acc.map codeV ++ [codeV c]))⟩, .inl (s_ife hcond (by rw [decide_eq_false hm]; exact s_app (e_var f15) w2 (small_of (by rw [List.length_map]; omega)) s_nil) s_nil), s1.same rfl, ?_, ?_⟩
        · simp [addNew, hm]
        · simp [addNew, hm]; omega) ⟨i1.set (by decide) (by decide) (by decide), set_w i2 (by decide), i3⟩
    refine ⟨r3, .inl (s_forI (e_var (by rw [get_set]; rfl)) (items_list (by rw [List.length_map]; omega)) e3 s_nil), g1, g2, by omega⟩) ⟨I, hw, Nat.le_refl _⟩
  refine ⟨r2, e, h1, ?_⟩
  rw [h2]
  have : ∀ (rs : List Row) (i : Nat) (acc : List (Int × Int × Int)), (ix i rs).foldl (fun acc q => (codes q.2).foldl addNew acc) acc = (rs.flatMap codes).foldl addNew acc := by
    intro rs
    induction rs with
    | nil => intros; rfl
    | cons a t ih => intro i acc; simp only [ix, List.foldl_cons, List.flatMap_cons, List.foldl_append, ih]
  rw [this]; rfl
end
end Mine.Pl
set_option maxHeartbeats 1000000
namespace Mine.Pl
section
variable {n : Nat} {r r' : Rho} {σ σ' σ1 σ2 : Nums} {u v z : V} {x : Nat} {rs : List Row}
noncomputable def NumOK (rs : List Row) (σ : Nums) : Prop := ∀ j, j < rs.length → σ[j]? = some (.ofNat j)
theorem num_get (H : NumOK rs σ) {q : Nat × Row} (hq : q ∈ ix 0 rs) : σ[q.1]? = some (.ofNat q.1) := by
  have h := (ix_get rs 0 q hq).2.1
  have := (List.getElem?_eq_some_iff.mp h).1
  rw [ix_len] at this
  exact H _ (by simpa using this)
theorem numbers_sound (H : NumOK rs σ) {us : List (Nat × Row)} (hu : ∀ q ∈ us, q ∈ ix 0 rs) (hl : us.length ≤ 1000) {a : M} (h : (run prg (n + 2)).e a r σ = some (.list (us.map fv), σ)) : (run prg (n + 3)).e (.comp (.attr (.var 38) 8) 38 a []) r σ = some (.list (us.map numI), σ) :=
  e_comp h (items_list (by rw [List.length_map]; exact hl)) (compL_mapm fv numI fun q hq => e_number (tr_n rfl (e_var (by rw [get_fput]; rfl))) (num_get H (hu q hq)))
theorem plain_nums (us : List (Nat × Row)) : plain 8 (.list (us.map numI)) = true := by
  show (us.map numI).all (plain 7) = true
  rw [List.all_eq_true]; intro x hx; obtain ⟨c, _, rfl⟩ := List.mem_map.mp hx; rfl
theorem plain_codes (cs : List (Int × Int × Int)) : plain 8 (.list (cs.map codeV)) = true := by
  show (cs.map codeV).all (plain 7) = true
  rw [List.all_eq_true]; intro x hx; obtain ⟨c, _, rfl⟩ := List.mem_map.mp hx; rfl
theorem ne_nil_nums (us : List (Nat × Row)) : cmpV .ne (.list (us.map numI)) (.list []) = some (.bool (!us.isEmpty)) := by
  refine (o1e (oCt (show (plain 8 (V.list (us.map numI)) && plain 8 (V.list [])) = true by rw [plain_nums]; rfl))).trans ?_
  cases us <;> rfl
theorem ne_nil_forms (us : List (Nat × Row)) : cmpV .ne (.list (us.map fv)) (.list []) = some (.bool (!us.isEmpty)) := by
  cases us with
  | nil => rfl
  | cons q t => rfl
theorem list_range (h : rs.length ≤ 4) (h45 : fget r.ρ 45 = some (.list ((ix 0 rs).map fv))) (hw : r.w = none) : (run prg (n + 4)).e (.bif .list (.bif .range (.bif .len (.var 45)))) r σ = some (.list ((ix 0 rs).map numI), σ) := by
  have hl := ix_len rs 0
  refine e_bif (tr_n hw (e_bif (tr_n hw (e_bif (tr_n hw (e_var h45)) (v := .list ((ix 0 rs).map fv)) (z := .int (.ofNat rs.length)) ?_)) (z := .rng rs.length) ?_)) ?_
  · exact (len_list (by rw [List.length_map]; omega)).trans (by rw [List.length_map, hl])
  · exact oIe (Nat.ble_eq.mpr (by omega))
  · exact o1e ((oIe (Nat.ble_eq.mpr (by omega))).trans (congrArg some (ints_ix rs 0)))
noncomputable def toldq (q : Nat × Row) : V := toldV q.2
theorem told_comp (O : RsOK rs) {a : M} {y : Nat} (h : (run prg (n + 8)).e a r σ = some (.list ((ix 0 rs).map fv), σ)) : (run prg (n + 9)).e (.comp (.meth (.var y) 27 []) y a []) r σ = some (.list ((ix 0 rs).map toldq), σ) :=
  e_comp h (items_list (by rw [List.length_map]; have := ix_le O; omega)) (compL_mapm fv toldq fun q _ => by
    obtain ⟨i, ⟨name, k, op, esc, must⟩⟩ := q
    exact e_meth (e_var (by rw [get_fput, if_pos rfl]; rfl)) rfl ev_nil (c_told (n + 2) i σ name op esc must k))
theorem tup_of {vs : List V} (h : vs.length ≤ 1000) : bifV .tuple (.list vs) = some (.tuple vs) := oIe (small_of h)
theorem c_toldS (O : RsOK rs) : (run prg (n + 13)).c 105 [madeV rs] σ = some (.tuple ((ix 0 rs).map toldq), σ) := by
  refine run_c (r := ⟨[(13, madeV rs)], none⟩) rfl rfl rfl (s_ret (tr_n rfl (e_bif (tr_n rfl (told_comp (n := n + 1) O (y := 14) ?_)) (tup_of ?_))) rfl)
  · rw [← formsV_ix]; exact e_attr (tr_n rfl (e_var rfl)) rfl rfl
  · rw [List.length_map]; have := ix_le O; omega
theorem kinds_ok {k : Nat} (h : k < 18) : (kd k).kinds.all okStr = true := by
  exact by_k (P := fun k => (kd k).kinds.all okStr = true) rfl rfl rfl rfl rfl rfl rfl rfl rfl rfl rfl rfl rfl rfl rfl rfl rfl rfl k h
theorem plain_told (O : RsOK rs) : plain 8 (.tuple ((ix 0 rs).map toldq)) = true := by
  show ((ix 0 rs).map toldq).all (plain 7) = true
  rw [List.all_eq_true]
  intro x hx
  obtain ⟨q, hq, rfl⟩ := List.mem_map.mp hx
  have hr := O.row _ (ix_get rs 0 q hq).2.2
  have hk : ((kd q.2.k).kinds.map V.str).all (plain 5) = true := by
    rw [List.all_map]; exact kinds_ok hr.k
  show ([V.str q.2.name, .tuple ((kd q.2.k).kinds.map .str), .int q.2.op, .int q.2.esc, .int (kd q.2.k).digit, .int (kd q.2.k).size, .int q.2.must, .bool (kd q.2.k).wide].all (plain 6)) = true
  simp only [List.all_cons, List.all_nil, Bool.and_true]
  rw [show plain 6 (.str q.2.name) = true from hr.name, show plain 6 (.tuple ((kd q.2.k).kinds.map .str)) = true from hk]
  rfl
theorem rows_var (I : SR rs r) : (run prg (n + 1)).e (.var 45) r σ = some (.list ((ix 0 rs).map fv), σ) := e_var I.h45
theorem made_var (I : SR rs r) : (run prg (n + 1)).e (.var 55) r σ = some (madeV rs, σ) := e_var I.h55
theorem test5 (O : RsOK rs) (H : NumOK rs σ) (I : SR rs r) (hw : r.w = none) {cs : List (Int × Int × Int)} (hs : sortV ((dd (rs.flatMap codes)).map codeV) = some (cs.map codeV)) (h53 : fget r.ρ 53 = some (.list (cs.map codeV))) :
    (run prg (n + 20)).e (.or [(.cmp .ne (.comp (.attr (.var 38) 8) 38 (.var 45) []) (.bif .list (.bif .range (.bif .len (.var 45))))), (.cmp .ne (.meth (.var 55) 37 []) (.var 53))]) r σ = some (.bool false, σ) := by
  refine e_or (or_cons (q := false) (q2 := false) (e_cmp (numbers_sound H (fun q h => h) (by have := ix_le O; omega) (rows_var I)) (tr_n hw (list_range O.len I.h45 hw)) (ne_refl (plain_nums _))) (or_one ?_))
  exact e_cmp (e_meth (made_var I) rfl ev_nil (c_codesL O hs)) (tr_n hw (e_var h53)) (ne_refl (plain_codes _))
theorem test6 (O : RsOK rs) (I : SR rs r) (hw : r.w = none) : (run prg (n + 20)).e (.cmp .ne (.meth (.var 55) 27 []) (.bif .tuple (.comp (.meth (.var 38) 27 []) 38 (.var 45) []))) r σ = some (.bool false, σ) := by
  refine e_cmp (e_meth (made_var I) rfl ev_nil (c_toldS O)) (tr_n hw (e_bif (tr_n hw (told_comp O (rows_var I))) (tup_of ?_))) (ne_refl (plain_told O))
  rw [List.length_map]; have := ix_le O; omega
noncomputable def nmB : List S := [(.asg 56 (.comp (.attr (.var 38) 8) 38 (.var 45) [(.cmp .eq (.attr (.var 38) 0) (.var 0))])), (.ife (.or [(.cmp .ne (.comp (.attr (.var 38) 8) 38 (.meth (.var 55) 57 [(.var 0)]) []) (.var 56)), (.cmp .ne (.meth (.var 55) 58 [(.var 0)]) (.cmp .ne (.var 56) (.lst []))), (.cmp .ne (.cmp .in_ (.var 0) (.meth (.var 55) 59 [])) (.cmp .ne (.var 56) (.lst [])))]) [(.ret (.cst (.bool false)))] []), (.ife (.cmp .ne (.meth (.var 55) 60 [(.var 0)]) (.comp (.var 61) 61 (.bif .range (.cst (.int 4))) [(.cmp .ne (.comp (.var 38) 38 (.var 45) [(.and [(.cmp .eq (.attr (.var 38) 0) (.var 0)), (.cmp .eq (.bif .len (.attr (.var 38) 1)) (.var 61))])]) (.lst []))])) [(.ret (.cst (.bool false)))] []), (.ife (.cmp .ne (.meth (.var 55) 62 [(.var 0)]) (.call 133 [(.var 45), (.var 0)])) [(.ret (.cst (.bool false)))] [])]
theorem uName_ix {k : List Nat} : ∀ q ∈ uName rs k, q ∈ ix 0 rs := fun q h => (List.mem_filter.mp h).1
theorem uName_nil {k : List Nat} : (uName rs k).isEmpty = !decide (k ∈ rs.map (·.name)) := by
  unfold uName
  generalize 0 = i
  induction rs generalizing i with
  | nil => rfl
  | cons a t ih =>
    simp only [ix, List.filter_cons, List.map_cons, List.mem_cons]
    by_cases h : a.name = k
    · simp [h]
    · have h' : ¬ k = a.name := fun e => h e.symm
      simp only [h, decide_false, h', false_or]
      exact ih (i + 1)
theorem ne_bools (b : Bool) : cmpV .ne (.bool b) (.bool b) = some (.bool false) := by cases b <;> rfl
theorem eq_ints (a b : Int) : cmpV .eq (.int a) (.int b) = some (.bool (decide (a = b))) := by
  show some (V.bool (a == b)) = _
  congr 2
theorem names_body (O : RsOK2 rs) (H : NumOK rs σ) (I : SR rs r) (hw : r.w = none) {nm : List Nat} (hn : nm ∈ NM4) (h0 : fget r.ρ 0 = some (.str nm)) : ∃ r2, (run prg (n + 24)).s nmB r σ = some (.next r2, σ) ∧ SR rs r2 ∧ r2.w = none ∧ ∀ y, y ≠ 56 → fget r2.ρ y = fget r.ρ y := by
  have hok := nm_ok nm hn
  have hix := ix_le O.toRsOK
  have hu := uName_len O.toRsOK nm
  have edue : (run prg (n + 23)).e (.comp (.attr (.var 38) 8) 38 (.var 45) [(.cmp .eq (.attr (.var 38) 0) (.var 0))]) r σ = some (.list ((uName rs nm).map numI), σ) :=
    e_comp (rows_var I) (items_list (by rw [List.length_map]; omega)) (compL_ifm fv numI (fun q => decide (q.2.name = nm)) (fun q hq => and_one (e_cmp (e_attr (v := .str q.2.name) (tr_n rfl (e_var (by rw [get_fput]; rfl))) rfl rfl) (tr_n rfl (e_var (by rw [get_fput]; exact h0))) (eq_str (O.row _ (ix_get rs 0 q hq).2.2).name hok)))
      (fun q hq _ => e_number (tr_n rfl (e_var (by rw [get_fput]; rfl))) (num_get H hq)))
  suffices hmain : (run prg (n + 24)).s nmB r σ = some (.next (r.set 56 (.list ((uName rs nm).map numI))), σ) from ⟨_, hmain, I.set (by decide) (by decide) (by decide), by rw [w_set, hw], fun y hy => by rw [get_set, if_neg hy]⟩
  unfold nmB
  refine s_asg edue ?_
  generalize hr1 : r.set 56 (.list ((uName rs nm).map numI)) = r1
  have I1 : SR rs r1 := hr1 ▸ I.set (by decide) (by decide) (by decide)
  have w1 : r1.w = none := by rw [← hr1, w_set, hw]
  have g0 : fget r1.ρ 0 = some (.str nm) := by rw [← hr1, get_set]; exact h0
  have g56 : fget r1.ρ 56 = some (.list ((uName rs nm).map numI)) := by rw [← hr1, get_set]; rfl
  have enn : ∀ k, (run prg (k + 2)).e (.cmp .ne (.var 56) (.lst [])) r1 σ = some (.bool (!(uName rs nm).isEmpty), σ) := fun k => e_cmp (e_var g56) (tr_n w1 (e_lst ev_nil rfl)) (ne_nil_nums _)
  obtain ⟨s, hs, _, hin⟩ := names_ok O
  have t2 : (run prg (n + 23)).e (.or [(.cmp .ne (.comp (.attr (.var 38) 8) 38 (.meth (.var 55) 57 [(.var 0)]) []) (.var 56)), (.cmp .ne (.meth (.var 55) 58 [(.var 0)]) (.cmp .ne (.var 56) (.lst []))), (.cmp .ne (.cmp .in_ (.var 0) (.meth (.var 55) 59 [])) (.cmp .ne (.var 56) (.lst [])))]) r1 σ = some (.bool false, σ) := by
    have a1 : (run prg (n + 22)).e (.cmp .ne (.comp (.attr (.var 38) 8) 38 (.meth (.var 55) 57 [(.var 0)]) []) (.var 56)) r1 σ = some (.bool false, σ) :=
      e_cmp (numbers_sound H uName_ix (by omega) (e_meth (made_var I1) rfl (ev_cons (e_var g0) ev_nil) (c_find O.toRsOK hok))) (tr_n w1 (e_var g56)) (ne_refl (plain_nums _))
    have a2 : (run prg (n + 22)).e (.cmp .ne (.meth (.var 55) 58 [(.var 0)]) (.cmp .ne (.var 56) (.lst []))) r1 σ = some (.bool false, σ) :=
      e_cmp (e_meth (made_var I1) rfl (ev_cons (e_var g0) ev_nil) (c_has O.toRsOK hok)) (tr_n w1 (enn (n + 19))) (ne_bools _)
    have b3 : (run prg (n + 21)).e (.cmp .in_ (.var 0) (.meth (.var 55) 59 [])) r1 σ = some (.bool (!(uName rs nm).isEmpty), σ) := by
      refine e_cmp (e_var g0) (tr_n w1 (e_meth (made_var I1) rfl ev_nil (c_names O.toRsOK hs))) ?_
      show (inV _ _).map _ = _
      rw [hin nm hn, uName_nil, Bool.not_not]; rfl
    have a3 : (run prg (n + 22)).e (.cmp .ne (.cmp .in_ (.var 0) (.meth (.var 55) 59 [])) (.cmp .ne (.var 56) (.lst []))) r1 σ = some (.bool false, σ) :=
      e_cmp b3 (tr_n w1 (enn (n + 19))) (ne_bools _)
    exact e_or (or_cons (q := false) (q2 := false) a1 (or_cons (q := false) (q2 := false) a2 (or_one a3)))
  obtain ⟨s3, hs3, hc3⟩ := counts_ok (l := (uName rs nm).map fun q => (kd q.2.k).kinds.length) (by rw [List.length_map]; exact hu) (fun x hx => by obtain ⟨q, _, rfl⟩ := List.mem_map.mp hx; exact kd_len _)
  have inner : ∀ m ∈ List.range 4, (run prg (n + 21)).e (.cmp .ne (.comp (.var 38) 38 (.var 45) [(.and [(.cmp .eq (.attr (.var 38) 0) (.var 0)), (.cmp .eq (.bif .len (.attr (.var 38) 1)) (.var 61))])]) (.lst [])) ⟨fput r1.ρ 61 (.int (.ofNat m)), none⟩ σ = some (.bool (((uName rs nm).map fun q => (kd q.2.k).kinds.length).contains m), σ) := by
    intro m hm
    have h45 : fget (fput r1.ρ 61 (.int (.ofNat m))) 45 = some (.list ((ix 0 rs).map fv)) := by rw [get_fput]; exact I1.h45
    have cnd : ∀ q ∈ ix 0 rs, andE (fun m' σ => (run prg (n + 19)).e m' ⟨fput (fput r1.ρ 61 (.int (.ofNat m))) 38 (fv q), none⟩ σ) [(.and [(.cmp .eq (.attr (.var 38) 0) (.var 0)), (.cmp .eq (.bif .len (.attr (.var 38) 1)) (.var 61))])] σ = some (.bool (decide (q.2.name = nm) && decide ((kd q.2.k).kinds.length = m)), σ) := by
      intro q hq
      have f38 : fget (fput (fput r1.ρ 61 (.int (.ofNat m))) 38 (fv q)) 38 = some (fv q) := by rw [get_fput]; rfl
      have f0 : fget (fput (fput r1.ρ 61 (.int (.ofNat m))) 38 (fv q)) 0 = some (.str nm) := by rw [get_fput, get_fput]; exact g0
      have f61 : fget (fput (fput r1.ρ 61 (.int (.ofNat m))) 38 (fv q)) 61 = some (.int (.ofNat m)) := by rw [get_fput, get_fput]; rfl
      have c1 : (run prg (n + 18)).e (.cmp .eq (.attr (.var 38) 0) (.var 0)) ⟨fput (fput r1.ρ 61 (.int (.ofNat m))) 38 (fv q), none⟩ σ = some (.bool (decide (q.2.name = nm)), σ) :=
        e_cmp (e_attr (v := .str q.2.name) (tr_n rfl (e_var f38)) rfl rfl) (tr_n rfl (e_var f0)) (eq_str (O.row _ (ix_get rs 0 q hq).2.2).name hok)
      have hkl := kd_len q.2.k
      have cl : (run prg (n + 17)).e (.bif .len (.attr (.var 38) 1)) ⟨fput (fput r1.ρ 61 (.int (.ofNat m))) 38 (fv q), none⟩ σ = some (.int (.ofNat (kd q.2.k).kinds.length), σ) := by
        refine e_bif (tr_n rfl (e_kinds (q := q) (e_var f38) (fun _ _ y u e => nomatch e))) ?_
        exact (len_tup (by rw [List.length_map]; omega)).trans (by rw [List.length_map])
      have c2 : (run prg (n + 18)).e (.cmp .eq (.bif .len (.attr (.var 38) 1)) (.var 61)) ⟨fput (fput r1.ρ 61 (.int (.ofNat m))) 38 (fv q), none⟩ σ = some (.bool (decide ((kd q.2.k).kinds.length = m)), σ) :=
        e_cmp cl (tr_n rfl (e_var f61)) (by rw [eq_ints]; congr 3; exact propext ⟨fun h => Int.ofNat.inj h, fun h => by rw [h]⟩)
      exact and_one (e_and (and_cons c1 (and_one c2)))
    have ec := e_comp (n := n + 19) (r := ⟨fput r1.ρ 61 (.int (.ofNat m)), none⟩) (e_var h45) (items_list (by rw [List.length_map]; omega)) (compL_ifm (elt := .var 38) fv fv _ cnd (fun q hq _ => e_var (by rw [get_fput]; rfl)))
    have e0 : tr (run prg (n + 20)).e (.lst []) ⟨fput r1.ρ 61 (.int (.ofNat m)), none⟩ σ = some (.list [], σ) := tr_n rfl (e_lst ev_nil rfl)
    rw [e_cmp (op := .ne) ec e0 (ne_nil_forms _)]
    congr 3
    clear ec cnd h45
    unfold uName
    generalize ix 0 rs = L
    induction L with
    | nil => rfl
    | cons a t ih =>
      simp only [List.filter_cons]
      by_cases h1 : a.2.name = nm
      · by_cases h2 : (kd a.2.k).kinds.length = m
        · simp [h1, h2]
        · have h2' : ¬ m = (kd a.2.k).kinds.length := fun e => h2 e.symm
          simp only [h1, h2, decide_true, decide_false, Bool.and_false, if_true, List.map_cons, List.contains_cons]
          rw [beq_eq_false_iff_ne.mpr h2', Bool.false_or]
          exact ih
      · simp only [h1, decide_false, Bool.false_and]
        exact ih
  have ecnt : (run prg (n + 22)).e (.comp (.var 61) 61 (.bif .range (.cst (.int 4))) [(.cmp .ne (.comp (.var 38) 38 (.var 45) [(.and [(.cmp .eq (.attr (.var 38) 0) (.var 0)), (.cmp .eq (.bif .len (.attr (.var 38) 1)) (.var 61))])]) (.lst []))]) r1 σ = some (.list (((List.range 4).filter fun m => ((uName rs nm).map fun q => (kd q.2.k).kinds.length).contains m).map fun m => .int (.ofNat m)), σ) := by
    have hr : (run prg (n + 21)).e (.bif .range (.cst (.int 4))) r1 σ = some (.rng 4, σ) := e_bif (tr_o (fun _ => by simp) e_cst) rfl
    have hi : items (.rng 4) = some ((List.range 4).map fun m => V.int (.ofNat m)) := by kernel_rfl
    exact e_comp hr hi (compL_ifm (fun m => .int (.ofNat m)) (fun m => .int (.ofNat m)) _ (fun m hm => and_one (inner m hm)) (fun m hm _ => e_var (by rw [get_fput]; rfl)))
  have t3 : (run prg (n + 23)).e (.cmp .ne (.meth (.var 55) 60 [(.var 0)]) (.comp (.var 61) 61 (.bif .range (.cst (.int 4))) [(.cmp .ne (.comp (.var 38) 38 (.var 45) [(.and [(.cmp .eq (.attr (.var 38) 0) (.var 0)), (.cmp .eq (.bif .len (.attr (.var 38) 1)) (.var 61))])]) (.lst []))])) r1 σ = some (.bool false, σ) :=
    e_cmp (e_meth (made_var I1) rfl (ev_cons (e_var g0) ev_nil) (c_counts O.toRsOK hok (s := s3) (by rw [← hs3, List.map_map]; rfl))) (tr_n w1 ecnt) hc3
  obtain ⟨ds, hds⟩ := p_sorts (ds := dd (memsOf (uName rs nm))) (by have h1 := dd_len (memsOf (uName rs nm)); have h2 := memsOf_len (uName rs nm); omega) (fun d hd => memsOf_bnd _ d (dd_mem.mp hd))
  have t4 : (run prg (n + 23)).e (.cmp .ne (.meth (.var 55) 62 [(.var 0)]) (.call 133 [(.var 45), (.var 0)])) r1 σ = some (.bool false, σ) :=
    e_cmp (e_meth (made_var I1) rfl (ev_cons (e_var g0) ev_nil) (c_msizes (n := n + 1) O.toRsOK hok hds)) (tr_n w1 (e_call (ev_cons (rows_var I1) (ev_cons (e_var g0) ev_nil)) (c_lsizes (n := n + 3) O.toRsOK hok hds))) (ne_refl (plain_ints _))
  exact s_no t2 (s_no t3 (s_no t4 s_nil))
end
end Mine.Pl
namespace Mine.Pl
section
variable {n : Nat} {r r' : Rho} {σ σ' σ1 σ2 : Nums} {u v z : V} {x : Nat} {rs : List Row}
noncomputable abbrev Code := Int × Int × Int
noncomputable def natV (m : Nat) : V := .int (.ofNat m)
theorem ints_range (n : Nat) : intsFrom 0 n = (List.range n).map natV := by
  have : ∀ (n a : Nat), intsFrom a n = (List.range' a n).map natV := by
    intro n
    induction n with
    | zero => intro a; rfl
    | succ n ih => intro a; simp only [intsFrom, List.range', List.map_cons, ih]; rfl
  rw [this, List.range_eq_range']
theorem items_rng {n : Nat} (h : n ≤ 1000) : items (.rng n) = some ((List.range n).map natV) := by
  exact (oIe (Nat.ble_eq.mpr h)).trans (congrArg some (ints_range n))
theorem range_of {m : Nat} (h : m ≤ 1000) : bifV .range (natV m) = some (.rng m) := by
  exact oIe (Nat.ble_eq.mpr h)
theorem len_ofL {vs : List V} (h : vs.length ≤ 1000) : bifV .len (.list vs) = some (natV vs.length) := by
  exact oIe (small_of h)
theorem e_get1 {a b : M} {vs : List V} {i : Nat} {w : V} (ha : (run prg n).e a r σ = some (.list vs, σ)) (hb : (run prg n).e b r σ = some (natV i, σ)) (h : vs.length ≤ 1000) (hw : vs[i]? = some w) : (run prg (n + 1)).e (.idx a b) r σ = some (w, σ) :=
  e_idx ha hb (idx_list h hw)
noncomputable def meetK (a b : Nat × Row) : Bool := meetP (kd a.2.k) (kd b.2.k) [0, 1] [0, 1]
noncomputable def tupV (a b : Nat × Row) (c : Code) : V := .tuple [.str a.2.name, .str b.2.name, codeV c]
noncomputable def dq : Nat × Row := (0, ⟨[], 0, 0, 0, 0⟩)
noncomputable def stLo (b : Bool) (us : List (Nat × Row)) (c : Code) (hi : Nat) (acc : List V) (lo : Nat) : List V := if (b && meetK (us.getD lo dq) (us.getD hi dq)) = true then acc ++ [tupV (us.getD lo dq) (us.getD hi dq) c] else acc
noncomputable def stHi (b : Bool) (us : List (Nat × Row)) (c : Code) (acc : List V) (hi : Nat) : List V := (List.range hi).foldl (stLo b us c hi) acc
noncomputable def c144 : Code := (0, 0, 144)
noncomputable def stC (rs : List Row) (acc : List V) (c : Code) : List V := (List.range (uCode rs c).length).foldl (stHi (!decide (c = c144)) (uCode rs c) c) acc
noncomputable def loB : List S := [(.asgT [33, 25] (.tup [(.idx (.var 45) (.idx (.var 64) (.var 66))), (.idx (.var 45) (.idx (.var 64) (.var 65)))])), (.ife (.and [(.cmp .ne (.var 15) (.tup [(.cst (.int 0)), (.cst (.int 0)), (.cst (.int 144))])), (.call 132 [(.var 33), (.var 25), (.tup [(.cst (.int 0)), (.cst (.int 1))]), (.tup [(.cst (.int 0)), (.cst (.int 1))])])]) [(.app 63 (.tup [(.attr (.var 33) 0), (.attr (.var 25) 0), (.var 15)]))] [])]
noncomputable def hiB : List S := [(.forI 66 (.bif .range (.var 65)) loB)]
noncomputable def codeB : List S := [(.asg 64 (.comp (.var 47) 47 (.bif .range (.bif .len (.var 45))) [(.cmp .in_ (.var 15) (.idx (.var 52) (.var 47)))])), (.ife (.cmp .ne (.comp (.attr (.var 38) 8) 38 (.meth (.var 55) 47 [(.idx (.var 15) (.cst (.int 0))), (.idx (.var 15) (.cst (.int 1))), (.idx (.var 15) (.cst (.int 2)))]) []) (.var 64)) [(.ret (.cst (.bool false)))] []), (.forI 65 (.bif .range (.bif .len (.var 64))) hiB)]
structure ClI (rs : List Row) (c : Code) (us : List (Nat × Row)) (m : Nat) (acc : List V) (r : Rho) : Prop where
  sr : SR rs r
  h15 : fget r.ρ 15 = some (codeV c)
  h64 : fget r.ρ 64 = some (.list (us.map numI))
  w : r.w = some (63, .list acc)
  len : acc.length ≤ m
theorem ClI.set {c : Code} {us : List (Nat × Row)} {m : Nat} {acc : List V} (I : ClI rs c us m acc r) (h : x ∉ [45, 55, 52, 15, 64, 63]) : ClI rs c us m acc (r.set x v) := by
  simp only [List.mem_cons, List.not_mem_nil, or_false, not_or] at h
  obtain ⟨h1, h2, h3, h4, h5, h6⟩ := h
  exact ⟨I.sr.set h1 h2 h3, by rw [get_set, if_neg (Ne.symm h4)]; exact I.h15, by rw [get_set, if_neg (Ne.symm h5)]; exact I.h64, set_w I.w (Ne.symm h6), I.len⟩
theorem row_at (O : RsOK rs) {us : List (Nat × Row)} (hu : ∀ q ∈ us, q ∈ ix 0 rs) (hul : us.length ≤ 4) {c : Code} {m i : Nat} {acc : List V} (I : ClI rs c us m acc r) {b : M} (hb : (run prg (n + 1)).e b r σ = some (natV i, σ)) (hi : i < us.length) : (run prg (n + 3)).e (.idx (.var 45) (.idx (.var 64) b)) r σ = some (fv (us.getD i dq), σ) := by
  have hg : us[i]? = some (us.getD i dq) := by rw [List.getD_eq_getElem?_getD, List.getElem?_eq_getElem hi]; rfl
  have hm := hu _ (List.mem_of_getElem? hg)
  have h2 := (ix_get rs 0 _ hm).2.1
  rw [Nat.sub_zero] at h2
  have hl := ix_le O
  refine e_get1 (rows_var I.sr) (i := (us.getD i dq).1) (e_get1 (e_var I.h64) hb (by rw [List.length_map]; omega) ?_) (by rw [List.length_map]; omega) ?_
  · rw [List.getElem?_map, hg]; rfl
  · rw [List.getElem?_map, h2]; rfl
theorem ne_code (c : Code) : cmpV .ne (codeV c) (.tuple [.int 0, .int 0, .int 144]) = some (.bool (!decide (c = c144))) := by
  show o1 (eqV (codeV c) (codeV c144)) (fun b => some (V.bool (!b))) = _
  exact o1e ((oCt rfl).trans (congrArg some (codeV_eq c c144)))
theorem eq_code (c : Code) : cmpV .eq (codeV c) (.tuple [.int 0, .int 0, .int 144]) = some (.bool (decide (c = c144))) := by
  show o1 (eqV (codeV c) (codeV c144)) (fun b => some (V.bool b)) = _
  exact o1e ((oCt rfl).trans (congrArg some (codeV_eq c c144)))
theorem lo_step (O : RsOK rs) {us : List (Nat × Row)} (hu : ∀ q ∈ us, q ∈ ix 0 rs) (hul : us.length ≤ 4) {c : Code} {m lo hi : Nat} {acc : List V} (I : ClI rs c us m acc r) (h65 : fget r.ρ 65 = some (natV hi)) (h66 : fget r.ρ 66 = some (natV lo)) (hlo : lo < us.length) (hhi : hi < us.length) (hm : m ≤ 900) :
    ∃ r2, (run prg (n + 24)).s loB r σ = some (.next r2, σ) ∧ ClI rs c us (m + 1) (stLo (!decide (c = c144)) us c hi acc lo) r2 ∧ fget r2.ρ 65 = some (natV hi) := by
  have mem : ∀ i, i < us.length → us.getD i dq ∈ ix 0 rs := fun i hi => by
    have hg : us[i]? = some (us.getD i dq) := by rw [List.getD_eq_getElem?_getD, List.getElem?_eq_getElem hi]; rfl
    exact hu _ (List.mem_of_getElem? hg)
  have ka := (O.row _ (ix_get rs 0 _ (mem lo hlo)).2.2)
  have kb := (O.row _ (ix_get rs 0 _ (mem hi hhi)).2.2)
  have e1 := row_at (n := n + 19) (σ := σ) O hu hul I (e_var h66) hlo
  have e2 := row_at (n := n + 19) (σ := σ) O hu hul I (e_var h65) hhi
  generalize hqa : us.getD lo dq = qa at e1 ka
  generalize hqb : us.getD hi dq = qb at e2 kb
  have et : (run prg (n + 23)).e (.tup [(.idx (.var 45) (.idx (.var 64) (.var 66))), (.idx (.var 45) (.idx (.var 64) (.var 65)))]) r σ = some (.tuple [fv qa, fv qb], σ) := e_tup (ev_cons e1 (ev_cons e2 ev_nil)) rfl
  have I1 : ClI rs c us m acc ((r.set 33 (fv qa)).set 25 (fv qb)) := (I.set (by decide)).set (by decide)
  have f33 : fget ((r.set 33 (fv qa)).set 25 (fv qb)).ρ 33 = some (fv qa) := by rw [get_set, get_set]; rfl
  have f25 : fget ((r.set 33 (fv qa)).set 25 (fv qb)).ρ 25 = some (fv qb) := by rw [get_set]; rfl
  have f65 : fget ((r.set 33 (fv qa)).set 25 (fv qb)).ρ 65 = some (natV hi) := by rw [get_set, get_set]; exact h65
  have hb : bindT [33, 25] (.tuple [fv qa, fv qb]) r = some ((r.set 33 (fv qa)).set 25 (fv qb)) := rfl
  generalize (r.set 33 (fv qa)).set 25 (fv qb) = r1 at I1 f33 f25 f65 hb
  have a1 : (run prg (n + 22)).e (.cmp .ne (.var 15) (.tup [(.cst (.int 0)), (.cst (.int 0)), (.cst (.int 144))])) r1 σ = some (.bool (!decide (c = c144)), σ) := e_cmp (e_var I1.h15) (tr_o (fun _ => by simp) (e_tup (ev_cons e_cst (ev_cons e_cst (ev_cons e_cst ev_nil))) rfl)) (ne_code c)
  have ezz : (run prg (n + 21)).e (.tup [(.cst (.int 0)), (.cst (.int 1))]) r1 σ = some (m01, σ) := e_tup (ev_cons e_cst (ev_cons e_cst ev_nil)) rfl
  have a2 : (run prg (n + 22)).e (.call 132 [(.var 33), (.var 25), (.tup [(.cst (.int 0)), (.cst (.int 1))]), (.tup [(.cst (.int 0)), (.cst (.int 1))])]) r1 σ = some (.bool (meetK qa qb), σ) :=
    e_call (ev_cons (e_var f33) (ev_cons (e_var f25) (ev_cons ezz (ev_cons ezz ev_nil)))) (c_meet (n := n + 4) ka.k kb.k)
  have hc := e_and (and_cons a1 (and_one a2))
  have no63 : ∀ y u, r1.w = some (y, u) → y = 63 := fun y u e => by rw [I1.w] at e; cases e; rfl
  unfold loB
  by_cases h : (!decide (c = c144) && meetK qa qb) = true
  · refine ⟨⟨r1.ρ, some (63, .list (acc ++ [tupV qa qb c]))⟩, s_asgT et hb (s_ife hc (by
      rw [h]
      refine s_app (n := n + 22) (e_tup (ev_cons (e_attr (v := .str qa.2.name) (tr_e (fun x hx y u e => by cases hx; rw [no63 y u e]; decide) (e_var f33)) rfl rfl) (ev_cons (e_attr (v := .str qb.2.name) (tr_e (fun x hx y u e => by cases hx; rw [no63 y u e]; decide) (e_var f25)) rfl rfl) (ev_cons (e_var I1.h15) ev_nil))) rfl) I1.w (small_of (by have := I1.len; omega)) s_nil) s_nil), ⟨I1.sr.same rfl, I1.h15, I1.h64, ?_, ?_⟩, f65⟩
    · unfold stLo; rw [hqa, hqb, h, if_pos rfl]
    · have := I1.len; unfold stLo; rw [hqa, hqb, h, if_pos rfl]; simp; omega
  · have h' : (!decide (c = c144) && meetK qa qb) = false := by simpa using h
    refine ⟨r1, s_asgT et hb (s_ife hc (by rw [h']; exact s_nil) s_nil), ⟨I1.sr, I1.h15, I1.h64, ?_, ?_⟩, f65⟩
    · unfold stLo; rw [hqa, hqb, h', if_neg (by simp)]; exact I1.w
    · have := I1.len; unfold stLo; rw [hqa, hqb, h', if_neg (by simp)]; omega
theorem hi_step (O : RsOK rs) {us : List (Nat × Row)} (hu : ∀ q ∈ us, q ∈ ix 0 rs) (hul : us.length ≤ 4) {c : Code} {m hi : Nat} {acc : List V} (I : ClI rs c us m acc r) (h65 : fget r.ρ 65 = some (natV hi)) (hhi : hi < us.length) (hm : m ≤ 890) :
    ∃ r2, (run prg (n + 25)).s hiB r σ = some (.next r2, σ) ∧ ClI rs c us (m + 4) (stHi (!decide (c = c144)) us c acc hi) r2 := by
  obtain ⟨r2, e, h1, h2⟩ := forL_fold (x := 66) (σ := σ) (r := r) (m := m) (b := acc) (body := fun r σ => (run prg (n + 24)).s loB r σ) natV (stLo (!decide (c = c144)) us c hi) (fun m acc r => ClI rs c us m acc r ∧ fget r.ρ 65 = some (natV hi)) 1 (m + 4) (List.range hi) (by rw [List.length_range]; omega) (fun lo hlo m' b r hle hI => by
    obtain ⟨i1, i2⟩ := hI
    have hlo := List.mem_range.mp hlo
    obtain ⟨r2, e, I3, h3⟩ := lo_step (n := n) (σ := σ) O hu hul (i1.set (x := 66) (v := natV lo) (by decide)) (by rw [get_set]; exact i2) (by rw [get_set]; rfl) (by omega) hhi (by omega)
    exact ⟨r2, .inl e, I3, h3⟩) ⟨I, h65⟩
  rw [List.length_range] at h1
  refine ⟨r2, s_forI (e_bif (tr_e (fun x hx y u e => by cases hx; rw [I.w] at e; cases e; decide) (e_var h65)) (range_of (by omega))) (items_rng (by omega)) e s_nil, ⟨h1.sr, h1.h15, h1.h64, h1.w, by have := h1.len; unfold stHi; omega⟩⟩
theorem uCode_ix {c : Code} : ∀ q ∈ uCode rs c, q ∈ ix 0 rs := fun q h => (List.mem_filter.mp h).1
theorem code_step (O : RsOK rs) (H : NumOK rs σ) {c : Code} {m : Nat} {acc : List V} (I : SR rs r) (h15 : fget r.ρ 15 = some (codeV c)) (hw : r.w = some (63, .list acc)) (hl : acc.length ≤ m) (hm : m ≤ 870) :
    ∃ r2, (run prg (n + 26)).s codeB r σ = some (.next r2, σ) ∧ SR rs r2 ∧ r2.w = some (63, .list (stC rs acc c)) ∧ (stC rs acc c).length ≤ m + 16 := by
  have hix := ix_le O
  have hil := ix_len rs 0
  have hul := uCode_len O c
  have no : ∀ x, x ≠ 63 → ∀ y u, r.w = some (y, u) → y ≠ x := fun x hx y u e => by rw [hw] at e; cases e; exact Ne.symm hx
  have er : (run prg (n + 24)).e (.bif .range (.bif .len (.var 45))) r σ = some (.rng rs.length, σ) := by
    refine e_bif (tr_o (fun _ => by simp) (e_bif (tr_e (fun x hx => by cases hx; exact no 45 (by decide)) (rows_var I)) (len_ofL (by rw [List.length_map]; omega)))) ?_
    rw [List.length_map, hil]; exact range_of (by have := O.len; omega)
  have hi : items (.rng rs.length) = some ((ix 0 rs).map numI) := by
    have := O.len
    exact (items_rng0 (by omega)).trans (congrArg some (ints_ix rs 0))
  have eu : (run prg (n + 25)).e (.comp (.var 47) 47 (.bif .range (.bif .len (.var 45))) [(.cmp .in_ (.var 15) (.idx (.var 52) (.var 47)))]) r σ = some (.list ((uCode rs c).map numI), σ) := by
    refine e_comp er hi (compL_ifm numI numI (fun q => decide (c ∈ codes q.2)) (fun q hq => and_one ?_) (fun q hq _ => e_var (by rw [get_fput]; rfl)))
    have f47 : fget (fput r.ρ 47 (numI q)) 47 = some (natV q.1) := by rw [get_fput]; rfl
    have f52 : fget (fput r.ρ 47 (numI q)) 52 = some (.list ((ix 0 rs).map spV)) := by rw [get_fput]; exact I.h52
    have f15 : fget (fput r.ρ 47 (numI q)) 15 = some (codeV c) := by rw [get_fput]; exact h15
    have h2 := (ix_get rs 0 q hq).2.1
    rw [Nat.sub_zero] at h2
    have ei : (run prg (n + 23)).e (.idx (.var 52) (.var 47)) ⟨fput r.ρ 47 (numI q), none⟩ σ = some (spV q, σ) := e_get1 (e_var f52) (e_var f47) (by rw [List.length_map]; omega) (by rw [List.getElem?_map, h2]; rfl)
    have hc := codes_len q.2
    exact e_cmp (e_var f15) (tr_n rfl ei) (by unfold spV; exact o1e (in_codes c (by omega)))
  unfold codeB
  suffices hmain : ∃ r2, (run prg (n + 26)).s [(.ife (.cmp .ne (.comp (.attr (.var 38) 8) 38 (.meth (.var 55) 47 [(.idx (.var 15) (.cst (.int 0))), (.idx (.var 15) (.cst (.int 1))), (.idx (.var 15) (.cst (.int 2)))]) []) (.var 64)) [(.ret (.cst (.bool false)))] []), (.forI 65 (.bif .range (.bif .len (.var 64))) hiB)] (r.set 64 (.list ((uCode rs c).map numI))) σ = some (.next r2, σ) ∧ SR rs r2 ∧ r2.w = some (63, .list (stC rs acc c)) ∧ (stC rs acc c).length ≤ m + 16 by
    obtain ⟨r2, e, rest⟩ := hmain
    exact ⟨r2, s_asg eu e, rest⟩
  have I1 : ClI rs c (uCode rs c) m acc (r.set 64 (.list ((uCode rs c).map numI))) := ⟨I.set (by decide) (by decide) (by decide), by rw [get_set]; exact h15, by rw [get_set]; rfl, set_w hw (by decide), hl⟩
  generalize r.set 64 (.list ((uCode rs c).map numI)) = r1 at I1
  have no1 : ∀ x, x ≠ 63 → ∀ y u, r1.w = some (y, u) → y ≠ x := fun x hx y u e => by rw [I1.w] at e; cases e; exact Ne.symm hx
  obtain ⟨k1, k2, k3⟩ := c
  have ec : ∀ (i : Nat) (w : Int), ([.int k1, .int k2, .int k3] : List V)[i]? = some (.int w) → (run prg (n + 22)).e (.idx (.var 15) (.cst (.int (.ofNat i)))) r1 σ = some (.int w, σ) := fun i w hw =>
    e_idx (e_var I1.h15) e_cst ((oIe (show small ([.int k1, .int k2, .int k3] : List V) = true from rfl)).trans hw)
  have em : (run prg (n + 23)).e (.meth (.var 55) 47 [(.idx (.var 15) (.cst (.int 0))), (.idx (.var 15) (.cst (.int 1))), (.idx (.var 15) (.cst (.int 2)))]) r1 σ = some (.list ((uCode rs (k1, k2, k3)).map fv), σ) :=
    e_meth (made_var I1.sr) rfl (ev_cons (ec 0 k1 rfl) (ev_cons (ec 1 k2 rfl) (ev_cons (ec 2 k3 rfl) ev_nil))) (c_at (n := n + 14) O k1 k2 k3)
  have en : (run prg (n + 24)).e (.comp (.attr (.var 38) 8) 38 (.meth (.var 55) 47 [(.idx (.var 15) (.cst (.int 0))), (.idx (.var 15) (.cst (.int 1))), (.idx (.var 15) (.cst (.int 2)))]) []) r1 σ = some (.list ((uCode rs (k1, k2, k3)).map numI), σ) :=
    numbers_sound (n := n + 21) H uCode_ix (by omega) em
  have et : (run prg (n + 25)).e (.cmp .ne (.comp (.attr (.var 38) 8) 38 (.meth (.var 55) 47 [(.idx (.var 15) (.cst (.int 0))), (.idx (.var 15) (.cst (.int 1))), (.idx (.var 15) (.cst (.int 2)))]) []) (.var 64)) r1 σ = some (.bool false, σ) :=
    e_cmp en (tr_e (fun x hx => by cases hx; exact no1 64 (by decide)) (e_var I1.h64)) (ne_refl (plain_nums _))
  obtain ⟨r2, e, h1⟩ := forL_fold (x := 65) (σ := σ) (r := r1) (m := m) (b := acc) (body := fun r σ => (run prg (n + 25)).s hiB r σ) natV (stHi (!decide ((k1, k2, k3) = c144)) (uCode rs (k1, k2, k3)) (k1, k2, k3)) (fun m acc r => ClI rs (k1, k2, k3) (uCode rs (k1, k2, k3)) m acc r) 4 (m + 16) (List.range (uCode rs (k1, k2, k3)).length) (by rw [List.length_range]; omega) (fun hi hhi m' b r hle hI => by
    have hhi := List.mem_range.mp hhi
    obtain ⟨r2, e, I3⟩ := hi_step (n := n) (σ := σ) O uCode_ix hul (hI.set (x := 65) (v := natV hi) (by decide)) (by rw [get_set]; rfl) hhi (by omega)
    exact ⟨r2, .inl e, I3⟩) I1
  rw [List.length_range] at h1
  have el : (run prg (n + 25)).e (.bif .range (.bif .len (.var 64))) r1 σ = some (.rng (uCode rs (k1, k2, k3)).length, σ) := by
    refine e_bif (tr_o (fun _ => by simp) (e_bif (tr_e (fun x hx => by cases hx; exact no1 64 (by decide)) (e_var I1.h64)) (len_ofL (by rw [List.length_map]; omega)))) ?_
    rw [List.length_map]; exact range_of (by omega)
  exact ⟨r2, s_no et (s_forI el (items_rng (by omega)) e s_nil), h1.sr, h1.w, by have := h1.len; unfold stC; omega⟩
end
end Mine.Pl
namespace Mine.Pl
section
variable {n : Nat} {r r' : Rho} {σ σ' σ1 σ2 : Nums} {u v z : V} {x : Nat} {rs : List Row}
noncomputable def clB3 : List S := [(.asgT [31, 41] (.call 114 [(.idx (.var 38) (.var 40))])), (.asgT [21, 42] (.call 114 [(.idx (.var 38) (.var 39))])), (.ife (.or [(.not (.bif .any (.comp (.cmp .in_ (.var 4) (.var 21)) 4 (.var 31) []))), (.not (.bif .any (.comp (.cmp .in_ (.var 43) (.var 42)) 43 (.var 41) [])))]) [.cont] []), (.ife (.call 115 [(.idx (.var 38) (.var 40)), (.idx (.var 38) (.var 39))]) [(.app 24 (.tup [(.attr (.idx (.var 38) (.var 40)) 0), (.attr (.idx (.var 38) (.var 39)) 0), (.var 15)]))] [])]
noncomputable def clB2 : List S := [(.forI 40 (.bif .range (.var 39)) clB3)]
noncomputable def clB1 : List S := [(.ife (.cmp .eq (.var 15) (.tup [(.cst (.int 0)), (.cst (.int 0)), (.cst (.int 144))])) [.cont] []), (.asg 38 (.idx (.attr (.var 36) 12) (.var 15))), (.forI 39 (.bif .range (.bif .len (.var 38))) clB2)]
theorem s_cont {n : Nat} {c : M} {rest : List S} (h : (run prg (n + 1)).e c r σ = some (.bool true, σ1)) : (run prg (n + 2)).s (.ife c [.cont] [] :: rest) r σ = some (.cont r, σ1) := by
  exact (oPe (u := Fl.cont r) (s := σ1) ((oPe h).trans rfl)).trans rfl
structure CkI (rs : List Row) (c : Code) (us : List (Nat × Row)) (m : Nat) (acc : List V) (r : Rho) : Prop where
  h36 : fget r.ρ 36 = some (madeV rs)
  h15 : fget r.ρ 15 = some (codeV c)
  h38 : fget r.ρ 38 = some (.list (us.map fv))
  w : r.w = some (24, .list acc)
  len : acc.length ≤ m
theorem CkI.set {c : Code} {us : List (Nat × Row)} {m : Nat} {acc : List V} (I : CkI rs c us m acc r) (h : x ∉ [36, 15, 38, 24]) : CkI rs c us m acc (r.set x v) := by
  simp only [List.mem_cons, List.not_mem_nil, or_false, not_or] at h
  obtain ⟨h1, h2, h3, h4⟩ := h
  exact ⟨by rw [get_set, if_neg (Ne.symm h1)]; exact I.h36, by rw [get_set, if_neg (Ne.symm h2)]; exact I.h15, by rw [get_set, if_neg (Ne.symm h3)]; exact I.h38, set_w I.w (Ne.symm h4), I.len⟩
theorem any_ints (f : Int → Bool) : ∀ l : List Int, anyB (l.map fun d => V.bool (f d)) = some (l.any f)
  | [] => rfl
  | a :: t => by simp only [List.map_cons, anyB, any_ints f t, List.any_cons]; rfl
theorem kd_dlen {k : Nat} (h : k < 18) : (kd k).digits.length ≤ 8 ∧ (kd k).mods.length ≤ 8 :=
  by_k (P := fun k => (kd k).digits.length ≤ 8 ∧ (kd k).mods.length ≤ 8) (by decide) (by decide) (by decide) (by decide) (by decide) (by decide) (by decide) (by decide) (by decide) (by decide) (by decide) (by decide) (by decide) (by decide) (by decide) (by decide) (by decide) (by decide) k h
theorem any_meet {y yo yl : Nat} {da db : List Int} (ha : da.length ≤ 8) (hb : db.length ≤ 8) (h1 : fget r.ρ yl = some (.list (da.map .int))) (h2 : fget r.ρ yo = some (.list (db.map .int))) (hne : yo ≠ y) :
    (run prg (n + 4)).e (.bif .any (.comp (.cmp .in_ (.var y) (.var yo)) y (.var yl) [])) r σ = some (.bool (da.any fun d => db.contains d), σ) := by
  have hc : compL (run prg (n + 2)).e (.cmp .in_ (.var y) (.var yo)) y [] r.ρ (da.map .int) σ = some (da.map fun d => V.bool (db.contains d), σ) := compL_mapm V.int (fun d => V.bool (db.contains d)) fun d _ => by
    have e1 : (run prg (n + 1)).e (.var y) ⟨fput r.ρ y (.int d), none⟩ σ = some (.int d, σ) := e_var (by rw [get_fput, if_pos rfl])
    have e2 : (run prg (n + 1)).e (.var yo) ⟨fput r.ρ y (.int d), none⟩ σ = some (.list (db.map .int), σ) := e_var (by rw [get_fput, if_neg hne]; exact h2)
    refine e_cmp e1 (tr_n rfl e2) ?_
    refine (o1e (in_ints d (by omega))).trans ?_
    simp
  refine e_bif (tr_o (fun _ => by simp) (e_comp (e_var h1) (items_list (by rw [List.length_map]; omega)) hc)) ?_
  exact (oIe (small_of (by rw [List.length_map]; omega))).trans (o1e (any_ints ..))
theorem clash_eq {a b : Nat × Row} (ha : a.2.k < 18) (hb : b.2.k < 18) : clashP (kd a.2.k) (kd b.2.k) = meetK a b := by
  have h := clash_meet
  rw [List.all_eq_true] at h
  have h2 := h a.2.k (List.mem_range.mpr ha)
  rw [List.all_eq_true] at h2
  exact beq_iff_eq.mp (h2 b.2.k (List.mem_range.mpr hb))
theorem cl_lo (O : RsOK rs) {us : List (Nat × Row)} (hu : ∀ q ∈ us, q ∈ ix 0 rs) (hul : us.length ≤ 4) {c : Code} {m lo hi : Nat} {acc : List V} (I : CkI rs c us m acc r) (h39 : fget r.ρ 39 = some (natV hi)) (h40 : fget r.ρ 40 = some (natV lo)) (hlo : lo < us.length) (hhi : hi < us.length) (hm : m ≤ 900) :
    ∃ r2, ((run prg (n + 18)).s clB3 r σ = some (.next r2, σ) ∨ (run prg (n + 18)).s clB3 r σ = some (.cont r2, σ)) ∧ CkI rs c us (m + 1) (stLo true us c hi acc lo) r2 ∧ fget r2.ρ 39 = some (natV hi) := by
  have at' : ∀ i, i < us.length → us[i]? = some (us.getD i dq) := fun i hi => by rw [List.getD_eq_getElem?_getD, List.getElem?_eq_getElem hi]; rfl
  have mem : ∀ i, i < us.length → us.getD i dq ∈ ix 0 rs := fun i hi => hu _ (List.mem_of_getElem? (at' i hi))
  have ka := (O.row _ (ix_get rs 0 _ (mem lo hlo)).2.2).k
  have kb := (O.row _ (ix_get rs 0 _ (mem hi hhi)).2.2).k
  have ea : ∀ (k i y : Nat) (r : Rho), fget r.ρ 38 = some (.list (us.map fv)) → fget r.ρ y = some (natV i) → i < us.length → (run prg (k + 2)).e (.idx (.var 38) (.var y)) r σ = some (fv (us.getD i dq), σ) := fun k i y r h1 h2 h3 =>
    e_get1 (e_var h1) (e_var h2) (by rw [List.length_map]; omega) (by rw [List.getElem?_map, at' i h3]; rfl)
  have pt : ∀ (k : Nat) (q : Nat × Row), q.2.k < 18 → (run prg (k + 12)).c 114 [fv q] σ = some (.tuple [.list ((kd q.2.k).digits.map .int), .list ((kd q.2.k).mods.map .int)], σ) := fun k q hq => by
    obtain ⟨i, ⟨name, kk, op, esc, must⟩⟩ := q
    exact c_part k i σ name op esc must kk hq
  have e1 := ea (n + 14) lo 40 r I.h38 h40 hlo
  generalize hqa : us.getD lo dq = qa at e1 ka
  have c1 : (run prg (n + 17)).e (.call 114 [(.idx (.var 38) (.var 40))]) r σ = some (.tuple [.list ((kd qa.2.k).digits.map .int), .list ((kd qa.2.k).mods.map .int)], σ) := e_call (ev_cons e1 ev_nil) (pt (n + 4) qa ka)
  have b1 : bindT [31, 41] (.tuple [.list ((kd qa.2.k).digits.map .int), .list ((kd qa.2.k).mods.map .int)]) r = some ((r.set 31 (.list ((kd qa.2.k).digits.map .int))).set 41 (.list ((kd qa.2.k).mods.map .int))) := rfl
  have I1 : CkI rs c us m acc ((r.set 31 (.list ((kd qa.2.k).digits.map .int))).set 41 (.list ((kd qa.2.k).mods.map .int))) := (I.set (by decide)).set (by decide)
  have g31 : fget ((r.set 31 (.list ((kd qa.2.k).digits.map .int))).set 41 (.list ((kd qa.2.k).mods.map .int))).ρ 31 = some (.list ((kd qa.2.k).digits.map .int)) := by rw [get_set, get_set]; rfl
  have g41 : fget ((r.set 31 (.list ((kd qa.2.k).digits.map .int))).set 41 (.list ((kd qa.2.k).mods.map .int))).ρ 41 = some (.list ((kd qa.2.k).mods.map .int)) := by rw [get_set]; rfl
  have g39 : fget ((r.set 31 (.list ((kd qa.2.k).digits.map .int))).set 41 (.list ((kd qa.2.k).mods.map .int))).ρ 39 = some (natV hi) := by rw [get_set, get_set]; exact h39
  have g40 : fget ((r.set 31 (.list ((kd qa.2.k).digits.map .int))).set 41 (.list ((kd qa.2.k).mods.map .int))).ρ 40 = some (natV lo) := by rw [get_set, get_set]; exact h40
  generalize (r.set 31 (.list ((kd qa.2.k).digits.map .int))).set 41 (.list ((kd qa.2.k).mods.map .int)) = r1 at b1 I1 g31 g41 g39 g40
  have e2 := ea (n + 14) hi 39 r1 I1.h38 g39 hhi
  generalize hqb : us.getD hi dq = qb at e2 kb
  have c2 : (run prg (n + 17)).e (.call 114 [(.idx (.var 38) (.var 39))]) r1 σ = some (.tuple [.list ((kd qb.2.k).digits.map .int), .list ((kd qb.2.k).mods.map .int)], σ) := e_call (ev_cons e2 ev_nil) (pt (n + 4) qb kb)
  have b2 : bindT [21, 42] (.tuple [.list ((kd qb.2.k).digits.map .int), .list ((kd qb.2.k).mods.map .int)]) r1 = some ((r1.set 21 (.list ((kd qb.2.k).digits.map .int))).set 42 (.list ((kd qb.2.k).mods.map .int))) := rfl
  have I2 : CkI rs c us m acc ((r1.set 21 (.list ((kd qb.2.k).digits.map .int))).set 42 (.list ((kd qb.2.k).mods.map .int))) := (I1.set (by decide)).set (by decide)
  have f31 : fget ((r1.set 21 (.list ((kd qb.2.k).digits.map .int))).set 42 (.list ((kd qb.2.k).mods.map .int))).ρ 31 = some (.list ((kd qa.2.k).digits.map .int)) := by rw [get_set, get_set]; exact g31
  have f41 : fget ((r1.set 21 (.list ((kd qb.2.k).digits.map .int))).set 42 (.list ((kd qb.2.k).mods.map .int))).ρ 41 = some (.list ((kd qa.2.k).mods.map .int)) := by rw [get_set, get_set]; exact g41
  have f21 : fget ((r1.set 21 (.list ((kd qb.2.k).digits.map .int))).set 42 (.list ((kd qb.2.k).mods.map .int))).ρ 21 = some (.list ((kd qb.2.k).digits.map .int)) := by rw [get_set, get_set]; rfl
  have f42 : fget ((r1.set 21 (.list ((kd qb.2.k).digits.map .int))).set 42 (.list ((kd qb.2.k).mods.map .int))).ρ 42 = some (.list ((kd qb.2.k).mods.map .int)) := by rw [get_set]; rfl
  have f39 : fget ((r1.set 21 (.list ((kd qb.2.k).digits.map .int))).set 42 (.list ((kd qb.2.k).mods.map .int))).ρ 39 = some (natV hi) := by rw [get_set, get_set]; exact g39
  have f40 : fget ((r1.set 21 (.list ((kd qb.2.k).digits.map .int))).set 42 (.list ((kd qb.2.k).mods.map .int))).ρ 40 = some (natV lo) := by rw [get_set, get_set]; exact g40
  generalize (r1.set 21 (.list ((kd qb.2.k).digits.map .int))).set 42 (.list ((kd qb.2.k).mods.map .int)) = r2 at b2 I2 f31 f41 f21 f42 f39 f40
  obtain ⟨la, la2⟩ := kd_dlen ka
  obtain ⟨lb, lb2⟩ := kd_dlen kb
  have a1 := e_not (any_meet (n := n + 11) (r := r2) (σ := σ) (y := 4) la lb f31 f21 (by decide))
  have a2 := e_not (any_meet (n := n + 11) (r := r2) (σ := σ) (y := 43) la2 lb2 f41 f42 (by decide))
  have hor := e_or (or_cons a1 (or_one a2))
  have hcl := clash_eq ka kb
  unfold clashP at hcl
  generalize hA : ((kd qa.2.k).digits.any fun d => (kd qb.2.k).digits.contains d) = A at hor hcl
  generalize hB : ((kd qa.2.k).mods.any fun d => (kd qb.2.k).mods.contains d) = B at hor hcl
  unfold clB3
  by_cases hno : (!A || !B) = true
  · rw [hno] at hor
    have hf : meetK qa qb = false := by
      rw [← hcl]
      cases A <;> cases B <;> simp_all
    refine ⟨r2, .inr (s_asgT c1 b1 (s_asgT c2 b2 (s_cont hor))), ⟨I2.h36, I2.h15, I2.h38, ?_, ?_⟩, f39⟩
    · unfold stLo; rw [hqa, hqb, hf, if_neg (by simp)]; exact I2.w
    · have := I2.len; unfold stLo; rw [hqa, hqb, hf, if_neg (by simp)]; omega
  · have hno' : (!A || !B) = false := by simpa using hno
    rw [hno'] at hor
    have hs : sizesP (kd qa.2.k) (kd qb.2.k) = meetK qa qb := by
      rw [← hcl]
      cases A <;> cases B <;> simp_all
    have e5 := ea (n + 14) lo 40 r2 I2.h38 f40 hlo
    have e6 := ea (n + 14) hi 39 r2 I2.h38 f39 hhi
    have e5' := ea (n + 12) lo 40 r2 I2.h38 f40 hlo
    have e6' := ea (n + 12) hi 39 r2 I2.h38 f39 hhi
    rw [hqa] at e5 e5'
    rw [hqb] at e6 e6'
    have cs : (run prg (n + 17)).e (.call 115 [(.idx (.var 38) (.var 40)), (.idx (.var 38) (.var 39))]) r2 σ = some (.bool (meetK qa qb), σ) := by
      rw [← hs]; exact e_call (ev_cons e5 (ev_cons e6 ev_nil)) (c_sizes (n := n + 4) ka kb)
    have et : (run prg (n + 16)).e (.tup [(.attr (.idx (.var 38) (.var 40)) 0), (.attr (.idx (.var 38) (.var 39)) 0), (.var 15)]) r2 σ = some (tupV qa qb c, σ) :=
      e_tup (ev_cons (e_attr (v := .str qa.2.name) (tr_o (fun _ => by simp) e5') rfl rfl) (ev_cons (e_attr (v := .str qb.2.name) (tr_o (fun _ => by simp) e6') rfl rfl) (ev_cons (e_var I2.h15) ev_nil))) rfl
    by_cases hm2 : meetK qa qb = true
    · rw [hm2] at cs
      refine ⟨⟨r2.ρ, some (24, .list (acc ++ [tupV qa qb c]))⟩, .inl (s_asgT c1 b1 (s_asgT c2 b2 (s_no hor (s_ife cs (s_app et I2.w (small_of (by have := I2.len; omega)) s_nil) s_nil)))), ⟨I2.h36, I2.h15, I2.h38, ?_, ?_⟩, f39⟩
      · unfold stLo; rw [hqa, hqb, hm2, if_pos (by rfl)]
      · have := I2.len; unfold stLo; rw [hqa, hqb, hm2, if_pos (by rfl)]; simp; omega
    · have hm3 : meetK qa qb = false := by simpa using hm2
      rw [hm3] at cs
      refine ⟨r2, .inl (s_asgT c1 b1 (s_asgT c2 b2 (s_no hor (s_ife cs s_nil s_nil)))), ⟨I2.h36, I2.h15, I2.h38, ?_, ?_⟩, f39⟩
      · unfold stLo; rw [hqa, hqb, hm3, if_neg (by simp)]; exact I2.w
      · have := I2.len; unfold stLo; rw [hqa, hqb, hm3, if_neg (by simp)]; omega
theorem cl_hi (O : RsOK rs) {us : List (Nat × Row)} (hu : ∀ q ∈ us, q ∈ ix 0 rs) (hul : us.length ≤ 4) {c : Code} {m hi : Nat} {acc : List V} (I : CkI rs c us m acc r) (h39 : fget r.ρ 39 = some (natV hi)) (hhi : hi < us.length) (hm : m ≤ 890) :
    ∃ r2, (run prg (n + 19)).s clB2 r σ = some (.next r2, σ) ∧ CkI rs c us (m + 4) (stHi true us c acc hi) r2 := by
  obtain ⟨r2, e, h1, h2⟩ := forL_fold (x := 40) (σ := σ) (r := r) (m := m) (b := acc) (body := fun r σ => (run prg (n + 18)).s clB3 r σ) natV (stLo true us c hi) (fun m acc r => CkI rs c us m acc r ∧ fget r.ρ 39 = some (natV hi)) 1 (m + 4) (List.range hi) (by rw [List.length_range]; omega) (fun lo hlo m' b r hle hI => by
    obtain ⟨i1, i2⟩ := hI
    have hlo := List.mem_range.mp hlo
    exact cl_lo (n := n) (σ := σ) O hu hul (i1.set (x := 40) (v := natV lo) (by decide)) (by rw [get_set]; exact i2) (by rw [get_set]; rfl) (by omega) hhi (by omega)) ⟨I, h39⟩
  rw [List.length_range] at h1
  refine ⟨r2, s_forI (e_bif (tr_e (fun x hx y u e => by cases hx; rw [I.w] at e; cases e; decide) (e_var h39)) (range_of (by omega))) (items_rng (by omega)) e s_nil, ⟨h1.h36, h1.h15, h1.h38, h1.w, by have := h1.len; unfold stHi; omega⟩⟩
theorem stHi_false (us : List (Nat × Row)) (c : Code) (acc : List V) (l : List Nat) : l.foldl (stHi false us c) acc = acc := by
  have h1 : ∀ (l : List Nat) (hi : Nat) (acc : List V), l.foldl (stLo false us c hi) acc = acc := by
    intro l hi
    induction l with
    | nil => intro acc; rfl
    | cons a t ih => intro acc; rw [List.foldl_cons, ih]; unfold stLo; rw [if_neg (by simp)]
  induction l with
  | nil => rfl
  | cons a t ih => rw [List.foldl_cons]; unfold stHi; rw [h1]; exact ih
theorem cl_code (O : RsOK rs) {c : Code} (hc : c ∈ dd (rs.flatMap codes)) {m : Nat} {acc : List V} (h36 : fget r.ρ 36 = some (madeV rs)) (h15 : fget r.ρ 15 = some (codeV c)) (hw : r.w = some (24, .list acc)) (hl : acc.length ≤ m) (hm : m ≤ 870) :
    ∃ r2, ((run prg (n + 20)).s clB1 r σ = some (.next r2, σ) ∨ (run prg (n + 20)).s clB1 r σ = some (.cont r2, σ)) ∧ fget r2.ρ 36 = some (madeV rs) ∧ r2.w = some (24, .list (stC rs acc c)) ∧ (stC rs acc c).length ≤ m + 16 := by
  have hul := uCode_len O c
  have hcond : (run prg (n + 19)).e (.cmp .eq (.var 15) (.tup [(.cst (.int 0)), (.cst (.int 0)), (.cst (.int 144))])) r σ = some (.bool (decide (c = c144)), σ) := e_cmp (e_var h15) (tr_o (fun _ => by simp) (e_tup (ev_cons e_cst (ev_cons e_cst (ev_cons e_cst ev_nil))) rfl)) (eq_code c)
  unfold clB1
  by_cases h144 : c = c144
  · rw [decide_eq_true h144] at hcond
    have hst : stC rs acc c = acc := by unfold stC; rw [decide_eq_true h144]; exact stHi_false _ _ _ _
    exact ⟨r, .inr (s_cont hcond), h36, by rw [hst]; exact hw, by rw [hst]; omega⟩
  · rw [decide_eq_false h144] at hcond
    have hne : uCode rs c ≠ [] := by
      rw [dd_mem] at hc
      obtain ⟨rw', hr, hcr⟩ := List.mem_flatMap.mp hc
      intro he
      unfold uCode at he
      rw [List.filter_eq_nil_iff] at he
      have : ∃ q ∈ ix 0 rs, q.2 = rw' := by
        have : ∀ (rs : List Row) (i : Nat), rw' ∈ rs → ∃ q ∈ ix i rs, q.2 = rw' := by
          intro rs
          induction rs with
          | nil => intro i h; cases h
          | cons a t ih =>
            intro i h
            rcases List.mem_cons.mp h with rfl | h
            · exact ⟨(i, rw'), List.mem_cons_self, rfl⟩
            · obtain ⟨q, hq, e⟩ := ih (i + 1) h
              exact ⟨q, List.mem_cons_of_mem _ hq, e⟩
        exact this rs 0 hr
      obtain ⟨q, hq, e⟩ := this
      exact he q hq (by rw [e]; exact decide_eq_true hcr)
    have eidx : (run prg (n + 19)).e (.idx (.attr (.var 36) 12) (.var 15)) r σ = some (.list ((uCode rs c).map fv), σ) := by
      refine e_idx (e_attr (v := .dict (encD codeV (BC rs))) (tr_e (fun x hx y u e => by cases hx; rw [hw] at e; cases e; decide) (e_var h36)) rfl rfl) (e_var h15) ?_
      refine (oIe (seek_enc encC_ok trivial BC_ok)).trans ?_
      rw [dget_enc encC_ok, BC_look, if_neg hne]; rfl
    have I1 : CkI rs c (uCode rs c) m acc (r.set 38 (.list ((uCode rs c).map fv))) := ⟨by rw [get_set]; exact h36, by rw [get_set]; exact h15, by rw [get_set]; rfl, set_w hw (by decide), hl⟩
    obtain ⟨r2, e, h1⟩ := forL_fold (x := 39) (σ := σ) (r := r.set 38 (.list ((uCode rs c).map fv))) (m := m) (b := acc) (body := fun r σ => (run prg (n + 19)).s clB2 r σ) natV (stHi true (uCode rs c) c) (fun m acc r => CkI rs c (uCode rs c) m acc r) 4 (m + 16) (List.range (uCode rs c).length) (by rw [List.length_range]; omega) (fun hi hhi m' b r hle hI => by
      have hhi := List.mem_range.mp hhi
      obtain ⟨r2, e, I3⟩ := cl_hi (n := n) (σ := σ) O uCode_ix hul (hI.set (x := 39) (v := natV hi) (by decide)) (by rw [get_set]; rfl) hhi (by omega)
      exact ⟨r2, .inl e, I3⟩) I1
    rw [List.length_range] at h1
    have el : (run prg (n + 19)).e (.bif .range (.bif .len (.var 38))) (r.set 38 (.list ((uCode rs c).map fv))) σ = some (.rng (uCode rs c).length, σ) := by
      refine e_bif (tr_o (fun _ => by simp) (e_bif (tr_e (fun x hx y u e => by cases hx; rw [I1.w] at e; cases e; decide) (e_var I1.h38)) (len_ofL (by rw [List.length_map]; omega)))) ?_
      rw [List.length_map]; exact range_of (by omega)
    have hst : stC rs acc c = (List.range (uCode rs c).length).foldl (stHi true (uCode rs c) c) acc := by unfold stC; rw [decide_eq_false h144]; rfl
    exact ⟨r2, .inl (s_no hcond (s_asg eidx (s_forI el (items_rng (by omega)) e s_nil))), h1.h36, by rw [hst]; exact h1.w, by rw [hst]; have := h1.len; omega⟩
theorem c_clashes (O : RsOK rs) {cs : List Code} (hs : sortV ((dd (rs.flatMap codes)).map codeV) = some (cs.map codeV)) (hcl : cs.length ≤ 32) (hcm : ∀ c ∈ cs, c ∈ dd (rs.flatMap codes)) : (run prg (n + 22)).c 116 [madeV rs] σ = some (.list (cs.foldl (stC rs) []), σ) := by
  refine run_c (r := ⟨[(36, madeV rs)], none⟩) rfl rfl rfl (s_newL (r' := ⟨[(36, madeV rs)], some (24, .list [])⟩) rfl ?_)
  obtain ⟨r2, e, h1, h2, h3⟩ := forL_fold (x := 15) (σ := σ) (r := ⟨[(36, madeV rs)], some (24, .list [])⟩) (m := 0) (b := ([] : List V)) (body := fun r σ => (run prg (n + 20)).s clB1 r σ) codeV (stC rs) (fun m acc r => fget r.ρ 36 = some (madeV rs) ∧ r.w = some (24, .list acc) ∧ acc.length ≤ m) 16 512 cs (by omega) (fun c hc m acc r hle hI => by
    obtain ⟨i1, i2, i3⟩ := hI
    exact cl_code (n := n) (σ := σ) O (hcm c hc) (by rw [get_set]; exact i1) (by rw [get_set]; rfl) (set_w i2 (by decide)) i3 (by omega)) ⟨rfl, rfl, Nat.le_refl _⟩
  exact s_forI (e_meth (e_var rfl) rfl ev_nil (c_codesL (n := n + 11) O hs)) (items_list (by rw [List.length_map]; omega)) e (s_ret (tr_w h2) rfl)
end
end Mine.Pl
namespace Mine.Pl
section
variable {n : Nat} {r r' : Rho} {σ σ' σ1 σ2 : Nums} {u v z : V} {x : Nat} {rs : List Row}
theorem p_fdel (ρ : List (Nat × V)) {y : Nat} (h : y ≠ x) : fget (fdel ρ x) y = fget ρ y := by
  induction ρ with
  | nil => rfl
  | cons a t ih =>
    simp only [fdel]
    by_cases hx : a.1 = x
    · rw [if_pos (by rw [hx]; exact Nat.beq_refl _), ih]
      simp only [fget]
      rw [if_neg (fun hb => h ((Nat.eq_of_beq_eq_true hb).symm.trans hx))]
    · rw [if_neg (fun hb => hx (Nat.eq_of_beq_eq_true hb))]
      simp only [fget, ih]
theorem plain_acc (O : RsOK rs) : ∀ (cs : List Code) (acc : List V), acc.all (plain 7) = true → (cs.foldl (stC rs) acc).all (plain 7) = true := by
  have nm : ∀ (c : Code) (i : Nat), okStr ((uCode rs c).getD i dq).2.name = true := fun c i => by
    rw [List.getD_eq_getElem?_getD]
    cases hq : (uCode rs c)[i]? with
    | none => rfl
    | some q => exact (O.row _ (ix_get rs 0 q (uCode_ix q (List.mem_of_getElem? hq))).2.2).name
  have tp : ∀ (c : Code) (i j : Nat), plain 7 (tupV ((uCode rs c).getD i dq) ((uCode rs c).getD j dq) c) = true := fun c i j => by
    show ([V.str ((uCode rs c).getD i dq).2.name, .str ((uCode rs c).getD j dq).2.name, codeV c].all (plain 6)) = true
    simp only [List.all_cons, List.all_nil, Bool.and_true]
    rw [show plain 6 (.str ((uCode rs c).getD i dq).2.name) = true from nm c i, show plain 6 (.str ((uCode rs c).getD j dq).2.name) = true from nm c j]
    rfl
  have lo : ∀ (b : Bool) (c : Code) (hi : Nat) (l : List Nat) (acc : List V), acc.all (plain 7) = true → (l.foldl (stLo b (uCode rs c) c hi) acc).all (plain 7) = true := by
    intro b c hi l
    induction l with
    | nil => exact fun acc h => h
    | cons a t ih =>
      intro acc h
      rw [List.foldl_cons]
      apply ih
      unfold stLo
      split
      · rw [List.all_append, h, List.all_cons, List.all_nil, tp]; rfl
      · exact h
  have hi : ∀ (b : Bool) (c : Code) (l : List Nat) (acc : List V), acc.all (plain 7) = true → (l.foldl (stHi b (uCode rs c) c) acc).all (plain 7) = true := by
    intro b c l
    induction l with
    | nil => exact fun acc h => h
    | cons a t ih => intro acc h; rw [List.foldl_cons]; exact ih _ (lo _ _ _ _ _ h)
  intro cs
  induction cs with
  | nil => exact fun acc h => h
  | cons c t ih => intro acc h; rw [List.foldl_cons]; exact ih _ (hi _ _ _ _ h)
theorem no242 (O : RsOK2 rs) : uCode rs (242, 0, 16) = [] := by
  unfold uCode
  rw [List.filter_eq_nil_iff]
  intro q hq h
  have h := of_decide_eq_true h
  have hm := O.must _ (ix_get rs 0 q hq).2.2
  unfold codes at h
  split at h
  · obtain ⟨i, _, e⟩ := List.mem_map.mp h
    injection e with e; exact hm e
  · rw [List.mem_singleton] at h
    injection h with e; exact hm e.symm
theorem c_setright (O : RsOK2 rs) (H : NumOK rs σ) : (run prg (n + 28)).c 134 [.list ((ix 0 rs).map fv), madeV rs] σ = some (.bool true, σ) := by
  have hix := ix_le O.toRsOK
  have h0 : dd (rs.flatMap codes) ≠ [] := by
    intro he
    cases hr : rs with
    | nil => exact O.ne hr
    | cons a t =>
      have : ∃ c, c ∈ codes a := by unfold codes; split; exact ⟨_, List.mem_map.mpr ⟨0, by simp, rfl⟩⟩; exact ⟨_, List.mem_singleton.mpr rfl⟩
      obtain ⟨c, hc⟩ := this
      have : c ∈ dd (rs.flatMap codes) := dd_mem.mpr (List.mem_flatMap.mpr ⟨a, by rw [hr]; exact List.mem_cons_self, hc⟩)
      rw [he] at this; cases this
  obtain ⟨cs, hs, hcl, hcm⟩ := sort_codes (ddc_len O.toRsOK) h0
  have hcl : cs.length ≤ 32 := by have := ddc_len O.toRsOK; omega
  refine run_c (d := f_law_set_right) (r := ⟨[(45, .list ((ix 0 rs).map fv)), (55, madeV rs)], none⟩) rfl rfl rfl ?_
  unfold f_law_set_right
  refine s_asg (n := n + 26) (spans_sound (n := n + 13) O.toRsOK (e_var rfl)) ?_
  refine s_newL (r' := ⟨[(45, .list ((ix 0 rs).map fv)), (55, madeV rs), (52, .list ((ix 0 rs).map spV))], some (53, .list [])⟩) rfl ?_
  obtain ⟨r3, e3, I3, w3⟩ := due_sound (n := n + 16) (σ := σ) (r := ⟨[(45, .list ((ix 0 rs).map fv)), (55, madeV rs), (52, .list ((ix 0 rs).map spV))], some (53, .list [])⟩) O.toRsOK ⟨rfl, rfl, rfl⟩ rfl
  refine s_forI (e_var rfl) (items_list (by rw [List.length_map]; omega)) e3 ?_
  refine s_asg (v := .list (cs.map codeV)) (e_bif (tr_w w3) (o1e hs)) ?_
  have I4 : SR rs (r3.set 53 (.list (cs.map codeV))) := I3.set (by decide) (by decide) (by decide)
  have w4 : (r3.set 53 (.list (cs.map codeV))).w = none := by rw [w_set, w3]; rfl
  have g4 : fget (r3.set 53 (.list (cs.map codeV))).ρ 53 = some (.list (cs.map codeV)) := by rw [get_set]; rfl
  generalize r3.set 53 (.list (cs.map codeV)) = r4 at I4 w4 g4
  refine s_no (n := n + 25) (test5 (n := n + 6) O.toRsOK H I4 w4 hs g4) ?_
  refine s_no (n := n + 25) (test6 (n := n + 6) O.toRsOK I4 w4) ?_
  obtain ⟨r5, e5, I5, w5, g5⟩ := forL_fold (x := 0) (σ := σ) (r := r4) (m := 0) (b := ()) (body := fun r σ => (run prg (n + 26)).s nmB r σ) V.str (fun _ _ => ()) (fun m _ r => SR rs r ∧ r.w = none ∧ fget r.ρ 53 = some (.list (cs.map codeV))) 0 0 NM4 (by omega) (fun nm hnm m b r _ hI => by
    obtain ⟨i1, i2, i3⟩ := hI
    obtain ⟨r2, e, j1, j2, j3⟩ := names_body (n := n + 2) (σ := σ) O H (i1.set (x := 0) (v := .str nm) (by decide) (by decide) (by decide)) (by rw [w_set, i2]) hnm (by rw [get_set]; rfl)
    exact ⟨r2, .inl e, j1, j2, by rw [j3 53 (by decide), get_set]; exact i3⟩) ⟨I4, w4, g4⟩
  refine s_forI (e_tup (ev_cons e_cst (ev_cons e_cst (ev_cons e_cst (ev_cons e_cst ev_nil)))) rfl) (vs := NM4.map V.str) rfl e5 ?_
  refine s_newL (r' := ⟨fdel r5.ρ 63, some (63, .list [])⟩) (by unfold Rho.own; rw [w5]) ?_
  have I6 : SR rs ⟨fdel r5.ρ 63, some (63, .list [])⟩ := ⟨by rw [p_fdel _ (by decide)]; exact I5.h45, by rw [p_fdel _ (by decide)]; exact I5.h55, by rw [p_fdel _ (by decide)]; exact I5.h52⟩
  have g6 : fget (Rho.mk (fdel r5.ρ 63) (some (63, .list []))).ρ 53 = some (.list (cs.map codeV)) := by rw [p_fdel _ (by decide)]; exact g5
  have w6 : (Rho.mk (fdel r5.ρ 63) (some (63, .list []))).w = some (63, .list []) := rfl
  generalize Rho.mk (fdel r5.ρ 63) (some (63, .list [])) = r6 at I6 g6 w6
  obtain ⟨r7, e7, I7, w7, l7⟩ := forL_fold (x := 15) (σ := σ) (r := r6) (m := 0) (b := ([] : List V)) (body := fun r σ => (run prg (n + 26)).s codeB r σ) codeV (stC rs) (fun m acc r => SR rs r ∧ r.w = some (63, .list acc) ∧ acc.length ≤ m) 16 512 cs (by omega) (fun c hc m acc r hle hI => by
    obtain ⟨i1, i2, i3⟩ := hI
    obtain ⟨r2, e, j1, j2, j3⟩ := code_step (n := n) (σ := σ) O.toRsOK H (c := c) (m := m) (acc := acc) (r := r.set 15 (codeV c)) (i1.set (by decide) (by decide) (by decide)) (by rw [get_set]; rfl) (set_w i2 (by decide)) i3 (by omega)
    exact ⟨r2, .inl e, j1, j2, j3⟩) ⟨I6, w6, Nat.le_refl _⟩
  refine s_forI (e_var g6) (items_list (by rw [List.length_map]; omega)) e7 ?_
  obtain ⟨s, hsn, ⟨t, ht, heq⟩, _⟩ := names_ok O
  have a1 : (run prg (n + 25)).e (.cmp .eq (.call 116 [(.var 55)]) (.var 63)) r7 σ = some (.bool true, σ) :=
    e_cmp (e_call (ev_cons (made_var I7) ev_nil) (c_clashes (n := n + 1) O.toRsOK hs hcl hcm)) (tr_w w7) (eq_refl (plain_acc O.toRsOK cs [] rfl))
  have a2 : (run prg (n + 25)).e (.cmp .eq (.meth (.var 55) 47 [(.cst (.int 242)), (.cst (.int 0)), (.cst (.int 16))]) (.lst [])) r7 σ = some (.bool true, σ) := by
    refine e_cmp (e_meth (made_var I7) rfl (ev_cons e_cst (ev_cons e_cst (ev_cons e_cst ev_nil))) (c_at (n := n + 15) O.toRsOK 242 0 16)) (tr_o (fun _ => by simp) (e_lst ev_nil rfl)) ?_
    rw [no242 O]; rfl
  have en : ∀ k, (run prg (k + 9)).e (.meth (.var 55) 59 []) r7 σ = some (.list s, σ) := fun k => e_meth (made_var I7) rfl ev_nil (c_names (n := k) O.toRsOK hsn)
  have a3 : (run prg (n + 25)).e (.cmp .eq (.meth (.var 55) 59 []) (.bif .sorted (.meth (.var 55) 59 []))) r7 σ = some (.bool true, σ) :=
    e_cmp (en (n + 15)) (tr_o (fun _ => by simp) (e_bif (tr_o (fun _ => by simp) (en (n + 14))) (z := .list t) (o1e ht))) heq
  exact s_ret (n := n + 26) (tr_o (fun _ => by simp) (e_and (and_cons (q := true) (q2 := true) a1 (and_cons (q := true) (q2 := true) a2 (and_one a3))))) rfl
end
end Mine.Pl
namespace Mine.Pl
noncomputable def sAL : List Nat := [99, 58, 98, 32, 110, 97, 101, 58, 98, 32, 110, 98, 58, 97, 101, 32, 110, 99, 58, 97, 101, 32, 122, 58, 101, 32, 110, 122, 58, 110, 101, 32, 110, 97, 58, 98, 101, 32, 110, 98, 101, 58, 97, 32, 112, 101, 58, 112, 32, 112, 111, 58, 110, 112, 32, 110, 103, 101, 58, 108, 32, 110, 108, 58, 103, 101, 32, 110, 103, 58, 108, 101, 32, 110, 108, 101, 58, 103]
noncomputable def sOT : List Nat := [115, 97, 108, 58, 115, 104, 108, 32, 108, 111, 111, 112, 122, 58, 108, 111, 111, 112, 101, 32, 108, 111, 111, 112, 110, 122, 58, 108, 111, 111, 112, 110, 101, 32, 114, 101, 112, 101, 58, 114, 101, 112, 32, 114, 101, 112, 122, 58, 114, 101, 112, 32, 114, 101, 112, 110, 122, 58, 114, 101, 112, 110, 101]
noncomputable def pairsP (t : List Nat) : List (V × V) := (splitGo 32 [] t).filterMap fun w => match splitGo 58 [] w with
  | [a, b] => some (.str a, .str b)
  | _ => none
theorem pairs2 (n : Nat) (σ : Nums) : (run prg (n + 6)).c 102 [.str sAL] σ = some (.dict (pairsP sAL), σ) := by kernel_rfl
theorem pairs1 (n : Nat) (σ : Nums) : (run prg (n + 6)).c 102 [.str sOT] σ = some (.dict (pairsP sOT), σ) := by kernel_rfl
noncomputable abbrev D1 : V := .dict (pairsP sOT)
noncomputable abbrev D2 : V := .dict (pairsP sAL)
noncomputable def canT : List S := f_canonical.body.drop 3
noncomputable def al1 : List S := (f_aliases_of.body.drop 2).take 1
noncomputable def al2 : List S := f_aliases_of.body.drop 4
noncomputable def fnd1 (nm : List Nat) : List V := (pairsP sOT).filterMap fun e => if veq e.2 (.str nm) then some e.1 else none
section
variable {n : Nat} {r r' : Rho} {σ σ' σ1 σ2 : Nums} {u v z : V} {x : Nat} {rs : List Row}
theorem s_seq {b : List S} {out : Option (Fl × Nums)} {a : List S} : ∀ {r : Rho} {σ : Nums}, (run prg (n + 1)).s a r σ = some (.next r', σ1) → (run prg (n + 1)).s b r' σ1 = out → (run prg (n + 1)).s (a ++ b) r σ = out := by
  induction a with
  | nil => intro r σ h h2; cases h; exact h2
  | cons st t ih => exact fun {r σ} h h2 => oF_c (show oF (stepS1 (run prg n) st r σ) _ _ _ = _ from h) (fun r3 σ3 hq h => s_of hq (ih h h2)) (fun _ _ _ h => by cases h) fun _ _ _ h => by cases h
structure GoodP (n : Nat) (σ : Nums) (t : List Nat × List Nat × List (List Nat)) : Prop where
  can : (run prg (n + 12)).c 103 [.str t.1] σ = some (.str t.2.1, σ)
  ali : (run prg (n + 12)).c 104 [.str t.1] σ = some (.list (t.2.2.map .str), σ)
theorem canon_in {nm : List Nat} (h : inV (.str nm) D1 = some true) (h2 : idxV D1 (.str nm) = some v) (hr : isRaw v = false) : (run prg (n + 12)).c 103 [.str nm] σ = some (v, σ) := by
  refine run_c (d := f_canonical) (r := ⟨[(0, .str nm)], none⟩) rfl rfl rfl ?_
  unfold f_canonical
  refine s_asg (n := n + 10) (e_call (ev_cons e_cst ev_nil) (pairs1 (n + 3) σ)) ?_
  refine s_retIf (n := n + 9) (e_cmp (e_var rfl) (tr_n rfl (e_var rfl)) ?_) (tr_n rfl (e_idx (e_var rfl) (e_var rfl) h2)) hr
  exact o1e h
theorem canon_out {nm : List Nat} (h : inV (.str nm) D1 = some false) (h2 : (run prg (n + 11)).s canT ⟨[(0, .str nm), (21, D1), (22, D2)], none⟩ σ = some (.ret v, σ)) : (run prg (n + 12)).c 103 [.str nm] σ = some (v, σ) := by
  refine run_c (d := f_canonical) (r := ⟨[(0, .str nm)], none⟩) rfl rfl rfl ?_
  unfold f_canonical
  refine s_asg (n := n + 10) (e_call (ev_cons e_cst ev_nil) (pairs1 (n + 3) σ)) ?_
  refine s_no (n := n + 9) (e_cmp (e_var rfl) (tr_n rfl (e_var rfl)) (z := .bool false) ?_) ?_
  · exact o1e h
  · exact s_asg (n := n + 10) (e_call (ev_cons e_cst ev_nil) (pairs2 (n + 3) σ)) h2
theorem alias_of {nm : List Nat} {l : V} (h1 : (run prg (n + 11)).s al1 ⟨[(0, .str nm), (21, D1)], some (24, .list [])⟩ σ = some (.next ⟨[(0, .str nm), (21, D1), (25, l)], some (24, .list (fnd1 nm))⟩, σ))
    (h2 : (run prg (n + 11)).s al2 ⟨[(0, .str nm), (21, D1), (25, l), (22, D2)], some (24, .list (fnd1 nm))⟩ σ = some (.ret v, σ)) : (run prg (n + 12)).c 104 [.str nm] σ = some (v, σ) := by
  refine run_c (d := f_aliases_of) (r := ⟨[(0, .str nm)], none⟩) rfl rfl rfl ?_
  unfold f_aliases_of
  refine s_newL (n := n + 10) (r' := ⟨[(0, .str nm)], some (24, .list [])⟩) rfl ?_
  refine s_asg (n := n + 10) (e_call (ev_cons e_cst ev_nil) (pairs1 (n + 3) σ)) ?_
  exact s_seq (n := n + 10) (a := al1) h1 (s_asg (n := n + 10) (e_call (ev_cons e_cst ev_nil) (pairs2 (n + 3) σ)) h2)
end
noncomputable def lastK : V := .str [114, 101, 112, 110, 122]
structure GoodA (n : Nat) (σ : Nums) (t : List Nat × List Nat × List (List Nat)) : Prop where
  h1 : (run prg (n + 11)).s al1 ⟨[(0, .str t.1), (21, D1)], some (24, .list [])⟩ σ = some (.next ⟨[(0, .str t.1), (21, D1), (25, lastK)], some (24, .list (fnd1 t.1))⟩, σ)
  h2 : (run prg (n + 11)).s al2 ⟨[(0, .str t.1), (21, D1), (25, lastK), (22, D2)], some (24, .list (fnd1 t.1))⟩ σ = some (.ret (.list (t.2.2.map .str)), σ)
structure GoodO (n : Nat) (σ : Nums) (t : List Nat × List Nat × List (List Nat)) : Prop where
  out : inV (.str t.1) D1 = some false
  can : (run prg (n + 11)).s canT ⟨[(0, .str t.1), (21, D1), (22, D2)], none⟩ σ = some (.ret (.str t.2.1), σ)
  ali : GoodA n σ t
structure GoodI (n : Nat) (σ : Nums) (t : List Nat × List Nat × List (List Nat)) : Prop where
  out : inV (.str t.1) D1 = some true
  can : idxV D1 (.str t.1) = some (.str t.2.1)
  ali : GoodA n σ t
theorem GoodO.good {n : Nat} {σ : Nums} {t} (h : GoodO n σ t) : GoodP n σ t := ⟨canon_out h.out h.can, alias_of h.ali.h1 h.ali.h2⟩
theorem GoodI.good {n : Nat} {σ : Nums} {t} (h : GoodI n σ t) : GoodP n σ t := ⟨canon_in h.out h.can rfl, alias_of h.ali.h1 h.ali.h2⟩
inductive AllP {α : Type} (p : α → Prop) : List α → Prop
  | nil : AllP p []
  | cons {a : α} {t : List α} : p a → AllP p t → AllP p (a :: t)
theorem AllP.all {α : Type} {p : α → Prop} : ∀ {l : List α}, AllP p l → ∀ a ∈ l, p a
  | _, .nil, _, h => nomatch h
  | _, .cons h t, a, ha => by
    rcases List.mem_cons.mp ha with rfl | ha
    · exact h
    · exact t.all a ha
noncomputable def entL : List (List Nat × List Nat × List Nat × List (List Nat)) := [([98,58,99,44,110,97,101],[106],[106,98],[[106,99],[106,110,97,101]]),
 ([98,58,99,44,110,97,101],[115,101,116],[115,101,116,98],[[115,101,116,99],[115,101,116,110,97,101]]),
 ([98,58,99,44,110,97,101],[99,109,111,118],[99,109,111,118,98],[[99,109,111,118,99],[99,109,111,118,110,97,101]]),
 ([97,101,58,110,98,44,110,99],[106],[106,97,101],[[106,110,98],[106,110,99]]),
 ([97,101,58,110,98,44,110,99],[115,101,116],[115,101,116,97,101],[[115,101,116,110,98],[115,101,116,110,99]]),
 ([97,101,58,110,98,44,110,99],[99,109,111,118],[99,109,111,118,97,101],[[99,109,111,118,110,98],[99,109,111,118,110,99]]),
 ([101,58,122],[106],[106,101],[[106,122]]),
 ([101,58,122],[115,101,116],[115,101,116,101],[[115,101,116,122]]),
 ([101,58,122],[99,109,111,118],[99,109,111,118,101],[[99,109,111,118,122]]),
 ([110,101,58,110,122],[106],[106,110,101],[[106,110,122]]),
 ([110,101,58,110,122],[115,101,116],[115,101,116,110,101],[[115,101,116,110,122]]),
 ([110,101,58,110,122],[99,109,111,118],[99,109,111,118,110,101],[[99,109,111,118,110,122]]),
 ([98,101,58,110,97],[106],[106,98,101],[[106,110,97]]),
 ([98,101,58,110,97],[115,101,116],[115,101,116,98,101],[[115,101,116,110,97]]),
 ([98,101,58,110,97],[99,109,111,118],[99,109,111,118,98,101],[[99,109,111,118,110,97]]),
 ([97,58,110,98,101],[106],[106,97],[[106,110,98,101]]),
 ([97,58,110,98,101],[115,101,116],[115,101,116,97],[[115,101,116,110,98,101]]),
 ([97,58,110,98,101],[99,109,111,118],[99,109,111,118,97],[[99,109,111,118,110,98,101]]),
 ([112,58,112,101],[106],[106,112],[[106,112,101]]),
 ([112,58,112,101],[115,101,116],[115,101,116,112],[[115,101,116,112,101]]),
 ([112,58,112,101],[99,109,111,118],[99,109,111,118,112],[[99,109,111,118,112,101]]),
 ([110,112,58,112,111],[106],[106,110,112],[[106,112,111]]),
 ([110,112,58,112,111],[115,101,116],[115,101,116,110,112],[[115,101,116,112,111]]),
 ([110,112,58,112,111],[99,109,111,118],[99,109,111,118,110,112],[[99,109,111,118,112,111]]),
 ([108,58,110,103,101],[106],[106,108],[[106,110,103,101]]),
 ([108,58,110,103,101],[115,101,116],[115,101,116,108],[[115,101,116,110,103,101]]),
 ([108,58,110,103,101],[99,109,111,118],[99,109,111,118,108],[[99,109,111,118,110,103,101]]),
 ([103,101,58,110,108],[106],[106,103,101],[[106,110,108]]),
 ([103,101,58,110,108],[115,101,116],[115,101,116,103,101],[[115,101,116,110,108]]),
 ([103,101,58,110,108],[99,109,111,118],[99,109,111,118,103,101],[[99,109,111,118,110,108]]),
 ([108,101,58,110,103],[106],[106,108,101],[[106,110,103]]),
 ([108,101,58,110,103],[115,101,116],[115,101,116,108,101],[[115,101,116,110,103]]),
 ([108,101,58,110,103],[99,109,111,118],[99,109,111,118,108,101],[[99,109,111,118,110,103]]),
 ([103,58,110,108,101],[106],[106,103],[[106,110,108,101]]),
 ([103,58,110,108,101],[115,101,116],[115,101,116,103],[[115,101,116,110,108,101]]),
 ([103,58,110,108,101],[99,109,111,118],[99,109,111,118,103],[[99,109,111,118,110,108,101]]),
 ([111,58],[106],[106,111],[]),
 ([111,58],[115,101,116],[115,101,116,111],[]),
 ([111,58],[99,109,111,118],[99,109,111,118,111],[]),
 ([110,111,58],[106],[106,110,111],[]),
 ([110,111,58],[115,101,116],[115,101,116,110,111],[]),
 ([110,111,58],[99,109,111,118],[99,109,111,118,110,111],[]),
 ([115,58],[106],[106,115],[]),
 ([115,58],[115,101,116],[115,101,116,115],[]),
 ([115,58],[99,109,111,118],[99,109,111,118,115],[]),
 ([110,115,58],[106],[106,110,115],[]),
 ([110,115,58],[115,101,116],[115,101,116,110,115],[]),
 ([110,115,58],[99,109,111,118],[99,109,111,118,110,115],[]),
 ([115,104,108,58,115,97,108],[],[115,104,108],[[115,97,108]]),
 ([108,111,111,112,101,58,108,111,111,112,122],[],[108,111,111,112,101],[[108,111,111,112,122]]),
 ([108,111,111,112,110,101,58,108,111,111,112,110,122],[],[108,111,111,112,110,101],[[108,111,111,112,110,122]]),
 ([114,101,112,58,114,101,112,101,44,114,101,112,122],[],[114,101,112],[[114,101,112,101],[114,101,112,122]]),
 ([114,101,112,110,101,58,114,101,112,110,122],[],[114,101,112,110,101],[[114,101,112,110,122]]),
 ([109,111,118,58],[],[109,111,118],[]),
 ([106,109,112,58],[],[106,109,112],[]),
 ([106,114,99,120,122,58],[],[106,114,99,120,122],[]),
 ([115,101,116,117,112,58],[],[115,101,116,117,112],[]),
 ([99,109,111,118,58],[],[99,109,111,118],[]),
 ([108,111,111,112,58],[],[108,111,111,112],[])]
noncomputable def inL : List (List Nat × List Nat × List (List Nat)) := [([115,97,108],[115,104,108],[]),
 ([108,111,111,112,122],[108,111,111,112,101],[]),
 ([108,111,111,112,110,122],[108,111,111,112,110,101],[]),
 ([114,101,112,101],[114,101,112],[]),
 ([114,101,112,122],[114,101,112],[]),
 ([114,101,112,110,122],[114,101,112,110,101],[])]
noncomputable def outL : List (List Nat × List Nat × List (List Nat)) := [([106,98],[106,98],[[106,99],[106,110,97,101]]),
 ([106,99],[106,98],[]),
 ([106,110,97,101],[106,98],[]),
 ([115,101,116,98],[115,101,116,98],[[115,101,116,99],[115,101,116,110,97,101]]),
 ([115,101,116,99],[115,101,116,98],[]),
 ([115,101,116,110,97,101],[115,101,116,98],[]),
 ([99,109,111,118,98],[99,109,111,118,98],[[99,109,111,118,99],[99,109,111,118,110,97,101]]),
 ([99,109,111,118,99],[99,109,111,118,98],[]),
 ([99,109,111,118,110,97,101],[99,109,111,118,98],[]),
 ([106,97,101],[106,97,101],[[106,110,98],[106,110,99]]),
 ([106,110,98],[106,97,101],[]),
 ([106,110,99],[106,97,101],[]),
 ([115,101,116,97,101],[115,101,116,97,101],[[115,101,116,110,98],[115,101,116,110,99]]),
 ([115,101,116,110,98],[115,101,116,97,101],[]),
 ([115,101,116,110,99],[115,101,116,97,101],[]),
 ([99,109,111,118,97,101],[99,109,111,118,97,101],[[99,109,111,118,110,98],[99,109,111,118,110,99]]),
 ([99,109,111,118,110,98],[99,109,111,118,97,101],[]),
 ([99,109,111,118,110,99],[99,109,111,118,97,101],[]),
 ([106,101],[106,101],[[106,122]]),
 ([106,122],[106,101],[]),
 ([115,101,116,101],[115,101,116,101],[[115,101,116,122]]),
 ([115,101,116,122],[115,101,116,101],[]),
 ([99,109,111,118,101],[99,109,111,118,101],[[99,109,111,118,122]]),
 ([99,109,111,118,122],[99,109,111,118,101],[]),
 ([106,110,101],[106,110,101],[[106,110,122]]),
 ([106,110,122],[106,110,101],[]),
 ([115,101,116,110,101],[115,101,116,110,101],[[115,101,116,110,122]]),
 ([115,101,116,110,122],[115,101,116,110,101],[]),
 ([99,109,111,118,110,101],[99,109,111,118,110,101],[[99,109,111,118,110,122]]),
 ([99,109,111,118,110,122],[99,109,111,118,110,101],[]),
 ([106,98,101],[106,98,101],[[106,110,97]]),
 ([106,110,97],[106,98,101],[]),
 ([115,101,116,98,101],[115,101,116,98,101],[[115,101,116,110,97]]),
 ([115,101,116,110,97],[115,101,116,98,101],[]),
 ([99,109,111,118,98,101],[99,109,111,118,98,101],[[99,109,111,118,110,97]]),
 ([99,109,111,118,110,97],[99,109,111,118,98,101],[]),
 ([106,97],[106,97],[[106,110,98,101]]),
 ([106,110,98,101],[106,97],[]),
 ([115,101,116,97],[115,101,116,97],[[115,101,116,110,98,101]]),
 ([115,101,116,110,98,101],[115,101,116,97],[]),
 ([99,109,111,118,97],[99,109,111,118,97],[[99,109,111,118,110,98,101]]),
 ([99,109,111,118,110,98,101],[99,109,111,118,97],[]),
 ([106,112],[106,112],[[106,112,101]]),
 ([106,112,101],[106,112],[]),
 ([115,101,116,112],[115,101,116,112],[[115,101,116,112,101]]),
 ([115,101,116,112,101],[115,101,116,112],[]),
 ([99,109,111,118,112],[99,109,111,118,112],[[99,109,111,118,112,101]]),
 ([99,109,111,118,112,101],[99,109,111,118,112],[]),
 ([106,110,112],[106,110,112],[[106,112,111]]),
 ([106,112,111],[106,110,112],[]),
 ([115,101,116,110,112],[115,101,116,110,112],[[115,101,116,112,111]]),
 ([115,101,116,112,111],[115,101,116,110,112],[]),
 ([99,109,111,118,110,112],[99,109,111,118,110,112],[[99,109,111,118,112,111]]),
 ([99,109,111,118,112,111],[99,109,111,118,110,112],[]),
 ([106,108],[106,108],[[106,110,103,101]]),
 ([106,110,103,101],[106,108],[]),
 ([115,101,116,108],[115,101,116,108],[[115,101,116,110,103,101]]),
 ([115,101,116,110,103,101],[115,101,116,108],[]),
 ([99,109,111,118,108],[99,109,111,118,108],[[99,109,111,118,110,103,101]]),
 ([99,109,111,118,110,103,101],[99,109,111,118,108],[]),
 ([106,103,101],[106,103,101],[[106,110,108]]),
 ([106,110,108],[106,103,101],[]),
 ([115,101,116,103,101],[115,101,116,103,101],[[115,101,116,110,108]]),
 ([115,101,116,110,108],[115,101,116,103,101],[]),
 ([99,109,111,118,103,101],[99,109,111,118,103,101],[[99,109,111,118,110,108]]),
 ([99,109,111,118,110,108],[99,109,111,118,103,101],[]),
 ([106,108,101],[106,108,101],[[106,110,103]]),
 ([106,110,103],[106,108,101],[]),
 ([115,101,116,108,101],[115,101,116,108,101],[[115,101,116,110,103]]),
 ([115,101,116,110,103],[115,101,116,108,101],[]),
 ([99,109,111,118,108,101],[99,109,111,118,108,101],[[99,109,111,118,110,103]]),
 ([99,109,111,118,110,103],[99,109,111,118,108,101],[]),
 ([106,103],[106,103],[[106,110,108,101]]),
 ([106,110,108,101],[106,103],[]),
 ([115,101,116,103],[115,101,116,103],[[115,101,116,110,108,101]]),
 ([115,101,116,110,108,101],[115,101,116,103],[]),
 ([99,109,111,118,103],[99,109,111,118,103],[[99,109,111,118,110,108,101]]),
 ([99,109,111,118,110,108,101],[99,109,111,118,103],[]),
 ([106,111],[106,111],[]),
 ([115,101,116,111],[115,101,116,111],[]),
 ([99,109,111,118,111],[99,109,111,118,111],[]),
 ([106,110,111],[106,110,111],[]),
 ([115,101,116,110,111],[115,101,116,110,111],[]),
 ([99,109,111,118,110,111],[99,109,111,118,110,111],[]),
 ([106,115],[106,115],[]),
 ([115,101,116,115],[115,101,116,115],[]),
 ([99,109,111,118,115],[99,109,111,118,115],[]),
 ([106,110,115],[106,110,115],[]),
 ([115,101,116,110,115],[115,101,116,110,115],[]),
 ([99,109,111,118,110,115],[99,109,111,118,110,115],[]),
 ([115,104,108],[115,104,108],[[115,97,108]]),
 ([108,111,111,112,101],[108,111,111,112,101],[[108,111,111,112,122]]),
 ([108,111,111,112,110,101],[108,111,111,112,110,101],[[108,111,111,112,110,122]]),
 ([114,101,112],[114,101,112],[[114,101,112,101],[114,101,112,122]]),
 ([114,101,112,110,101],[114,101,112,110,101],[[114,101,112,110,122]]),
 ([109,111,118],[109,111,118],[]),
 ([106,109,112],[106,109,112],[]),
 ([106,114,99,120,122],[106,114,99,120,122],[]),
 ([115,101,116,117,112],[115,101,116,117,112],[]),
 ([99,109,111,118],[99,109,111,118],[]),
 ([108,111,111,112],[108,111,111,112],[])]
theorem outs (n : Nat) (σ : Nums) : AllP (GoodO n σ) outL := by
  unfold outL
  repeat (first | exact .nil | refine .cons ⟨by kernel_rfl, by kernel_rfl, by kernel_rfl, by kernel_rfl⟩ ?_)
theorem ins (n : Nat) (σ : Nums) : AllP (GoodI n σ) inL := by
  unfold inL
  repeat (first | exact .nil | refine .cons ⟨by kernel_rfl, by kernel_rfl, by kernel_rfl, by kernel_rfl⟩ ?_)
theorem good (n : Nat) (σ : Nums) {t : List Nat × List Nat × List (List Nat)} (h : (outL.contains t || inL.contains t) = true) : GoodP n σ t := by
  rcases Bool.or_eq_true .. |>.mp h with h | h
  · exact ((outs n σ).all t (List.contains_iff_mem.mp h)).good
  · exact ((ins n σ).all t (List.contains_iff_mem.mp h)).good
end Mine.Pl
namespace Mine.Pl
section
variable {n : Nat} {r r' : Rho} {σ σ' σ1 σ2 : Nums} {u v z : V} {x : Nat}
theorem forL_cons {body : Rho → Nums → Option (Fl × Nums)} {bind : V → Rho → Option Rho} {vs : List V} {r1 r2 : Rho} {out : Option (Fl × Nums)} (h : bind v r = some r1) (h2 : body r1 σ = some (.next r2, σ1)) (h3 : forL body bind vs r2 σ1 = out) : forL body bind (v :: vs) r σ = out := (o1e h).trans ((oPe h2).trans h3)
theorem e_add {a b : M} (ha : (run prg n).e a r σ = some (u, σ1)) (hb : (run prg n).e b r σ1 = some (v, σ2)) (hc : addV u v = some z) : (run prg (n + 1)).e (.add a b) r σ = some (z, σ2) := e_bin ha hb hc
theorem add_str {a b : List Nat} (ha : okStr a = true) (hb : okStr b = true) : addV (.str a) (.str b) = some (.str (a ++ b)) :=
  oIe (show (okStr a && okStr b) = true by rw [ha, hb]; rfl)
noncomputable def sT1 : List Nat := [98, 58, 99, 44, 110, 97, 101, 32, 97, 101, 58, 110, 98, 44, 110, 99, 32, 101, 58, 122, 32, 110, 101, 58, 110, 122, 32, 98, 101, 58, 110, 97, 32, 97, 58, 110, 98, 101, 32, 112, 58, 112, 101, 32, 110, 112, 58, 112, 111, 32, 108, 58, 110, 103, 101, 32, 103, 101, 58, 110, 108, 32, 108, 101, 58, 110, 103, 32, 103, 58, 110, 108, 101, 32, 111, 58, 32, 110, 111, 58, 32, 115, 58, 32, 110, 115, 58]
noncomputable def sT2 : List Nat := [115, 104, 108, 58, 115, 97, 108, 32, 108, 111, 111, 112, 101, 58, 108, 111, 111, 112, 122, 32, 108, 111, 111, 112, 110, 101, 58, 108, 111, 111, 112, 110, 122, 32, 114, 101, 112, 58, 114, 101, 112, 101, 44, 114, 101, 112, 122, 32, 114, 101, 112, 110, 101, 58, 114, 101, 112, 110, 122, 32, 109, 111, 118, 58, 32, 106, 109, 112, 58, 32, 106, 114, 99, 120, 122, 58, 32, 115, 101, 116, 117, 112, 58, 32, 99, 109, 111, 118, 58, 32, 108, 111, 111, 112, 58]
noncomputable def stems1 : List (List Nat) := [[106], [115, 101, 116], [99, 109, 111, 118]]
noncomputable def stems2 : List (List Nat) := [[]]
noncomputable def wordsP (t : List Nat) : List (List Nat) := splitGo 32 [] t
noncomputable def nrB : List S := [(.asg 17 (.idx (.split (.var 16) (.cst (.str [32]))) (.fmod (.var 46) (.bif .len (.split (.var 16) (.cst (.str [32]))))))), (.asg 23 (.idx (.var 67) (.fmod (.fdiv (.var 46) (.cst (.int 7))) (.bif .len (.var 67))))), (.asgT [0, 68] (.split (.var 17) (.cst (.str [58])))), (.asg 0 (.add (.var 23) (.var 0))), (.asg 21 (.bif .sorted (.comp (.add (.var 23) (.var 33)) 33 (.split (.var 68) (.cst (.str [44]))) [(.cmp .ne (.var 33) (.cst (.str [])))]))), (.ife (.or [(.cmp .ne (.call 103 [(.var 0)]) (.var 0)), (.cmp .ne (.call 104 [(.var 0)]) (.var 21))]) [(.ret (.cst (.bool false)))] []), (.forI 33 (.var 21) [(.ife (.or [(.cmp .ne (.call 103 [(.var 33)]) (.var 0)), (.cmp .ne (.call 104 [(.var 33)]) (.lst []))]) [(.ret (.cst (.bool false)))] [])])]
noncomputable abbrev Ent := List Nat × List Nat × List Nat × List (List Nat)
noncomputable def eqLL : List (List Nat) → List (List Nat) → Bool
  | [], [] => true
  | a :: r, b :: t => leqN a b && eqLL r t
  | _, _ => false
theorem eqLL_eq : ∀ {a b : List (List Nat)}, eqLL a b = true → a = b
  | [], [], _ => rfl
  | a :: r, b :: t, h => by
    simp only [eqLL, Bool.and_eq_true, leqN_eq, decide_eq_true_eq] at h
    rw [h.1, eqLL_eq h.2]
  | [], _ :: _, h => by cases h
  | _ :: _, [], h => by cases h
noncomputable def strsOf : List V → Option (List (List Nat))
  | [] => some []
  | .str s :: t => (strsOf t).map (s :: ·)
  | _ :: _ => none
theorem strsOf_eq : ∀ {vs : List V} {ss : List (List Nat)}, strsOf vs = some ss → vs = ss.map .str
  | [], ss, h => by cases h; rfl
  | v :: t, ss, h => by
    cases v with
    | str s =>
      simp only [strsOf, Option.map_eq_some_iff] at h
      obtain ⟨l, hl, rfl⟩ := h
      rw [strsOf_eq hl]; rfl
    | _ => cases h
noncomputable def entB (e : Ent) : Bool := match splitGo 58 [] e.1 with
  | [a, b] => okStr e.1 && okStr e.2.1 && okStr a && okStr b && okStr e.2.2.1 && leqN (e.2.1 ++ a) e.2.2.1 && (splitGo 44 [] b).all okStr && Nat.ble (splitGo 44 [] b).length 1000 && e.2.2.2.all okStr && Nat.ble e.2.2.2.length 1000 &&
    (match sortV (((splitGo 44 [] b).filter fun y => !decide (y = [])).map fun y => .str (e.2.1 ++ y)) with
      | some l => (match strsOf l with
        | some l => eqLL l e.2.2.2
        | none => false)
      | none => false) &&
    (outL.contains (e.2.2.1, e.2.2.1, e.2.2.2) || inL.contains (e.2.2.1, e.2.2.1, e.2.2.2)) && e.2.2.2.all fun o => outL.contains (o, e.2.2.1, []) || inL.contains (o, e.2.2.1, [])
  | _ => false
theorem ent_all : entL.all entB = true := by decide +kernel
structure EntOK (e : Ent) (a b : List Nat) : Prop where
  s1 : splitGo 58 [] e.1 = [a, b]
  o1 : okStr e.1 = true
  o2 : okStr e.2.1 = true
  o3 : okStr a = true
  o4 : okStr b = true
  o5 : okStr e.2.2.1 = true
  nm : e.2.1 ++ a = e.2.2.1
  bs : (splitGo 44 [] b).all okStr = true
  bl : (splitGo 44 [] b).length ≤ 1000
  os : e.2.2.2.all okStr = true
  ol : e.2.2.2.length ≤ 1000
  so : sortV (((splitGo 44 [] b).filter fun y => !decide (y = [])).map fun y => .str (e.2.1 ++ y)) = some (e.2.2.2.map .str)
  g1 : (outL.contains (e.2.2.1, e.2.2.1, e.2.2.2) || inL.contains (e.2.2.1, e.2.2.1, e.2.2.2)) = true
  g2 : (e.2.2.2.all fun o => outL.contains (o, e.2.2.1, []) || inL.contains (o, e.2.2.1, [])) = true
theorem ent_ok {e : Ent} (h : e ∈ entL) : ∃ a b, EntOK e a b := by
  have h0 := List.all_eq_true.mp ent_all e h
  unfold entB at h0
  split at h0
  · rename_i a b hs
    simp only [Bool.and_eq_true] at h0
    obtain ⟨⟨⟨⟨⟨⟨⟨⟨⟨⟨⟨⟨h1, h2⟩, h3⟩, h4⟩, h5⟩, h6⟩, h7⟩, h8⟩, h9⟩, h10⟩, h11⟩, h12⟩, h13⟩ := h0
    refine ⟨a, b, hs, h1, h2, h3, h4, h5, by rw [leqN_eq] at h6; exact of_decide_eq_true h6, h7, Nat.le_of_ble_eq_true h8, h9, Nat.le_of_ble_eq_true h10, ?_, h12, h13⟩
    split at h11
    · rename_i l hl
      split at h11
      · rename_i l2 hl2
        rw [hl, strsOf_eq hl2, eqLL_eq h11]
      · cases h11
    · cases h11
  · cases h0
theorem split_str {s : List Nat} {c : Nat} (h : okStr s = true) (hc : Nat.blt c 128 = true) : splitV (.str s) (.str [c]) = some (.list ((splitGo c [] s).map .str)) :=
  oIe (show (okStr s && Nat.blt c 128) = true by rw [h, hc]; rfl)
theorem names_tail {e : Ent} {a b : List Nat} (E : EntOK e a b) (hw : r.w = none) {c : Int} (h46 : fget r.ρ 46 = some (.int c)) (h17 : fget r.ρ 17 = some (.str e.1)) (h23 : fget r.ρ 23 = some (.str e.2.1)) :
    ∃ r2, (run prg (n + 18)).s (nrB.drop 2) r σ = some (.next r2, σ) ∧ r2.w = none ∧ fget r2.ρ 46 = some (.int c) := by
  show ∃ r2, (run prg (n + 18)).s [(.asgT [0, 68] (.split (.var 17) (.cst (.str [58])))), (.asg 0 (.add (.var 23) (.var 0))), (.asg 21 (.bif .sorted (.comp (.add (.var 23) (.var 33)) 33 (.split (.var 68) (.cst (.str [44]))) [(.cmp .ne (.var 33) (.cst (.str [])))]))), (.ife (.or [(.cmp .ne (.call 103 [(.var 0)]) (.var 0)), (.cmp .ne (.call 104 [(.var 0)]) (.var 21))]) [(.ret (.cst (.bool false)))] []), (.forI 33 (.var 21) [(.ife (.or [(.cmp .ne (.call 103 [(.var 33)]) (.var 0)), (.cmp .ne (.call 104 [(.var 33)]) (.lst []))]) [(.ret (.cst (.bool false)))] [])])] r σ = some (.next r2, σ) ∧ r2.w = none ∧ fget r2.ρ 46 = some (.int c)
  obtain ⟨w, st, nm, als⟩ := e
  have E1 := E.s1
  dsimp only at h17 h23 E1
  have hb1 : bindT [0, 68] (.list ([a, b].map .str)) r = some ((r.set 0 (.str a)).set 68 (.str b)) := rfl
  generalize hr1 : (r.set 0 (.str a)).set 68 (.str b) = r1 at hb1
  have w1 : r1.w = none := by rw [← hr1, w_set, w_set, hw]
  have k46 : fget r1.ρ 46 = some (.int c) := by rw [← hr1, get_set, get_set]; exact h46
  have k23 : fget r1.ρ 23 = some (.str st) := by rw [← hr1, get_set, get_set]; exact h23
  have k0 : fget r1.ρ 0 = some (.str a) := by rw [← hr1, get_set, get_set]; rfl
  have k68 : fget r1.ρ 68 = some (.str b) := by rw [← hr1, get_set]; rfl
  generalize hr2 : r1.set 0 (.str nm) = r2
  have w2 : r2.w = none := by rw [← hr2, w_set, w1]
  have m46 : fget r2.ρ 46 = some (.int c) := by rw [← hr2, get_set]; exact k46
  have m23 : fget r2.ρ 23 = some (.str st) := by rw [← hr2, get_set]; exact k23
  have m0 : fget r2.ρ 0 = some (.str nm) := by rw [← hr2, get_set]; rfl
  have m68 : fget r2.ρ 68 = some (.str b) := by rw [← hr2, get_set]; exact k68
  have eo : (run prg (n + 17)).e (.bif .sorted (.comp (.add (.var 23) (.var 33)) 33 (.split (.var 68) (.cst (.str [44]))) [(.cmp .ne (.var 33) (.cst (.str [])))])) r2 σ = some (.list (als.map .str), σ) := by
    refine e_bif (tr_n w2 (e_comp (e_split (e_var m68) e_cst (split_str E.o4 rfl)) (items_list (by rw [List.length_map]; exact E.bl)) (compL_ifm V.str (fun y => .str (st ++ y)) (fun y => !decide (y = [])) (fun y hy => ?_) (fun y hy _ => ?_)))) ?_
    · exact and_one (e_cmp (e_var (by rw [get_fput]; rfl)) (tr_n rfl e_cst) (ne_str (List.all_eq_true.mp E.bs y hy) rfl))
    · exact e_add (e_var (by rw [get_fput]; exact m23)) (e_var (by rw [get_fput]; rfl)) (add_str E.o2 (List.all_eq_true.mp E.bs y hy))
    · exact o1e E.so
  generalize hr3 : r2.set 21 (.list (als.map .str)) = r3
  have w3 : r3.w = none := by rw [← hr3, w_set, w2]
  have p46 : fget r3.ρ 46 = some (.int c) := by rw [← hr3, get_set]; exact m46
  have p0 : fget r3.ρ 0 = some (.str nm) := by rw [← hr3, get_set]; exact m0
  have p21 : fget r3.ρ 21 = some (.list (als.map .str)) := by rw [← hr3, get_set]; rfl
  have plL : plain 8 (.list (als.map .str)) = true := by
    show (als.map V.str).all (plain 7) = true
    rw [List.all_map]; exact E.os
  have G1 := good (n + 2) σ E.g1
  have t1 : (run prg (n + 17)).e (.or [(.cmp .ne (.call 103 [(.var 0)]) (.var 0)), (.cmp .ne (.call 104 [(.var 0)]) (.var 21))]) r3 σ = some (.bool false, σ) :=
    e_or (or_cons (q := false) (q2 := false) (e_cmp (e_call (ev_cons (e_var p0) ev_nil) G1.can) (tr_n w3 (e_var p0)) (ne_refl (by exact E.o5)))
      (or_one (e_cmp (e_call (ev_cons (e_var p0) ev_nil) G1.ali) (tr_n w3 (e_var p21)) (ne_refl plL))))
  obtain ⟨r4, e4, i1, i2, i3⟩ := forL_fold (x := 33) (σ := σ) (r := r3) (m := 0) (b := ()) (body := fun r σ => (run prg (n + 17)).s [(.ife (.or [(.cmp .ne (.call 103 [(.var 33)]) (.var 0)), (.cmp .ne (.call 104 [(.var 33)]) (.lst []))]) [(.ret (.cst (.bool false)))] [])] r σ) V.str (fun _ _ => ()) (fun _ _ r => r.w = none ∧ fget r.ρ 46 = some (.int c) ∧ fget r.ρ 0 = some (.str nm)) 0 0 als (by omega) (fun o ho m b r _ hI => by
    obtain ⟨i1, i2, i3⟩ := hI
    have w5 : (r.set 33 (.str o)).w = none := by rw [w_set, i1]
    have q0 : fget (r.set 33 (.str o)).ρ 0 = some (.str nm) := by rw [get_set]; exact i3
    have q33 : fget (r.set 33 (.str o)).ρ 33 = some (.str o) := by rw [get_set]; rfl
    have G2 := good (n + 1) σ (List.all_eq_true.mp E.g2 o ho)
    have t2 : (run prg (n + 16)).e (.or [(.cmp .ne (.call 103 [(.var 33)]) (.var 0)), (.cmp .ne (.call 104 [(.var 33)]) (.lst []))]) (r.set 33 (.str o)) σ = some (.bool false, σ) :=
      e_or (or_cons (q := false) (q2 := false) (e_cmp (e_call (ev_cons (e_var q33) ev_nil) G2.can) (tr_n w5 (e_var q0)) (ne_refl (by exact E.o5)))
        (or_one (e_cmp (e_call (ev_cons (e_var q33) ev_nil) G2.ali) (tr_o (fun _ => by simp) (e_lst ev_nil rfl)) rfl)))
    exact ⟨_, .inl (s_no (n := n + 15) t2 s_nil), w5, by rw [get_set]; exact i2, q0⟩) ⟨w3, p46, p0⟩
  refine ⟨r4, ?_, i1, i2⟩
  refine s_asgT (n := n + 17) (e_split (e_var h17) e_cst (split_str E.o1 rfl)) (by rw [E1]; exact hb1) ?_
  refine s_asg (n := n + 17) (e_add (e_var k23) (e_var k0) (add_str E.o2 E.o3)) ?_
  rw [show st ++ a = nm from E.nm, hr2]
  refine s_asg (n := n + 17) eo ?_
  rw [hr3]
  refine s_no (n := n + 16) t1 ?_
  exact s_forI (e_var p21) (items_list (by rw [List.length_map]; exact E.ol)) e4 s_nil
theorem fmod_lt {a : Int} {m : Nat} (h : 0 < m) : ∃ i : Nat, i < m ∧ a.fmod (.ofNat m) = .ofNat i := by
  have h1 : (0 : Int) ≤ a.fmod m := Int.fmod_nonneg_of_pos a (by omega)
  have h2 : a.fmod m < m := Int.fmod_lt_of_pos a (by omega)
  obtain ⟨i, hi⟩ := Int.eq_ofNat_of_zero_le h1
  exact ⟨i, by omega, hi⟩
theorem fmod_V {a : Int} {m : Nat} (h : 0 < m) : ∃ i : Nat, i < m ∧ fmodV (.int a) (.int (.ofNat m)) = some (natV i) := by
  obtain ⟨i, hi, e⟩ := fmod_lt (a := a) h
  refine ⟨i, hi, ?_⟩
  exact (oIe (show (!((Int.ofNat m) == 0)) = true by simp; omega)).trans (by rw [e]; rfl)
theorem idx_tup {vs : List V} {i : Nat} {w : V} (h : vs.length ≤ 1000) (hw : vs[i]? = some w) : idxV (.tuple vs) (natV i) = some w := by
  exact (oIe (small_of h)).trans hw
theorem len_ofT {vs : List V} (h : vs.length ≤ 1000) : bifV .len (.tuple vs) = some (natV vs.length) := by
  exact oIe (small_of h)
theorem names_turn {tab : List Nat} {stems : List (List Nat)} (hok : okStr tab = true) (hwp : 0 < (wordsP tab).length) (hwl : (wordsP tab).length ≤ 1000) (hsp : 0 < stems.length) (hsl : stems.length ≤ 1000)
    (hent : ∀ w ∈ wordsP tab, ∀ st ∈ stems, ∃ nm als, (w, st, nm, als) ∈ entL) (hw : r.w = none) {c : Int} (h46 : fget r.ρ 46 = some (.int c)) (h16 : fget r.ρ 16 = some (.str tab)) (h67 : fget r.ρ 67 = some (.tuple (stems.map .str))) :
    ∃ r2, (run prg (n + 18)).s nrB r σ = some (.next r2, σ) ∧ r2.w = none ∧ fget r2.ρ 46 = some (.int c) := by
  obtain ⟨i, hi, ei⟩ := fmod_V (a := c) hwp
  obtain ⟨j, hj, ej⟩ := fmod_V (a := c.fdiv 7) hsp
  have gw : (wordsP tab)[i]? = some (wordsP tab)[i] := List.getElem?_eq_getElem hi
  have gs : stems[j]? = some stems[j] := List.getElem?_eq_getElem hj
  obtain ⟨nm, als, hm⟩ := hent _ (List.getElem_mem hi) _ (List.getElem_mem hj)
  obtain ⟨a, b, E⟩ := ent_ok hm
  have esp : ∀ k, (run prg (k + 2)).e (.split (.var 16) (.cst (.str [32]))) r σ = some (.list ((wordsP tab).map .str), σ) := fun k => e_split (e_var h16) e_cst (split_str hok rfl)
  have e1 : (run prg (n + 17)).e (.idx (.split (.var 16) (.cst (.str [32]))) (.fmod (.var 46) (.bif .len (.split (.var 16) (.cst (.str [32])))))) r σ = some (.str (wordsP tab)[i], σ) := by
    refine e_idx (esp _) (e_fmod (e_var h46) (e_bif (tr_o (fun _ => by simp) (esp _)) (len_ofL (by rw [List.length_map]; exact hwl))) (by rw [List.length_map]; exact ei)) ?_
    exact idx_list (by rw [List.length_map]; exact hwl) (by rw [List.getElem?_map, gw]; rfl)
  generalize hr1 : r.set 17 (.str (wordsP tab)[i]) = r1
  have w1 : r1.w = none := by rw [← hr1, w_set, hw]
  have k46 : fget r1.ρ 46 = some (.int c) := by rw [← hr1, get_set]; exact h46
  have k67 : fget r1.ρ 67 = some (.tuple (stems.map .str)) := by rw [← hr1, get_set]; exact h67
  have k17 : fget r1.ρ 17 = some (.str (wordsP tab)[i]) := by rw [← hr1, get_set]; rfl
  have e2 : (run prg (n + 17)).e (.idx (.var 67) (.fmod (.fdiv (.var 46) (.cst (.int 7))) (.bif .len (.var 67)))) r1 σ = some (.str stems[j], σ) := by
    refine e_idx (e_var k67) (e_fmod (e_fdiv (e_var k46) e_cst (z := .int (c.fdiv 7)) rfl) (e_bif (tr_n w1 (e_var k67)) (len_ofT (by rw [List.length_map]; exact hsl))) (by rw [List.length_map]; exact ej)) ?_
    exact idx_tup (by rw [List.length_map]; exact hsl) (by rw [List.getElem?_map, gs]; rfl)
  obtain ⟨r3, e3, w3, g3⟩ := names_tail (n := n) (σ := σ) (r := r1.set 23 (.str stems[j])) E (by rw [w_set, w1]) (c := c) (by rw [get_set]; exact k46) (by rw [get_set]; exact k17) (by rw [get_set]; rfl)
  refine ⟨r3, ?_, w3, g3⟩
  refine s_asg (n := n + 17) e1 ?_
  rw [hr1]
  exact s_asg (n := n + 17) e2 e3
noncomputable def entHas (w st : List Nat) : Bool := entL.any fun e => leqN e.1 w && leqN e.2.1 st
theorem has_ent {w st : List Nat} (h : entHas w st = true) : ∃ nm als, (w, st, nm, als) ∈ entL := by
  obtain ⟨⟨w', st', nm, als⟩, hm, he⟩ := List.any_eq_true.mp h
  simp only [Bool.and_eq_true, leqN_eq, decide_eq_true_eq] at he
  obtain ⟨rfl, rfl⟩ := he
  exact ⟨nm, als, hm⟩
theorem ents1 : (wordsP sT1).all (fun w => stems1.all fun st => entHas w st) = true := by decide +kernel
theorem ents2 : (wordsP sT2).all (fun w => stems2.all fun st => entHas w st) = true := by decide +kernel
theorem c_namesright (c : Int) : (run prg (n + 21)).c 135 [.int c] σ = some (.bool true, σ) := by
  refine run_c (d := f_law_names_right) (r := ⟨[(46, .int c)], none⟩) rfl rfl rfl ?_
  have he1 : ∀ w ∈ wordsP sT1, ∀ st ∈ stems1, ∃ nm als, (w, st, nm, als) ∈ entL := fun w hw st hst => has_ent (List.all_eq_true.mp (List.all_eq_true.mp ents1 w hw) st hst)
  have he2 : ∀ w ∈ wordsP sT2, ∀ st ∈ stems2, ∃ nm als, (w, st, nm, als) ∈ entL := fun w hw st hst => has_ent (List.all_eq_true.mp (List.all_eq_true.mp ents2 w hw) st hst)
  obtain ⟨r1, e1, w1, g1⟩ := names_turn (n := n + 1) (σ := σ) (r := ⟨[(46, .int c), (16, .str sT1), (67, .tuple (stems1.map .str))], none⟩) (tab := sT1) (stems := stems1) rfl (by decide +kernel) (by decide +kernel) (by decide) (by decide) he1 rfl (c := c) rfl rfl rfl
  have hb2 : bindT [16, 67] (.tuple [.str sT2, .tuple (stems2.map .str)]) r1 = some ((r1.set 16 (.str sT2)).set 67 (.tuple (stems2.map .str))) := rfl
  obtain ⟨r2, e2, w2, g2⟩ := names_turn (n := n + 1) (σ := σ) (r := (r1.set 16 (.str sT2)).set 67 (.tuple (stems2.map .str))) (tab := sT2) (stems := stems2) rfl (by decide +kernel) (by decide +kernel) (by decide) (by decide) he2 (by rw [w_set, w_set, w1]) (c := c) (by rw [get_set, get_set]; exact g1) (by rw [get_set, get_set]; rfl) (by rw [get_set]; rfl)
  have ef : forL (fun r σ => (run prg (n + 19)).s nrB r σ) (bindT [16, 67]) [.tuple [.str sT1, .tuple (stems1.map .str)], .tuple [.str sT2, .tuple (stems2.map .str)]] ⟨[(46, .int c)], none⟩ σ = some (.next r2, σ) := by
    have hb1 : bindT [16, 67] (.tuple [.str sT1, .tuple (stems1.map .str)]) ⟨[(46, .int c)], none⟩ = some ⟨[(46, .int c), (16, .str sT1), (67, .tuple (stems1.map .str))], none⟩ := rfl
    exact forL_cons hb1 e1 (forL_cons hb2 e2 rfl)
  unfold f_law_names_right
  refine s_forT (n := n + 19) (v := .tuple [.tuple [.str sT1, .tuple (stems1.map .str)], .tuple [.str sT2, .tuple (stems2.map .str)]]) (by kernel_rfl) rfl ef ?_
  exact s_ret (n := n + 19) (tr_o (fun _ => by simp) e_cst) rfl
end
end Mine.Pl
namespace Mine.Pl
set_option maxHeartbeats 4000000
noncomputable def rawV (name : List Nat) (kinds : List (List Nat)) (op esc digit size must : Int) (wide : Bool) (places : List (List Nat)) : V :=
  .inst 0 [(0, .str name), (1, .tuple (kinds.map .str)), (2, .int op), (3, .int esc), (4, .int digit), (5, .int size), (6, .int must), (7, .bool wide), (8, .int (-1)), (9, .tuple (places.map .str))] none
noncomputable def argsV (name : List Nat) (kinds : List (List Nat)) (op esc digit size must : Int) (wide : Bool) : List V :=
  [.str name, .tuple (kinds.map .str), .int op, .int esc, .int digit, .int size, .int must, .bool wide]
theorem c_init (n : Nat) (σ : Nums) (name : List Nat) (op esc must : Int) : ∀ k, k < 18 → (run prg (n + 16)).c 101 (.inst 0 [] none :: argsV name (kd k).kinds op esc (kd k).digit (kd k).size must (kd k).wide) σ = some (rawV name (kd k).kinds op esc (kd k).digit (kd k).size must (kd k).wide (kd k).places, σ) :=
  by_k (by kernel_rfl) (by kernel_rfl) (by kernel_rfl) (by kernel_rfl) (by kernel_rfl) (by kernel_rfl) (by kernel_rfl) (by kernel_rfl) (by kernel_rfl) (by kernel_rfl) (by kernel_rfl) (by kernel_rfl) (by kernel_rfl) (by kernel_rfl) (by kernel_rfl) (by kernel_rfl) (by kernel_rfl) (by kernel_rfl)
theorem c_init0 (n : Nat) (σ : Nums) (name : List Nat) (op esc digit size must : Int) (wide : Bool) : (run prg (n + 16)).c 101 (.inst 0 [] none :: argsV name [] op esc digit size must wide) σ = some (rawV name [] op esc digit size must wide [], σ) := by kernel_rfl
section
variable {n : Nat} {r r' : Rho} {σ σ' σ1 σ2 : Nums} {u v z : V} {x : Nat}
theorem e_form {as : List M} {name : List Nat} {kinds : List (List Nat)} {op esc digit size must : Int} {wide : Bool} {places : List (List Nat)} (ha : evs (fun m σ => (run prg n).e m r σ) as σ = some (argsV name kinds op esc digit size must wide, σ1))
    (hc : (run prg n).c 101 (.inst 0 [] none :: argsV name kinds op esc digit size must wide) σ1 = some (rawV name kinds op esc digit size must wide places, σ2)) : (run prg (n + 1)).e (.form as) r σ = some (.inst 0 (fieldsG name kinds op esc digit size must wide places) (some σ2.length), σ2 ++ [-1]) := by
  have hc : (run prg n).c N.form_init (.inst 0 [] none :: argsV name kinds op esc digit size must wide) σ1 = some (rawV name kinds op esc digit size must wide places, σ2) := hc
  exact (oPe ha).trans ((oPe hc).trans rfl)
noncomputable def menuL : List (List (List Nat) × Int × Bool) :=
  [([[114, 109, 51, 50], [114, 51, 50]], 32, false), ([[114, 109, 49, 54], [114, 49, 54]], 16, false), ([[114, 109, 54, 52], [114, 54, 52]], 64, false), ([[114, 109, 56], [114, 56]], 8, false),
   ([[120], [120, 109, 49, 50, 56]], 0, false), ([[120], [109, 54, 52]], 0, false), ([[114, 109, 54, 52]], 64, true), ([[111, 54, 52]], 64, true), ([[111, 49, 54]], 16, false), ([], 0, false),
   ([[101, 97, 120], [105, 109, 109, 51, 50]], 32, false), ([[114, 51, 50], [109]], 32, false), ([[109, 51, 50], [114, 51, 50]], 32, false), ([[114, 109, 51, 50], [117, 105, 109, 109, 56]], 32, false)]
noncomputable def menV (t : List (List Nat) × Int × Bool) : V := .tuple [.tuple (t.1.map .str), .int t.2.1, .bool t.2.2]
theorem c_menu {c : Int} {i : Nat} {t : List (List Nat) × Int × Bool} (hm : c.fmod 14 = .ofNat i) (ht : menuL[i]? = some t) : (run prg (n + 9)).c 128 [.int c] σ = some (menV t, σ) := by
  refine run_c (d := f_law_menu) (r := ⟨[(8, .int c)], none⟩) rfl rfl rfl ?_
  unfold f_law_menu
  refine s_asg (σ1 := σ) (v := .list ((menuL.take 4).map menV)) (by kernel_rfl) ?_
  refine s_asg (σ1 := σ) (v := .list ((menuL.take 8).map menV)) (by kernel_rfl) ?_
  refine s_asg (σ1 := σ) (v := .list ((menuL.take 12).map menV)) (by kernel_rfl) ?_
  refine s_asg (σ1 := σ) (v := .list (menuL.map menV)) (by kernel_rfl) ?_
  refine s_ret (tr_o (fun _ => by simp) (e_idx (e_var (v := .list (menuL.map menV)) rfl) (e_fmod (e_var (v := .int c) rfl) e_cst (z := natV i) ?_) ?_)) rfl
  · show (if (14 : Int) == 0 then none else some (V.int (c.fmod 14))) = _
    rw [hm]; rfl
  · exact idx_list (by decide) (by rw [List.getElem?_map, ht]; rfl)
noncomputable def cO : M := .and [(.cmp .ne (.var 1) (.tup [])), (.cmp .eq (.idx (.idx (.var 1) (.cst (.int 0))) (.cst (.int 0))) (.cst (.str [111])))]
noncomputable def cD : M := .or [(.and [(.cmp .gt (.bif .len (.var 1)) (.cst (.int 0))), (.cmp .eq (.upto (.idx (.var 1) (.cst (.int 0))) (.cst (.int 2))) (.cst (.str [114, 109]))), (.cmp .ne (.idx (.idx (.var 1) (.neg (.cst (.int 1)))) (.cst (.int 0))) (.cst (.str [114])))]), (.cmp .eq (.var 1) (.tup [(.cst (.str [114, 109, 54, 52]))]))]
noncomputable def rhoA (c : Int) (t : List (List Nat) × Int × Bool) (op : Int) : Rho := ⟨[(46, .int c), (1, .tuple (t.1.map .str)), (5, .int t.2.1), (7, .bool t.2.2), (8, .int (c.fdiv 14)), (15, .int op)], none⟩
noncomputable def rhoB (c : Int) (t : List (List Nat) × Int × Bool) (op d : Int) : Rho := ⟨[(46, .int c), (1, .tuple (t.1.map .str)), (5, .int t.2.1), (7, .bool t.2.2), (8, .int (c.fdiv 14)), (15, .int op), (4, .int d)], none⟩
structure MenuOK (n : Nat) (σ : Nums) (c : Int) (t : List (List Nat) × Int × Bool) (b1 b2 : Bool) : Prop where
  o : ∀ op, (run prg (n + 14)).e cO (rhoA c t op) σ = some (.bool b1, σ)
  d : ∀ op, (run prg (n + 14)).e cD (rhoB c t op (-1)) σ = some (.bool b2, σ)
  k : ∀ d : Int, (d = -1 ∨ (b2 = true ∧ (d = 0 ∨ d = 1))) → ∃ k, k < 18 ∧ (kd k).kinds = t.1 ∧ (kd k).digit = d ∧ (kd k).size = t.2.1 ∧ (kd k).wide = t.2.2
theorem k_of {t : List (List Nat) × Int × Bool} (k : Nat) (h : k < 18 ∧ (kd k).kinds = t.1 ∧ (kd k).digit = -1 ∧ (kd k).size = t.2.1 ∧ (kd k).wide = t.2.2) : ∀ d : Int, (d = -1 ∨ (false = true ∧ (d = 0 ∨ d = 1))) → ∃ k, k < 18 ∧ (kd k).kinds = t.1 ∧ (kd k).digit = d ∧ (kd k).size = t.2.1 ∧ (kd k).wide = t.2.2 := fun d hd => by
  rcases hd with rfl | ⟨h, _⟩
  · exact ⟨k, h⟩
  · cases h
theorem k_of3 {t : List (List Nat) × Int × Bool} (k k0 k1 : Nat) (h : k < 18 ∧ (kd k).kinds = t.1 ∧ (kd k).digit = -1 ∧ (kd k).size = t.2.1 ∧ (kd k).wide = t.2.2) (h0 : k0 < 18 ∧ (kd k0).kinds = t.1 ∧ (kd k0).digit = 0 ∧ (kd k0).size = t.2.1 ∧ (kd k0).wide = t.2.2) (h1 : k1 < 18 ∧ (kd k1).kinds = t.1 ∧ (kd k1).digit = 1 ∧ (kd k1).size = t.2.1 ∧ (kd k1).wide = t.2.2) :
    ∀ d : Int, (d = -1 ∨ (true = true ∧ (d = 0 ∨ d = 1))) → ∃ k, k < 18 ∧ (kd k).kinds = t.1 ∧ (kd k).digit = d ∧ (kd k).size = t.2.1 ∧ (kd k).wide = t.2.2 := fun d hd => by
  rcases hd with rfl | ⟨_, rfl | rfl⟩
  · exact ⟨k, h⟩
  · exact ⟨k0, h0⟩
  · exact ⟨k1, h1⟩
theorem menu_ok (n : Nat) (σ : Nums) (c : Int) : ∀ i, i < 14 → ∃ t b1 b2, menuL[i]? = some t ∧ MenuOK n σ c t b1 b2
  | 0, _ => ⟨_, false, false, rfl, fun _ => by kernel_rfl, fun _ => by kernel_rfl, k_of 0 (by decide)⟩
  | 1, _ => ⟨_, false, false, rfl, fun _ => by kernel_rfl, fun _ => by kernel_rfl, k_of 1 (by decide)⟩
  | 2, _ => ⟨_, false, false, rfl, fun _ => by kernel_rfl, fun _ => by kernel_rfl, k_of 2 (by decide)⟩
  | 3, _ => ⟨_, false, false, rfl, fun _ => by kernel_rfl, fun _ => by kernel_rfl, k_of 3 (by decide)⟩
  | 4, _ => ⟨_, false, false, rfl, fun _ => by kernel_rfl, fun _ => by kernel_rfl, k_of 4 (by decide)⟩
  | 5, _ => ⟨_, false, false, rfl, fun _ => by kernel_rfl, fun _ => by kernel_rfl, k_of 5 (by decide)⟩
  | 6, _ => ⟨_, false, true, rfl, fun _ => by kernel_rfl, fun _ => by kernel_rfl, k_of3 6 14 15 (by decide) (by decide) (by decide)⟩
  | 7, _ => ⟨_, true, false, rfl, fun _ => by kernel_rfl, fun _ => by kernel_rfl, k_of 7 (by decide)⟩
  | 8, _ => ⟨_, true, false, rfl, fun _ => by kernel_rfl, fun _ => by kernel_rfl, k_of 8 (by decide)⟩
  | 9, _ => ⟨_, false, false, rfl, fun _ => by kernel_rfl, fun _ => by kernel_rfl, k_of 9 (by decide)⟩
  | 10, _ => ⟨_, false, false, rfl, fun _ => by kernel_rfl, fun _ => by kernel_rfl, k_of 10 (by decide)⟩
  | 11, _ => ⟨_, false, false, rfl, fun _ => by kernel_rfl, fun _ => by kernel_rfl, k_of 11 (by decide)⟩
  | 12, _ => ⟨_, false, false, rfl, fun _ => by kernel_rfl, fun _ => by kernel_rfl, k_of 12 (by decide)⟩
  | 13, _ => ⟨_, false, true, rfl, fun _ => by kernel_rfl, fun _ => by kernel_rfl, k_of3 13 16 17 (by decide) (by decide) (by decide)⟩
  | i + 14, h => absurd h (by omega)
theorem e_mul {a b : M} (ha : (run prg n).e a r σ = some (u, σ1)) (hb : (run prg n).e b r σ1 = some (v, σ2)) (hc : mulV u v = some z) : (run prg (n + 1)).e (.mul a b) r σ = some (z, σ2) := e_bin ha hb hc
theorem e_neg {a : M} (ha : (run prg n).e a r σ = some (u, σ1)) (hc : negV u = some z) : (run prg (n + 1)).e (.neg a) r σ = some (z, σ1) := (oPe ha).trans (o1e hc)
theorem s_ifeN {c : M} {a rest : List S} {out : Option (Fl × Nums)} {q : Bool} {r1 : Rho} (h : (run prg n).e c r σ = some (.bool q, σ)) (hb : (run prg n).s (if q then a else []) r σ = some (.next r1, σ)) (h2 : (run prg (n + 1)).s rest r1 σ = out) : (run prg (n + 1)).s (.ife c a [] :: rest) r σ = out :=
  s_ife h hb h2
structure RowOK2 (r : Row) : Prop extends RowOK r where
  three : r.name ∈ NM3
  must : r.must ≠ 242
theorem c_row (c : Int) : ∃ q : Row, RowOK2 q ∧ (run prg (n + 19)).c 129 [.int c] σ = some (formV σ.length q, σ ++ [-1]) := by
  obtain ⟨i, hi, em⟩ := fmod_lt (a := c) (m := 14) (by omega)
  obtain ⟨t, b1, b2, ht, M⟩ := menu_ok (n + 3) σ c i hi
  obtain ⟨i1, h1, f1⟩ := fmod_V (a := c.fdiv 14) (m := 4) (by omega)
  have ho : ∃ op0 op1 : Int, ([.int 16, .int 144, .int 147, .int 19] : List V)[i1]? = some (.int op0) ∧ mulV (.int (op0.fdiv 8)) (.int 8) = some (.int op1) := by
    rcases i1 with _ | _ | _ | _ | i1
    · exact ⟨16, 16, rfl, rfl⟩
    · exact ⟨144, 144, rfl, rfl⟩
    · exact ⟨147, 144, rfl, rfl⟩
    · exact ⟨19, 16, rfl, rfl⟩
    · omega
  obtain ⟨op0, op1, ho0, ho1⟩ := ho
  have ho2 : ∃ op, (run prg (n + 17)).s (if b1 then [(.asg 15 (.mul (.fdiv (.var 15) (.cst (.int 8))) (.cst (.int 8))))] else []) (rhoA c t op0) σ = some (.next (rhoA c t op), σ) := by
    cases b1 with
    | false => exact ⟨op0, s_nil⟩
    | true => exact ⟨op1, s_asg (n := n + 16) (e_mul (e_fdiv (e_var (v := .int op0) rfl) e_cst (z := .int (op0.fdiv 8)) rfl) e_cst ho1) s_nil⟩
  obtain ⟨op, ho2⟩ := ho2
  obtain ⟨i2, h2, f2⟩ := fmod_V (a := (c.fdiv 14).fdiv 24) (m := 3) (by omega)
  have hd : ∃ d : Int, (d = -1 ∨ (b2 = true ∧ (d = 0 ∨ d = 1))) ∧ (run prg (n + 17)).s (if b2 then [(.asg 4 (.idx (.tup [(.neg (.cst (.int 1))), (.cst (.int 0)), (.cst (.int 1))]) (.fmod (.fdiv (.var 8) (.cst (.int 24))) (.cst (.int 3)))))] else []) (rhoB c t op (-1)) σ = some (.next (rhoB c t op d), σ) := by
    cases b2 with
    | false => exact ⟨-1, .inl rfl, s_nil⟩
    | true =>
      have : ∃ d : Int, (d = -1 ∨ (true = true ∧ (d = 0 ∨ d = 1))) ∧ ([.int (-1), .int 0, .int 1] : List V)[i2]? = some (.int d) := by
        rcases i2 with _ | _ | _ | i2
        · exact ⟨-1, .inl rfl, rfl⟩
        · exact ⟨0, .inr ⟨rfl, .inl rfl⟩, rfl⟩
        · exact ⟨1, .inr ⟨rfl, .inr rfl⟩, rfl⟩
        · omega
      obtain ⟨d, hd, hd2⟩ := this
      exact ⟨d, hd, s_asg (n := n + 16) (e_idx (e_tup (ev_cons (e_neg e_cst rfl) (ev_cons e_cst (ev_cons e_cst ev_nil))) rfl) (e_fmod (e_fdiv (e_var (v := .int (c.fdiv 14)) rfl) e_cst (z := .int ((c.fdiv 14).fdiv 24)) rfl) e_cst f2) (idx_tup (by decide) hd2)) s_nil⟩
  obtain ⟨d, hd1, hd2⟩ := hd
  obtain ⟨k, hk, k1, k2, k3, k4⟩ := M.k d hd1
  obtain ⟨i3, h3, f3⟩ := fmod_V (a := (c.fdiv 14).fdiv 72) (m := 3) (by omega)
  have hn : ∃ nm : List Nat, nm ∈ NM3 ∧ ([.str nOne, .str nTwo, .str nSix] : List V)[i3]? = some (.str nm) := by
    rcases i3 with _ | _ | _ | i3
    · exact ⟨nOne, by simp [NM3], rfl⟩
    · exact ⟨nTwo, by simp [NM3], rfl⟩
    · exact ⟨nSix, by simp [NM3], rfl⟩
    · omega
  obtain ⟨nm, hnm, hn2⟩ := hn
  obtain ⟨i4, h4, f4⟩ := fmod_V (a := (c.fdiv 14).fdiv 8) (m := 3) (by omega)
  have hm : ∃ mu : Int, mu ≠ 242 ∧ ([.int 0, .int 102, .int 243] : List V)[i4]? = some (.int mu) := by
    rcases i4 with _ | _ | _ | i4
    · exact ⟨0, by decide, rfl⟩
    · exact ⟨102, by decide, rfl⟩
    · exact ⟨243, by decide, rfl⟩
    · omega
  obtain ⟨mu, hmu, hm2⟩ := hm
  refine ⟨⟨nm, k, op, ((c.fdiv 14).fdiv 4).fmod 2, mu⟩, ⟨⟨hk, nm_ok nm ?_⟩, hnm, hmu⟩, ?_⟩
  · simp only [NM3, List.mem_cons, List.not_mem_nil, or_false] at hnm
    simp only [NM4, List.mem_cons, List.not_mem_nil, or_false]
    rcases hnm with h | h | h <;> simp [h]
  refine run_c (d := f_law_row) (r := ⟨[(46, .int c)], none⟩) rfl rfl rfl ?_
  unfold f_law_row
  refine s_asgT (n := n + 17) (e_call (ev_cons (e_var rfl) ev_nil) (c_menu (n := n + 7) em ht)) (r' := ⟨[(46, .int c), (1, .tuple (t.1.map .str)), (5, .int t.2.1), (7, .bool t.2.2)], none⟩) rfl ?_
  refine s_asg (n := n + 17) (v := .int (c.fdiv 14)) (e_fdiv (e_var rfl) e_cst rfl) ?_
  refine s_asg (n := n + 17) (v := .int op0) (e_idx (e_tup (ev_cons e_cst (ev_cons e_cst (ev_cons e_cst (ev_cons e_cst ev_nil)))) rfl) (e_fmod (e_var (v := .int (c.fdiv 14)) rfl) e_cst f1) (idx_tup (by decide) ho0)) ?_
  refine s_ifeN (n := n + 17) (M.o op0) ho2 ?_
  refine s_asg (n := n + 17) (v := .int (-1)) (e_neg e_cst rfl) ?_
  refine s_ifeN (n := n + 17) (M.d op) hd2 ?_
  have hc := c_init n σ nm op (((c.fdiv 14).fdiv 4).fmod 2) mu k hk
  rw [k1, k2, k3, k4] at hc
  have e8 : ∀ j, (run prg (j + 1)).e (.var 8) (rhoB c t op d) σ = some (.int (c.fdiv 14), σ) := fun j => e_var rfl
  have e := e_form (n := n + 16) (r := rhoB c t op d) (as := [(.idx (.tup [(.cst (.str [111, 110, 101])), (.cst (.str [116, 119, 111])), (.cst (.str [115, 105, 120]))]) (.fmod (.fdiv (.var 8) (.cst (.int 72))) (.cst (.int 3)))), (.var 1), (.var 15), (.fmod (.fdiv (.var 8) (.cst (.int 4))) (.cst (.int 2))), (.var 4), (.var 5), (.idx (.tup [(.cst (.int 0)), (.cst (.int 102)), (.cst (.int 243))]) (.fmod (.fdiv (.var 8) (.cst (.int 8))) (.cst (.int 3)))), (.var 7)])
    (ev_cons (e_idx (e_tup (ev_cons e_cst (ev_cons e_cst (ev_cons e_cst ev_nil))) rfl) (e_fmod (e_fdiv (e8 _) e_cst (z := .int ((c.fdiv 14).fdiv 72)) rfl) e_cst f3) (idx_tup (by decide) hn2))
      (ev_cons (e_var rfl) (ev_cons (e_var rfl) (ev_cons (e_fmod (e_fdiv (e8 _) e_cst (z := .int ((c.fdiv 14).fdiv 4)) rfl) e_cst rfl) (ev_cons (e_var rfl) (ev_cons (e_var rfl)
        (ev_cons (e_idx (e_tup (ev_cons e_cst (ev_cons e_cst (ev_cons e_cst ev_nil))) rfl) (e_fmod (e_fdiv (e8 _) e_cst (z := .int ((c.fdiv 14).fdiv 8)) rfl) e_cst f4) (idx_tup (by decide) hm2))
          (ev_cons (e_var rfl) ev_nil))))))))
    hc
  have hr := s_ret (n := n + 17) (rest := []) (tr_o (fun _ => by simp) e) rfl
  unfold formV
  rw [k1, k2, k3, k4]
  exact hr
end
end Mine.Pl
namespace Mine.Pl
set_option maxHeartbeats 4000000
section
variable {n : Nat} {r r' : Rho} {σ σ' σ1 σ2 : Nums} {u v z : V} {x : Nat} {rs : List Row}
noncomputable def lawB : List S := [(.asgT [31, 41] (.call 114 [(.var 38)])), (.asg 71 (.and [(.cmp .eq (.comp (.var 44) 44 (.attr (.var 38) 1) [(.or [(.cmp .in_ (.upto (.var 44) (.cst (.int 1))) (.tup [(.cst (.str [109])), (.cst (.str [120]))])), (.cmp .eq (.upto (.var 44) (.cst (.int 1))) (.cst (.str [114])))])]) (.lst [])), (.cmp .lt (.attr (.var 38) 4) (.cst (.int 0)))])), (.ife (.cmp .ne (.var 31) (.ite (.cmp .ge (.attr (.var 38) 4) (.cst (.int 0))) (.lst [(.attr (.var 38) 4)]) (.lst [(.cst (.int 0)), (.cst (.int 1)), (.cst (.int 2)), (.cst (.int 3)), (.cst (.int 4)), (.cst (.int 5)), (.cst (.int 6)), (.cst (.int 7))]))) [(.ret (.cst (.bool false)))] []), (.ife (.cmp .ne (.var 41) (.ite (.or [(.var 71), (.cmp .eq (.comp (.var 44) 44 (.attr (.var 38) 1) [(.cmp .eq (.idx (.var 44) (.cst (.int 0))) (.cst (.str [109])))]) (.lst []))]) (.lst [(.cst (.int 0)), (.cst (.int 1))]) (.lst [(.cst (.int 0))]))) [(.ret (.cst (.bool false)))] [])]
noncomputable def lawF1 : M := .form [(.attr (.var 38) 0), (.tup []), (.cst (.int 0)), (.cst (.int 0)), (.neg (.cst (.int 1))), (.attr (.var 38) 5), (.cst (.int 0)), (.attr (.var 38) 7)]
noncomputable def lawF2 : M := .form [(.attr (.idx (.var 45) (.cst (.int 0))) 0), (.tup []), (.cst (.int 0)), (.cst (.int 0)), (.neg (.cst (.int 1))), (.attr (.idx (.var 45) (.cst (.int 0))) 5), (.cst (.int 0)), (.attr (.idx (.var 45) (.cst (.int 0))) 7)]
noncomputable def lawC : M := .or [(.cmp .ne (.call 115 [(.var 72), (.var 73)]) (.call 132 [(.var 72), (.var 73), (.tup [(.cst (.int 0))]), (.tup [(.cst (.int 0))])])), (.cmp .ne (.call 115 [(.var 73), (.var 72)]) (.call 115 [(.var 72), (.var 73)]))]
noncomputable def lawL : List S := lawB ++ [(.asg 72 lawF1), (.asg 73 lawF2), (.ife lawC [(.ret (.cst (.bool false)))] [])]
noncomputable def bareB (k : Nat) : Bool := (kd k).kinds.all (fun s => match s.head? with | some 109 => false | some 120 => false | some 114 => false | _ => true) && decide ((kd k).digit < 0)
noncomputable def rho4 (a b c f : V) : Rho := ⟨[(70, a), (69, b), (45, c), (38, f)], none⟩
noncomputable def rho7 (a b c f d m : V) (q : Bool) : Rho := ⟨[(70, a), (69, b), (45, c), (38, f), (31, d), (41, m), (71, .bool q)], none⟩
noncomputable def rho9 (a b c f d m q g h : V) : Rho := ⟨[(70, a), (69, b), (45, c), (38, f), (31, d), (41, m), (71, q), (72, g), (73, h)], none⟩
noncomputable def dgV (k : Nat) : V := .list ((kd k).digits.map .int)
noncomputable def mdV (k : Nat) : V := .list ((kd k).mods.map .int)
theorem law_b4 (n l : Nat) (σ : Nums) (a b c : V) (name : List Nat) (op esc must : Int) : ∀ k, k < 18 → (run prg (n + 24)).s lawB (rho4 a b c (formV l ⟨name, k, op, esc, must⟩)) σ = some (.next (rho7 a b c (formV l ⟨name, k, op, esc, must⟩) (dgV k) (mdV k) (bareB k)), σ) :=
  by_k (by kernel_rfl) (by kernel_rfl) (by kernel_rfl) (by kernel_rfl) (by kernel_rfl) (by kernel_rfl) (by kernel_rfl) (by kernel_rfl) (by kernel_rfl) (by kernel_rfl) (by kernel_rfl) (by kernel_rfl) (by kernel_rfl) (by kernel_rfl) (by kernel_rfl) (by kernel_rfl) (by kernel_rfl) (by kernel_rfl)
theorem law_b9 (n l : Nat) (σ : Nums) (a b c d m q g h : V) (name : List Nat) (op esc must : Int) : ∀ k, k < 18 → (run prg (n + 24)).s lawB (rho9 a b c (formV l ⟨name, k, op, esc, must⟩) d m q g h) σ = some (.next (rho9 a b c (formV l ⟨name, k, op, esc, must⟩) (dgV k) (mdV k) (.bool (bareB k)) g h), σ) :=
  by_k (by kernel_rfl) (by kernel_rfl) (by kernel_rfl) (by kernel_rfl) (by kernel_rfl) (by kernel_rfl) (by kernel_rfl) (by kernel_rfl) (by kernel_rfl) (by kernel_rfl) (by kernel_rfl) (by kernel_rfl) (by kernel_rfl) (by kernel_rfl) (by kernel_rfl) (by kernel_rfl) (by kernel_rfl) (by kernel_rfl)
noncomputable def alV (l : Nat) (name : List Nat) (size : Int) (wide : Bool) : V := .inst 0 (fieldsG name [] 0 0 (-1) size 0 wide []) (some l)
theorem by_sw {P : Int → Bool → Prop} (h1 : P 32 false) (h2 : P 16 false) (h3 : P 64 false) (h4 : P 8 false) (h5 : P 0 false) (h6 : P 64 true) : ∀ k, k < 18 → P (kd k).size (kd k).wide :=
  by_k h1 h2 h3 h4 h5 h5 h6 h6 h2 h5 h1 h1 h1 h1 h6 h6 h1 h1
theorem law_c (n l l' : Nat) (σ : Nums) (a b c f d m q : V) (n1 n2 : List Nat) : ∀ k, k < 18 → ∀ k', k' < 18 → (run prg (n + 24)).e lawC (rho9 a b c f d m q (alV l n1 (kd k).size (kd k).wide) (alV l' n2 (kd k').size (kd k').wide)) σ = some (.bool false, σ) :=
  by_sw (P := fun s w => ∀ k', k' < 18 → (run prg (n + 24)).e lawC (rho9 a b c f d m q (alV l n1 s w) (alV l' n2 (kd k').size (kd k').wide)) σ = some (.bool false, σ))
    (by_sw (P := fun s w => (run prg (n + 24)).e lawC (rho9 a b c f d m q (alV l n1 32 false) (alV l' n2 s w)) σ = some (.bool false, σ)) (by kernel_rfl) (by kernel_rfl) (by kernel_rfl) (by kernel_rfl) (by kernel_rfl) (by kernel_rfl))
    (by_sw (P := fun s w => (run prg (n + 24)).e lawC (rho9 a b c f d m q (alV l n1 16 false) (alV l' n2 s w)) σ = some (.bool false, σ)) (by kernel_rfl) (by kernel_rfl) (by kernel_rfl) (by kernel_rfl) (by kernel_rfl) (by kernel_rfl))
    (by_sw (P := fun s w => (run prg (n + 24)).e lawC (rho9 a b c f d m q (alV l n1 64 false) (alV l' n2 s w)) σ = some (.bool false, σ)) (by kernel_rfl) (by kernel_rfl) (by kernel_rfl) (by kernel_rfl) (by kernel_rfl) (by kernel_rfl))
    (by_sw (P := fun s w => (run prg (n + 24)).e lawC (rho9 a b c f d m q (alV l n1 8 false) (alV l' n2 s w)) σ = some (.bool false, σ)) (by kernel_rfl) (by kernel_rfl) (by kernel_rfl) (by kernel_rfl) (by kernel_rfl) (by kernel_rfl))
    (by_sw (P := fun s w => (run prg (n + 24)).e lawC (rho9 a b c f d m q (alV l n1 0 false) (alV l' n2 s w)) σ = some (.bool false, σ)) (by kernel_rfl) (by kernel_rfl) (by kernel_rfl) (by kernel_rfl) (by kernel_rfl) (by kernel_rfl))
    (by_sw (P := fun s w => (run prg (n + 24)).e lawC (rho9 a b c f d m q (alV l n1 64 true) (alV l' n2 s w)) σ = some (.bool false, σ)) (by kernel_rfl) (by kernel_rfl) (by kernel_rfl) (by kernel_rfl) (by kernel_rfl) (by kernel_rfl))
theorem form_alike {a : M} {q : Nat × Row} (ha : ∀ j σ, (run prg (j + 2)).e a r σ = some (fv q, σ)) (ht : ∀ y, a ≠ .var y ∨ r.w = none) : (run prg (n + 17)).e (.form [(.attr a 0), (.tup []), (.cst (.int 0)), (.cst (.int 0)), (.neg (.cst (.int 1))), (.attr a 5), (.cst (.int 0)), (.attr a 7)]) r σ = some (alV σ.length q.2.name (kd q.2.k).size (kd q.2.k).wide, σ ++ [-1]) := by
  have htr : ∀ j σ, tr (run prg (j + 2)).e a r σ = some (fv q, σ) := fun j σ => tr_e (fun x hx y u hw => by
    rcases ht x with h | h
    · exact absurd hx h
    · rw [h] at hw; cases hw) (ha j σ)
  exact e_form (n := n + 16) (places := []) (kinds := []) (ev_cons (e_attr (n := n + 15) (v := .str q.2.name) (htr (n + 13) σ) rfl rfl) (ev_cons (e_tup ev_nil rfl) (ev_cons e_cst (ev_cons e_cst (ev_cons (e_neg e_cst rfl) (ev_cons (e_attr (n := n + 15) (v := .int (kd q.2.k).size) (htr (n + 13) σ) rfl rfl) (ev_cons e_cst (ev_cons (e_attr (n := n + 15) (v := .bool (kd q.2.k).wide) (htr (n + 13) σ) rfl rfl) ev_nil)))))))) (c_init0 n σ _ _ _ _ _ _ _)
theorem law_turn {a b : V} {q q0 : Nat × Row} {t : List (Nat × Row)} (hq : q.2.k < 18) (hq0 : q0.2.k < 18) (hl : (q0 :: t).length ≤ 4) {g h d m e : V} (hr : r = ⟨[(70, a), (69, b), (45, .list ((q0 :: t).map fv))], none⟩ ∨ r = rho9 a b (.list ((q0 :: t).map fv)) e d m u g h) :
    ∃ u d m g h, (run prg (n + 26)).s lawL (r.set 38 (fv q)) σ = some (.next (rho9 a b (.list ((q0 :: t).map fv)) (fv q) d m u g h), σ ++ [-1] ++ [-1]) := by
  refine ⟨.bool (bareB q.2.k), dgV q.2.k, mdV q.2.k, alV σ.length q.2.name (kd q.2.k).size (kd q.2.k).wide, alV (σ ++ [-1]).length q0.2.name (kd q0.2.k).size (kd q0.2.k).wide, ?_⟩
  obtain ⟨l, ⟨name, k, op, esc, must⟩⟩ := q
  have hend : ∀ (r1 : Rho), r1.w = none → fget r1.ρ 38 = some (fv (l, ⟨name, k, op, esc, must⟩)) → fget r1.ρ 45 = some (.list ((q0 :: t).map fv)) →
      (r1.set 72 (alV σ.length name (kd k).size (kd k).wide)).set 73 (alV (σ ++ [-1]).length q0.2.name (kd q0.2.k).size (kd q0.2.k).wide) = rho9 a b (.list ((q0 :: t).map fv)) (fv (l, ⟨name, k, op, esc, must⟩)) (dgV k) (mdV k) (.bool (bareB k)) (alV σ.length name (kd k).size (kd k).wide) (alV (σ ++ [-1]).length q0.2.name (kd q0.2.k).size (kd q0.2.k).wide) →
      (run prg (n + 26)).s [(.asg 72 lawF1), (.asg 73 lawF2), (.ife lawC [(.ret (.cst (.bool false)))] [])] r1 σ = some (.next (rho9 a b (.list ((q0 :: t).map fv)) (fv (l, ⟨name, k, op, esc, must⟩)) (dgV k) (mdV k) (.bool (bareB k)) (alV σ.length name (kd k).size (kd k).wide) (alV (σ ++ [-1]).length q0.2.name (kd q0.2.k).size (kd q0.2.k).wide)), σ ++ [-1] ++ [-1]) := by
    intro r1 w1 g38 g45 he
    refine s_asg (n := n + 25) (form_alike (n := n + 8) (q := (l, ⟨name, k, op, esc, must⟩)) (fun j σ => e_var g38) (fun _ => .inr w1)) ?_
    have w2 : (r1.set 72 (alV σ.length name (kd k).size (kd k).wide)).w = none := by rw [w_set, w1]
    have g45' : fget (r1.set 72 (alV σ.length name (kd k).size (kd k).wide)).ρ 45 = some (.list ((q0 :: t).map fv)) := by rw [get_set]; exact g45
    refine s_asg (n := n + 25) (form_alike (n := n + 8) (q := q0) (fun j σ => e_get1 (n := j + 1) (i := 0) (e_var g45') e_cst (by rw [List.length_map]; omega) rfl) (fun _ => .inr w2)) ?_
    rw [he]
    exact s_no (n := n + 24) (law_c (n + 1) _ _ _ _ _ _ _ _ _ _ _ _ k hq q0.2.k hq0) s_nil
  rcases hr with rfl | rfl
  · exact s_seq (n := n + 25) (law_b4 (n + 2) l σ a b _ name op esc must k hq) (hend _ rfl rfl rfl rfl)
  · exact s_seq (n := n + 25) (law_b9 (n + 2) l σ a b _ d m u g h name op esc must k hq) (hend _ rfl rfl rfl rfl)
theorem law_loop (O : RsOK2 rs) {a b : V} : ∃ r2 σ2, forL (fun r σ => (run prg (n + 26)).s lawL r σ) (fun v r => some (r.set 38 v)) ((ix 0 rs).map fv) ⟨[(70, a), (69, b), (45, .list ((ix 0 rs).map fv))], none⟩ σ = some (.next r2, σ2) := by
  have hl := ix_le O.toRsOK
  have hk : ∀ q ∈ ix 0 rs, q.2.k < 18 := fun q hq => (O.row _ (ix_get rs 0 q hq).2.2).k
  cases hL : ix 0 rs with
  | nil => exact ⟨_, _, rfl⟩
  | cons q0 t =>
    rw [hL] at hl hk
    obtain ⟨r2, σ2, e, _⟩ := forL_inv (body := fun r σ => (run prg (n + 26)).s lawL r σ) (bind := fun v r => some (r.set 38 v)) (vs := (q0 :: t).map fv)
      (fun _ r _ => r = ⟨[(70, a), (69, b), (45, .list ((q0 :: t).map fv))], none⟩ ∨ ∃ e d m u g h, r = rho9 a b (.list ((q0 :: t).map fv)) e d m u g h)
      (fun i v r σ hv hI => by
        rw [List.getElem?_map] at hv
        obtain ⟨q, hq, rfl⟩ := Option.map_eq_some_iff.mp hv
        have hq := List.mem_of_getElem? hq
        refine ⟨_, rfl, ?_⟩
        rcases hI with hI | ⟨e, d, m, u, g, h, hI⟩
        · obtain ⟨u', d', m', g', h', ev⟩ := law_turn (n := n) (σ := σ) (q := q) (hk q hq) (hk q0 List.mem_cons_self) hl (u := .none) (g := .none) (h := .none) (d := .none) (m := .none) (e := .none) (.inl hI)
          exact ⟨_, _, .inl ev, .inr ⟨_, _, _, _, _, _, rfl⟩⟩
        · obtain ⟨u', d', m', g', h', ev⟩ := law_turn (n := n) (σ := σ) (q := q) (hk q hq) (hk q0 List.mem_cons_self) hl (.inr hI)
          exact ⟨_, _, .inl ev, .inr ⟨_, _, _, _, _, _, rfl⟩⟩) (r := ⟨[(70, a), (69, b), (45, .list ((q0 :: t).map fv))], none⟩) (σ := σ) (.inl rfl)
    exact ⟨r2, σ2, e⟩
theorem rows_comp {ρ : List (Nat × V)} : ∀ (cs : List Int) (σ : Nums), ∃ rs σ', rs.length = cs.length ∧ (∀ r ∈ rs, RowOK2 r) ∧ σ'.length = σ.length + cs.length ∧ compL (run prg (n + 20)).e (.call 129 [.var 46]) 46 [] ρ (cs.map .int) σ = some (formsV σ.length rs, σ')
  | [], σ => ⟨[], σ, rfl, by simp, rfl, rfl⟩
  | c :: t, σ => by
    obtain ⟨q, hq, eq⟩ := c_row (n := n) (σ := σ) c
    obtain ⟨rs, σ', h1, h2, h3, h4⟩ := rows_comp (ρ := ρ) t (σ ++ [-1])
    rw [List.length_append] at h3 h4
    refine ⟨q :: rs, σ', by simp [h1], fun r hr => ?_, by simp at h3 ⊢; omega, ?_⟩
    · rcases List.mem_cons.mp hr with rfl | hr
      · exact hq
      · exact h2 r hr
    · have e1 : (run prg (n + 20)).e (.call 129 [.var 46]) ⟨fput ρ 46 (.int c), none⟩ σ = some (formV σ.length q, σ ++ [-1]) := e_call (ev_cons (e_var (by rw [get_fput]; rfl)) ev_nil) eq
      exact (oPe e1).trans ((oPe h4).trans rfl)
theorem e_iset {a : M} {vs : List V} {bn bc : List (V × V)} (h : (run prg n).e a r σ = some (.list vs, σ1)) (hs : vs.length ≤ 1000) (hi : isetL (fun v σ => (run prg n).c N.codesOf [v] σ) 0 vs [] [] σ1 = some (bn, bc, σ2)) : (run prg (n + 1)).e (.iset a) r σ = some (.inst 1 [(N.forms, .list vs), (N.by_name, .dict bn), (N.by_code, .dict bc)] none, σ2) := by
  exact (oPe h).trans ((oIe (small_of hs)).trans (oPe (u := bn) (s := (bc, σ2)) hi))
theorem iset_sound {a : M} (O : RsOK rs) (h : (run prg (n + 9)).e a r σ = some (.list (formsV 0 rs), σ)) (hl : σ.length = rs.length) : ∃ σ', (run prg (n + 10)).e (.iset a) r σ = some (madeV rs, σ') ∧ NumOK rs σ' := by
  have hlen := O.len
  obtain ⟨σ', e, _, h2⟩ := iset_rows n rs 0 [] [] σ 0 O.row ⟨Nat.le_refl _, fun _ h => nomatch h⟩ ⟨Nat.le_refl _, fun _ h => nomatch h⟩ (by omega) (fun _ h => nomatch h) (by omega) (fun j hj => by omega)
  refine ⟨σ', e_iset h (by rw [formsV_len]; omega) e, fun j hj => h2 j (by omega)⟩
theorem or_false {f : M → Nums → Option (V × Nums)} {a b : M} {t : List M} {out : Option (V × Nums)} (h : f a σ = some (.bool false, σ1)) (h2 : orE f (b :: t) σ1 = out) : orE f (a :: b :: t) σ = out := (oPe h).trans h2
theorem law_rows (cs : List Int) (hl : cs.length ≤ 4) (h0 : cs ≠ []) {a : V} : ∃ σ', (run prg (n + 32)).s (f_law.body.drop 2) ⟨[(70, a), (69, .list (cs.map .int))], none⟩ [] = some (.ret (.bool true), σ') := by
  obtain ⟨rs, σ1, h1, h2, h3, h4⟩ := rows_comp (n := n + 10) (ρ := [(70, a), (69, .list (cs.map .int))]) cs []
  have h3 : σ1.length = rs.length := by simpa [h1] using h3
  have O : RsOK2 rs := ⟨⟨fun r hr => (h2 r hr).toRowOK, by omega, fun e => h0 (List.length_eq_zero_iff.mp (by rw [← h1, e]; rfl))⟩, fun r hr => (h2 r hr).three, fun r hr => (h2 r hr).must⟩
  have hix := ix_le O.toRsOK
  have hc : ∃ c t, cs = c :: t := by cases cs with | nil => exact absurd rfl h0 | cons c t => exact ⟨c, t, rfl⟩
  obtain ⟨c, t, hc⟩ := hc
  have hr : (Rho.mk [(70, a), (69, .list (cs.map .int))] none).set 45 (.list (formsV 0 rs)) = ⟨[(70, a), (69, .list (cs.map .int)), (45, .list ((ix 0 rs).map fv))], none⟩ := by rw [formsV_ix]; rfl
  have e45 : ∀ j (σ : Nums), (run prg (j + 1)).e (.var 45) ⟨[(70, a), (69, .list (cs.map .int)), (45, .list ((ix 0 rs).map fv))], none⟩ σ = some (.list ((ix 0 rs).map fv), σ) := fun j σ => e_var rfl
  obtain ⟨σ2, e2, H⟩ := iset_sound (n := n + 18) (r := ⟨[(70, a), (69, .list (cs.map .int)), (45, .list ((ix 0 rs).map fv))], none⟩) (σ := σ1) (a := .var 45) O.toRsOK (by rw [formsV_ix]; exact e45 _ _) h3
  obtain ⟨r5, σ5, e5⟩ := law_loop (n := n + 5) (σ := σ2) O (a := a) (b := .list (cs.map .int))
  refine ⟨σ5, ?_⟩
  show (run prg (n + 32)).s [(.asg 45 (.comp (.call 129 [(.var 46)]) 46 (.var 69) [])),
    (.ife (.or [(.not (.call 134 [(.var 45), (.iset (.var 45))])), (.not (.call 135 [(.idx (.var 69) (.cst (.int 0)))]))]) [(.ret (.cst (.bool false)))] []), (.forI 38 (.var 45) lawL), (.ret (.cst (.bool true)))] _ [] = _
  refine s_asg (n := n + 31) (e_comp (n := n + 30) (e_var rfl) (items_list (by rw [List.length_map]; omega)) h4) ?_
  rw [show ([] : Nums).length = 0 from rfl, hr]
  refine s_no (n := n + 30) (e_or (n := n + 30) (or_false (σ1 := σ2) (e_not (n := n + 29) (b := true) (e_call (n := n + 28) (ev_cons (e45 _ _) (ev_cons e2 ev_nil)) (c_setright (n := n) O H))) (or_one (e_not (n := n + 29) (b := true) (e_call (n := n + 28) (ev_cons (e_idx (e_var (v := .list (cs.map .int)) rfl) e_cst (z := .int c) ?_) ev_nil) (c_namesright (n := n + 7) c)))))) ?_
  · rw [hc]; exact idx_list (i := 0) (by rw [List.length_map, ← hc]; omega) rfl
  · refine s_forI (n := n + 31) (e45 _ _) (items_list (by rw [List.length_map]; omega)) e5 ?_
    exact s_ret (n := n + 31) (tr_o (fun _ => by simp) e_cst) rfl
theorem e_upto {a b : M} (ha : (run prg n).e a r σ = some (u, σ1)) (hb : (run prg n).e b r σ1 = some (v, σ2)) (hc : uptoV u v = some z) : (run prg (n + 1)).e (.upto a b) r σ = some (z, σ2) := e_bin ha hb hc
theorem law_true (ns : List Int) (hl : ns.length ≤ 63) : ∃ σ', (run prg 32).s f_law.body ⟨[(70, .list (ns.map .int))], none⟩ [] = some (.ret (.bool true), σ') := by
  have hu : uptoV (.list (ns.map .int)) (.int 4) = some (.list ((ns.take 4).map .int)) := by
    exact (oIe (show (small (ns.map V.int) && Nat.ble 4 1000) = true by rw [small_of (by rw [List.length_map]; omega)]; rfl)).trans (congrArg (fun l => some (V.list l)) List.map_take.symm)
  have ht : (ns.take 4).length ≤ 4 := by rw [List.length_take]; omega
  by_cases h0 : ns.take 4 = []
  · obtain ⟨σ', e⟩ := law_rows (n := 0) [6] (by decide) (by simp) (a := .list (ns.map .int))
    refine ⟨σ', ?_⟩
    refine s_asg (n := 31) (σ1 := []) (v := .list ((ns.take 4).map .int)) (e_upto (e_var rfl) e_cst hu) ?_
    rw [h0]
    exact s_ifeN (n := 31) (r1 := ⟨[(70, .list (ns.map .int)), (69, .list ([6].map .int))], none⟩) (q := true) (e_cmp (e_var (v := .list []) rfl) (tr_o (fun _ => by simp) (e_lst ev_nil rfl)) rfl) (s_asg (n := 30) (e_lst (ev_cons e_cst ev_nil) rfl) s_nil) e
  · obtain ⟨σ', e⟩ := law_rows (n := 0) (ns.take 4) ht h0 (a := .list (ns.map .int))
    refine ⟨σ', ?_⟩
    refine s_asg (n := 31) (σ1 := []) (v := .list ((ns.take 4).map .int)) (e_upto (e_var rfl) e_cst hu) ?_
    refine s_no (n := 30) (e_cmp (e_var (v := .list ((ns.take 4).map .int)) rfl) (tr_o (fun _ => by simp) (e_lst ev_nil rfl)) ?_) e
    refine (o1e (oCt (show (plain 8 (V.list ((ns.take 4).map .int)) && plain 8 (V.list [])) = true by rw [plain_ints]; rfl))).trans ?_
    cases hq : ns.take 4 with
    | nil => exact absurd hq h0
    | cons => rfl
end
end Mine.Pl
namespace Mine
noncomputable abbrev pw : Program := PySem.Challenge.pw_nn0049_01
noncomputable def vw : Program := view pw [33]
noncomputable def lo : List Str := pw.boundNames
noncomputable abbrev Go := SharedT → Thread → Option SharedT
noncomputable def go1 (st : SharedT → Thread → Option (SharedT × Thread)) (ok : Thread → Bool) (k : Go) : Go := fun s t => @Bool.rec (fun _ => Option SharedT) (@Bool.rec (fun _ => Option SharedT) none (@Option.rec (SharedT × Thread) (fun _ => Option SharedT) none (fun p => k p.1 p.2) (st s t)) (ok t)) (some s) (through t)
noncomputable def dbl (d : Go → Go) (k : Go) : Go := d (d k)
noncomputable def Goes (p : Program) (w : World) (m : Nat) (ann : Option Value) (k : Go) (n : Nat) : Prop := ∀ s s' t, k s t = some s' → topRun treeTable p w m ann n s.abs t = some s'.abs
section
variable {p : Program} {w : World} {m : Nat} {ann : Option Value}
theorem go1_of {k : Go} {n : Nat} (g : Goes p w m ann k n) : Goes p w m ann (go1 (stepT (denote treeTable) p w) (stepOk m ann) k) (n + 1) := fun s s' t h => by
  unfold topRun
  unfold go1 at h
  cases a : through t with
  | true => rw [a] at h; exact congrArg (Option.map SharedT.abs) h
  | false =>
    rw [a] at h
    cases b : stepOk m ann t with
    | false => rw [b] at h; exact nn h
    | true =>
      rw [b] at h
      cases c : stepT (denote treeTable) p w s t with
      | none => rw [c] at h; exact nn h
      | some r => rw [c] at h; rw [stepT_spec c]; exact g _ _ _ h
theorem dbl_of {d : Go → Go} {j : Nat} (g : ∀ {k n}, Goes p w m ann k n → Goes p w m ann (d k) (n + j)) {k : Go} {n : Nat} (h : Goes p w m ann k n) : Goes p w m ann (dbl d k) (n + (j + j)) := Nat.add_assoc n j j ▸ g (g h)
end
noncomputable def runT (st : SharedT → Thread → Option (SharedT × Thread)) (ok : Thread → Bool) : Go := dbl (dbl (dbl (dbl (dbl (dbl (dbl (dbl (dbl (dbl (dbl (go1 st ok))))))))))) fun _ _ => none
theorem runT_of {p : Program} {w : World} {m : Nat} {ann : Option Value} : Goes p w m ann (runT (stepT (denote treeTable) p w) (stepOk m ann)) 2048 :=
  dbl_of (dbl_of (dbl_of (dbl_of (dbl_of (dbl_of (dbl_of (dbl_of (dbl_of (dbl_of (dbl_of go1_of)))))))))) (n := 0) fun _ _ _ h => nn h
noncomputable def bootT (P : Params) : BT := ((boot_heap P).objs.toList.foldl (fun x o => (x.1.ins x.2 o, x.2 + 1)) (BT.nil, 0)).1
theorem boot_abs (P : Params) : absHeap (bootT P) 11 (boot_heap P).life = boot_heap P := by kernel_rfl
theorem op : ∀ w : World, (fencedOpening treeTable pw w 3486).map (fun s => (s.heap, s.gens, s.drawn, s.toks)) = some (boot_heap w.params, Array.mk [], boot_drawn, boot_toks) :=
  boot_open (by kernel_rfl) (by decide +kernel) (fun s => by kernel_rfl)
noncomputable def fragL (l : List Obj) : Nat → Frag :=
  @List.rec Obj (fun _ => Nat → Frag) (fun _ => []) (fun o _ ih n => @Option.rec Obj (fun _ => Frag) (ih (Nat.add n 1)) (fun o => (n, o) :: ih (Nat.add n 1)) (alive o)) l
theorem fragL_in (a : Nat) (o : Obj) : ∀ (l : List Obj) (n : Nat), (fragL l n).lookup a = some o → ∃ i o', a = n + i ∧ l[i]? = some o' ∧ alive o' = some o
  | [], _, e => nn e
  | x :: l, n, e => by
    have next : (fragL l (n + 1)).lookup a = some o → ∃ i o', a = n + i ∧ (x :: l)[i]? = some o' ∧ alive o' = some o := fun e => by
      obtain ⟨i, o', h1, h2, h3⟩ := fragL_in a o l (n + 1) e
      exact ⟨i + 1, o', h1.trans (by omega), h2, h3⟩
    cases q : alive x with
    | none => exact next ((congrArg (fun y => List.lookup a (@Option.rec Obj (fun _ => Frag) (fragL l (n + 1)) (fun o => (n, o) :: fragL l (n + 1)) y)) q).symm.trans e)
    | some y =>
      have e := (congrArg (fun y => List.lookup a (@Option.rec Obj (fun _ => Frag) (fragL l (n + 1)) (fun o => (n, o) :: fragL l (n + 1)) y)) q).symm.trans e
      rw [show @Option.rec Obj (fun _ => Frag) (fragL l (n + 1)) (fun o => (n, o) :: fragL l (n + 1)) (some y) = (n, y) :: fragL l (n + 1) from rfl, List.lookup_cons] at e
      by_cases c : (a == n) = true
      · rw [c] at e
        exact ⟨0, x, beq_iff_eq.mp c, rfl, q.trans e⟩
      · rw [Bool.not_eq_true] at c
        rw [c] at e
        exact next e
noncomputable def fragOf (h : Heap) : Frag := fragL h.objs.toList 0
theorem fragOf_in (h : Heap) : (fragOf h).In h := fun a o e => by
  obtain ⟨i, o', h1, h2, h3⟩ := fragL_in a o _ _ e
  rw [h1, Nat.zero_add]
  unfold Heap.get?
  rw [← Array.getElem?_toList, h2]
  obtain ⟨c, d, dt, sl⟩ := o'
  cases dt <;> first | exact nn h3 | exact h3
noncomputable def kfB (K : Frag) : Bool := fnsB K && (namesB K && (bifsB K && (gtB K && (methsB K && (clsB K 244 && (clsB K 116 && (isRefB (nsIn K mainGlobals (Str.ofString "Form")) 244 && (isRefB (nsIn K mainGlobals (Str.ofString "InstructionSet")) 116 &&
  (isRefB (findIn K (.ref 244) "__init__") 201 && (isRefB (findIn K (.ref 116) "__init__") 61 && (initB K && isetB K)))))))))))
theorem kf_of {K : Frag} (h : kfB K = true) (b : (fdOf K 61).map (·.body) = some (.stmts (initBody qF))) : KFacts K := by
  simp only [kfB, Bool.and_eq_true] at h
  exact ⟨h.1, h.2.1, h.2.2.1, h.2.2.2.1, h.2.2.2.2.1, h.2.2.2.2.2.1, h.2.2.2.2.2.2.1, h.2.2.2.2.2.2.2.1, h.2.2.2.2.2.2.2.2.1, h.2.2.2.2.2.2.2.2.2.1, h.2.2.2.2.2.2.2.2.2.2.1, h.2.2.2.2.2.2.2.2.2.2.2.1, h.2.2.2.2.2.2.2.2.2.2.2.2, b⟩
noncomputable def hook : Hook where
  α := Bool × Option FuncBody
  obs s := (kfB (fragOf s.heap), (fdOf (fragOf s.heap) 61).map (·.body))
  val _ := (true, some (.stmts (initBody qF)))
  says _ h := ∃ K : Frag, KFacts K ∧ K.In h
  of _ s e := ⟨fragOf s.heap, kf_of (Prod.mk.inj e).1 (Prod.mk.inj e).2, fragOf_in _⟩
  keeps _ _ _ := fun ⟨K, a, b⟩ k => ⟨K, a, fun x o e => k x o (b x o e)⟩
noncomputable abbrev xt (s : Shared) : Bool := xlAt vw [] s && recOk (RowW.records PySem.Challenge.rw_nn0049_01.row.toRowW) s
theorem ran (w : World) (os : OsState) : (runT (stepT (denote treeTable) pw w) (stepOk (boot_heap w.params).objs.size ((boot_heap w.params).nsMap mainGlobals "__annotations__")) ⟨bootT w.params, 11, (boot_heap w.params).life, Array.mk [], boot_drawn, boot_toks, os⟩ (topStub pw)).map (fun t =>
    (staticsOk (importedModules pw.main.body) (boot_heap w.params) t.abs.heap && namesBound pw t.abs.heap && gensDone t.abs && laidKept (boot_heap w.params) t.abs.heap, openSeen vw lo (importedModules pw.main.body) xt true t.abs, hook.obs t.abs)) = some (true, openGood vw lo, hook.val w) := by
  rw [show @stepT = _ from PySem.W.Fast.te10156331382660048174, show @stepOk = _ from PySem.W.Fast.te6613529449190102663, show treeTable = _ from PySem.W.Fast.te14364793385576792824, show @denote = _ from PySem.W.Fast.te11892475500146522536, show @openSeen = _ from PySem.W.Fast.te4187177175401517315]
  kernel_rfl
theorem left : LeftO pw vw lo xt hook.obs hook.val 3486 := fun w => by
  obtain ⟨⟨h, gs, d, k, os⟩, e, e'⟩ := Option.map_eq_some_iff.mp (op w)
  obtain ⟨rfl, rfl, rfl, rfl⟩ : h = boot_heap w.params ∧ gs = Array.mk [] ∧ d = boot_drawn ∧ k = boot_toks := by simpa using e'
  obtain ⟨t, r, q⟩ := Option.map_eq_some_iff.mp (ran w os)
  have r := topRun_mono 1438 _ _ _ _ (runT_of _ _ _ r)
  rw [show SharedT.abs ⟨bootT w.params, 11, (boot_heap w.params).life, Array.mk [], boot_drawn, boot_toks, os⟩ = ⟨boot_heap w.params, Array.mk [], boot_drawn, boot_toks, os⟩ from congrArg (Shared.mk · _ _ _ _) (boot_abs _)] at r
  unfold openEnds
  rw [e, Option.bind_some]
  unfold topFrom
  rw [show (Heap.isNs (Shared.mk (boot_heap w.params) (Array.mk []) boot_drawn boot_toks os).heap mainGlobals && (Shared.mk (boot_heap w.params) (Array.mk []) boot_drawn boot_toks os).gens.size == 0) = true from by kernel_rfl]
  dsimp only
  rw [r, Option.bind_some, (Prod.mk.inj q).1]
  exact congrArg some (Prod.mk.inj q).2
end Mine
set_option maxHeartbeats 8000000
namespace Mine
theorem sd_bare : (["vars", "dir", "locals"] : List Str).filter (readsOut pw pw.main.body) = [] := by
  rw [show @readsOut = _ from PySem.W.Fast.te13343964577679436407]
  kernel_rfl
theorem sd_road : noRoadLSs { strict := !(importedModules pw.main.body).all cThrough.contains, foot := none, bare := [] } pw.main.body = true := by
  rw [show @noRoadLSs = _ from PySem.W.Fast.te8326940854005059898]
  kernel_rfl
theorem sd_looks : looksOpen pw = true := by
  unfold looksOpen
  rw [sd_bare, sd_road, show @namesResolve = _ from PySem.W.Fast.te8377067652309620493, show @namesMeet = _ from PySem.W.Fast.te17119622794617984870, show @Program.boundNames = _ from PySem.W.Fast.te18344453789297297638]
  kernel_rfl
theorem said : PySem.Challenge.rw_nn0049_01.wellSaid = true := by
  unfold OpenLaw.wellSaid OpenRow.wellSaid OpenRow.partSaid
  rw [show looksOpen PySem.Challenge.rw_nn0049_01.row.prog = true from sd_looks, show @noRoadLSs = _ from PySem.W.Fast.te8326940854005059898, show @namesMeet = _ from PySem.W.Fast.te17119622794617984870]
  kernel_rfl
theorem room32 (env : Env) : RoomN (callerA.deeper env) 32 := ⟨rfl, (by show 4 + 3 + 300 + 20 * 32 < cLine; decide +kernel), (by show 1 + claimMargin + 1 + 30 + 6 * 32 < recursionLimit; decide +kernel)⟩
theorem tt : PySem.Challenge.rw_nn0049_01.Holds := by
  w_on
  refine holds_law said fun _ => ?_
  refine holds_open (q := vw) (loose := lo) (Xt := xt) (XP := XL vw []) (Yf := Hook.obs hook) (Ya := Hook.val hook) (YP := Hook.says hook) (N := 3486) left (Hook.of hook) (Hook.keeps hook)
    (fun s e => xl_of s (Bool.and_eq_true_iff.mp e).1) XL.keeps (by rfl) (by rfl) (by rfl) (fun s e => recFacts_of (Bool.and_eq_true_iff.mp e).2) (by rfl) (by assumption) (by kernel_rfl) ⟨rfl, rfl, rfl, rfl, rfl, by decide +kernel⟩ ?hw ?hc
  case hw => w_witness2
  case hc =>
    intro w s₀ s₁ mg mb G Y fa o pm cd doc dV kV ho hd hcd hD hmg hg args vals as hpre hlay hrd hwl hlo
    obtain ⟨KF, KF', KX⟩ := Y
    have X := (Ground.X G).1
    have V := (Ground.X G).2
    have GL := glob_more (Ground.glob G (by decide +kernel) (by decide +kernel)) V
    refine Ground.open G ?_
    intro T B D TE TW
    try (refine guard_noD D (by decide +kernel) ?_; clear D)
    obtain ⟨_, _, M⟩ := bmod_of_top T
    have TA := at_of_top T
    try (obtain ⟨_, _, he, B0⟩ := based_of_top T rfl hmg ho hd; have he' : cd = _ := he; subst he'; clear he)
    clear hmg
    wrow_args hpre hlay hrd hwl hlo
    refine enter_call ?_
    w_top on
    try refine codeAny_mono ?_ (fun _ _ g => GoodW.toG g)
    have K0 := below_caller (Top.heap T)
    w_call any ho hd hcd hD T F
    clear hd TA
    k_drop
    rename_i ns hs hlay0 hL hr hl2 a5 a6 a vs a7 hLs ra w1 r0 hI hr2 hc hc2 h₁ N0
    have TR := topRead_of T
    obtain ⟨mm, hmm, _⟩ := GL.seer.mods
    have K := Mine.isOK_of (prog := PySem.Challenge.rw_nn0049_01.row.prog) (w := w) KF' KX TR.g TR.b TR.nolimit (by obtain ⟨o, _, _, e, _⟩ := hmm; exact ⟨o, e⟩) TR.builtins
    obtain ⟨σ', ev⟩ := Mine.Pl.law_true ns (Int.ofNat_le.mp (Int.not_lt.mp hc))
    have hlt : a < s₁.heap.objs.size := by obtain ⟨o, e, _⟩ := hLs; exact Heap.lt_size e
    refine wpAny_mono (Mine.law_walk K (n := 32) (by kernel_rfl) rfl rfl rfl rfl rfl (by kernel_rfl) (by kernel_rfl) F.ns (by kernel_rfl) (Heap.get?_none_of_le (Nat.le_refl _)) F.keep (Mine.IsList.mono hLs fun o e => F.keep _ _ e) hI (Nat.ne_of_lt hlt) (Mine.room32 _) ev) (fun f s' hq => ?_) fun _ _ h => h.elim
    obtain ⟨hf, ⟨h', t', hs'⟩, hk⟩ := hq
    subst hf
    subst hs'
    refine ⟨.inl ⟨_, .bool true, [], rfl, ?_, .bool true, ?_, ?_⟩, ?_, ?_, ?_⟩
    · intro cls; rfl
    · wrow_post
    · exact fun _ => ⟨List.nodup_nil, fun _ h => nomatch h⟩
    · exact fun b o e => hk b o (F.keep b o e) (Nat.ne_of_lt (Heap.lt_size e))
    · rfl
    · exact hg
end Mine
theorem PySem.Challenge.cw_nn0049_01_holds : PySem.Challenge.rw_nn0049_01.Holds := by
  exact Mine.tt
