import PyProof.Rows.All
import Wide.All
import OpenK.AllK
import Wide.FinOn
import PySem.Challenge.RW_oj0065_01
set_option Elab.async false
section
open PySem
set_option genInjectivity false
set_option genSizeOf false
namespace Mine

set_option genInjectivity true in
/-- values as trees -/
inductive V where
  | none
  | bool (b : Bool)
  | int (n : Int)
  | str (s : Str)
  | tup (vs : List V)
  | lst (own : Bool) (vs : List V)
  | dict (kvs : List (Str × V))
  | exc (code value ec : V)

inductive AOp where
  | add | sub | mul | fdiv | mod | pow | shl | shr | band | bor | bxor
inductive COp where
  | eq | ne | lt | le | gt | ge
inductive B1 where
  | len | ord | str | max | min | abs | all | tuple

inductive E where
  | bad
  | var (i : Nat)
  | none
  | bool (b : Bool)
  | int (n : Int)
  | str (s : Str)
  | bin (op : AOp) (a b : E)
  | not (a : E)
  | neg (a : E)
  | inv (a : E)
  | and (es : List E)
  | or (es : List E)
  | cmp (op : COp) (a b : E)
  | isIn (neg : Bool) (a b : E)
  | isNone (neg : Bool) (a : E)
  | chain (a b c : E)
  | ite (c a b : E)
  | call (f : Nat) (args : List E)
  | b1 (f : B1) (a : E)
  | lower (a : E)
  | starts (a b : E)
  | join (a : E)
  | dict (ks : List Str) (vs : List E)
  | dget (d k : E)
  | didx (d k : E)
  | idx (a b : E)
  | slTo (a hi : E)
  | slFrom (a lo : E)
  | slBoth (a lo hi : E)
  | fstr (ps : List E)
  | tup (es : List E)
  | lst (es : List E)
  | mkExc (args : List E)
  | compCall (f : Nat) (src : E)
  | compIdx (k : Nat) (src : E)
  | compPair (f : Nat) (src : E) (w : Nat)

inductive S where
  | bad
  | assign (i : Nat) (e : E)
  | unpack2 (i j : Nat) (e : E)
  | aug (i : Nat) (op : AOp) (e : E)
  | append (i : Nat) (e : E)
  | pop (i j : Nat)
  | expr (e : E)
  | ite (c : E) (a b : List S)
  | while (c : E) (body : List S)
  | for (i : Nat) (e : E) (body : List S)
  | forVar (i k : Nat) (body : List S)
  | forRange (i : Nat) (e : E) (body : List S)
  | ret (e : E)
  | raise (e : E)
  | try (body : List S) (i : Nat) (h : Option Nat)
  | cont

/-- none: not served; error: an exception -/
noncomputable abbrev R (α : Type) := Option (Except V α)
@[inline] noncomputable def R.ok {α : Type} (a : α) : R α := some (.ok a)
noncomputable def R.bind {α β : Type} (x : R α) (f : α → R β) : R β :=
  match x with
  | Option.none => Option.none
  | some (.error e) => some (.error e)
  | some (.ok a) => f a
@[simp] theorem R.bind_none {α β : Type} (f : α → R β) : R.bind Option.none f = Option.none := rfl
@[simp] theorem R.bind_err {α β : Type} (e : V) (f : α → R β) : R.bind (some (.error e)) f = some (.error e) := rfl
@[simp] theorem R.bind_ok {α β : Type} (a : α) (f : α → R β) : R.bind (some (.ok a)) f = f a := rfl
noncomputable def R.of {α : Type} (x : Option α) : R α := x.map .ok
@[simp] theorem R.of_none {α : Type} : R.of (Option.none : Option α) = Option.none := rfl
@[simp] theorem R.of_some {α : Type} (a : α) : R.of (some a) = some (.ok a) := rfl

noncomputable abbrev Rho := List (Option V)
noncomputable def get (ρ : Rho) (i : Nat) : Option V := (ρ[i]?).join
noncomputable def put (ρ : Rho) (i : Nat) (v : V) : Rho := ρ.set i (some v)

/-- int sizes that every rule bears -/
@[irreducible] noncomputable def small (a : Int) : Bool := decide (a.natAbs < 2 ^ 4096)

noncomputable def arithI : AOp → Int → Int → Option V
  | .add, a, b => some (.int (a + b))
  | .sub, a, b => some (.int (a - b))
  | .mul, a, b => if small a && small b then some (.int (a * b)) else Option.none
  | .fdiv, a, b => if b = 0 ∨ Builtin.divisionGoesByPylong a b = true then Option.none else some (.int (Int.fdiv a b))
  | .mod, a, b => if b = 0 then Option.none else some (.int (Int.fmod a b))
  | .pow, a, b => if 0 ≤ b ∧ b ≤ 1000 ∧ small a = true then some (.int (a ^ b.toNat)) else Option.none
  | .shl, a, b => if 0 ≤ b ∧ b ≤ 1000 ∧ small a = true then some (.int (a * 2 ^ b.toNat)) else Option.none
  | .shr, a, b => if 0 ≤ b then some (.int (Int.fdiv a (2 ^ b.toNat))) else Option.none
  | .band, a, b => some (.int (Builtin.bitAnd a b))
  | .bor, a, b => some (.int (Builtin.bitOr a b))
  | .bxor, a, b => some (.int (Builtin.bitXor a b))
theorem ite_some {α : Type} {c : Prop} [Decidable c] {a b : α} (h : (if c then some a else Option.none) = some b) : c ∧ a = b := by
  by_cases q : c
  · rw [if_pos q] at h; exact ⟨q, Option.some.inj h⟩
  · rw [if_neg q] at h; cases h
theorem ite_some' {α : Type} {c : Prop} [Decidable c] {a b : α} (h : (if c then Option.none else some a) = some b) : ¬ c ∧ a = b := by
  by_cases q : c
  · rw [if_pos q] at h; cases h
  · rw [if_neg q] at h; exact ⟨q, Option.some.inj h⟩
theorem ite_opt {α : Type} {c : Prop} [Decidable c] {a : Option α} {b : α} (h : (if c then a else Option.none) = some b) : c ∧ a = some b := by
  by_cases q : c
  · rw [if_pos q] at h; exact ⟨q, h⟩
  · rw [if_neg q] at h; cases h
noncomputable def isAdd : AOp → Bool
  | .add => true
  | _ => false
noncomputable def theStr (v : V) : Option Str := V.casesOn v Option.none (fun _ => Option.none) (fun _ => Option.none) (fun s => some s) (fun _ => Option.none) (fun _ _ => Option.none) (fun _ => Option.none) fun _ _ _ => Option.none
noncomputable def theInt (v : V) : Option Int := V.casesOn v Option.none (fun _ => Option.none) (fun s => some s) (fun _ => Option.none) (fun _ => Option.none) (fun _ _ => Option.none) (fun _ => Option.none) fun _ _ _ => Option.none
noncomputable def theBool (v : V) : Option Bool := V.casesOn v Option.none (fun s => some s) (fun _ => Option.none) (fun _ => Option.none) (fun _ => Option.none) (fun _ _ => Option.none) (fun _ => Option.none) fun _ _ _ => Option.none
noncomputable def theTup (v : V) : Option (List V) := V.casesOn v Option.none (fun _ => Option.none) (fun _ => Option.none) (fun _ => Option.none) (fun s => some s) (fun _ _ => Option.none) (fun _ => Option.none) fun _ _ _ => Option.none
noncomputable def theLst (v : V) : Option (List V) := V.casesOn v Option.none (fun _ => Option.none) (fun _ => Option.none) (fun _ => Option.none) (fun _ => Option.none) (fun _ s => some s) (fun _ => Option.none) fun _ _ _ => Option.none
theorem theStr_of {v : V} {s : Str} (h : theStr v = some s) : v = .str s := by cases v <;> cases h; rfl
theorem theBool_of {v : V} {s : Bool} (h : theBool v = some s) : v = .bool s := by cases v <;> cases h; rfl
theorem theInt_of {v : V} {s : Int} (h : theInt v = some s) : v = .int s := by cases v <;> cases h; rfl
theorem theTup_of {v : V} {s : List V} (h : theTup v = some s) : v = .tup s := by cases v <;> cases h; rfl
theorem theLst_of {v : V} {s : List V} (h : theLst v = some s) : ∃ o, v = .lst o s := by cases v <;> cases h; exact ⟨_, rfl⟩
noncomputable def arith (op : AOp) (x y : V) : Option V := match x with
  | .int a => (theInt y).bind fun b => arithI op a b
  | .str a => (theStr y).bind fun b => if isAdd op = true then (if (a ++ b).length ≤ sizeLine then some (.str (a ++ b)) else Option.none) else Option.none
  | .tup a => (theTup y).bind fun b => if isAdd op = true then (if a.length + b.length ≤ 1000000 then some (.tup (a ++ b)) else Option.none) else Option.none
  | .lst _ a => (theLst y).bind fun b => if isAdd op = true then (if a.length + b.length ≤ 1000000 then some (.lst true (a ++ b)) else Option.none) else Option.none
  | _ => Option.none

mutual
noncomputable def veq : V → V → Option Bool
  | .none, .none => some true
  | .bool a, .bool b => some (a == b)
  | .int a, .int b => some (a == b)
  | .str a, .str b => some (a == b)
  | .int _, .str _ => some false
  | .str _, .int _ => some false
  | .tup _, .str _ => some false
  | .str _, .tup _ => some false
  | .tup a, .tup b => veqL a b
  | _, _ => Option.none
noncomputable def veqL : List V → List V → Option Bool
  | [], [] => some true
  | [], _ :: _ => some false
  | _ :: _, [] => some false
  | a :: as, b :: bs => (veq a b).bind fun x => (veqL as bs).map fun y => x && y
end

mutual
noncomputable def vdepth : V → Nat
  | .tup vs => vdepthL vs + 1
  | _ => 0
noncomputable def vdepthL : List V → Nat
  | [] => 0
  | v :: r => max (vdepth v) (vdepthL r)
end

noncomputable def icmp : COp → Int → Int → Bool
  | .eq, a, b => a == b
  | .ne, a, b => a != b
  | .lt, a, b => decide (a < b)
  | .le, a, b => decide (a ≤ b)
  | .gt, a, b => decide (a > b)
  | .ge, a, b => decide (a ≥ b)

noncomputable def vcmp : COp → V → V → Option Bool
  | .eq, a, b => if vdepth a ≤ 50 then veq a b else Option.none
  | .ne, a, b => if vdepth a ≤ 50 then (veq a b).map (!·) else Option.none
  | op, .int a, .int b => some (icmp op a b)
  | .lt, .str a, .str b => some (decide (a.cps.toList < b.cps.toList))
  | _, _, _ => Option.none

noncomputable def truth : V → Option Bool
  | .bool b => some b
  | .lst _ vs => if vs.length ≤ 1000000000 then some (!vs.isEmpty) else Option.none
  | _ => Option.none

noncomputable def isL {α β : Type} (p : β → Option α) (l : List β) : Option (List α) := List.rec (some []) (fun v _ ih => (p v).bind fun a => ih.map (a :: ·)) l
theorem isL_cons {α β : Type} {p : β → Option α} {v : β} {r : List β} {l : List α} (h : isL p (v :: r) = some l) : ∃ a m, p v = some a ∧ isL p r = some m ∧ l = a :: m := by
  obtain ⟨a, h1, h2⟩ := Option.bind_eq_some_iff.mp (show (p v).bind (fun a => (isL p r).map (a :: ·)) = some l from h)
  obtain ⟨m, h3, h4⟩ := Option.map_eq_some_iff.mp h2
  exact ⟨a, m, h1, h3, h4.symm⟩
theorem isL_nil {α β : Type} {p : β → Option α} {l : List α} (h : isL p [] = some l) : l = [] := (Option.some.inj h).symm
noncomputable def strIs : List V → Option (List Str) := isL theStr
noncomputable def intIs : List V → Option (List Int) := isL theInt
noncomputable def boolIs : List V → Option (List Bool) := isL theBool

noncomputable def maxL : List Int → Option Int
  | [] => Option.none
  | a :: r => some (r.foldl (fun m x => if m < x then x else m) a)
noncomputable def minL : List Int → Option Int
  | [] => Option.none
  | a :: r => some (r.foldl (fun m x => if x < m then x else m) a)

noncomputable def lenN (v : V) : Option Nat := V.casesOn v Option.none (fun _ => Option.none) (fun _ => Option.none) (fun s => some s.length) (fun vs => some vs.length) (fun _ vs => some vs.length) (fun _ => Option.none) fun _ _ _ => Option.none
noncomputable def oneC (s : Str) : Option Nat := List.casesOn s.cps.toList Option.none fun c r => List.casesOn r (some c) fun _ _ => Option.none
noncomputable def builtin1 (f : B1) (v : V) : Option V := B1.casesOn f
  ((lenN v).bind fun n => if n ≤ 1000000000 then some (.int n) else Option.none)
  ((theStr v).bind fun s => (oneC s).map fun c : Nat => .int c)
  ((theInt v).bind fun n => if n.natAbs.log2 < 1920 then some (.str (Str.ofString (toString n))) else Option.none)
  ((theLst v).bind fun vs => (intIs vs).bind fun l => (maxL l).map .int)
  ((theLst v).bind fun vs => (intIs vs).bind fun l => (minL l).map .int)
  ((theInt v).map fun n : Int => .int n.natAbs)
  ((theLst v).bind fun vs => (boolIs vs).map fun l => .bool (l.all id))
  ((theLst v).bind fun vs => if vs.length ≤ 1000000 then some (.tup vs) else Option.none)

noncomputable def isInV : V → V → Option Bool
  | .str a, .tup vs => (strIs vs).map fun l => l.any (· == a)
  | .str a, .lst _ vs => (strIs vs).map fun l => l.any (· == a)
  | _, _ => Option.none

noncomputable def vidx : V → V → Option V
  | .str s, .int i => if 0 ≤ i ∧ i ≤ 1000000000 then (s.cps.toList[i.toNat]?).map fun c => .str ⟨#[c]⟩ else Option.none
  | .tup vs, .int i => if 0 ≤ i ∧ i ≤ 1000000000 then vs[i.toNat]? else Option.none
  | .lst _ vs, .int i => if 0 ≤ i ∧ i ≤ 1000000000 then vs[i.toNat]? else Option.none
  | _, _ => Option.none

noncomputable def vslTo : V → V → Option V
  | .tup vs, .int hi => if 0 ≤ hi ∧ hi ≤ vs.length ∧ vs.length ≤ 1000000 then some (.tup (vs.take hi.toNat)) else Option.none
  | .lst _ vs, .int hi => if 0 ≤ hi ∧ vs.length ≤ 1000000 then some (.lst true (vs.take hi.toNat)) else Option.none
  | _, _ => Option.none
noncomputable def vslFrom : V → V → Option V
  | .tup vs, .int lo => if 0 ≤ lo ∧ lo ≤ vs.length ∧ vs.length ≤ 1000000 then some (.tup (vs.drop lo.toNat)) else Option.none
  | .lst _ vs, .int lo => if 0 ≤ lo ∧ vs.length ≤ 1000000 then some (.lst true (vs.drop lo.toNat)) else Option.none
  | _, _ => Option.none
noncomputable def vslBoth : V → V → V → Option V
  | .str s, .int lo, .int hi => if s.length ≤ sizeLine then some (.str (Txt.slice s (some lo) (some hi))) else Option.none
  | _, _, _ => Option.none

noncomputable abbrev isInt : V → Option Int := theInt

/-- what the law's handlers tell of a fault -/
noncomputable def toldOf (v : V) : V := V.casesOn v v (fun _ => v) (fun _ => v) (fun _ => v) (fun _ => v) (fun _ _ => v) (fun _ => v) fun c x ec => .tup [.str (Str.ofString "fault"), c, x, ec]

noncomputable def noList (v : V) : Bool := V.casesOn v true (fun _ => true) (fun _ => true) (fun _ => true) (fun _ => true) (fun _ _ => false) (fun _ => false) fun _ _ _ => false

noncomputable def plain (v : V) : Bool := V.casesOn v true (fun _ => true) (fun _ => true) (fun _ => true) (fun _ => true) (fun _ _ => true) (fun _ => false) fun _ _ _ => false

noncomputable def freeze (v : V) : Option V := V.casesOn v (some .none) (fun b => some (.bool b)) (fun b => some (.int b)) (fun b => some (.str b)) (fun b => some (.tup b)) (fun _ vs => some (.lst false vs)) (fun _ => Option.none) fun _ _ _ => Option.none

noncomputable def dlook (kvs : List (Str × V)) (k : Str) : Option V := (kvs.find? fun p => p.1 == k).map (·.2)

/-- scalar results of a comprehension -/
noncomputable def scalar (v : V) : Bool := V.casesOn v false (fun _ => true) (fun _ => true) (fun _ => true) (fun _ => false) (fun _ _ => false) (fun _ => false) fun _ _ _ => false

noncomputable def mapR (f : V → R V) : List V → R (List V)
  | [] => some (.ok [])
  | v :: r => R.bind (f v) fun x => R.bind (mapR f r) fun xs => some (.ok (x :: xs))

noncomputable def pairOf : V → Option (V × V)
  | .tup [a, b] => some (a, b)
  | _ => Option.none

noncomputable def isNoneV (neg : Bool) (x : V) : R V := V.casesOn x (some (.ok (.bool (!neg)))) (fun _ => some (.ok (.bool neg))) (fun _ => some (.ok (.bool neg))) (fun _ => some (.ok (.bool neg))) (fun _ => some (.ok (.bool neg))) (fun _ _ => some (.ok (.bool neg))) (fun _ => some (.ok (.bool neg))) fun _ _ _ => Option.none

noncomputable def idxV (k : Nat) : V → R V
  | .tup ws => R.of (ws[k]?)
  | _ => Option.none
noncomputable def compIdxV (k : Nat) : V → R V
  | .lst _ vs => if vs.length ≤ 1000000 ∧ k ≤ 1000 then R.bind (mapR (idxV k) vs) fun xs => some (.ok (.lst true xs)) else Option.none
  | _ => Option.none

section
variable (cl : Nat → List V → R V)

noncomputable def scalars (x : R (List V)) : R V := match x with
  | some (.ok xs) => if xs.all scalar then some (.ok (.lst true xs)) else Option.none
  | _ => Option.none
noncomputable def compCallV (f : Nat) : V → R V
  | .lst _ vs => if vs.length ≤ 1000000 then scalars (mapR (fun v => cl f [v]) vs) else Option.none
  | .tup vs => if vs.length ≤ 1000000 then scalars (mapR (fun v => cl f [v]) vs) else Option.none
  | _ => Option.none
noncomputable def pairV (f : Nat) (y : V) (v : V) : R V := match pairOf v with
  | some p => cl f [p.1, y]
  | Option.none => Option.none
noncomputable def compPairV (f : Nat) (y : V) : V → R V
  | .lst _ vs => if vs.length ≤ 1000000 then scalars (mapR (pairV cl f y) vs) else Option.none
  | _ => Option.none

mutual
noncomputable def evalE (ρ : Rho) : E → R V
  | .bad => Option.none
  | .var i => R.of ((get ρ i).bind freeze)
  | .none => some (.ok .none)
  | .bool b => some (.ok (.bool b))
  | .int n => some (.ok (.int n))
  | .str s => some (.ok (.str s))
  | .bin op a b => R.bind (evalE ρ a) fun x => R.bind (evalE ρ b) fun y => R.of (arith op x y)
  | .not a => R.bind (evalE ρ a) fun x => R.of ((truth x).map fun b => .bool (!b))
  | .neg a => R.bind (evalE ρ a) fun x => R.of ((isInt x).map fun n => .int (-n))
  | .inv a => R.bind (evalE ρ a) fun x => R.of ((isInt x).map fun n => .int (Builtin.bitNot n))
  | .and es => evalAnd ρ es
  | .or es => evalOr ρ es
  | .cmp op a b => R.bind (evalE ρ a) fun x => R.bind (evalE ρ b) fun y => R.of ((vcmp op x y).map .bool)
  | .isIn neg a b => R.bind (evalE ρ a) fun x => R.bind (evalE ρ b) fun y => R.of ((isInV x y).map fun r => .bool (r != neg))
  | .isNone neg a => R.bind (evalE ρ a) fun x => isNoneV neg x
  | .chain a b c => R.bind (evalE ρ a) fun x => R.bind (evalE ρ b) fun y =>
      match x, y with
      | .int m, .int n => if m ≤ n then R.bind (evalE ρ c) fun z => R.of ((isInt z).map fun k => .bool (decide (n ≤ k))) else some (.ok (.bool false))
      | _, _ => Option.none
  | .ite c a b => R.bind (evalE ρ c) fun x => match truth x with
    | some true => evalE ρ a
    | some false => evalE ρ b
    | Option.none => Option.none
  | .call f args => R.bind (evalL ρ args) fun vs => cl f vs
  | .b1 f a => R.bind (evalE ρ a) fun x => R.of (builtin1 f x)
  | .lower a => R.bind (evalE ρ a) fun x => match x with
    | .str s => if Builtin.Str.tooLong (Txt.lower s).length = false then some (.ok (.str (Txt.lower s))) else Option.none
    | _ => Option.none
  | .starts a b => R.bind (evalE ρ a) fun x => match x with
    | .str s => R.bind (evalE ρ b) fun y => match y with
      | .str t => some (.ok (.bool (Txt.startswith s t)))
      | _ => Option.none
    | _ => Option.none
  | .join a => R.bind (evalE ρ a) fun x => match x with
    | .lst _ vs => R.of ((strIs vs).bind fun l => if JoinOk Str.empty l = true then some (.str (Txt.join Str.empty l)) else Option.none)
    | _ => Option.none
  | .dict ks vs => R.bind (evalL ρ vs) fun xs => if ks.length = xs.length ∧ xs.all noList = true then some (.ok (.dict (ks.zip xs))) else Option.none
  | .dget d k => R.bind (evalE ρ d) fun x => match x with
    | .dict kvs => R.bind (evalE ρ k) fun y => match y with
      | .str s => some (.ok ((dlook kvs s).getD .none))
      | _ => Option.none
    | _ => Option.none
  | .didx d k => R.bind (evalE ρ d) fun x => match x with
    | .dict kvs => R.bind (evalE ρ k) fun y => match y with
      | .str s => R.of (dlook kvs s)
      | _ => Option.none
    | _ => Option.none
  | .idx a b => R.bind (evalE ρ a) fun x => R.bind (evalE ρ b) fun y => R.of (vidx x y)
  | .slTo a hi => R.bind (evalE ρ a) fun x => R.bind (evalE ρ hi) fun y => R.of (vslTo x y)
  | .slFrom a lo => R.bind (evalE ρ a) fun x => R.bind (evalE ρ lo) fun y => R.of (vslFrom x y)
  | .slBoth a lo hi => R.bind (evalE ρ a) fun x => R.bind (evalE ρ lo) fun y => R.bind (evalE ρ hi) fun z => R.of (vslBoth x y z)
  | .fstr ps => R.bind (evalL ρ ps) fun vs => R.of ((strIs vs).bind fun l => if (l.map (·.length)).sum ≤ 1000000 then some (.str (l.foldl (· ++ ·) Str.empty)) else Option.none)
  | .tup es => R.bind (evalL ρ es) fun vs => if vs.all noList && decide (vs.length ≤ 1000) then some (.ok (.tup vs)) else Option.none
  | .lst es => R.bind (evalL ρ es) fun vs => if vs.all noList && decide (vs.length ≤ 1000) then some (.ok (.lst true vs)) else Option.none
  | .mkExc args => R.bind (evalL ρ args) fun vs => match vs with
    | [x, y, z] => if noList x && noList y && noList z then some (.ok (.exc x y z)) else Option.none
    | _ => Option.none
  | .compCall f src => R.bind (evalE ρ src) fun x => compCallV cl f x
  | .compIdx k src => R.bind (evalE ρ src) fun x => compIdxV k x
  | .compPair f src w => R.bind (evalE ρ src) fun x => R.bind (R.of ((get ρ w).bind freeze)) fun y => compPairV cl f y x
noncomputable def evalL (ρ : Rho) : List E → R (List V)
  | [] => some (.ok [])
  | e :: r => R.bind (evalE ρ e) fun x => if plain x then R.bind (evalL ρ r) fun xs => some (.ok (x :: xs)) else Option.none
noncomputable def evalAnd (ρ : Rho) : List E → R V
  | [] => Option.none
  | [e] => evalE ρ e
  | e :: r => R.bind (evalE ρ e) fun x => match truth x with
    | some true => evalAnd ρ r
    | some false => some (.ok x)
    | Option.none => Option.none
noncomputable def evalOr (ρ : Rho) : List E → R V
  | [] => Option.none
  | [e] => evalE ρ e
  | e :: r => R.bind (evalE ρ e) fun x => match truth x with
    | some true => some (.ok x)
    | some false => evalOr ρ r
    | Option.none => Option.none
end

inductive Out where
  | next (ρ : Rho)
  | ret (v : V)
  | cont (ρ : Rho)
  | exc (ev : V) (ρ : Rho)

/-- an expression's outcome within a statement -/
noncomputable def onE (ρ : Rho) (x : R V) (f : V → Option Out) : Option Out :=
  match x with
  | Option.none => Option.none
  | some (.error ev) => some (.exc ev ρ)
  | some (.ok v) => f v
@[simp] theorem onE_none (ρ : Rho) (f : V → Option Out) : onE ρ Option.none f = Option.none := rfl
@[simp] theorem onE_err (ρ : Rho) (e : V) (f : V → Option Out) : onE ρ (some (.error e)) f = some (.exc e ρ) := rfl
@[simp] theorem onE_ok (ρ : Rho) (a : V) (f : V → Option Out) : onE ρ (some (.ok a)) f = f a := rfl

/-- an augmented assignment's value -/
noncomputable def augV : AOp → Int → V → Option V
  | .add, a, .int b => some (.int (a + b))
  | .sub, a, .int b => some (.int (a - b))
  | _, _, _ => Option.none

/-- what a name may be given -/
noncomputable def storable (v : V) : Bool := V.casesOn v true (fun _ => true) (fun _ => true) (fun _ => true) (fun _ => true) (fun own _ => own) (fun _ => false) fun _ _ _ => false

@[irreducible] noncomputable def FUEL : Nat := 2 ^ 100

noncomputable def loopN (test : Rho → R V) (body : Rho → Option Out) : Nat → Rho → Option Out
  | 0, _ => Option.none
  | n + 1, ρ => onE ρ (test ρ) fun x => match truth x with
    | Option.none => Option.none
    | some false => some (.next ρ)
    | some true => match body ρ with
      | some (.next ρ') => loopN test body n ρ'
      | some (.cont ρ') => loopN test body n ρ'
      | o => o

noncomputable def forL (i : Nat) (body : Rho → Option Out) : List V → Rho → Option Out
  | [], ρ => some (.next ρ)
  | v :: r, ρ => match body (put ρ i v) with
    | some (.next ρ') => forL i body r ρ'
    | some (.cont ρ') => forL i body r ρ'
    | o => o

/-- the source of a for -/
noncomputable def itemsOf (v : V) : Option (List V) := V.casesOn v Option.none (fun _ => Option.none) (fun _ => Option.none) (fun s => some (s.cps.toList.map fun c => .str ⟨#[c]⟩)) (fun vs => some vs) (fun _ _ => Option.none) (fun _ => Option.none) fun _ _ _ => Option.none

/-- the handler's answer -/
noncomputable def tryOut (h : Option Nat) (r : Option Out) : Option Out :=
  match r with
  | some (.exc ev ρ') => (match h with
    | Option.none => some (.ret (toldOf ev))
    | some d => match (get ρ' d).bind fun v => vcmp .eq v (toldOf ev) with
      | some b => some (.ret (.bool b))
      | Option.none => Option.none)
  | o => o

mutual
noncomputable def exec : S → Rho → Option Out
  | .bad, _ => Option.none
  | .assign i e, ρ => onE ρ (evalE cl ρ e) fun v => if storable v then some (.next (put ρ i v)) else Option.none
  | .unpack2 i j e, ρ => onE ρ (evalE cl ρ e) fun v => match pairOf v with
    | some (x, y) => some (.next (put (put ρ i x) j y))
    | Option.none => Option.none
  | .aug i op e, ρ => match get ρ i with
    | some (.int a) => onE ρ (evalE cl ρ e) fun v => (augV op a v).map fun z => .next (put ρ i z)
    | _ => Option.none
  | .append i e, ρ => match get ρ i with
    | some (.lst true _) => onE ρ (evalE cl ρ e) fun v => match get ρ i with
      | some (.lst true vs) => if noList v && decide (vs.length ≤ 1000000) then some (.next (put ρ i (.lst true (vs ++ [v])))) else Option.none
      | _ => Option.none
    | _ => Option.none
  | .pop i j, ρ => match get ρ j with
    | some (.lst true vs) => match vs.getLast? with
      | some v => if i ≠ j ∧ vs.length ≤ 1000000 then some (.next (put (put ρ j (.lst true vs.dropLast)) i v)) else Option.none
      | Option.none => Option.none
    | _ => Option.none
  | .expr e, ρ => onE ρ (evalE cl ρ e) fun v => match v with
    | .none => some (.next ρ)
    | _ => Option.none
  | .ite c a b, ρ => onE ρ (evalE cl ρ c) fun x => match truth x with
    | some true => execs a ρ
    | some false => execs b ρ
    | Option.none => Option.none
  | .while c body, ρ => loopN (fun ρ => evalE cl ρ c) (fun ρ => execs body ρ) FUEL ρ
  | .for i e body, ρ => onE ρ (evalE cl ρ e) fun v => match itemsOf v with
    | some vs => if vs.length ≤ 1000000 then forL i (fun ρ => execs body ρ) vs ρ else Option.none
    | Option.none => Option.none
  | .forVar i k body, ρ => match get ρ k with
    | some (.lst false vs) => if vs.length ≤ 1000000 then forL i (fun ρ => execs body ρ) vs ρ else Option.none
    | _ => Option.none
  | .forRange i e body, ρ => onE ρ (evalE cl ρ e) fun v => match v with
    | .int n => if 0 ≤ n ∧ n ≤ 1000000 then forL i (fun ρ => execs body ρ) ((List.range n.toNat).map fun k => V.int (k : Nat)) ρ else Option.none
    | _ => Option.none
  | .ret e, ρ => onE ρ (evalE cl ρ e) fun v => some (.ret v)
  | .raise e, ρ => onE ρ (evalE cl ρ e) fun v => match v with
    | .exc .. => some (.exc v ρ)
    | _ => Option.none
  | .try body _ h, ρ => tryOut h (execs body ρ)
  | .cont, ρ => some (.cont ρ)
noncomputable def execs : List S → Rho → Option Out
  | [], ρ => some (.next ρ)
  | s :: r, ρ => match exec s ρ with
    | some (.next ρ') => execs r ρ'
    | o => o
end
end

structure Fn where
  nparams : Nat
  nlocals : Nat
  defaults : List V
  body : List S

noncomputable def fillArgs (fn : Fn) (args : List V) : Option (List V) :=
  if args.length = fn.nparams then some args
  else if args.length + fn.defaults.length = fn.nparams then some (args ++ fn.defaults)
  else Option.none

noncomputable def freezeAll : List V → Option (List V)
  | [] => some []
  | v :: r => (freeze v).bind fun x => (freezeAll r).map (x :: ·)

noncomputable def startRho (fn : Fn) (args : List V) : Rho := args.map some ++ List.replicate (fn.nlocals - fn.nparams) Option.none

noncomputable def endOf : Option Out → R V
  | some (.next _) => some (.ok .none)
  | some (.ret v) => some (.ok v)
  | some (.exc ev _) => some (.error ev)
  | _ => Option.none

noncomputable def callN (P : Nat → Option Fn) : Nat → Nat → List V → R V
  | 0, _, _ => Option.none
  | d + 1, f, args => match P f with
    | Option.none => Option.none
    | some fn => match (freezeAll args).bind (fillArgs fn) with
      | Option.none => Option.none
      | some as => endOf (execs (callN P d) fn.body (startRho fn as))

theorem any_of {α : Type} {o : Option α} {p : α → Bool} (h : o.any p = true) : ∃ a, o = some a ∧ p a = true := by
  cases o with
  | none => cases h
  | some a => exact ⟨a, rfl, h⟩
end Mine
end
section
open PySem
namespace Mine
noncomputable def N_F_error : List Str := [(Str.ofString "text"), (Str.ofString "errorcode")]
noncomputable def B_F_error : List S :=
    [.ret (.mkExc [(.int 1), (.var 0), (.var 1)])]
noncomputable def F_error : Fn := ⟨2, 2, [.tup [.str (Str.ofString "NONE")]], B_F_error⟩
noncomputable def N_F_is_blank : List Str := [(Str.ofString "c")]
noncomputable def B_F_is_blank : List S :=
    [.ret (.isIn false (.var 0) (.tup [(.str (Str.ofString " ")), (.str (Str.ofString "\t")), (.str (Str.ofString "\n")), (.str (Str.ofString "\x0b")), (.str (Str.ofString "\x0c")), (.str (Str.ofString "\r"))]))]
noncomputable def F_is_blank : Fn := ⟨1, 1, [], B_F_is_blank⟩
noncomputable def N_F_digit : List Str := [(Str.ofString "c"), (Str.ofString "n")]
noncomputable def B_F_digit : List S :=
    [.ite (.cmp .ne (.b1 .len (.var 0)) (.int 1)) [.ret (.neg (.int 1))] [],
    .assign 1 (.b1 .ord (.var 0)),
    .ite (.chain (.int 48) (.var 1) (.int 57)) [.ret (.bin .sub (.var 1) (.int 48))] [],
    .ite (.chain (.int 97) (.var 1) (.int 122)) [.ret (.bin .sub (.var 1) (.int 87))] [],
    .ite (.chain (.int 65) (.var 1) (.int 90)) [.ret (.bin .sub (.var 1) (.int 55))] [],
    .ret (.neg (.int 1))]
noncomputable def F_digit : Fn := ⟨1, 2, [], B_F_digit⟩
noncomputable def N_F_digits_value : List Str := [(Str.ofString "text"), (Str.ofString "base"), (Str.ofString "value"), (Str.ofString "c"), (Str.ofString "n")]
noncomputable def B_F_digits_value : List S :=
    [.ite (.cmp .eq (.var 0) (.str (Str.ofString ""))) [.ret .none] [],
    .assign 2 (.int 0),
    .for 3 (.var 0) [.assign 4 (.call 2 [(.var 3)]),
    .ite (.or [(.cmp .lt (.var 4) (.int 0)), (.cmp .ge (.var 4) (.var 1))]) [.ret .none] [],
    .assign 2 (.bin .add (.bin .mul (.var 2) (.var 1)) (.var 4))],
    .ret (.var 2)]
noncomputable def F_digits_value : Fn := ⟨2, 5, [], B_F_digits_value⟩
noncomputable def N_F_base_of : List Str := [(Str.ofString "mark")]
noncomputable def B_F_base_of : List S :=
    [.ite (.isIn false (.var 0) (.tup [(.str (Str.ofString "x")), (.str (Str.ofString "X"))])) [.ret (.int 16)] [],
    .ite (.isIn false (.var 0) (.tup [(.str (Str.ofString "o")), (.str (Str.ofString "O"))])) [.ret (.int 8)] [],
    .ite (.isIn false (.var 0) (.tup [(.str (Str.ofString "b")), (.str (Str.ofString "B"))])) [.ret (.int 2)] [],
    .ite (.isIn false (.var 0) (.tup [(.str (Str.ofString "d")), (.str (Str.ofString "D"))])) [.ret (.int 10)] [],
    .ret (.int 0)]
noncomputable def F_base_of : Fn := ⟨1, 1, [], B_F_base_of⟩
noncomputable def N_F_whole_of : List Str := [(Str.ofString "text"), (Str.ofString "first"), (Str.ofString "behind"), (Str.ofString "is_minus"), (Str.ofString "base"), (Str.ofString "value")]
noncomputable def B_F_whole_of : List S :=
    [.unpack2 1 2 (.tup [(.int 0), (.b1 .len (.var 0))]),
    .while (.and [(.cmp .lt (.var 1) (.var 2)), (.call 1 [(.idx (.var 0) (.var 1))])]) [.aug 1 .add (.int 1)],
    .while (.and [(.cmp .lt (.var 1) (.var 2)), (.call 1 [(.idx (.var 0) (.bin .sub (.var 2) (.int 1)))])]) [.aug 2 .sub (.int 1)],
    .assign 3 (.bool false),
    .ite (.and [(.cmp .lt (.var 1) (.var 2)), (.isIn false (.idx (.var 0) (.var 1)) (.tup [(.str (Str.ofString "+")), (.str (Str.ofString "-"))]))]) [.assign 3 (.cmp .eq (.idx (.var 0) (.var 1)) (.str (Str.ofString "-"))),
    .aug 1 .add (.int 1)] [],
    .assign 4 (.int 0),
    .ite (.and [(.cmp .gt (.bin .sub (.var 2) (.var 1)) (.int 2)), (.cmp .eq (.idx (.var 0) (.var 1)) (.str (Str.ofString "0")))]) [.assign 4 (.call 4 [(.idx (.var 0) (.bin .add (.var 1) (.int 1)))])] [],
    .ite (.cmp .gt (.var 4) (.int 0)) [.assign 5 (.call 3 [(.slBoth (.var 0) (.bin .add (.var 1) (.int 2)) (.var 2)), (.var 4)])] [.assign 5 (.call 3 [(.slBoth (.var 0) (.var 1) (.var 2)), (.int 10)])],
    .ite (.isNone false (.var 5)) [.ret .none] [],
    .ret (.ite (.var 3) (.neg (.var 5)) (.var 5))]
noncomputable def F_whole_of : Fn := ⟨1, 6, [], B_F_whole_of⟩
noncomputable def N_F_bool_of : List Str := [(Str.ofString "text"), (Str.ofString "value"), (Str.ofString "low"), (Str.ofString "word")]
noncomputable def B_F_bool_of : List S :=
    [.assign 1 (.call 5 [(.var 0)]),
    .ite (.isNone true (.var 1)) [.ret (.cmp .ne (.var 1) (.int 0))] [],
    .assign 2 (.lower (.var 0)),
    .ite (.isIn false (.var 2) (.tup [(.str (Str.ofString "")), (.str (Str.ofString "o"))])) [.ret .none] [],
    .for 3 (.tup [(.str (Str.ofString "true")), (.str (Str.ofString "yes")), (.str (Str.ofString "on"))]) [.ite (.starts (.var 3) (.var 2)) [.ret (.bool true)] []],
    .for 3 (.tup [(.str (Str.ofString "false")), (.str (Str.ofString "no")), (.str (Str.ofString "off"))]) [.ite (.starts (.var 3) (.var 2)) [.ret (.bool false)] []],
    .ret .none]
noncomputable def F_bool_of : Fn := ⟨1, 4, [], B_F_bool_of⟩
noncomputable def N_F_need_bool : List Str := [(Str.ofString "text"), (Str.ofString "value")]
noncomputable def B_F_need_bool : List S :=
    [.assign 1 (.call 6 [(.var 0)]),
    .ite (.isNone false (.var 1)) [.raise (.call 0 [(.bin .add (.bin .add (.str (Str.ofString "expected boolean value but got \"")) (.var 0)) (.str (Str.ofString "\""))), (.tup [(.str (Str.ofString "TCL")), (.str (Str.ofString "VALUE")), (.str (Str.ofString "BOOLEAN"))])])] [],
    .ret (.var 1)]
noncomputable def F_need_bool : Fn := ⟨1, 2, [], B_F_need_bool⟩
noncomputable def N_F_text_of_numbers : List Str := [(Str.ofString "is_so")]
noncomputable def B_F_text_of_numbers : List S :=
    [.ret (.ite (.var 0) (.str (Str.ofString "1")) (.str (Str.ofString "0")))]
noncomputable def F_text_of_numbers : Fn := ⟨1, 1, [], B_F_text_of_numbers⟩
noncomputable def N_F_wide : List Str := [(Str.ofString "n"), (Str.ofString "low")]
noncomputable def B_F_wide : List S :=
    [.assign 1 (.bin .band (.var 0) (.bin .sub (.bin .shl (.int 1) (.int 64)) (.int 1))),
    .ite (.cmp .eq (.bin .shr (.var 1) (.int 63)) (.int 1)) [.ret (.bin .sub (.var 1) (.bin .shl (.int 1) (.int 64)))] [],
    .ret (.var 1)]
noncomputable def F_wide : Fn := ⟨1, 2, [], B_F_wide⟩
noncomputable def N_F_check_behind : List Str := [(Str.ofString "text"), (Str.ofString "at"), (Str.ofString "what"), (Str.ofString "end")]
noncomputable def B_F_check_behind : List S :=
    [.ite (.or [(.cmp .ge (.var 1) (.b1 .len (.var 0))), (.call 1 [(.idx (.var 0) (.var 1))])]) [.ret .none] [],
    .assign 3 (.var 1),
    .while (.and [(.cmp .lt (.var 3) (.b1 .len (.var 0))), (.cmp .lt (.var 3) (.bin .add (.var 1) (.int 20))), (.not (.call 1 [(.idx (.var 0) (.var 3))]))]) [.aug 3 .add (.int 1)],
    .raise (.call 0 [(.bin .add (.bin .add (.bin .add (.bin .add (.str (Str.ofString "list element in ")) (.var 2)) (.str (Str.ofString " followed by \""))) (.slBoth (.var 0) (.var 1) (.var 3))) (.str (Str.ofString "\" instead of space"))), (.tup [(.str (Str.ofString "TCL")), (.str (Str.ofString "VALUE")), (.str (Str.ofString "LIST")), (.str (Str.ofString "JUNK"))])])]
noncomputable def F_check_behind : Fn := ⟨3, 4, [], B_F_check_behind⟩
noncomputable def N_F_braced_element : List Str := [(Str.ofString "text"), (Str.ofString "first"), (Str.ofString "depth"), (Str.ofString "at"), (Str.ofString "c")]
noncomputable def B_F_braced_element : List S :=
    [.unpack2 2 3 (.tup [(.int 1), (.var 1)]),
    .while (.cmp .lt (.var 3) (.b1 .len (.var 0))) [.assign 4 (.idx (.var 0) (.var 3)),
    .ite (.cmp .eq (.var 4) (.str (Str.ofString "\\"))) [.aug 3 .add (.int 1)] [.ite (.cmp .eq (.var 4) (.str (Str.ofString "{"))) [.aug 2 .add (.int 1)] [.ite (.cmp .eq (.var 4) (.str (Str.ofString "}"))) [.aug 2 .sub (.int 1),
    .ite (.cmp .eq (.var 2) (.int 0)) [.expr (.call 13 [(.var 0), (.bin .add (.var 3) (.int 1)), (.str (Str.ofString "braces"))]),
    .ret (.tup [(.slBoth (.var 0) (.var 1) (.var 3)), (.bin .add (.var 3) (.int 1))])] []] []]],
    .aug 3 .add (.int 1)],
    .raise (.call 0 [(.str (Str.ofString "unmatched open brace in list")), (.tup [(.str (Str.ofString "TCL")), (.str (Str.ofString "VALUE")), (.str (Str.ofString "LIST")), (.str (Str.ofString "BRACE"))])])]
noncomputable def F_braced_element : Fn := ⟨2, 5, [], B_F_braced_element⟩
noncomputable def N_F_quoted_element : List Str := [(Str.ofString "text"), (Str.ofString "at"), (Str.ofString "out"), (Str.ofString "c")]
noncomputable def B_F_quoted_element : List S :=
    [.assign 2 (.lst []),
    .while (.cmp .lt (.var 1) (.b1 .len (.var 0))) [.assign 3 (.idx (.var 0) (.var 1)),
    .ite (.cmp .eq (.var 3) (.str (Str.ofString "\\"))) [.unpack2 3 1 (.call 12 [(.var 0), (.var 1)])] [.ite (.cmp .eq (.var 3) (.str (Str.ofString "\""))) [.expr (.call 13 [(.var 0), (.bin .add (.var 1) (.int 1)), (.str (Str.ofString "quotes"))]),
    .ret (.tup [(.join (.var 2)), (.bin .add (.var 1) (.int 1))])] [.aug 1 .add (.int 1)]],
    .append 2 (.var 3)],
    .raise (.call 0 [(.str (Str.ofString "unmatched open quote in list")), (.tup [(.str (Str.ofString "TCL")), (.str (Str.ofString "VALUE")), (.str (Str.ofString "LIST")), (.str (Str.ofString "QUOTE"))])])]
noncomputable def F_quoted_element : Fn := ⟨2, 4, [], B_F_quoted_element⟩
noncomputable def N_F_bare_element : List Str := [(Str.ofString "text"), (Str.ofString "at"), (Str.ofString "out"), (Str.ofString "c")]
noncomputable def B_F_bare_element : List S :=
    [.assign 2 (.lst []),
    .while (.and [(.cmp .lt (.var 1) (.b1 .len (.var 0))), (.not (.call 1 [(.idx (.var 0) (.var 1))]))]) [.assign 3 (.idx (.var 0) (.var 1)),
    .ite (.cmp .eq (.var 3) (.str (Str.ofString "\\"))) [.unpack2 3 1 (.call 12 [(.var 0), (.var 1)])] [.aug 1 .add (.int 1)],
    .append 2 (.var 3)],
    .ret (.tup [(.join (.var 2)), (.var 1)])]
noncomputable def F_bare_element : Fn := ⟨2, 4, [], B_F_bare_element⟩
noncomputable def N_F_find_element : List Str := [(Str.ofString "text"), (Str.ofString "at")]
noncomputable def B_F_find_element : List S :=
    [.while (.and [(.cmp .lt (.var 1) (.b1 .len (.var 0))), (.call 1 [(.idx (.var 0) (.var 1))])]) [.aug 1 .add (.int 1)],
    .ite (.cmp .ge (.var 1) (.b1 .len (.var 0))) [.ret .none] [],
    .ite (.cmp .eq (.idx (.var 0) (.var 1)) (.str (Str.ofString "{"))) [.ret (.call 14 [(.var 0), (.bin .add (.var 1) (.int 1))])] [],
    .ite (.cmp .eq (.idx (.var 0) (.var 1)) (.str (Str.ofString "\""))) [.ret (.call 15 [(.var 0), (.bin .add (.var 1) (.int 1))])] [],
    .ret (.call 16 [(.var 0), (.var 1)])]
noncomputable def F_find_element : Fn := ⟨2, 2, [], B_F_find_element⟩
noncomputable def N_F_split_list : List Str := [(Str.ofString "text"), (Str.ofString "items"), (Str.ofString "found")]
noncomputable def B_F_split_list : List S :=
    [.assign 1 (.lst []),
    .assign 2 (.call 17 [(.var 0), (.int 0)]),
    .while (.isNone true (.var 2)) [.append 1 (.idx (.var 2) (.int 0)),
    .assign 2 (.call 17 [(.var 0), (.idx (.var 2) (.int 1))])],
    .ret (.var 1)]
noncomputable def F_split_list : Fn := ⟨1, 3, [], B_F_split_list⟩
noncomputable def N_F_operand_fault : List Str := [(Str.ofString "op"), (Str.ofString "text"), (Str.ofString "what"), (Str.ofString "shown")]
noncomputable def B_F_operand_fault : List S :=
    [.unpack2 2 3 (.tup [(.str (Str.ofString "non-numeric string")), (.fstr [(.str (Str.ofString "non-numeric string \"")), (.var 1), (.str (Str.ofString "\""))])]),
    .ite (.cmp .eq (.var 1) (.str (Str.ofString ""))) [.unpack2 2 3 (.tup [(.str (Str.ofString "empty string")), (.str (Str.ofString "empty string"))])] [],
    .ret (.call 0 [(.fstr [(.str (Str.ofString "can't use ")), (.var 3), (.str (Str.ofString " as operand of \"")), (.var 0), (.str (Str.ofString "\""))]), (.tup [(.str (Str.ofString "ARITH")), (.str (Str.ofString "DOMAIN")), (.var 2)])])]
noncomputable def F_operand_fault : Fn := ⟨2, 4, [], B_F_operand_fault⟩
noncomputable def N_F_operand : List Str := [(Str.ofString "op"), (Str.ofString "text"), (Str.ofString "number")]
noncomputable def B_F_operand : List S :=
    [.assign 2 (.call 5 [(.var 1)]),
    .ite (.isNone false (.var 2)) [.raise (.call 19 [(.var 0), (.var 1)])] [],
    .ret (.var 2)]
noncomputable def F_operand : Fn := ⟨2, 3, [], B_F_operand⟩
noncomputable def N_F_unary : List Str := [(Str.ofString "op"), (Str.ofString "a"), (Str.ofString "is_so"), (Str.ofString "number")]
noncomputable def B_F_unary : List S :=
    [.ite (.cmp .eq (.var 0) (.str (Str.ofString "!"))) [.assign 2 (.call 6 [(.var 1)]),
    .ite (.isNone false (.var 2)) [.raise (.call 19 [(.var 0), (.var 1)])] [],
    .ret (.call 8 [(.not (.var 2))])] [],
    .assign 3 (.call 20 [(.var 0), (.var 1)]),
    .ite (.cmp .eq (.var 0) (.str (Str.ofString "-"))) [.ret (.b1 .str (.neg (.var 3)))] [],
    .ite (.cmp .eq (.var 0) (.str (Str.ofString "~"))) [.ret (.b1 .str (.inv (.var 3)))] [],
    .ite (.cmp .eq (.var 0) (.str (Str.ofString "+"))) [.ret (.b1 .str (.var 3))] [],
    .raise .bad]
noncomputable def F_unary : Fn := ⟨2, 4, [], B_F_unary⟩
noncomputable def N_F_need_divisor : List Str := [(Str.ofString "number")]
noncomputable def B_F_need_divisor : List S :=
    [.ite (.cmp .eq (.var 0) (.int 0)) [.raise (.call 0 [(.str (Str.ofString "divide by zero")), (.tup [(.str (Str.ofString "ARITH")), (.str (Str.ofString "DIVZERO")), (.str (Str.ofString "divide by zero"))])])] []]
noncomputable def F_need_divisor : Fn := ⟨1, 1, [], B_F_need_divisor⟩
noncomputable def N_F_power : List Str := [(Str.ofString "base"), (Str.ofString "exponent"), (Str.ofString "why")]
noncomputable def B_F_power : List S :=
    [.ite (.cmp .eq (.var 1) (.int 0)) [.ret (.int 1)] [],
    .ite (.and [(.cmp .eq (.var 0) (.int 0)), (.cmp .lt (.var 1) (.int 0))]) [.assign 2 (.str (Str.ofString "exponentiation of zero by negative power")),
    .raise (.call 0 [(.var 2), (.tup [(.str (Str.ofString "ARITH")), (.str (Str.ofString "DOMAIN")), (.var 2)])])] [],
    .ite (.or [(.cmp .eq (.var 0) (.int 0)), (.cmp .eq (.var 0) (.int 1))]) [.ret (.var 0)] [],
    .ite (.cmp .eq (.var 0) (.neg (.int 1))) [.ret (.ite (.cmp .eq (.bin .mod (.var 1) (.int 2)) (.int 0)) (.int 1) (.neg (.int 1)))] [],
    .ite (.cmp .lt (.var 1) (.int 0)) [.ret (.int 0)] [],
    .ite (.cmp .ge (.var 1) (.bin .pow (.int 2) (.int 28))) [.raise (.call 0 [(.str (Str.ofString "exponent too large"))])] [],
    .ret (.bin .pow (.var 0) (.var 1))]
noncomputable def F_power : Fn := ⟨2, 3, [], B_F_power⟩
noncomputable def N_F_need_count : List Str := [(Str.ofString "count")]
noncomputable def B_F_need_count : List S :=
    [.ite (.cmp .lt (.var 0) (.int 0)) [.raise (.call 0 [(.str (Str.ofString "negative shift argument")), (.tup [(.str (Str.ofString "ARITH")), (.str (Str.ofString "DOMAIN")), (.str (Str.ofString "domain error: argument not in valid range"))])])] []]
noncomputable def F_need_count : Fn := ⟨1, 1, [], B_F_need_count⟩
noncomputable def N_F_shifted_left : List Str := [(Str.ofString "number"), (Str.ofString "count"), (Str.ofString "why")]
noncomputable def B_F_shifted_left : List S :=
    [.expr (.call 24 [(.var 1)]),
    .ite (.cmp .eq (.var 0) (.int 0)) [.ret (.int 0)] [],
    .ite (.cmp .ge (.var 1) (.bin .pow (.int 2) (.int 31))) [.assign 2 (.str (Str.ofString "integer value too large to represent")),
    .raise (.call 0 [(.var 2), (.tup [(.str (Str.ofString "ARITH")), (.str (Str.ofString "IOVERFLOW")), (.var 2)])])] [],
    .ret (.bin .shl (.var 0) (.var 1))]
noncomputable def F_shifted_left : Fn := ⟨2, 3, [], B_F_shifted_left⟩
noncomputable def N_F_shifted_right : List Str := [(Str.ofString "number"), (Str.ofString "count")]
noncomputable def B_F_shifted_right : List S :=
    [.expr (.call 24 [(.var 1)]),
    .ite (.cmp .ge (.var 1) (.bin .pow (.int 2) (.int 31))) [.ret (.ite (.cmp .lt (.var 0) (.int 0)) (.neg (.int 1)) (.int 0))] [],
    .ret (.bin .shr (.var 0) (.var 1))]
noncomputable def F_shifted_right : Fn := ⟨2, 2, [], B_F_shifted_right⟩
noncomputable def N_F_arithmetic : List Str := [(Str.ofString "op"), (Str.ofString "left"), (Str.ofString "right")]
noncomputable def B_F_arithmetic : List S :=
    [.ite (.cmp .eq (.var 0) (.str (Str.ofString "+"))) [.ret (.bin .add (.var 1) (.var 2))] [],
    .ite (.cmp .eq (.var 0) (.str (Str.ofString "-"))) [.ret (.bin .sub (.var 1) (.var 2))] [],
    .ite (.cmp .eq (.var 0) (.str (Str.ofString "*"))) [.ret (.bin .mul (.var 1) (.var 2))] [],
    .ite (.cmp .eq (.var 0) (.str (Str.ofString "/"))) [.expr (.call 22 [(.var 2)]),
    .ret (.bin .fdiv (.var 1) (.var 2))] [],
    .ite (.cmp .eq (.var 0) (.str (Str.ofString "%"))) [.expr (.call 22 [(.var 2)]),
    .ret (.bin .mod (.var 1) (.var 2))] [],
    .ite (.cmp .eq (.var 0) (.str (Str.ofString "**"))) [.ret (.call 23 [(.var 1), (.var 2)])] [],
    .ite (.cmp .eq (.var 0) (.str (Str.ofString "<<"))) [.ret (.call 25 [(.var 1), (.var 2)])] [],
    .ite (.cmp .eq (.var 0) (.str (Str.ofString ">>"))) [.ret (.call 26 [(.var 1), (.var 2)])] [],
    .ite (.cmp .eq (.var 0) (.str (Str.ofString "&"))) [.ret (.bin .band (.var 1) (.var 2))] [],
    .ite (.cmp .eq (.var 0) (.str (Str.ofString "|"))) [.ret (.bin .bor (.var 1) (.var 2))] [],
    .ite (.cmp .eq (.var 0) (.str (Str.ofString "^"))) [.ret (.bin .bxor (.var 1) (.var 2))] [],
    .raise .bad]
noncomputable def F_arithmetic : Fn := ⟨3, 3, [], B_F_arithmetic⟩
noncomputable def N_F_text_order : List Str := [(Str.ofString "a"), (Str.ofString "b")]
noncomputable def B_F_text_order : List S :=
    [.ite (.cmp .eq (.var 0) (.var 1)) [.ret (.int 0)] [],
    .ret (.ite (.cmp .lt (.var 0) (.var 1)) (.neg (.int 1)) (.int 1))]
noncomputable def F_text_order : Fn := ⟨2, 2, [], B_F_text_order⟩
noncomputable def N_F_order_of : List Str := [(Str.ofString "a"), (Str.ofString "b"), (Str.ofString "left"), (Str.ofString "right")]
noncomputable def B_F_order_of : List S :=
    [.assign 2 (.call 5 [(.var 0)]),
    .assign 3 (.call 5 [(.var 1)]),
    .ite (.or [(.isNone false (.var 2)), (.isNone false (.var 3))]) [.ret (.call 28 [(.var 0), (.var 1)])] [],
    .ret (.bin .sub (.var 2) (.var 3))]
noncomputable def F_order_of : Fn := ⟨2, 4, [], B_F_order_of⟩
noncomputable def N_F_relation : List Str := [(Str.ofString "op"), (Str.ofString "order")]
noncomputable def B_F_relation : List S :=
    [.ite (.or [(.cmp .eq (.var 0) (.str (Str.ofString "=="))), (.cmp .eq (.var 0) (.str (Str.ofString "eq")))]) [.ret (.cmp .eq (.var 1) (.int 0))] [],
    .ite (.or [(.cmp .eq (.var 0) (.str (Str.ofString "!="))), (.cmp .eq (.var 0) (.str (Str.ofString "ne")))]) [.ret (.cmp .ne (.var 1) (.int 0))] [],
    .ite (.or [(.cmp .eq (.var 0) (.str (Str.ofString "<"))), (.cmp .eq (.var 0) (.str (Str.ofString "lt")))]) [.ret (.cmp .lt (.var 1) (.int 0))] [],
    .ite (.or [(.cmp .eq (.var 0) (.str (Str.ofString "<="))), (.cmp .eq (.var 0) (.str (Str.ofString "le")))]) [.ret (.cmp .le (.var 1) (.int 0))] [],
    .ite (.or [(.cmp .eq (.var 0) (.str (Str.ofString ">"))), (.cmp .eq (.var 0) (.str (Str.ofString "gt")))]) [.ret (.cmp .gt (.var 1) (.int 0))] [],
    .ret (.cmp .ge (.var 1) (.int 0))]
noncomputable def F_relation : Fn := ⟨2, 2, [], B_F_relation⟩
noncomputable def N_F_binary : List Str := [(Str.ofString "op"), (Str.ofString "a"), (Str.ofString "b"), (Str.ofString "is_in"), (Str.ofString "left"), (Str.ofString "right")]
noncomputable def B_F_binary : List S :=
    [.ite (.isIn false (.var 0) (.tup [(.str (Str.ofString "==")), (.str (Str.ofString "!=")), (.str (Str.ofString "<")), (.str (Str.ofString "<=")), (.str (Str.ofString ">")), (.str (Str.ofString ">="))])) [.ret (.call 8 [(.call 30 [(.var 0), (.call 29 [(.var 1), (.var 2)])])])] [],
    .ite (.isIn false (.var 0) (.tup [(.str (Str.ofString "eq")), (.str (Str.ofString "ne")), (.str (Str.ofString "lt")), (.str (Str.ofString "le")), (.str (Str.ofString "gt")), (.str (Str.ofString "ge"))])) [.ret (.call 8 [(.call 30 [(.var 0), (.call 28 [(.var 1), (.var 2)])])])] [],
    .ite (.isIn false (.var 0) (.tup [(.str (Str.ofString "in")), (.str (Str.ofString "ni"))])) [.assign 3 (.isIn false (.var 1) (.call 18 [(.var 2)])),
    .ret (.call 8 [(.cmp .eq (.var 3) (.cmp .eq (.var 0) (.str (Str.ofString "in"))))])] [],
    .assign 4 (.call 20 [(.var 0), (.var 1)]),
    .assign 5 (.call 20 [(.var 0), (.var 2)]),
    .ret (.b1 .str (.call 27 [(.var 0), (.var 4), (.var 5)]))]
noncomputable def F_binary : Fn := ⟨3, 6, [], B_F_binary⟩
noncomputable def N_F_function_rows : List Str := []
noncomputable def B_F_function_rows : List S :=
    [.ret (.dict [(Str.ofString "abs"), (Str.ofString "bool"), (Str.ofString "entier"), (Str.ofString "int"), (Str.ofString "isqrt"), (Str.ofString "max"), (Str.ofString "min"), (Str.ofString "wide")] [(.tup [(.int 1), (.int 1)]), (.tup [(.int 1), (.int 1)]), (.tup [(.int 1), (.int 1)]), (.tup [(.int 1), (.int 1)]), (.tup [(.int 1), (.int 1)]), (.tup [(.int 1), (.neg (.int 1))]), (.tup [(.int 1), (.neg (.int 1))]), (.tup [(.int 1), (.int 1)])])]
noncomputable def F_function_rows : Fn := ⟨0, 0, [], B_F_function_rows⟩
noncomputable def N_F_need_number : List Str := [(Str.ofString "text"), (Str.ofString "number")]
noncomputable def B_F_need_number : List S :=
    [.assign 1 (.call 5 [(.var 0)]),
    .ite (.isNone false (.var 1)) [.raise (.call 0 [(.fstr [(.str (Str.ofString "expected number but got \"")), (.var 0), (.str (Str.ofString "\""))]), (.tup [(.str (Str.ofString "TCL")), (.str (Str.ofString "VALUE")), (.str (Str.ofString "NUMBER"))])])] [],
    .ret (.var 1)]
noncomputable def F_need_number : Fn := ⟨1, 2, [], B_F_need_number⟩
noncomputable def N_F_root_of : List Str := [(Str.ofString "number"), (Str.ofString "why"), (Str.ofString "root"), (Str.ofString "better")]
noncomputable def B_F_root_of : List S :=
    [.ite (.cmp .lt (.var 0) (.int 0)) [.assign 1 (.str (Str.ofString "domain error: argument not in valid range")),
    .raise (.call 0 [(.str (Str.ofString "square root of negative argument")), (.tup [(.str (Str.ofString "ARITH")), (.str (Str.ofString "DOMAIN")), (.var 1)])])] [],
    .ite (.cmp .lt (.var 0) (.int 2)) [.ret (.var 0)] [],
    .assign 2 (.var 0),
    .assign 3 (.bin .fdiv (.var 0) (.int 2)),
    .while (.cmp .lt (.var 3) (.var 2)) [.assign 2 (.var 3),
    .assign 3 (.bin .fdiv (.bin .add (.var 2) (.bin .fdiv (.var 0) (.var 2))) (.int 2))],
    .ret (.var 2)]
noncomputable def F_root_of : Fn := ⟨1, 4, [], B_F_root_of⟩
noncomputable def N_F_function_value : List Str := [(Str.ofString "name"), (Str.ofString "values")]
noncomputable def B_F_function_value : List S :=
    [.ite (.cmp .eq (.var 0) (.str (Str.ofString "max"))) [.ret (.b1 .max (.var 1))] [],
    .ite (.cmp .eq (.var 0) (.str (Str.ofString "min"))) [.ret (.b1 .min (.var 1))] [],
    .ite (.cmp .eq (.var 0) (.str (Str.ofString "abs"))) [.ret (.b1 .abs (.idx (.var 1) (.int 0)))] [],
    .ite (.cmp .eq (.var 0) (.str (Str.ofString "isqrt"))) [.ret (.call 34 [(.idx (.var 1) (.int 0))])] [],
    .ite (.cmp .eq (.var 0) (.str (Str.ofString "wide"))) [.ret (.call 9 [(.idx (.var 1) (.int 0))])] [],
    .ret (.idx (.var 1) (.int 0))]
noncomputable def F_function_value : Fn := ⟨2, 2, [], B_F_function_value⟩
noncomputable def N_F_count_fault : List Str := [(Str.ofString "size"), (Str.ofString "name")]
noncomputable def B_F_count_fault : List S :=
    [.ret (.call 0 [(.fstr [(.str (Str.ofString "too ")), (.var 0), (.str (Str.ofString " arguments for math function \"")), (.var 1), (.str (Str.ofString "\""))]), (.tup [(.str (Str.ofString "TCL")), (.str (Str.ofString "WRONGARGS"))])])]
noncomputable def F_count_fault : Fn := ⟨2, 2, [], B_F_count_fault⟩
noncomputable def N_F_call_function : List Str := [(Str.ofString "name"), (Str.ofString "args"), (Str.ofString "row"), (Str.ofString "least"), (Str.ofString "most"), (Str.ofString "values"), (Str.ofString "arg")]
noncomputable def B_F_call_function : List S :=
    [.assign 2 (.dget (.call 32 []) (.var 0)),
    .ite (.isNone false (.var 2)) [.ret .none] [],
    .unpack2 3 4 (.var 2),
    .ite (.cmp .lt (.b1 .len (.var 1)) (.var 3)) [.raise (.call 36 [(.str (Str.ofString "few")), (.var 0)])] [],
    .ite (.and [(.cmp .ge (.var 4) (.int 0)), (.cmp .gt (.b1 .len (.var 1)) (.var 4))]) [.raise (.call 36 [(.str (Str.ofString "many")), (.var 0)])] [],
    .ite (.cmp .eq (.var 0) (.str (Str.ofString "bool"))) [.ret (.call 8 [(.call 7 [(.idx (.var 1) (.int 0))])])] [],
    .assign 5 (.lst []),
    .forVar 6 1 [.append 5 (.call 33 [(.var 6)])],
    .ret (.b1 .str (.call 35 [(.var 0), (.var 5)]))]
noncomputable def F_call_function : Fn := ⟨2, 7, [], B_F_call_function⟩
noncomputable def N_F_call_value : List Str := [(Str.ofString "host"), (Str.ofString "name"), (Str.ofString "trees"), (Str.ofString "args"), (Str.ofString "tree"), (Str.ofString "value")]
noncomputable def B_F_call_value : List S :=
    [.assign 3 (.lst []),
    .for 4 (.var 2) [.append 3 (.call 42 [(.var 0), (.var 4)])],
    .assign 5 (.call 37 [(.var 1), (.var 3)]),
    .ite (.isNone false (.var 5)) [.ret .bad] [],
    .ret (.var 5)]
noncomputable def F_call_value : Fn := ⟨3, 6, [], B_F_call_value⟩
noncomputable def N_F_leaf_value : List Str := [(Str.ofString "host"), (Str.ofString "tree"), (Str.ofString "kind")]
noncomputable def B_F_leaf_value : List S :=
    [.assign 2 (.idx (.var 1) (.int 0)),
    .ite (.cmp .eq (.var 2) (.str (Str.ofString "num"))) [.ret (.b1 .str (.idx (.var 1) (.int 1)))] [],
    .ite (.cmp .eq (.var 2) (.str (Str.ofString "text"))) [.ret (.idx (.var 1) (.int 1))] [],
    .ite (.cmp .eq (.var 2) (.str (Str.ofString "parts"))) [.ret (.call 38 [(.var 0), (.idx (.var 1) (.int 1))])] [],
    .ite (.cmp .eq (.var 2) (.str (Str.ofString "un"))) [.ret (.call 21 [(.idx (.var 1) (.int 1)), (.call 42 [(.var 0), (.idx (.var 1) (.int 2))])])] [],
    .ite (.cmp .eq (.var 2) (.str (Str.ofString "if"))) [.ite (.call 7 [(.call 42 [(.var 0), (.idx (.var 1) (.int 1))])]) [.ret (.call 42 [(.var 0), (.idx (.var 1) (.int 2))])] [],
    .ret (.call 42 [(.var 0), (.idx (.var 1) (.int 3))])] [],
    .ret (.call 39 [(.var 0), (.idx (.var 1) (.int 1)), (.idx (.var 1) (.int 2))])]
noncomputable def F_leaf_value : Fn := ⟨2, 3, [], B_F_leaf_value⟩
noncomputable def N_F_logic_value : List Str := [(Str.ofString "host"), (Str.ofString "tree"), (Str.ofString "value"), (Str.ofString "is_or"), (Str.ofString "is_so")]
noncomputable def B_F_logic_value : List S :=
    [.assign 3 (.cmp .eq (.idx (.var 1) (.int 0)) (.str (Str.ofString "or"))),
    .assign 4 (.call 7 [(.var 2)]),
    .ite (.cmp .ne (.var 4) (.var 3)) [.assign 4 (.call 7 [(.call 42 [(.var 0), (.idx (.var 1) (.int 2))])])] [],
    .ret (.ite (.var 4) (.str (Str.ofString "1")) (.str (Str.ofString "0")))]
noncomputable def F_logic_value : Fn := ⟨3, 5, [], B_F_logic_value⟩
noncomputable def N_F_reckon : List Str := [(Str.ofString "host"), (Str.ofString "tree"), (Str.ofString "spine"), (Str.ofString "value"), (Str.ofString "above")]
noncomputable def B_F_reckon : List S :=
    [.assign 2 (.lst []),
    .while (.isIn false (.idx (.var 1) (.int 0)) (.tup [(.str (Str.ofString "bin")), (.str (Str.ofString "and")), (.str (Str.ofString "or"))])) [.append 2 (.var 1),
    .assign 1 (.ite (.cmp .eq (.idx (.var 1) (.int 0)) (.str (Str.ofString "bin"))) (.idx (.var 1) (.int 2)) (.idx (.var 1) (.int 1)))],
    .assign 3 (.call 40 [(.var 0), (.var 1)]),
    .while (.var 2) [.pop 4 2,
    .ite (.cmp .eq (.idx (.var 4) (.int 0)) (.str (Str.ofString "bin"))) [.assign 3 (.call 31 [(.idx (.var 4) (.int 1)), (.var 3), (.call 42 [(.var 0), (.idx (.var 4) (.int 3))])])] [.assign 3 (.call 41 [(.var 0), (.var 4), (.var 3)])]],
    .ret (.var 3)]
noncomputable def F_reckon : Fn := ⟨2, 5, [], B_F_reckon⟩
noncomputable def N_L_rows : List Str := [(Str.ofString "rows")]
noncomputable def B_L_rows : List S :=
    [.assign 0 (.lst [(.int 648), (.int 2), (.int 3), (.int 7), (.int 424), (.int 712), (.int 28), (.int 4), (.int 712), (.int 58), (.int 156), (.int 0), (.int 19), (.int 46), (.int 424), (.int 712), (.int 44), (.int 23), (.int 100)]),
    .ret (.bin .add (.var 0) (.lst [(.int 712), (.int 66), (.int 156), (.int 424), (.int 118), (.int 15), (.int 34), (.int 27), (.int 712), (.int 648), (.int 36), (.int 7), (.int 3)]))]
noncomputable def L_rows : Fn := ⟨0, 1, [], B_L_rows⟩
noncomputable def N_L_text : List Str := [(Str.ofString "q")]
noncomputable def B_L_text : List S :=
    [.ret (.idx (.tup [(.str (Str.ofString "abc")), (.str (Str.ofString "0x1F")), (.str (Str.ofString " 7\t")), (.str (Str.ofString "010")), (.str (Str.ofString "tRu")), (.str (Str.ofString "of")), (.str (Str.ofString "")), (.str (Str.ofString "7 abc 10")), (.str (Str.ofString "{")), (.str (Str.ofString "-0")), (.str (Str.ofString "1_0")), (.str (Str.ofString "-0b101")), (.str (Str.ofString "o")), (.str (Str.ofString "No")), (.str (Str.ofString "10 {7 7} -5")), (.str (Str.ofString "0x")), (.str (Str.ofString "\"x")), (.str (Str.ofString "{a}b"))]) (.bin .mod (.var 0) (.int 18)))]
noncomputable def L_text : Fn := ⟨1, 1, [], B_L_text⟩
noncomputable def N_L_number : List Str := [(Str.ofString "q"), (Str.ofString "edges"), (Str.ofString "far")]
noncomputable def B_L_number : List S :=
    [.assign 1 (.tup [(.bin .pow (.int 2) (.int 63)), (.bin .sub (.bin .pow (.int 2) (.int 64)) (.int 1)), (.bin .pow (.int 2) (.int 31)), (.bin .pow (.int 2) (.int 28)), (.bin .pow (.int 2) (.int 40)), (.neg (.bin .pow (.int 2) (.int 63))), (.bin .pow (.int 10) (.int 20)), (.int 4096), (.int 64), (.int 1)]),
    .assign 2 (.bin .fdiv (.var 0) (.int 4)),
    .ret (.idx (.tup [(.idx (.var 1) (.bin .mod (.var 2) (.int 10))), (.bin .sub (.bin .mod (.var 2) (.int 41)) (.int 20)), (.bin .sub (.idx (.var 1) (.bin .mod (.var 2) (.int 10))) (.int 1)), (.bin .sub (.bin .mod (.var 2) (.bin .pow (.int 2) (.int 70))) (.bin .pow (.int 2) (.int 69)))]) (.bin .mod (.var 0) (.int 4)))]
noncomputable def L_number : Fn := ⟨1, 3, [], B_L_number⟩
noncomputable def N_L_is_leaf : List Str := [(Str.ofString "tree")]
noncomputable def B_L_is_leaf : List S :=
    [.ret (.isIn false (.idx (.var 0) (.int 0)) (.tup [(.str (Str.ofString "num")), (.str (Str.ofString "text"))]))]
noncomputable def L_is_leaf : Fn := ⟨1, 1, [], B_L_is_leaf⟩
noncomputable def N_L_shown : List Str := [(Str.ofString "leaf")]
noncomputable def B_L_shown : List S :=
    [.ret (.ite (.cmp .eq (.idx (.var 0) (.int 0)) (.str (Str.ofString "num"))) (.b1 .str (.idx (.var 0) (.int 1))) (.idx (.var 0) (.int 1)))]
noncomputable def L_shown : Fn := ⟨1, 1, [], B_L_shown⟩
noncomputable def N_L_count : List Str := [(Str.ofString "leaf")]
noncomputable def B_L_count : List S :=
    [.ite (.cmp .eq (.idx (.var 0) (.int 0)) (.str (Str.ofString "num"))) [.ret (.idx (.var 0) (.int 1))] [],
    .ret (.dget (.dict [(Str.ofString "0x1F"), (Str.ofString " 7\t"), (Str.ofString "010"), (Str.ofString "-0"), (Str.ofString "-0b101")] [(.int 31), (.int 7), (.int 10), (.int 0), (.neg (.int 5))]) (.idx (.var 0) (.int 1)))]
noncomputable def L_count : Fn := ⟨1, 1, [], B_L_count⟩
noncomputable def N_L_is_bit : List Str := [(Str.ofString "tree"), (Str.ofString "ops")]
noncomputable def B_L_is_bit : List S :=
    [.assign 1 (.tup [(.str (Str.ofString "+")), (.str (Str.ofString "-")), (.str (Str.ofString "*")), (.str (Str.ofString "/")), (.str (Str.ofString "%")), (.str (Str.ofString "**")), (.str (Str.ofString "<<")), (.str (Str.ofString ">>")), (.str (Str.ofString "&")), (.str (Str.ofString "|")), (.str (Str.ofString "^"))]),
    .ret (.or [(.isIn false (.idx (.var 0) (.int 0)) (.tup [(.str (Str.ofString "and")), (.str (Str.ofString "or"))])), (.cmp .eq (.slTo (.var 0) (.int 2)) (.tup [(.str (Str.ofString "un")), (.str (Str.ofString "!"))])), (.and [(.cmp .eq (.idx (.var 0) (.int 0)) (.str (Str.ofString "bin"))), (.isIn true (.idx (.var 0) (.int 1)) (.var 1))])])]
noncomputable def L_is_bit : Fn := ⟨1, 2, [], B_L_is_bit⟩
noncomputable def N_L_is_fit : List Str := [(Str.ofString "op"), (Str.ofString "left"), (Str.ofString "right"), (Str.ofString "count"), (Str.ofString "small"), (Str.ofString "great")]
noncomputable def B_L_is_fit : List S :=
    [.ite (.isIn true (.var 0) (.tup [(.str (Str.ofString "**")), (.str (Str.ofString "<<"))])) [.ret (.bool true)] [],
    .ite (.and [(.cmp .eq (.var 0) (.str (Str.ofString "**"))), (.not (.call 46 [(.var 1)]))]) [.ret (.bool false)] [],
    .ite (.not (.call 46 [(.var 2)])) [.ret (.call 49 [(.var 2)])] [],
    .assign 3 (.call 48 [(.var 2)]),
    .unpack2 4 5 (.didx (.dict [(Str.ofString "**"), (Str.ofString "<<")] [(.tup [(.int 3), (.bin .pow (.int 2) (.int 28))]), (.tup [(.int 64), (.bin .pow (.int 2) (.int 31))])]) (.var 0)),
    .ret (.or [(.isNone false (.var 3)), (.cmp .le (.var 3) (.var 4)), (.cmp .ge (.var 3) (.var 5))])]
noncomputable def L_is_fit : Fn := ⟨3, 6, [], B_L_is_fit⟩
noncomputable def N_L_many : List Str := [(Str.ofString "kind"), (Str.ofString "q")]
noncomputable def B_L_many : List S :=
    [.ite (.cmp .eq (.var 0) (.int 6)) [.ret (.ite (.cmp .gt (.bin .mod (.var 1) (.int 8)) (.int 5)) (.bin .add (.int 1) (.bin .mod (.bin .fdiv (.var 1) (.int 8)) (.int 3))) (.idx (.tup [(.int 1), (.int 1), (.int 1), (.int 2), (.int 0), (.int 3)]) (.bin .mod (.bin .fdiv (.var 1) (.int 8)) (.int 6))))] [],
    .ret (.idx (.tup [(.int 0), (.int 0), (.int 0), (.int 1), (.int 2), (.int 2), (.int 0), (.ite (.cmp .eq (.bin .mod (.var 1) (.int 3)) (.int 2)) (.int 3) (.int 2))]) (.var 0))]
noncomputable def L_many : Fn := ⟨2, 2, [], B_L_many⟩
noncomputable def N_L_node : List Str := [(Str.ofString "kind"), (Str.ofString "q"), (Str.ofString "some"), (Str.ofString "name"), (Str.ofString "op")]
noncomputable def B_L_node : List S :=
    [.ite (.cmp .eq (.var 0) (.int 3)) [.ret (.tup [(.str (Str.ofString "un")), (.idx (.tup [(.str (Str.ofString "-")), (.str (Str.ofString "+")), (.str (Str.ofString "~")), (.str (Str.ofString "!"))]) (.bin .mod (.var 1) (.int 4))), (.idx (.var 2) (.int 0))])] [],
    .ite (.cmp .eq (.var 0) (.int 6)) [.assign 3 (.idx (.tup [(.str (Str.ofString "abs")), (.str (Str.ofString "bool")), (.str (Str.ofString "entier")), (.str (Str.ofString "int")), (.str (Str.ofString "isqrt")), (.str (Str.ofString "wide")), (.str (Str.ofString "max")), (.str (Str.ofString "min"))]) (.bin .mod (.var 1) (.int 8))),
    .ite (.and [(.cmp .eq (.var 3) (.str (Str.ofString "isqrt"))), (.not (.b1 .all (.compCall 46 (.var 2))))]) [.assign 3 (.str (Str.ofString "int"))] [],
    .ret (.tup [(.str (Str.ofString "call")), (.var 3), (.b1 .tuple (.var 2))])] [],
    .ite (.cmp .eq (.var 0) (.int 7)) [.ret (.bin .add (.tup [(.idx (.tup [(.str (Str.ofString "and")), (.str (Str.ofString "or")), (.str (Str.ofString "if"))]) (.bin .mod (.var 1) (.int 3)))]) (.b1 .tuple (.var 2)))] [],
    .assign 4 (.idx (.tup [(.str (Str.ofString "+")), (.str (Str.ofString "-")), (.str (Str.ofString "*")), (.str (Str.ofString "/")), (.str (Str.ofString "%")), (.str (Str.ofString "**")), (.str (Str.ofString "<<")), (.str (Str.ofString ">>")), (.str (Str.ofString "&")), (.str (Str.ofString "|")), (.str (Str.ofString "^")), (.str (Str.ofString "<")), (.str (Str.ofString "==")), (.str (Str.ofString "!=")), (.str (Str.ofString ">")), (.str (Str.ofString "<=")), (.str (Str.ofString ">=")), (.str (Str.ofString "eq")), (.str (Str.ofString "ne")), (.str (Str.ofString "in")), (.str (Str.ofString "ni")), (.str (Str.ofString "lt")), (.str (Str.ofString "gt")), (.str (Str.ofString "le")), (.str (Str.ofString "ge"))]) (.bin .mod (.var 1) (.int 25))),
    .ret (.tup [(.str (Str.ofString "bin")), (.ite (.call 50 [(.var 4), (.idx (.var 2) (.int 0)), (.idx (.var 2) (.int 1))]) (.var 4) (.str (Str.ofString "-"))), (.idx (.var 2) (.int 0)), (.idx (.var 2) (.int 1))])]
noncomputable def L_node : Fn := ⟨3, 5, [], B_L_node⟩
noncomputable def N_L_step : List Str := [(Str.ofString "tree"), (Str.ofString "kind"), (Str.ofString "args"), (Str.ofString "at"), (Str.ofString "first"), (Str.ofString "shown"), (Str.ofString "is_so")]
noncomputable def B_L_step : List S :=
    [.assign 1 (.idx (.var 0) (.int 0)),
    .ite (.cmp .eq (.var 1) (.str (Str.ofString "call"))) [.assign 2 (.idx (.var 0) (.int 2)),
    .forRange 3 (.b1 .len (.var 2)) [.ite (.not (.call 46 [(.idx (.var 2) (.var 3))])) [.ret (.tup [(.str (Str.ofString "call")), (.idx (.var 0) (.int 1)), (.bin .add (.bin .add (.slTo (.var 2) (.var 3)) (.tup [(.call 53 [(.idx (.var 2) (.var 3))])])) (.slFrom (.var 2) (.bin .add (.var 3) (.int 1))))])] []],
    .ret (.tup [(.str (Str.ofString "text")), (.call 37 [(.idx (.var 0) (.int 1)), (.compCall 47 (.var 2))])])] [],
    .assign 4 (.ite (.isIn false (.var 1) (.tup [(.str (Str.ofString "un")), (.str (Str.ofString "bin"))])) (.int 2) (.int 1)),
    .ite (.not (.call 46 [(.idx (.var 0) (.var 4))])) [.ret (.bin .add (.bin .add (.slTo (.var 0) (.var 4)) (.tup [(.call 53 [(.idx (.var 0) (.var 4))])])) (.slFrom (.var 0) (.bin .add (.var 4) (.int 1))))] [],
    .assign 5 (.call 47 [(.idx (.var 0) (.var 4))]),
    .ite (.cmp .eq (.var 1) (.str (Str.ofString "un"))) [.ret (.tup [(.str (Str.ofString "text")), (.call 21 [(.idx (.var 0) (.int 1)), (.var 5)])])] [],
    .ite (.cmp .eq (.var 1) (.str (Str.ofString "bin"))) [.ite (.not (.call 46 [(.idx (.var 0) (.int 3))])) [.ret (.bin .add (.slTo (.var 0) (.int 3)) (.tup [(.call 53 [(.idx (.var 0) (.int 3))])]))] [],
    .ret (.tup [(.str (Str.ofString "text")), (.call 31 [(.idx (.var 0) (.int 1)), (.var 5), (.call 47 [(.idx (.var 0) (.int 3))])])])] [],
    .assign 6 (.call 7 [(.var 5)]),
    .ite (.cmp .eq (.var 1) (.str (Str.ofString "if"))) [.ret (.ite (.var 6) (.idx (.var 0) (.int 2)) (.idx (.var 0) (.int 3)))] [],
    .ite (.cmp .eq (.var 6) (.cmp .eq (.var 1) (.str (Str.ofString "or")))) [.ret (.tup [(.str (Str.ofString "text")), (.ite (.var 6) (.str (Str.ofString "1")) (.str (Str.ofString "0")))])] [],
    .ret (.tup [(.str (Str.ofString "if")), (.idx (.var 0) (.int 2)), (.tup [(.str (Str.ofString "text")), (.str (Str.ofString "1"))]), (.tup [(.str (Str.ofString "text")), (.str (Str.ofString "0"))])])]
noncomputable def L_step : Fn := ⟨1, 7, [], B_L_step⟩
noncomputable def N_L_told : List Str := [(Str.ofString "tree"), (Str.ofString "fault")]
noncomputable def B_L_told : List S :=
    [.try [.ret (.tup [(.str (Str.ofString "value")), (.call 42 [.none, (.var 0)])])] 1 none]
noncomputable def L_told : Fn := ⟨1, 2, [], B_L_told⟩
noncomputable def N_L_swapped : List Str := [(Str.ofString "tree"), (Str.ofString "way"), (Str.ofString "due"), (Str.ofString "at"), (Str.ofString "first")]
noncomputable def B_L_swapped : List S :=
    [.ite (.or [(.call 46 [(.var 0)]), (.and [(.cmp .eq (.idx (.var 0) (.int 0)) (.str (Str.ofString "call"))), (.cmp .eq (.idx (.var 0) (.int 2)) (.tup []))])]) [.ret (.var 0)] [],
    .ite (.cmp .eq (.bin .mod (.var 1) (.int 4)) (.int 0)) [.assign 2 (.call 54 [(.var 0)]),
    .ret (.ite (.cmp .eq (.idx (.var 2) (.int 0)) (.str (Str.ofString "value"))) (.tup [(.str (Str.ofString "text")), (.idx (.var 2) (.int 1))]) (.var 0))] [],
    .ite (.cmp .eq (.idx (.var 0) (.int 0)) (.str (Str.ofString "call"))) [.assign 3 (.bin .mod (.bin .fdiv (.var 1) (.int 4)) (.b1 .len (.idx (.var 0) (.int 2)))),
    .ret (.tup [(.str (Str.ofString "call")), (.idx (.var 0) (.int 1)), (.bin .add (.bin .add (.slTo (.idx (.var 0) (.int 2)) (.var 3)) (.tup [(.call 55 [(.idx (.idx (.var 0) (.int 2)) (.var 3)), (.bin .fdiv (.var 1) (.int 16))])])) (.slFrom (.idx (.var 0) (.int 2)) (.bin .add (.var 3) (.int 1))))])] [],
    .assign 4 (.ite (.isIn false (.idx (.var 0) (.int 0)) (.tup [(.str (Str.ofString "un")), (.str (Str.ofString "bin"))])) (.int 2) (.int 1)),
    .assign 3 (.bin .add (.var 4) (.bin .mod (.bin .fdiv (.var 1) (.int 4)) (.bin .sub (.b1 .len (.var 0)) (.var 4)))),
    .ret (.bin .add (.bin .add (.slTo (.var 0) (.var 3)) (.tup [(.call 55 [(.idx (.var 0) (.var 3)), (.bin .fdiv (.var 1) (.int 16))])])) (.slFrom (.var 0) (.bin .add (.var 3) (.int 1))))]
noncomputable def L_swapped : Fn := ⟨2, 5, [], B_L_swapped⟩
noncomputable def N_L_is_steady : List Str := [(Str.ofString "tree"), (Str.ofString "way"), (Str.ofString "due"), (Str.ofString "fault")]
noncomputable def B_L_is_steady : List S :=
    [.assign 2 (.call 54 [(.var 0)]),
    .ite (.cmp .ne (.call 54 [(.call 55 [(.var 0), (.var 1)])]) (.var 2)) [.ret (.bool false)] [],
    .while (.not (.call 46 [(.var 0)])) [.try [.assign 0 (.call 53 [(.var 0)])] 3 (some 2),
    .ite (.cmp .ne (.call 54 [(.var 0)]) (.var 2)) [.ret (.bool false)] []],
    .ret (.cmp .eq (.var 2) (.tup [(.str (Str.ofString "value")), (.call 47 [(.var 0)])]))]
noncomputable def L_is_steady : Fn := ⟨2, 4, [], B_L_is_steady⟩
noncomputable def N_L_law : List Str := [(Str.ofString "script"), (Str.ofString "rows"), (Str.ofString "way"), (Str.ofString "stack"), (Str.ofString "place"), (Str.ofString "draw"), (Str.ofString "kind"), (Str.ofString "q"), (Str.ofString "many"), (Str.ofString "leaf"), (Str.ofString "some"), (Str.ofString "tree"), (Str.ofString "high")]
noncomputable def B_L_law : List S :=
    [.assign 0 (.slTo (.var 0) (.int 63)),
    .assign 1 (.call 43 []),
    .assign 2 (.bin .add (.int 1) (.ite (.cmp .gt (.b1 .len (.var 0)) (.b1 .len (.var 1))) (.idx (.var 0) (.b1 .len (.var 1))) (.int 0))),
    .assign 3 (.lst []),
    .forRange 4 (.b1 .len (.var 1)) [.assign 5 (.bin .add (.idx (.var 1) (.var 4)) (.ite (.cmp .lt (.var 4) (.b1 .len (.var 0))) (.idx (.var 0) (.var 4)) (.int 0))),
    .unpack2 6 7 (.tup [(.bin .mod (.var 5) (.int 8)), (.bin .fdiv (.var 5) (.int 8))]),
    .assign 8 (.call 51 [(.var 6), (.var 7)]),
    .ite (.or [(.cmp .lt (.var 6) (.int 3)), (.cmp .gt (.var 8) (.b1 .len (.var 3)))]) [.assign 9 (.ite (.cmp .lt (.var 6) (.int 2)) (.tup [(.str (Str.ofString "num")), (.call 45 [(.var 7)])]) (.tup [(.str (Str.ofString "text")), (.call 44 [(.var 7)])])),
    .append 3 (.tup [(.var 9), (.int 0)]),
    .cont] [],
    .assign 10 (.slFrom (.var 3) (.bin .sub (.b1 .len (.var 3)) (.var 8))),
    .assign 3 (.slTo (.var 3) (.bin .sub (.b1 .len (.var 3)) (.var 8))),
    .assign 11 (.call 52 [(.var 6), (.var 7), (.compIdx 0 (.var 10))]),
    .assign 12 (.bin .add (.int 1) (.b1 .max (.bin .add (.lst [(.int 0)]) (.compIdx 1 (.var 10))))),
    .ite (.cmp .lt (.var 12) (.int 10)) [.append 3 (.tup [(.var 11), (.var 12)])] [.ite (.not (.call 56 [(.var 11), (.var 2)])) [.ret (.bool false)] []]],
    .ret (.b1 .all (.compPair 56 (.var 3) 2))]
noncomputable def L_law : Fn := ⟨1, 13, [], B_L_law⟩
/-- the table -/
noncomputable def P : Nat → Option Fn
  | 0 => some F_error
  | 1 => some F_is_blank
  | 2 => some F_digit
  | 3 => some F_digits_value
  | 4 => some F_base_of
  | 5 => some F_whole_of
  | 6 => some F_bool_of
  | 7 => some F_need_bool
  | 8 => some F_text_of_numbers
  | 9 => some F_wide
  | 13 => some F_check_behind
  | 14 => some F_braced_element
  | 15 => some F_quoted_element
  | 16 => some F_bare_element
  | 17 => some F_find_element
  | 18 => some F_split_list
  | 19 => some F_operand_fault
  | 20 => some F_operand
  | 21 => some F_unary
  | 22 => some F_need_divisor
  | 23 => some F_power
  | 24 => some F_need_count
  | 25 => some F_shifted_left
  | 26 => some F_shifted_right
  | 27 => some F_arithmetic
  | 28 => some F_text_order
  | 29 => some F_order_of
  | 30 => some F_relation
  | 31 => some F_binary
  | 32 => some F_function_rows
  | 33 => some F_need_number
  | 34 => some F_root_of
  | 35 => some F_function_value
  | 36 => some F_count_fault
  | 37 => some F_call_function
  | 39 => some F_call_value
  | 40 => some F_leaf_value
  | 41 => some F_logic_value
  | 42 => some F_reckon
  | 43 => some L_rows
  | 44 => some L_text
  | 45 => some L_number
  | 46 => some L_is_leaf
  | 47 => some L_shown
  | 48 => some L_count
  | 49 => some L_is_bit
  | 50 => some L_is_fit
  | 51 => some L_many
  | 52 => some L_node
  | 53 => some L_step
  | 54 => some L_told
  | 55 => some L_swapped
  | 56 => some L_is_steady
  | _ => none
noncomputable def fnames : List (Str × Option (List Str)) := [
  ((Str.ofString "error"), some N_F_error),
  ((Str.ofString "is_blank"), some N_F_is_blank),
  ((Str.ofString "digit"), some N_F_digit),
  ((Str.ofString "digits_value"), some N_F_digits_value),
  ((Str.ofString "base_of"), some N_F_base_of),
  ((Str.ofString "whole_of"), some N_F_whole_of),
  ((Str.ofString "bool_of"), some N_F_bool_of),
  ((Str.ofString "need_bool"), some N_F_need_bool),
  ((Str.ofString "text_of_numbers"), some N_F_text_of_numbers),
  ((Str.ofString "wide"), some N_F_wide),
  ((Str.ofString "hex_sign"), none),
  ((Str.ofString "octal_sign"), none),
  ((Str.ofString "backslash"), none),
  ((Str.ofString "check_behind"), some N_F_check_behind),
  ((Str.ofString "braced_element"), some N_F_braced_element),
  ((Str.ofString "quoted_element"), some N_F_quoted_element),
  ((Str.ofString "bare_element"), some N_F_bare_element),
  ((Str.ofString "find_element"), some N_F_find_element),
  ((Str.ofString "split_list"), some N_F_split_list),
  ((Str.ofString "operand_fault"), some N_F_operand_fault),
  ((Str.ofString "operand"), some N_F_operand),
  ((Str.ofString "unary"), some N_F_unary),
  ((Str.ofString "need_divisor"), some N_F_need_divisor),
  ((Str.ofString "power"), some N_F_power),
  ((Str.ofString "need_count"), some N_F_need_count),
  ((Str.ofString "shifted_left"), some N_F_shifted_left),
  ((Str.ofString "shifted_right"), some N_F_shifted_right),
  ((Str.ofString "arithmetic"), some N_F_arithmetic),
  ((Str.ofString "text_order"), some N_F_text_order),
  ((Str.ofString "order_of"), some N_F_order_of),
  ((Str.ofString "relation"), some N_F_relation),
  ((Str.ofString "binary"), some N_F_binary),
  ((Str.ofString "function_rows"), some N_F_function_rows),
  ((Str.ofString "need_number"), some N_F_need_number),
  ((Str.ofString "root_of"), some N_F_root_of),
  ((Str.ofString "function_value"), some N_F_function_value),
  ((Str.ofString "count_fault"), some N_F_count_fault),
  ((Str.ofString "call_function"), some N_F_call_function),
  ((Str.ofString "text_of_host"), none),
  ((Str.ofString "call_value"), some N_F_call_value),
  ((Str.ofString "leaf_value"), some N_F_leaf_value),
  ((Str.ofString "logic_value"), some N_F_logic_value),
  ((Str.ofString "reckon"), some N_F_reckon),
  ((Str.ofString "_law_rows"), some N_L_rows),
  ((Str.ofString "_law_text"), some N_L_text),
  ((Str.ofString "_law_number"), some N_L_number),
  ((Str.ofString "_law_is_leaf"), some N_L_is_leaf),
  ((Str.ofString "_law_shown"), some N_L_shown),
  ((Str.ofString "_law_count"), some N_L_count),
  ((Str.ofString "_law_is_bit"), some N_L_is_bit),
  ((Str.ofString "_law_is_fit"), some N_L_is_fit),
  ((Str.ofString "_law_many"), some N_L_many),
  ((Str.ofString "_law_node"), some N_L_node),
  ((Str.ofString "_law_step"), some N_L_step),
  ((Str.ofString "_law_told"), some N_L_told),
  ((Str.ofString "_law_swapped"), some N_L_swapped),
  ((Str.ofString "_law_is_steady"), some N_L_is_steady),
  ((Str.ofString "law"), some N_L_law)
]
noncomputable abbrev id_F_error : Nat := 0
noncomputable abbrev id_F_is_blank : Nat := 1
noncomputable abbrev id_F_digit : Nat := 2
noncomputable abbrev id_F_digits_value : Nat := 3
noncomputable abbrev id_F_base_of : Nat := 4
noncomputable abbrev id_F_whole_of : Nat := 5
noncomputable abbrev id_F_bool_of : Nat := 6
noncomputable abbrev id_F_need_bool : Nat := 7
noncomputable abbrev id_F_text_of_numbers : Nat := 8
noncomputable abbrev id_F_wide : Nat := 9
noncomputable abbrev id_F_check_behind : Nat := 13
noncomputable abbrev id_F_braced_element : Nat := 14
noncomputable abbrev id_F_quoted_element : Nat := 15
noncomputable abbrev id_F_bare_element : Nat := 16
noncomputable abbrev id_F_find_element : Nat := 17
noncomputable abbrev id_F_split_list : Nat := 18
noncomputable abbrev id_F_operand_fault : Nat := 19
noncomputable abbrev id_F_operand : Nat := 20
noncomputable abbrev id_F_unary : Nat := 21
noncomputable abbrev id_F_need_divisor : Nat := 22
noncomputable abbrev id_F_power : Nat := 23
noncomputable abbrev id_F_need_count : Nat := 24
noncomputable abbrev id_F_shifted_left : Nat := 25
noncomputable abbrev id_F_shifted_right : Nat := 26
noncomputable abbrev id_F_arithmetic : Nat := 27
noncomputable abbrev id_F_text_order : Nat := 28
noncomputable abbrev id_F_order_of : Nat := 29
noncomputable abbrev id_F_relation : Nat := 30
noncomputable abbrev id_F_binary : Nat := 31
noncomputable abbrev id_F_function_rows : Nat := 32
noncomputable abbrev id_F_need_number : Nat := 33
noncomputable abbrev id_F_root_of : Nat := 34
noncomputable abbrev id_F_function_value : Nat := 35
noncomputable abbrev id_F_count_fault : Nat := 36
noncomputable abbrev id_F_call_function : Nat := 37
noncomputable abbrev id_F_call_value : Nat := 39
noncomputable abbrev id_F_leaf_value : Nat := 40
noncomputable abbrev id_F_logic_value : Nat := 41
noncomputable abbrev id_F_reckon : Nat := 42
noncomputable abbrev id_L_rows : Nat := 43
noncomputable abbrev id_L_text : Nat := 44
noncomputable abbrev id_L_number : Nat := 45
noncomputable abbrev id_L_is_leaf : Nat := 46
noncomputable abbrev id_L_shown : Nat := 47
noncomputable abbrev id_L_count : Nat := 48
noncomputable abbrev id_L_is_bit : Nat := 49
noncomputable abbrev id_L_is_fit : Nat := 50
noncomputable abbrev id_L_many : Nat := 51
noncomputable abbrev id_L_node : Nat := 52
noncomputable abbrev id_L_step : Nat := 53
noncomputable abbrev id_L_told : Nat := 54
noncomputable abbrev id_L_swapped : Nat := 55
noncomputable abbrev id_L_is_steady : Nat := 56
noncomputable abbrev id_L_law : Nat := 57
end Mine
end
section
set_option Elab.async false
set_option maxRecDepth 100000
set_option maxHeartbeats 8000000
set_option genInjectivity false
set_option genSizeOf false
set_option linter.unusedVariables false
namespace Mine
section
open PySem PySem.Calls PyProof.Rows PySem.SeqAt
noncomputable def aop : AOp → Operator
  | .add => .Add | .sub => .Sub | .mul => .Mult | .fdiv => .FloorDiv | .mod => .Mod | .pow => .Pow | .shl => .LShift | .shr => .RShift | .band => .BitAnd | .bor => .BitOr | .bxor => .BitXor
noncomputable def cop : COp → CmpOp
  | .eq => .Eq | .ne => .NotEq | .lt => .Lt | .le => .LtE | .gt => .Gt | .ge => .GtE
noncomputable def keyIs (k : Option Expr) (x : Str) : Bool := match k with
  | some (.Constant (.str k) _ _) => k == x
  | _ => false
noncomputable def keysAre : List (Option Expr) → List Str → Bool
  | [], xs => xs.isEmpty
  | k :: ks, xs => match xs with
    | [] => false
    | x :: r => keyIs k x && keysAre ks r
noncomputable def noComp : Expr → Bool
  | .ListComp .. | .SetComp .. | .DictComp .. => false
  | _ => true
noncomputable def notStar : Expr → Bool
  | .Starred .. => false
  | _ => true
noncomputable def excAttrs : List Str := [Str.ofString "code", Str.ofString "value", Str.ofString "errorcode", Str.ofString "level", Str.ofString "ret", Str.ofString "info", Str.ofString "is_noted", Str.ofString "line", Str.ofString "extra"]
noncomputable def noCall : Expr → Bool
  | .Call .. => false
  | _ => true
noncomputable def notSlice : Expr → Bool
  | .Slice .. => false
  | _ => true
noncomputable def b1name : B1 → Str
  | .len => "len" | .ord => "ord" | .str => "str" | .max => "max" | .min => "min" | .abs => "abs" | .all => "all" | .tuple => "tuple"

/-- what the checker knows of a def's scope -/
structure Cx where
  names : List Str
  kinds : List (Str × NameKind)
  fns : List (Str × Nat)

noncomputable def nodbg (x : Str) : Bool := !(x == ("__debug__" : Str))
noncomputable def gl (cx : Cx) (x : Str) : Bool := cx.kinds.lookup x == some .globalImplicit && nodbg x
noncomputable def compSc (sc : Scope) (x : Str) : Bool :=
  sc.kind == .function && sc.names.all (fun y => y.2 != .cell) && sc.names.all (fun y => y.2 != .local || sc.names.lookup y.1 == some .local) && sc.names.lookup x == some .local && nodbg x
noncomputable def noFree (sc : Scope) : Bool := sc.names.all fun y => y.2 != .free
noncomputable def notSet (e : Expr) : Bool := !(e.ctorIdx == 7)

noncomputable def opt {α : Type} (o : Option α) (k : α → Bool) : Bool := match o with
  | some a => k a
  | none => false
theorem opt_true {α : Type} {o : Option α} {k : α → Bool} (h : opt o k = true) : ∃ a, k a = true := by
  match o, h with
  | some a, h => exact ⟨a, h⟩
theorem bl {a b : Bool} (h : (a && b) = true) : a = true := (Bool.and_eq_true_iff.mp h).1
theorem br {a b : Bool} (h : (a && b) = true) : b = true := (Bool.and_eq_true_iff.mp h).2
theorem opt_c {α τ : Type} {mk : α → τ} {p : τ} {o : Option { t : α // p = mk t }} {f : { t : α // p = mk t } → Bool} {C : τ → Prop} (h : opt o f = true) (k : ∀ t : { t : α // p = mk t }, f t = true → C (mk t.1)) : C p :=
  Exists.elim (opt_true h) fun t hk => t.2 ▸ k t hk
noncomputable def optl {α : Type} (l : List α) (k : α → List α → Bool) : Bool := match l with
  | [] => false
  | a :: r => k a r
theorem optl_true {α : Type} {l : List α} {k : α → List α → Bool} (h : optl l k = true) : ∃ a r, l = a :: r ∧ k a r = true := by
  cases l with
  | nil => cases h
  | cons a r => exact ⟨a, r, rfl, h⟩
theorem not_true {b : Bool} (h : (!b) = true) : b = false := by cases b with | false => rfl | true => cases h
noncomputable def augOp (o : AOp) : Bool := o.ctorIdx == 0 || o.ctorIdx == 1
section
universe u
@[elab_as_elim] noncomputable def onNil {α : Type} {β : List α → Type} (t : List α) (no : ∀ t, β t) (k : β []) : β t := List.casesOn t k fun _ _ => no _
@[elab_as_elim] noncomputable def onCons {α : Type} {β : List α → Type} (t : List α) (no : ∀ t, β t) (k : ∀ a r, β (a :: r)) : β t := List.casesOn t (no _) k
@[elab_as_elim] noncomputable def onNone {α : Type} {β : Option α → Type} (t : Option α) (no : ∀ t, β t) (k : β none) : β t := Option.casesOn t k fun _ => no _
@[elab_as_elim] noncomputable def onSome {α : Type} {β : Option α → Type} (t : Option α) (no : ∀ t, β t) (k : ∀ a, β (some a)) : β t := Option.casesOn t (no _) k
@[elab_as_elim] noncomputable def onComp {β : Comprehension → Type} (t : Comprehension) (k : ∀ a b c d, β ⟨a, b, c, d⟩) : β t := Comprehension.casesOn t k
@[elab_as_elim] noncomputable def onHandExceptHandler {β : ExceptHandler → Type} (t : ExceptHandler) (k : ∀ a b c d, β (.ExceptHandler a b c d)) : β t := ExceptHandler.casesOn t k
@[elab_as_elim] noncomputable def onExprName {β : Expr → Type} (t : Expr) (no : ∀ t, β t) (k : ∀ x q, β (.Name x q)) : β t := dite (t.ctorIdx = 23) (fun h => Expr.Name.elim t h k) fun _ => no t
@[elab_as_elim] noncomputable def onExprConstant {β : Expr → Type} (t : Expr) (no : ∀ t, β t) (k : ∀ c k q, β (.Constant c k q)) : β t := dite (t.ctorIdx = 19) (fun h => Expr.Constant.elim t h k) fun _ => no t
@[elab_as_elim] noncomputable def onConstNone {β : Const → Type} (t : Const) (no : ∀ t, β t) (k : β .none) : β t := dite (t.ctorIdx = 0) (fun h => Const.none.elim t h k) fun _ => no t
@[elab_as_elim] noncomputable def onConstBool {β : Const → Type} (t : Const) (no : ∀ t, β t) (k : ∀ b, β (.bool b)) : β t := dite (t.ctorIdx = 1) (fun h => Const.bool.elim t h k) fun _ => no t
@[elab_as_elim] noncomputable def onConstInt {β : Const → Type} (t : Const) (no : ∀ t, β t) (k : ∀ b, β (.int b)) : β t := dite (t.ctorIdx = 2) (fun h => Const.int.elim t h k) fun _ => no t
@[elab_as_elim] noncomputable def onConstStr {β : Const → Type} (t : Const) (no : ∀ t, β t) (k : ∀ b, β (.str b)) : β t := dite (t.ctorIdx = 5) (fun h => Const.str.elim t h k) fun _ => no t
@[elab_as_elim] noncomputable def onExprBinOp {β : Expr → Type} (t : Expr) (no : ∀ t, β t) (k : ∀ l o r q, β (.BinOp l o r q)) : β t := dite (t.ctorIdx = 2) (fun h => Expr.BinOp.elim t h k) fun _ => no t
@[elab_as_elim] noncomputable def onExprUnaryOp {β : Expr → Type} (t : Expr) (no : ∀ t, β t) (k : ∀ o x q, β (.UnaryOp o x q)) : β t := dite (t.ctorIdx = 3) (fun h => Expr.UnaryOp.elim t h k) fun _ => no t
@[elab_as_elim] noncomputable def onUnaryOpNot {β : UnaryOp → Type} (t : UnaryOp) (no : ∀ t, β t) (k : β .Not) : β t := dite (t.ctorIdx = 1) (fun h => UnaryOp.Not.elim t h k) fun _ => no t
@[elab_as_elim] noncomputable def onUnaryOpUSub {β : UnaryOp → Type} (t : UnaryOp) (no : ∀ t, β t) (k : β .USub) : β t := dite (t.ctorIdx = 3) (fun h => UnaryOp.USub.elim t h k) fun _ => no t
@[elab_as_elim] noncomputable def onUnaryOpInvert {β : UnaryOp → Type} (t : UnaryOp) (no : ∀ t, β t) (k : β .Invert) : β t := dite (t.ctorIdx = 0) (fun h => UnaryOp.Invert.elim t h k) fun _ => no t
@[elab_as_elim] noncomputable def onExprBoolOp {β : Expr → Type} (t : Expr) (no : ∀ t, β t) (k : ∀ o xs q, β (.BoolOp o xs q)) : β t := dite (t.ctorIdx = 0) (fun h => Expr.BoolOp.elim t h k) fun _ => no t
@[elab_as_elim] noncomputable def onBoolOpAnd {β : BoolOp → Type} (t : BoolOp) (no : ∀ t, β t) (k : β .And) : β t := dite (t.ctorIdx = 0) (fun h => BoolOp.And.elim t h k) fun _ => no t
@[elab_as_elim] noncomputable def onBoolOpOr {β : BoolOp → Type} (t : BoolOp) (no : ∀ t, β t) (k : β .Or) : β t := dite (t.ctorIdx = 1) (fun h => BoolOp.Or.elim t h k) fun _ => no t
@[elab_as_elim] noncomputable def onExprCompare {β : Expr → Type} (t : Expr) (no : ∀ t, β t) (k : ∀ l os rs q, β (.Compare l os rs q)) : β t := dite (t.ctorIdx = 15) (fun h => Expr.Compare.elim t h k) fun _ => no t
@[elab_as_elim] noncomputable def onCmpOpLtE {β : CmpOp → Type} (t : CmpOp) (no : ∀ t, β t) (k : β .LtE) : β t := dite (t.ctorIdx = 3) (fun h => CmpOp.LtE.elim t h k) fun _ => no t
@[elab_as_elim] noncomputable def onExprIfExp {β : Expr → Type} (t : Expr) (no : ∀ t, β t) (k : ∀ t x y q, β (.IfExp t x y q)) : β t := dite (t.ctorIdx = 5) (fun h => Expr.IfExp.elim t h k) fun _ => no t
@[elab_as_elim] noncomputable def onExprCall {β : Expr → Type} (t : Expr) (no : ∀ t, β t) (k : ∀ f xs ks q, β (.Call f xs ks q)) : β t := dite (t.ctorIdx = 16) (fun h => Expr.Call.elim t h k) fun _ => no t
@[elab_as_elim] noncomputable def onExprAttribute {β : Expr → Type} (t : Expr) (no : ∀ t, β t) (k : ∀ x m q, β (.Attribute x m q)) : β t := dite (t.ctorIdx = 20) (fun h => Expr.Attribute.elim t h k) fun _ => no t
@[elab_as_elim] noncomputable def onExprDict {β : Expr → Type} (t : Expr) (no : ∀ t, β t) (k : ∀ a b q, β (.Dict a b q)) : β t := dite (t.ctorIdx = 6) (fun h => Expr.Dict.elim t h k) fun _ => no t
@[elab_as_elim] noncomputable def onExprSubscript {β : Expr → Type} (t : Expr) (no : ∀ t, β t) (k : ∀ y z q, β (.Subscript y z q)) : β t := dite (t.ctorIdx = 21) (fun h => Expr.Subscript.elim t h k) fun _ => no t
@[elab_as_elim] noncomputable def onExprSlice {β : Expr → Type} (t : Expr) (no : ∀ t, β t) (k : ∀ a b c q, β (.Slice a b c q)) : β t := dite (t.ctorIdx = 26) (fun h => Expr.Slice.elim t h k) fun _ => no t
@[elab_as_elim] noncomputable def onExprJoinedStr {β : Expr → Type} (t : Expr) (no : ∀ t, β t) (k : ∀ a q, β (.JoinedStr a q)) : β t := dite (t.ctorIdx = 18) (fun h => Expr.JoinedStr.elim t h k) fun _ => no t
@[elab_as_elim] noncomputable def onExprTuple {β : Expr → Type} (t : Expr) (no : ∀ t, β t) (k : ∀ xs k q, β (.Tuple xs k q)) : β t := dite (t.ctorIdx = 25) (fun h => Expr.Tuple.elim t h k) fun _ => no t
@[elab_as_elim] noncomputable def onExprList {β : Expr → Type} (t : Expr) (no : ∀ t, β t) (k : ∀ xs q, β (.List xs q)) : β t := dite (t.ctorIdx = 24) (fun h => Expr.List.elim t h k) fun _ => no t
@[elab_as_elim] noncomputable def onExprFormattedValue {β : Expr → Type} (t : Expr) (no : ∀ t, β t) (k : ∀ x c o q, β (.FormattedValue x c o q)) : β t := dite (t.ctorIdx = 17) (fun h => Expr.FormattedValue.elim t h k) fun _ => no t
@[elab_as_elim] noncomputable def onExprListComp {β : Expr → Type} (t : Expr) (no : ∀ t, β t) (k : ∀ e gs sc q, β (.ListComp e gs sc q)) : β t := dite (t.ctorIdx = 8) (fun h => Expr.ListComp.elim t h k) fun _ => no t
@[elab_as_elim] noncomputable def onCmpOpEq {β : CmpOp → Type} (t : CmpOp) (no : ∀ t, β t) (k : β .Eq) : β t := dite (t.ctorIdx = 0) (fun h => CmpOp.Eq.elim t h k) fun _ => no t
@[elab_as_elim] noncomputable def onStmtAssign {β : Stmt → Type} (t : Stmt) (no : ∀ t, β t) (k : ∀ ts v q, β (.Assign ts v q)) : β t := dite (t.ctorIdx = 5) (fun h => Stmt.Assign.elim t h k) fun _ => no t
@[elab_as_elim] noncomputable def onStmtAugAssign {β : Stmt → Type} (t : Stmt) (no : ∀ t, β t) (k : ∀ x o v q, β (.AugAssign x o v q)) : β t := dite (t.ctorIdx = 7) (fun h => Stmt.AugAssign.elim t h k) fun _ => no t
@[elab_as_elim] noncomputable def onStmtExpr {β : Stmt → Type} (t : Stmt) (no : ∀ t, β t) (k : ∀ v q, β (.Expr v q)) : β t := dite (t.ctorIdx = 24) (fun h => Stmt.Expr.elim t h k) fun _ => no t
@[elab_as_elim] noncomputable def onStmtIf {β : Stmt → Type} (t : Stmt) (no : ∀ t, β t) (k : ∀ t b e q, β (.If t b e q)) : β t := dite (t.ctorIdx = 12) (fun h => Stmt.If.elim t h k) fun _ => no t
@[elab_as_elim] noncomputable def onStmtWhile {β : Stmt → Type} (t : Stmt) (no : ∀ t, β t) (k : ∀ t b e q, β (.While t b e q)) : β t := dite (t.ctorIdx = 11) (fun h => Stmt.While.elim t h k) fun _ => no t
@[elab_as_elim] noncomputable def onStmtFor {β : Stmt → Type} (t : Stmt) (no : ∀ t, β t) (k : ∀ x v b e q, β (.For x v b e q)) : β t := dite (t.ctorIdx = 9) (fun h => Stmt.For.elim t h k) fun _ => no t
@[elab_as_elim] noncomputable def onStmtReturn {β : Stmt → Type} (t : Stmt) (no : ∀ t, β t) (k : ∀ o q, β (.Return o q)) : β t := dite (t.ctorIdx = 3) (fun h => Stmt.Return.elim t h k) fun _ => no t
@[elab_as_elim] noncomputable def onStmtRaise {β : Stmt → Type} (t : Stmt) (no : ∀ t, β t) (k : ∀ a b q, β (.Raise a b q)) : β t := dite (t.ctorIdx = 16) (fun h => Stmt.Raise.elim t h k) fun _ => no t
@[elab_as_elim] noncomputable def onStmtTry {β : Stmt → Type} (t : Stmt) (no : ∀ t, β t) (k : ∀ b h e f q, β (.Try b h e f q)) : β t := dite (t.ctorIdx = 17) (fun h => Stmt.Try.elim t h k) fun _ => no t
@[elab_as_elim] noncomputable def onStmtContinue {β : Stmt → Type} (t : Stmt) (no : ∀ t, β t) (k : ∀ q, β (.Continue q)) : β t := dite (t.ctorIdx = 27) (fun h => Stmt.Continue.elim t h k) fun _ => no t
end
@[elab_as_elim] noncomputable def onEStr {β : E → Type} (t : E) (no : ∀ t, β t) (k : ∀ s, β (.str s)) : β t := dite (t.ctorIdx = 5) (fun h => E.str.elim t h k) fun _ => no t
@[elab_as_elim] noncomputable def onEVar {β : E → Type} (t : E) (no : ∀ t, β t) (k : ∀ i, β (.var i)) : β t := dite (t.ctorIdx = 1) (fun h => E.var.elim t h k) fun _ => no t
noncomputable def dName (p : Expr) : Option { t : Str × Pos // p = .Name t.1 t.2 } :=
  onExprName p (fun _ => none) fun x q => some ⟨(x, q), rfl⟩
noncomputable def dNoneC (p : Expr) : Option { t : Nat × Pos // p = .Constant .none t.1 t.2 } :=
  onExprConstant p (fun _ => none) fun z1 k q => onConstNone z1 (fun _ => none) (some ⟨(k, q), rfl⟩)
noncomputable def dBool (p : Expr) : Option { t : Bool × Nat × Pos // p = .Constant (.bool t.1) t.2.1 t.2.2 } :=
  onExprConstant p (fun _ => none) fun z1 k q => onConstBool z1 (fun _ => none) (fun c => some ⟨(c, k, q), rfl⟩)
noncomputable def dInt (p : Expr) : Option { t : Int × Nat × Pos // p = .Constant (.int t.1) t.2.1 t.2.2 } :=
  onExprConstant p (fun _ => none) fun z1 k q => onConstInt z1 (fun _ => none) (fun c => some ⟨(c, k, q), rfl⟩)
noncomputable def dStr (p : Expr) : Option { t : Str × Nat × Pos // p = .Constant (.str t.1) t.2.1 t.2.2 } :=
  onExprConstant p (fun _ => none) fun z1 k q => onConstStr z1 (fun _ => none) (fun c => some ⟨(c, k, q), rfl⟩)
noncomputable def dBin (p : Expr) : Option { t : Expr × Operator × Expr × Pos // p = .BinOp t.1 t.2.1 t.2.2.1 t.2.2.2 } :=
  onExprBinOp p (fun _ => none) fun l o r q => some ⟨(l, o, r, q), rfl⟩
noncomputable def dNot (p : Expr) : Option { t : Expr × Pos // p = .UnaryOp .Not t.1 t.2 } :=
  onExprUnaryOp p (fun _ => none) fun z1 x q => onUnaryOpNot z1 (fun _ => none) (some ⟨(x, q), rfl⟩)
noncomputable def dNeg (p : Expr) : Option { t : Expr × Pos // p = .UnaryOp .USub t.1 t.2 } :=
  onExprUnaryOp p (fun _ => none) fun z1 x q => onUnaryOpUSub z1 (fun _ => none) (some ⟨(x, q), rfl⟩)
noncomputable def dInv (p : Expr) : Option { t : Expr × Pos // p = .UnaryOp .Invert t.1 t.2 } :=
  onExprUnaryOp p (fun _ => none) fun z1 x q => onUnaryOpInvert z1 (fun _ => none) (some ⟨(x, q), rfl⟩)
noncomputable def dAnd (p : Expr) : Option { t : List Expr × Pos // p = .BoolOp .And t.1 t.2 } :=
  onExprBoolOp p (fun _ => none) fun z1 xs q => onBoolOpAnd z1 (fun _ => none) (some ⟨(xs, q), rfl⟩)
noncomputable def dOr (p : Expr) : Option { t : List Expr × Pos // p = .BoolOp .Or t.1 t.2 } :=
  onExprBoolOp p (fun _ => none) fun z1 xs q => onBoolOpOr z1 (fun _ => none) (some ⟨(xs, q), rfl⟩)
noncomputable def dCmp (p : Expr) : Option { t : Expr × CmpOp × Expr × Pos // p = .Compare t.1 [t.2.1] [t.2.2.1] t.2.2.2 } :=
  onExprCompare p (fun _ => none) fun l z1 z2 q => onCons z1 (fun _ => none) fun o z3 => onNil z3 (fun _ => none) (onCons z2 (fun _ => none) fun r z4 => onNil z4 (fun _ => none) (some ⟨(l, o, r, q), rfl⟩))
noncomputable def dIsN (p : Expr) : Option { t : Expr × CmpOp × Nat × Pos × Pos // p = .Compare t.1 [t.2.1] [.Constant .none t.2.2.1 t.2.2.2.1] t.2.2.2.2 } :=
  onExprCompare p (fun _ => none) fun l z1 z2 q => onCons z1 (fun _ => none) fun o z3 => onNil z3 (fun _ => none) (onCons z2 (fun _ => none) fun z4 z5 => onExprConstant z4 (fun _ => none) fun z6 k p1 => onConstNone z6 (fun _ => none) (onNil z5 (fun _ => none) (some ⟨(l, o, k, p1, q), rfl⟩)))
noncomputable def dChain (p : Expr) : Option { t : Expr × Expr × Expr × Pos // p = .Compare t.1 [.LtE, .LtE] [t.2.1, t.2.2.1] t.2.2.2 } :=
  onExprCompare p (fun _ => none) fun l z1 z2 q => onCons z1 (fun _ => none) fun z3 z4 => onCmpOpLtE z3 (fun _ => none) (onCons z4 (fun _ => none) fun z5 z6 => onCmpOpLtE z5 (fun _ => none) (onNil z6 (fun _ => none) (onCons z2 (fun _ => none) fun m z7 => onCons z7 (fun _ => none) fun r z8 => onNil z8 (fun _ => none) (some ⟨(l, m, r, q), rfl⟩))))
noncomputable def dIf (p : Expr) : Option { t : Expr × Expr × Expr × Pos // p = .IfExp t.1 t.2.1 t.2.2.1 t.2.2.2 } :=
  onExprIfExp p (fun _ => none) fun t x y q => some ⟨(t, x, y, q), rfl⟩
noncomputable def dCall (p : Expr) : Option { t : Str × Pos × List Expr × Pos // p = .Call (.Name t.1 t.2.1) t.2.2.1 [] t.2.2.2 } :=
  onExprCall p (fun _ => none) fun z1 xs z2 q => onExprName z1 (fun _ => none) fun x np => onNil z2 (fun _ => none) (some ⟨(x, np, xs, q), rfl⟩)
noncomputable def dCall1 (p : Expr) : Option { t : Str × Pos × Expr × Pos // p = .Call (.Name t.1 t.2.1) [t.2.2.1] [] t.2.2.2 } :=
  onExprCall p (fun _ => none) fun z1 z2 z3 q => onExprName z1 (fun _ => none) fun x np => onCons z2 (fun _ => none) fun y z4 => onNil z4 (fun _ => none) (onNil z3 (fun _ => none) (some ⟨(x, np, y, q), rfl⟩))
noncomputable def dCall0 (p : Expr) : Option { t : Str × Pos × Pos // p = .Call (.Name t.1 t.2.1) [] [] t.2.2 } :=
  onExprCall p (fun _ => none) fun z1 z2 z3 q => onExprName z1 (fun _ => none) fun x np => onNil z2 (fun _ => none) (onNil z3 (fun _ => none) (some ⟨(x, np, q), rfl⟩))
noncomputable def bareBase (e : Expr) : Bool := noCall e || opt (dCall0 e) fun t => t.1.1 != Str.ofString "super"
noncomputable def dMeth0 (p : Expr) : Option { t : Expr × Str × Pos × Pos // p = .Call (.Attribute t.1 t.2.1 t.2.2.1) [] [] t.2.2.2 } :=
  onExprCall p (fun _ => none) fun z1 z2 z3 q => onExprAttribute z1 (fun _ => none) fun y m ap => onNil z2 (fun _ => none) (onNil z3 (fun _ => none) (some ⟨(y, m, ap, q), rfl⟩))
noncomputable def dMeth1 (p : Expr) : Option { t : Expr × Str × Pos × Expr × Pos // p = .Call (.Attribute t.1 t.2.1 t.2.2.1) [t.2.2.2.1] [] t.2.2.2.2 } :=
  onExprCall p (fun _ => none) fun z1 z2 z3 q => onExprAttribute z1 (fun _ => none) fun y m ap => onCons z2 (fun _ => none) fun z z4 => onNil z4 (fun _ => none) (onNil z3 (fun _ => none) (some ⟨(y, m, ap, z, q), rfl⟩))
noncomputable def dJoin (p : Expr) : Option { t : Str × Nat × Pos × Str × Pos × Expr × Pos // p = .Call (.Attribute (.Constant (.str t.1) t.2.1 t.2.2.1) t.2.2.2.1 t.2.2.2.2.1) [t.2.2.2.2.2.1] [] t.2.2.2.2.2.2 } :=
  onExprCall p (fun _ => none) fun z1 z2 z3 q => onExprAttribute z1 (fun _ => none) fun z4 m ap => onExprConstant z4 (fun _ => none) fun z5 k p1 => onConstStr z5 (fun _ => none) (fun s => onCons z2 (fun _ => none) fun z z6 => onNil z6 (fun _ => none) (onNil z3 (fun _ => none) (some ⟨(s, k, p1, m, ap, z, q), rfl⟩)))
noncomputable def dDict (p : Expr) : Option { t : List (Option Expr) × List Expr × Pos // p = .Dict t.1 t.2.1 t.2.2 } :=
  onExprDict p (fun _ => none) fun keys values q => some ⟨(keys, values, q), rfl⟩
noncomputable def dSub (p : Expr) : Option { t : Expr × Expr × Pos // p = .Subscript t.1 t.2.1 t.2.2 } :=
  onExprSubscript p (fun _ => none) fun y z q => some ⟨(y, z, q), rfl⟩
noncomputable def dSlTo (p : Expr) : Option { t : Expr × Expr × Pos × Pos // p = .Subscript t.1 (.Slice none (some t.2.1) none t.2.2.1) t.2.2.2 } :=
  onExprSubscript p (fun _ => none) fun y z1 q => onExprSlice z1 (fun _ => none) fun z2 z3 z4 p1 => onNone z2 (fun _ => none) (onSome z3 (fun _ => none) fun z => onNone z4 (fun _ => none) (some ⟨(y, z, p1, q), rfl⟩))
noncomputable def dSlFrom (p : Expr) : Option { t : Expr × Expr × Pos × Pos // p = .Subscript t.1 (.Slice (some t.2.1) none none t.2.2.1) t.2.2.2 } :=
  onExprSubscript p (fun _ => none) fun y z1 q => onExprSlice z1 (fun _ => none) fun z2 z3 z4 p1 => onSome z2 (fun _ => none) fun z => onNone z3 (fun _ => none) (onNone z4 (fun _ => none) (some ⟨(y, z, p1, q), rfl⟩))
noncomputable def dSlB (p : Expr) : Option { t : Expr × Expr × Expr × Pos × Pos // p = .Subscript t.1 (.Slice (some t.2.1) (some t.2.2.1) none t.2.2.2.1) t.2.2.2.2 } :=
  onExprSubscript p (fun _ => none) fun y z1 q => onExprSlice z1 (fun _ => none) fun z2 z3 z4 p1 => onSome z2 (fun _ => none) fun z => onSome z3 (fun _ => none) fun w => onNone z4 (fun _ => none) (some ⟨(y, z, w, p1, q), rfl⟩)
noncomputable def dJoined (p : Expr) : Option { t : List Expr × Pos // p = .JoinedStr t.1 t.2 } :=
  onExprJoinedStr p (fun _ => none) fun values q => some ⟨(values, q), rfl⟩
noncomputable def dTuple (p : Expr) : Option { t : List Expr × Nat × Pos // p = .Tuple t.1 t.2.1 t.2.2 } :=
  onExprTuple p (fun _ => none) fun xs k q => some ⟨(xs, k, q), rfl⟩
noncomputable def dList (p : Expr) : Option { t : List Expr × Pos // p = .List t.1 t.2 } :=
  onExprList p (fun _ => none) fun xs q => some ⟨(xs, q), rfl⟩
noncomputable def dFmt (p : Expr) : Option { t : Str × Pos × Int × Pos // p = .FormattedValue (.Name t.1 t.2.1) t.2.2.1 none t.2.2.2 } :=
  onExprFormattedValue p (fun _ => none) fun z1 c z2 q => onExprName z1 (fun _ => none) fun x p1 => onNone z2 (fun _ => none) (some ⟨(x, p1, c, q), rfl⟩)
noncomputable def dComp1 (p : Expr) : Option { t : Str × Pos × Str × Pos × Pos × Str × Pos × Expr × Int × Scope × Pos // p = .ListComp (.Call (.Name t.1 t.2.1) [.Name t.2.2.1 t.2.2.2.1] [] t.2.2.2.2.1) [⟨.Name t.2.2.2.2.2.1 t.2.2.2.2.2.2.1, t.2.2.2.2.2.2.2.1, [], t.2.2.2.2.2.2.2.2.1⟩] t.2.2.2.2.2.2.2.2.2.1 t.2.2.2.2.2.2.2.2.2.2 } :=
  onExprListComp p (fun _ => none) fun z1 z2 sc q => onExprCall z1 (fun _ => none) fun z3 z4 z5 cp => onExprName z3 (fun _ => none) fun fn np => onCons z4 (fun _ => none) fun z6 z7 => onExprName z6 (fun _ => none) fun x ap => onNil z7 (fun _ => none) (onNil z5 (fun _ => none) (onCons z2 (fun _ => none) fun z8 z9 => onComp z8 fun z10 iter z11 z => onExprName z10 (fun _ => none) fun y py => onNil z11 (fun _ => none) (onNil z9 (fun _ => none) (some ⟨(fn, np, x, ap, cp, y, py, iter, z, sc, q), rfl⟩))))
noncomputable def dComp2 (p : Expr) : Option { t : Str × Pos × Int × Nat × Pos × Pos × Str × Pos × Expr × Int × Scope × Pos // p = .ListComp (.Subscript (.Name t.1 t.2.1) (.Constant (.int t.2.2.1) t.2.2.2.1 t.2.2.2.2.1) t.2.2.2.2.2.1) [⟨.Name t.2.2.2.2.2.2.1 t.2.2.2.2.2.2.2.1, t.2.2.2.2.2.2.2.2.1, [], t.2.2.2.2.2.2.2.2.2.1⟩] t.2.2.2.2.2.2.2.2.2.2.1 t.2.2.2.2.2.2.2.2.2.2.2 } :=
  onExprListComp p (fun _ => none) fun z1 z2 sc q => onExprSubscript z1 (fun _ => none) fun z3 z4 ep => onExprName z3 (fun _ => none) fun x ap => onExprConstant z4 (fun _ => none) fun z5 kk ip => onConstInt z5 (fun _ => none) (fun n => onCons z2 (fun _ => none) fun z6 z7 => onComp z6 fun z8 iter z9 z => onExprName z8 (fun _ => none) fun y py => onNil z9 (fun _ => none) (onNil z7 (fun _ => none) (some ⟨(x, ap, n, kk, ip, ep, y, py, iter, z, sc, q), rfl⟩)))
noncomputable def dComp3 (p : Expr) : Option { t : Str × Pos × Str × Pos × Str × Pos × Pos × Str × Pos × Str × Pos × Nat × Pos × Expr × Int × Scope × Pos // p = .ListComp (.Call (.Name t.1 t.2.1) [.Name t.2.2.1 t.2.2.2.1, .Name t.2.2.2.2.1 t.2.2.2.2.2.1] [] t.2.2.2.2.2.2.1) [⟨.Tuple [.Name t.2.2.2.2.2.2.2.1 t.2.2.2.2.2.2.2.2.1, .Name t.2.2.2.2.2.2.2.2.2.1 t.2.2.2.2.2.2.2.2.2.2.1] t.2.2.2.2.2.2.2.2.2.2.2.1 t.2.2.2.2.2.2.2.2.2.2.2.2.1, t.2.2.2.2.2.2.2.2.2.2.2.2.2.1, [], t.2.2.2.2.2.2.2.2.2.2.2.2.2.2.1⟩] t.2.2.2.2.2.2.2.2.2.2.2.2.2.2.2.1 t.2.2.2.2.2.2.2.2.2.2.2.2.2.2.2.2 } :=
  onExprListComp p (fun _ => none) fun z1 z2 sc q => onExprCall z1 (fun _ => none) fun z3 z4 z5 cp => onExprName z3 (fun _ => none) fun fn np => onCons z4 (fun _ => none) fun z6 z7 => onExprName z6 (fun _ => none) fun x ap => onCons z7 (fun _ => none) fun z8 z9 => onExprName z8 (fun _ => none) fun ww wp => onNil z9 (fun _ => none) (onNil z5 (fun _ => none) (onCons z2 (fun _ => none) fun z10 z11 => onComp z10 fun z12 iter z13 z => onExprTuple z12 (fun _ => none) fun z14 k2 tp => onCons z14 (fun _ => none) fun z15 z16 => onExprName z15 (fun _ => none) fun y py => onCons z16 (fun _ => none) fun z17 z18 => onExprName z17 (fun _ => none) fun v pv => onNil z18 (fun _ => none) (onNil z13 (fun _ => none) (onNil z11 (fun _ => none) (some ⟨(fn, np, x, ap, ww, wp, cp, y, py, v, pv, k2, tp, iter, z, sc, q), rfl⟩)))))
noncomputable def dTold (p : Expr) : Option { t : Str × Nat × Pos × Str × Pos × Str × Pos × Str × Pos × Str × Pos × Str × Pos × Str × Pos × Nat × Pos // p = .Tuple [.Constant (.str t.1) t.2.1 t.2.2.1, .Attribute (.Name t.2.2.2.1 t.2.2.2.2.1) t.2.2.2.2.2.1 t.2.2.2.2.2.2.1, .Attribute (.Name t.2.2.2.2.2.2.2.1 t.2.2.2.2.2.2.2.2.1) t.2.2.2.2.2.2.2.2.2.1 t.2.2.2.2.2.2.2.2.2.2.1, .Attribute (.Name t.2.2.2.2.2.2.2.2.2.2.2.1 t.2.2.2.2.2.2.2.2.2.2.2.2.1) t.2.2.2.2.2.2.2.2.2.2.2.2.2.1 t.2.2.2.2.2.2.2.2.2.2.2.2.2.2.1] t.2.2.2.2.2.2.2.2.2.2.2.2.2.2.2.1 t.2.2.2.2.2.2.2.2.2.2.2.2.2.2.2.2 } :=
  onExprTuple p (fun _ => none) fun z1 k2 q => onCons z1 (fun _ => none) fun z2 z3 => onExprConstant z2 (fun _ => none) fun z4 k1 p1 => onConstStr z4 (fun _ => none) (fun f => onCons z3 (fun _ => none) fun z5 z6 => onExprAttribute z5 (fun _ => none) fun z7 c p3 => onExprName z7 (fun _ => none) fun a p2 => onCons z6 (fun _ => none) fun z8 z9 => onExprAttribute z8 (fun _ => none) fun z10 v p5 => onExprName z10 (fun _ => none) fun b p4 => onCons z9 (fun _ => none) fun z11 z12 => onExprAttribute z11 (fun _ => none) fun z13 e p7 => onExprName z13 (fun _ => none) fun dd p6 => onNil z12 (fun _ => none) (some ⟨(f, k1, p1, a, p2, c, p3, b, p4, v, p5, dd, p6, e, p7, k2, q), rfl⟩))
noncomputable def dEq1 (p : Expr) : Option { t : Str × Pos × Expr × Pos // p = .Compare (.Name t.1 t.2.1) [.Eq] [t.2.2.1] t.2.2.2 } :=
  onExprCompare p (fun _ => none) fun z1 z2 z3 q => onExprName z1 (fun _ => none) fun y yp => onCons z2 (fun _ => none) fun z4 z5 => onCmpOpEq z4 (fun _ => none) (onNil z5 (fun _ => none) (onCons z3 (fun _ => none) fun h z6 => onNil z6 (fun _ => none) (some ⟨(y, yp, h, q), rfl⟩)))
noncomputable def sAssign (p : Stmt) : Option { t : Str × Pos × Expr × Pos // p = .Assign [.Name t.1 t.2.1] t.2.2.1 t.2.2.2 } :=
  onStmtAssign p (fun _ => none) fun z1 v q => onCons z1 (fun _ => none) fun z2 z3 => onExprName z2 (fun _ => none) fun x xp => onNil z3 (fun _ => none) (some ⟨(x, xp, v, q), rfl⟩)
noncomputable def sAssign2 (p : Stmt) : Option { t : Str × Pos × Str × Pos × Nat × Pos × Expr × Pos // p = .Assign [.Tuple [.Name t.1 t.2.1, .Name t.2.2.1 t.2.2.2.1] t.2.2.2.2.1 t.2.2.2.2.2.1] t.2.2.2.2.2.2.1 t.2.2.2.2.2.2.2 } :=
  onStmtAssign p (fun _ => none) fun z1 v q => onCons z1 (fun _ => none) fun z2 z3 => onExprTuple z2 (fun _ => none) fun z4 k tp => onCons z4 (fun _ => none) fun z5 z6 => onExprName z5 (fun _ => none) fun x px => onCons z6 (fun _ => none) fun z7 z8 => onExprName z7 (fun _ => none) fun y py => onNil z8 (fun _ => none) (onNil z3 (fun _ => none) (some ⟨(x, px, y, py, k, tp, v, q), rfl⟩))
noncomputable def sAug (p : Stmt) : Option { t : Str × Pos × Operator × Expr × Pos // p = .AugAssign (.Name t.1 t.2.1) t.2.2.1 t.2.2.2.1 t.2.2.2.2 } :=
  onStmtAugAssign p (fun _ => none) fun z1 o v q => onExprName z1 (fun _ => none) fun x xp => some ⟨(x, xp, o, v, q), rfl⟩
noncomputable def sAppend (p : Stmt) : Option { t : Str × Pos × Str × Pos × Expr × Pos × Pos // p = .Expr (.Call (.Attribute (.Name t.1 t.2.1) t.2.2.1 t.2.2.2.1) [t.2.2.2.2.1] [] t.2.2.2.2.2.1) t.2.2.2.2.2.2 } :=
  onStmtExpr p (fun _ => none) fun z1 q => onExprCall z1 (fun _ => none) fun z2 z3 z4 cp => onExprAttribute z2 (fun _ => none) fun z5 m ap => onExprName z5 (fun _ => none) fun x xp => onCons z3 (fun _ => none) fun v z6 => onNil z6 (fun _ => none) (onNil z4 (fun _ => none) (some ⟨(x, xp, m, ap, v, cp, q), rfl⟩))
noncomputable def sPop (p : Stmt) : Option { t : Str × Pos × Str × Pos × Str × Pos × Pos × Pos // p = .Assign [.Name t.1 t.2.1] (.Call (.Attribute (.Name t.2.2.1 t.2.2.2.1) t.2.2.2.2.1 t.2.2.2.2.2.1) [] [] t.2.2.2.2.2.2.1) t.2.2.2.2.2.2.2 } :=
  onStmtAssign p (fun _ => none) fun z1 z2 q => onCons z1 (fun _ => none) fun z3 z4 => onExprName z3 (fun _ => none) fun x xp => onNil z4 (fun _ => none) (onExprCall z2 (fun _ => none) fun z5 z6 z7 cp => onExprAttribute z5 (fun _ => none) fun z8 m ap => onExprName z8 (fun _ => none) fun y yp => onNil z6 (fun _ => none) (onNil z7 (fun _ => none) (some ⟨(x, xp, y, yp, m, ap, cp, q), rfl⟩)))
noncomputable def sExpr (p : Stmt) : Option { t : Expr × Pos // p = .Expr t.1 t.2 } :=
  onStmtExpr p (fun _ => none) fun v q => some ⟨(v, q), rfl⟩
noncomputable def sIf (p : Stmt) : Option { t : Expr × List Stmt × List Stmt × Pos // p = .If t.1 t.2.1 t.2.2.1 t.2.2.2 } :=
  onStmtIf p (fun _ => none) fun t x y q => some ⟨(t, x, y, q), rfl⟩
noncomputable def sWhile (p : Stmt) : Option { t : Expr × List Stmt × Pos // p = .While t.1 t.2.1 [] t.2.2 } :=
  onStmtWhile p (fun _ => none) fun t x z1 q => onNil z1 (fun _ => none) (some ⟨(t, x, q), rfl⟩)
noncomputable def sFor (p : Stmt) : Option { t : Str × Pos × Expr × List Stmt × Pos // p = .For (.Name t.1 t.2.1) t.2.2.1 t.2.2.2.1 [] t.2.2.2.2 } :=
  onStmtFor p (fun _ => none) fun z1 v b z2 q => onExprName z1 (fun _ => none) fun x xp => onNil z2 (fun _ => none) (some ⟨(x, xp, v, b, q), rfl⟩)
noncomputable def sForVar (p : Stmt) : Option { t : Str × Pos × Str × Pos × List Stmt × Pos // p = .For (.Name t.1 t.2.1) (.Name t.2.2.1 t.2.2.2.1) t.2.2.2.2.1 [] t.2.2.2.2.2 } :=
  onStmtFor p (fun _ => none) fun z1 z2 b z3 q => onExprName z1 (fun _ => none) fun x xp => onExprName z2 (fun _ => none) fun y yp => onNil z3 (fun _ => none) (some ⟨(x, xp, y, yp, b, q), rfl⟩)
noncomputable def sForRange (p : Stmt) : Option { t : Str × Pos × Str × Pos × Expr × Pos × List Stmt × Pos // p = .For (.Name t.1 t.2.1) (.Call (.Name t.2.2.1 t.2.2.2.1) [t.2.2.2.2.1] [] t.2.2.2.2.2.1) t.2.2.2.2.2.2.1 [] t.2.2.2.2.2.2.2 } :=
  onStmtFor p (fun _ => none) fun z1 z2 b z3 q => onExprName z1 (fun _ => none) fun x xp => onExprCall z2 (fun _ => none) fun z4 z5 z6 p1 => onExprName z4 (fun _ => none) fun r rp => onCons z5 (fun _ => none) fun v z7 => onNil z7 (fun _ => none) (onNil z6 (fun _ => none) (onNil z3 (fun _ => none) (some ⟨(x, xp, r, rp, v, p1, b, q), rfl⟩)))
noncomputable def sRet (p : Stmt) : Option { t : Expr × Pos // p = .Return (some t.1) t.2 } :=
  onStmtReturn p (fun _ => none) fun z1 q => onSome z1 (fun _ => none) fun v => some ⟨(v, q), rfl⟩
noncomputable def sRet0 (p : Stmt) : Option { t : Pos // p = .Return none t } :=
  onStmtReturn p (fun _ => none) fun z1 q => onNone z1 (fun _ => none) (some ⟨q, rfl⟩)
noncomputable def sRaise (p : Stmt) : Option { t : Expr × Pos // p = .Raise (some t.1) none t.2 } :=
  onStmtRaise p (fun _ => none) fun z1 z2 q => onSome z1 (fun _ => none) fun v => onNone z2 (fun _ => none) (some ⟨(v, q), rfl⟩)
noncomputable def sTry (p : Stmt) : Option { t : List Stmt × Str × Pos × Str × Expr × Pos × Pos × Pos // p = .Try t.1 [.ExceptHandler (some (.Name t.2.1 t.2.2.1)) (some t.2.2.2.1) [.Return (some t.2.2.2.2.1) t.2.2.2.2.2.1] t.2.2.2.2.2.2.1] [] [] t.2.2.2.2.2.2.2 } :=
  onStmtTry p (fun _ => none) fun b z1 z2 z3 q => onCons z1 (fun _ => none) fun z4 z5 => onHandExceptHandler z4 fun z6 z7 z8 hp => onSome z6 (fun _ => none) fun z9 => onExprName z9 (fun _ => none) fun x xp => onSome z7 (fun _ => none) fun n => onCons z8 (fun _ => none) fun z10 z11 => onStmtReturn z10 (fun _ => none) fun z12 rp => onSome z12 (fun _ => none) fun h => onNil z11 (fun _ => none) (onNil z5 (fun _ => none) (onNil z2 (fun _ => none) (onNil z3 (fun _ => none) (some ⟨(b, x, xp, n, h, rp, hp, q), rfl⟩))))
noncomputable def sCont (p : Stmt) : Option { t : Pos // p = .Continue t } :=
  onStmtContinue p (fun _ => none) fun q => some ⟨q, rfl⟩
noncomputable def cfe (cx : Cx) (e : E) (x : Expr) : Bool := onEStr e (fun e => onEVar e (fun _ => false) fun i => opt (dFmt x) fun t => t.1.2.2.1 == -1 && cx.names[i]? == some t.1.1 && nodbg t.1.1) fun s => opt (dStr x) fun t => s == t.1.1
noncomputable def cf (cx : Cx) : List E → List Expr → Bool
  | [], xs => xs.isEmpty
  | e :: es, xs => optl xs fun x r => cfe cx e x && cf cx es r
mutual
noncomputable def ce (cx : Cx) : E → Expr → Bool
  | .bad, _ => true
  | .chain _ _ _, _ => false
  | .var i, p => opt (dName p) fun t => cx.names[i]? == some t.1.1 && nodbg t.1.1
  | .none, p => opt (dNoneC p) fun t => true
  | .bool b, p => opt (dBool p) fun t => b == t.1.1
  | .int b, p => opt (dInt p) fun t => b == t.1.1
  | .str b, p => opt (dStr p) fun t => b == t.1.1
  | .bin op a b, p => opt (dBin p) fun t => t.1.2.1 == aop op && ce cx a t.1.1 && ce cx b t.1.2.2.1
  | .not a, p => opt (dNot p) fun t => ce cx a t.1.1
  | .neg a, p => opt (dNeg p) fun t => ce cx a t.1.1
  | .inv a, p => opt (dInv p) fun t => ce cx a t.1.1
  | .and es, p => opt (dAnd p) fun t => ceB cx es t.1.1
  | .or es, p => opt (dOr p) fun t => ceB cx es t.1.1
  | .cmp op a b, p => opt (dCmp p) fun t => t.1.2.1 == cop op && !behindInMarks t.1.2.1 t.1.2.2.1 && ce cx a t.1.1 && ce cx b t.1.2.2.1
  | .isIn neg a b, p => opt (dCmp p) fun t => t.1.2.1 == (if neg then CmpOp.NotIn else .In) && !behindInMarks t.1.2.1 t.1.2.2.1 && ce cx a t.1.1 && ce cx b t.1.2.2.1
  | .isNone neg a, p => opt (dIsN p) fun t => t.1.2.1 == (if neg then CmpOp.IsNot else .Is) && ce cx a t.1.1
  | .ite c a b, p => opt (dIf p) fun t => cc cx c t.1.1 && ce cx a t.1.2.1 && ce cx b t.1.2.2.1
  | .call f args, p => opt (dCall p) fun t => cx.fns.lookup t.1.1 == some f && gl cx t.1.1 && ceL cx args t.1.2.2.1
  | .b1 f a, p => opt (dCall1 p) fun t => t.1.1 == b1name f && gl cx t.1.1 && notStar t.1.2.2.1 && ce cx a t.1.2.2.1
  | .lower a, p => opt (dMeth0 p) fun t => t.1.2.1 == Str.ofString "lower" && noCall t.1.1 && t.1.2.2.1.endLine == t.1.2.2.2.line && ce cx a t.1.1
  | .starts a b, p => opt (dMeth1 p) fun t => t.1.2.1 == Str.ofString "startswith" && noCall t.1.1 && notStar t.1.2.2.2.1 && t.1.2.2.1.endLine == t.1.2.2.2.2.line && ce cx a t.1.1 && ce cx b t.1.2.2.2.1
  | .join a, p => opt (dJoin p) fun t => t.1.2.2.2.1 == Str.ofString "join" && t.1.1 == Str.empty && notStar t.1.2.2.2.2.2.1 && t.1.2.2.2.2.1.endLine == t.1.2.2.2.2.2.2.line && ce cx a t.1.2.2.2.2.2.1
  | .dict ks vs, p => opt (dDict p) fun t => keysAre t.1.1 ks && t.1.1.length == t.1.2.1.length && !ks.isEmpty && decide ks.Nodup && decide (ks.length ≤ 15) && ceD cx vs t.1.2.1
  | .dget d k, p => opt (dMeth1 p) fun t => t.1.2.1 == Str.ofString "get" && bareBase t.1.1 && notStar t.1.2.2.2.1 && t.1.2.2.1.endLine == t.1.2.2.2.2.line && ce cx d t.1.1 && ce cx k t.1.2.2.2.1
  | .didx d k, p => opt (dSub p) fun t => notSlice t.1.2.1 && ce cx d t.1.1 && ce cx k t.1.2.1
  | .idx a b, p => opt (dSub p) fun t => notSlice t.1.2.1 && ce cx a t.1.1 && ce cx b t.1.2.1
  | .slTo a hi, p => opt (dSlTo p) fun t => ce cx a t.1.1 && ce cx hi t.1.2.1
  | .slFrom a lo, p => opt (dSlFrom p) fun t => ce cx a t.1.1 && ce cx lo t.1.2.1
  | .slBoth a lo hi, p => opt (dSlB p) fun t => ce cx a t.1.1 && ce cx lo t.1.2.1 && ce cx hi t.1.2.2.1
  | .fstr ps, p => opt (dJoined p) fun t => decide (2 ≤ t.1.1.length) && cf cx ps t.1.1
  | .tup es, p => opt (dTuple p) fun t => ceL cx es t.1.1
  | .lst es, p => opt (dList p) fun t => ceL cx es t.1.1
  | .mkExc es, p => opt (dCall p) fun t => t.1.1 == Str.ofString "Raised" && gl cx t.1.1 && ceL cx es t.1.2.2.1
  | .compCall f src, p => opt (dComp1 p) fun t => t.1.2.2.1 == t.1.2.2.2.2.2.1 && t.1.2.2.2.2.2.2.2.2.1 == 0 && cx.fns.lookup t.1.1 == some f && nodbg t.1.1 && t.1.2.2.2.2.2.2.2.2.2.1.names.lookup t.1.1 == some .globalImplicit && compSc t.1.2.2.2.2.2.2.2.2.2.1 t.1.2.2.1 && noFree t.1.2.2.2.2.2.2.2.2.2.1 && notSet t.1.2.2.2.2.2.2.2.1 && ce cx src t.1.2.2.2.2.2.2.2.1
  | .compIdx k src, p => opt (dComp2 p) fun t => t.1.1 == t.1.2.2.2.2.2.2.1 && t.1.2.2.2.2.2.2.2.2.2.1 == 0 && t.1.2.2.1 == (k : Nat) && compSc t.1.2.2.2.2.2.2.2.2.2.2.1 t.1.1 && noFree t.1.2.2.2.2.2.2.2.2.2.2.1 && notSet t.1.2.2.2.2.2.2.2.2.1 && ce cx src t.1.2.2.2.2.2.2.2.2.1
  | .compPair f src w, p => opt (dComp3 p) fun t => t.1.2.2.1 == t.1.2.2.2.2.2.2.2.1 && t.1.2.2.2.2.2.2.2.2.2.2.2.2.2.2.1 == 0 && cx.fns.lookup t.1.1 == some f && nodbg t.1.1 && t.1.2.2.2.2.2.2.2.2.2.2.2.2.2.2.2.1.names.lookup t.1.1 == some .globalImplicit && compSc t.1.2.2.2.2.2.2.2.2.2.2.2.2.2.2.2.1 t.1.2.2.1 && compSc t.1.2.2.2.2.2.2.2.2.2.2.2.2.2.2.2.1 t.1.2.2.2.2.2.2.2.2.2.1 && t.1.2.2.1 != t.1.2.2.2.2.2.2.2.2.2.1 && cx.names[w]? == some t.1.2.2.2.2.1 && nodbg t.1.2.2.2.2.1 && t.1.2.2.2.2.2.2.2.2.2.2.2.2.2.2.2.1.names.lookup t.1.2.2.2.2.1 == some .free && cx.kinds.lookup t.1.2.2.2.2.1 == some .cell && t.1.2.2.2.2.2.2.2.2.2.2.2.2.2.2.2.1.names.filter (fun p => p.2 == .free) == [(t.1.2.2.2.2.1, NameKind.free)] && notSet t.1.2.2.2.2.2.2.2.2.2.2.2.2.2.1 && ce cx src t.1.2.2.2.2.2.2.2.2.2.2.2.2.2.1
noncomputable def ceL (cx : Cx) : List E → List Expr → Bool
  | [], xs => xs.isEmpty
  | e :: es, xs => optl xs fun x r => notStar x && ce cx e x && ceL cx es r
noncomputable def ceB (cx : Cx) : List E → List Expr → Bool
  | [], _ => false
  | e :: es, xs => optl xs fun x r => ce cx e x && (match es.isEmpty with | true => r.isEmpty | false => ceB cx es r)
noncomputable def ceD (cx : Cx) : List E → List Expr → Bool
  | [], xs => xs.isEmpty
  | e :: es, xs => optl xs fun x r => ce cx e x && ceD cx es r
noncomputable def cc (cx : Cx) : E → Expr → Bool
  | .bad, _ => true
  | .var i, p => opt (dName p) fun t => cx.names[i]? == some t.1.1 && nodbg t.1.1
  | .not a, p => opt (dNot p) fun t => cc cx a t.1.1
  | .and es, p => opt (dAnd p) fun t => ccB cx es t.1.1
  | .or es, p => opt (dOr p) fun t => ccB cx es t.1.1
  | .cmp op a b, p => opt (dCmp p) fun t => t.1.2.1 == cop op && !behindInMarks t.1.2.1 t.1.2.2.1 && ce cx a t.1.1 && ce cx b t.1.2.2.1
  | .isIn neg a b, p => opt (dCmp p) fun t => t.1.2.1 == (if neg then CmpOp.NotIn else .In) && !behindInMarks t.1.2.1 t.1.2.2.1 && ce cx a t.1.1 && ce cx b t.1.2.2.1
  | .isNone neg a, p => opt (dIsN p) fun t => t.1.2.1 == (if neg then CmpOp.IsNot else .Is) && ce cx a t.1.1
  | .chain a b c, p => opt (dChain p) fun t => !behindInMarks .LtE t.1.2.2.1 && ce cx a t.1.1 && ce cx b t.1.2.1 && ce cx c t.1.2.2.1
  | .call f args, p => opt (dCall p) fun t => cx.fns.lookup t.1.1 == some f && gl cx t.1.1 && ceL cx args t.1.2.2.1
  | .b1 f a, p => opt (dCall1 p) fun t => t.1.1 == b1name f && gl cx t.1.1 && notStar t.1.2.2.1 && ce cx a t.1.2.2.1
  | .starts a b, p => opt (dMeth1 p) fun t => t.1.2.1 == Str.ofString "startswith" && noCall t.1.1 && notStar t.1.2.2.2.1 && t.1.2.2.1.endLine == t.1.2.2.2.2.line && ce cx a t.1.1 && ce cx b t.1.2.2.2.1
  | _, _ => false
noncomputable def ccB (cx : Cx) : List E → List Expr → Bool
  | [], _ => false
  | e :: es, xs => optl xs fun x r => cc cx e x && (match es.isEmpty with | true => r.isEmpty | false => ccB cx es r)
end
noncomputable def isTupleE (e : Expr) : Bool := e.ctorIdx == 25
noncomputable def isListE (e : Expr) : Bool := e.ctorIdx == 24
noncomputable def dTuple2 (p : Expr) : Option { t : Expr × Expr × Nat × Pos // p = .Tuple [t.1, t.2.1] t.2.2.1 t.2.2.2 } :=
  onExprTuple p (fun _ => none) fun z1 k q => onCons z1 (fun _ => none) fun a z2 => onCons z2 (fun _ => none) fun b z3 => onNil z3 (fun _ => none) (some ⟨(a, b, k, q), rfl⟩)
/-- the two stores of a tuple on the right -/
noncomputable def csw (cx : Cx) (x : Str) (px : Pos) (y : Str) (py : Pos) (v : Expr) : Bool := (!isTupleE v && !isListE v) || opt (dTuple2 v) fun t => px.line == py.line && cx.kinds.lookup x == some .local && cx.kinds.lookup y == some .local && x != y && notStar t.1.1 && notStar t.1.2.1 &&
      (foldedForSure 8 t.1.1 && foldedForSure 8 t.1.2.1 || !(constantsAlone 8 t.1.1 && constantsAlone 8 t.1.2.1))
noncomputable def toldB (n : Str) (p : Expr) : Bool := opt (dTold p) fun t => t.1.1 == Str.ofString "fault" && t.1.2.2.2.1 == n && t.1.2.2.2.2.2.2.2.1 == n && t.1.2.2.2.2.2.2.2.2.2.2.2.1 == n && t.1.2.2.2.2.2.1 == Str.ofString "code" && t.1.2.2.2.2.2.2.2.2.2.1 == Str.ofString "value" && t.1.2.2.2.2.2.2.2.2.2.2.2.2.2.1 == Str.ofString "errorcode"
noncomputable def isNoneE (e : E) : Bool := e.ctorIdx == 2
noncomputable def tryH (cx : Cx) (hd : Option Nat) (n : Str) (h : Expr) : Bool := match hd with
  | none => toldB n h
  | some d => opt (dEq1 h) fun t => toldB n t.1.2.2.1 && cx.names[d]? == some t.1.1 && nodbg t.1.1 && t.1.1 != n

mutual
noncomputable def cs1 (cx : Cx) : S → Stmt → Bool
  | .bad, _ => true
  | .assign i e, p => opt (sAssign p) fun t => cx.names[i]? == some t.1.1 && noComp t.1.2.2.1 && ce cx e t.1.2.2.1
  | .unpack2 i j e, p => opt (sAssign2 p) fun t => cx.names[i]? == some t.1.1 && cx.names[j]? == some t.1.2.2.1 && i != j && noComp t.1.2.2.2.2.2.2.1 && csw cx t.1.1 t.1.2.1 t.1.2.2.1 t.1.2.2.2.1 t.1.2.2.2.2.2.2.1 && ce cx e t.1.2.2.2.2.2.2.1
  | .aug i op e, p => opt (sAug p) fun t => cx.names[i]? == some t.1.1 && augOp op && t.1.2.2.1 == aop op && ce cx e t.1.2.2.2.1
  | .append i e, p => opt (sAppend p) fun t => t.1.2.2.1 == Str.ofString "append" && cx.names[i]? == some t.1.1 && nodbg t.1.1 && notStar t.1.2.2.2.2.1 && t.1.2.2.2.1.endLine == t.1.2.2.2.2.2.1.line && ce cx e t.1.2.2.2.2.1
  | .pop i j, p => opt (sPop p) fun t => t.1.2.2.2.2.1 == Str.ofString "pop" && cx.names[i]? == some t.1.1 && cx.names[j]? == some t.1.2.2.1 && nodbg t.1.2.2.1 && t.1.2.2.2.2.2.1.endLine == t.1.2.2.2.2.2.2.1.line
  | .expr e, p => opt (sExpr p) fun t => noComp t.1.1 && ce cx e t.1.1
  | .ite c a b, p => opt (sIf p) fun t => cc cx c t.1.1 && cs cx a t.1.2.1 && cs cx b t.1.2.2.1
  | .while c a, p => opt (sWhile p) fun t => cc cx c t.1.1 && cs cx a t.1.2.1
  | .for i e a, p => opt (sFor p) fun t => cx.names[i]? == some t.1.1 && notSet t.1.2.2.1 && ce cx e t.1.2.2.1 && cs cx a t.1.2.2.2.1
  | .forVar i k a, p => opt (sForVar p) fun t => cx.names[i]? == some t.1.1 && cx.names[k]? == some t.1.2.2.1 && nodbg t.1.2.2.1 && cs cx a t.1.2.2.2.2.1
  | .forRange i e a, p => opt (sForRange p) fun t => cx.names[i]? == some t.1.1 && t.1.2.2.1 == Str.ofString "range" && gl cx t.1.2.2.1 && notStar t.1.2.2.2.2.1 && ce cx e t.1.2.2.2.2.1 && cs cx a t.1.2.2.2.2.2.2.1
  | .raise e, p => opt (sRaise p) fun t => ce cx e t.1.1
  | .ret e, p => (isNoneE e && opt (sRet0 p) fun _ => true) || opt (sRet p) fun t => ce cx e t.1.1
  | .try a i hd, p => opt (sTry p) fun t => cs cx a t.1.1 && t.1.2.1 == Str.ofString "Raised" && gl cx t.1.2.1 && cx.kinds.lookup t.1.2.2.2.1 == some .local && nodbg t.1.2.2.2.1 && !excAttrs.contains t.1.2.2.2.1 && tryH cx hd t.1.2.2.2.1 t.1.2.2.2.2.1
  | .cont, p => opt (sCont p) fun _ => true
noncomputable def cs (cx : Cx) : List S → List Stmt → Bool
  | [], xs => xs.isEmpty
  | a :: r, xs => optl xs fun x ys => cs1 cx a x && cs cx r ys
end
/-- the numbers of the defs by their global names -/
noncomputable def ids : List (Str × Nat) := (fnames.zipIdx).map fun p => (p.1.1, p.2)
/-- all that the kernel looks at of one def -/
noncomputable def fdOk (fd : FuncData) (body : List Stmt) (names : List Str) (fn : Fn) : Bool :=
  fd.scope.kind == .function && !fd.scope.isCoroutine && !fd.scope.isGenerator && fd.scope.names.all (fun x => x.2 != .cell) && fd.closure.isEmpty && fd.globals == mainGlobals && fd.builtins == builtinsNs &&
  names.all (fun x => fd.scope.names.lookup x == some .local) && decide (fn.nparams ≤ fn.nlocals) && names.length == fn.nlocals && decide names.Nodup && fn.defaults.all noList && cs ⟨names, fd.scope.names, ids⟩ fn.body body
noncomputable def faTbl : List Nat := [77, 84, 91, 98, 105, 112, 119, 126, 133, 140, 147, 154, 161, 168, 175, 182, 189, 196, 203, 210, 217, 224, 231, 238, 245, 252, 259, 266, 273, 280, 287, 294, 301, 308, 315, 322, 329, 336, 343, 350, 357, 364, 371, 378, 385, 392, 399, 406, 413, 420, 427, 434, 439, 444, 451, 458, 465, 470]
noncomputable def fa (f : Nat) : Addr := faTbl.getD f 0
noncomputable def codeOk (h : Heap) (cd : Value) (q : Str) : Bool := match cd with
  | .ref c => (match h.get? c with
    | some ⟨_, _, .fields vs, _⟩ => (match vs[1]? with
      | some (Value.str x _) => x == q
      | _ => false)
    | _ => false)
  | _ => false
noncomputable def isNil : Value → Bool
  | .none => true
  | _ => false
noncomputable def fdAt (h : Heap) (a : Addr) : Option FuncData := match h.get? a with
  | some ⟨_, _, .func fd, _⟩ => some fd
  | _ => none
/-- what the run alone tells of one def without defaults -/
noncomputable def fnDyn (h : Heap) (fd : FuncData) : Bool := fd.closure.isEmpty && fd.globals == mainGlobals && fd.builtins == builtinsNs && codeOk h fd.code fd.qualname && isNil fd.defaults
noncomputable def served : List Nat := ((List.range 57).drop 1).filter fun f => (P f).isSome
noncomputable def glob (h : Heap) (x : String) : Option Value := h.nsMap mainGlobals (Str.ofString x)
noncomputable def noneV : Option Value → Bool
  | none => true
  | _ => false
noncomputable def refV (a : Addr) : Option Value → Bool
  | some (.ref b) => a == b
  | _ => false
noncomputable def funcAt (h : Heap) (a : Addr) : Bool := match h.get? a with
  | some ⟨_, _, .func _, _⟩ => true
  | _ => false
/-- the served defs (but error, which has a default), and the globals -/
noncomputable def fnsOk (h : Heap) : Bool := served.all fun f => (fdAt h (fa f)).any (fnDyn h)
noncomputable def globsOk (h : Heap) : Bool :=
  h.isNs mainGlobals && ids.all (fun p => refV (fa p.2) (h.nsMap mainGlobals p.1) && funcAt h (fa p.2)) && [B1.len, .ord, .str, .max, .min, .abs, .all, .tuple].all (fun f => noneV (h.nsMap mainGlobals (b1name f))) &&
  noneV (glob h "range") && refV 65 (glob h "Raised") && noneV (glob h "Exception")
/-- the def of a class's own, from the text -/
noncomputable def rdef : Stmt → Option (Arguments × List Stmt × Scope)
  | .FunctionDef _ ps b _ _ _ sc _ _ _ => some (ps, b, sc)
  | _ => none
noncomputable abbrev prog : Program := PySem.Challenge.rw_oj0065_01.row.prog
noncomputable def initParts : Arguments × List Stmt × Scope := match prog.main.body[3]? with
  | some (Stmt.ClassDef _ _ _ b _ _ _ _ _ _ _) => (b.findSome? rdef).getD default
  | _ => default
noncomputable def errParts : Arguments × List Stmt × Scope := ((prog.main.body[4]?).bind rdef).getD default
/-- where a def stands in the text -/
noncomputable def defTbl : List Nat := [4, 6, 7, 8, 9, 10, 11, 12, 13, 15, 17, 18, 19, 21, 22, 23, 24, 25, 26, 28, 29, 30, 31, 32, 33, 34, 35, 36, 37, 38, 39, 40, 41, 42, 43, 44, 45, 46, 48, 51, 52, 53, 54, 56, 57, 58, 59, 60, 61, 62, 63, 64, 65, 66, 67, 68, 69]
noncomputable def partsIn (f : Nat) : Arguments × List Stmt × Scope := ((prog.main.body[defTbl.getD f 0]?).bind rdef).getD default
noncomputable def partsOf (fd : FuncData) : Arguments × FuncBody × Scope := (fd.params, fd.body, fd.scope)
/-- what the text alone tells of one def -/
noncomputable def statF (f : Nat) (fn : Fn) (ns : List Str) (p : Arguments × List Stmt × Scope) : Bool :=
  fdOk { name := Str.empty, qualname := Str.empty, params := p.1, body := .stmts p.2.1, scope := p.2.2, globals := mainGlobals, closure := [], defaults := .none, kwdefaults := .none, builtins := builtinsNs } p.2.1 ns fn &&
    p.1.posonlyargs.isEmpty && p.1.kwonlyargs.isEmpty && p.1.vararg.isNone && p.1.kwarg.isNone && p.1.args.map (·.arg) == ns.take fn.nparams && fn.defaults.isEmpty
noncomputable def statOk (f : Nat) : Bool := match P f, (fnames[f]?).bind (·.2) with
  | some fn, some ns => statF f fn ns (partsIn f)
  | _, _ => false
/-- the few objects that are told whole: Raised, its names, its __init__, the defaults, error -/
noncomputable def initFd : FuncData := { name := Str.ofString "__init__", qualname := Str.ofString "Raised.__init__", params := initParts.1, body := .stmts initParts.2.1, scope := initParts.2.2, globals := 3, closure := [], defaults := .ref 55, kwdefaults := .none, pyModule := .str (Str.ofString "tclcore.faults") 187, code := .ref 61 }
noncomputable def errFd : FuncData := { name := Str.ofString "error", qualname := Str.ofString "error", params := errParts.1, body := .stmts errParts.2.1, scope := errParts.2.2, globals := 3, closure := [], defaults := .ref 70, kwdefaults := .none, pyModule := .str (Str.ofString "tclcore.faults") 187, code := .ref 76 }
noncomputable def dent (Q : Params) (x : String) (n : Nat) (v : Value) : DictEntry := { hash := PyData.keyHash Q (Str.ofString x), key := .str (Str.ofString x) n, val := v }
noncomputable def raisedNs (Q : Params) : Array DictEntry := #[dent Q "__module__" 241 (.str (Str.ofString "tclcore.faults") 187), dent Q "__firstlineno__" 245 (.int 9 244), dent Q "__init__" 260 (.ref 62), dent Q "__static_attributes__" 270 (.ref 63),
  dent Q "__weakref__" 272 (.ref 66), dent Q "__doc__" 273 .none]
noncomputable def frag (Q : Params) : PySem.W.Frag := [(55, { cls := .type "tuple", data := .seq #[.ref 54, .int 0 247, .int 0 248] }),
  (62, { cls := .type "function", data := .func initFd }),
  (64, { cls := .type "dict", data := .dict (raisedNs Q) 3 }),
  (65, { cls := .type "type", data := .cls { name := Str.ofString "Raised", bases := [.type "Exception"], mro := [.ref 65, .type "Exception", .type "BaseException", .type "object"], ns := 64, qualname := Str.ofString "Raised" },
         slots := #[some (.ref 47), none, some (.str (Str.ofString "Raised") 234), some (.str (Str.ofString "Raised") 242), some (.builtin "Exception.__new__"), some (.bool true)] }),
  (69, { cls := .type "tuple", data := .seq #[.str (Str.ofString "NONE") 278] }),
  (70, { cls := .type "tuple", data := .seq #[.ref 69] }),
  (77, { cls := .type "function", data := .func errFd })]
noncomputable def fragAs : List Addr := [55, 62, 64, 65, 69, 70, 77]
noncomputable def headOk (h : Heap) : Bool := fnsOk h && globsOk h && codeOk h (.ref 61) (Str.ofString "Raised.__init__") && codeOk h (.ref 76) (Str.ofString "error")
/-- what the run of the text leaves, and what stands behind it -/
noncomputable def hook : PySem.W.Hook where
  α := Bool × List (Option Obj) × List (Option (Arguments × FuncBody × Scope))
  obs s := (headOk s.heap, fragAs.map fun a => s.heap.get? a, served.map fun f => (fdAt s.heap (fa f)).map partsOf)
  val w := (true, (frag w.params).map fun p => some p.2, served.map fun f => some ((partsIn f).1, .stmts (partsIn f).2.1, (partsIn f).2.2))
  says w h := ∃ h0 : Heap, headOk h0 = true ∧ (frag w.params).In h ∧ (∀ b o, h0.get? b = some o → h.get? b = some o) ∧
    (served.map fun f => (fdAt h0 (fa f)).map partsOf) = served.map fun f => some ((partsIn f).1, .stmts (partsIn f).2.1, (partsIn f).2.2)
  of w s e := ⟨s.heap, congrArg Prod.fst e, PySem.W.Frag.in_of (K := frag w.params) (as := fragAs) rfl (Prod.mk.inj (Prod.mk.inj e).2).1, fun _ _ x => x, (Prod.mk.inj (Prod.mk.inj e).2).2⟩
  keeps w h h' x k := x.imp fun h0 y => ⟨y.1, y.2.1.keeps k, fun b o e => k b o (y.2.2.1 b o e), y.2.2.2⟩
end
end Mine
section
open PySem PySem.W PyProof.Rows
namespace Mine
noncomputable abbrev row : RowW := PySem.Challenge.rw_oj0065_01.row.toRowW
/-- the view: law alone; all other names of the text are loose -/
noncomputable def qv : Program := view prog [70]
noncomputable def loose : List Str := (prog.main.body.flatMap bindsAtTop).filter fun x => x != Str.ofString "law"
noncomputable def xt (s : Shared) : Bool := xlAt qv [] s && recOk (RowW.records row) s
theorem left1 (w : World) : (openEnds Fast.tw14364793385576792824 prog w 5300).map (fun s => (openSeen qv loose (importedModules prog.main.body) xt true s, hook.obs s)) = some (openGood qv loose, hook.val w) := by
  kernel_rfl
theorem left : LeftO prog qv loose xt hook.obs hook.val 5300 := fun w => by
  rw [Fast.te14364793385576792824]
  exact left1 w
end Mine
end
end
section
open PySem PySem.Calls PyProof.Rows
set_option genInjectivity false
set_option genSizeOf false
namespace Mine

/-- every object of h is in h', the slots of the frames F apart -/
noncomputable def Ext (F : List Addr) (h h' : Heap) : Prop :=
  ∀ b o, h.get? b = some o → (∃ sl, h'.get? b = some { o with slots := sl }) ∧ (b ∉ F → h'.get? b = some o)
theorem Ext.refl (F : List Addr) (h : Heap) : Ext F h h := fun _ o e => ⟨⟨o.slots, e⟩, fun _ => e⟩
theorem Ext.trans {F : List Addr} {h₁ h₂ h₃ : Heap} (x : Ext F h₁ h₂) (y : Ext F h₂ h₃) : Ext F h₁ h₃ := fun b o e => by
  obtain ⟨⟨sl, e1⟩, k1⟩ := x b o e
  obtain ⟨⟨sl2, e2⟩, _⟩ := y b _ e1
  exact ⟨⟨sl2, e2⟩, fun hb => (y b o (k1 hb)).2 hb⟩
theorem Ext.of_keeps {F : List Addr} {h h' : Heap} (k : ∀ b o, h.get? b = some o → h'.get? b = some o) : Ext F h h' :=
  fun b o e => ⟨⟨o.slots, k b o e⟩, fun _ => k b o e⟩
theorem Ext.push {F : List Addr} (h : Heap) (o : Obj) : Ext F h (h.push o) := .of_keeps fun _ _ e => Heap.get?_push_of_some o e
theorem Ext.mono {F G : List Addr} {h h' : Heap} (x : Ext F h h') (hs : ∀ b ∈ F, b ∈ G) : Ext G h h' :=
  fun b o e => ⟨(x b o e).1, fun hb => (x b o e).2 fun hF => hb (hs b hF)⟩
theorem Ext.some {F : List Addr} {h h' : Heap} (x : Ext F h h') {b : Addr} {o : Obj} (e : h.get? b = some o) : ∃ o', h'.get? b = some o' ∧ o'.cls = o.cls ∧ o'.dict = o.dict ∧ o'.data = o.data :=
  let ⟨⟨_, e1⟩, _⟩ := x b o e; ⟨_, e1, rfl, rfl, rfl⟩
theorem Ext.fresh {F : List Addr} {h h' : Heap} (x : Ext F h h') {b : Addr} (e : h'.get? b = none) : h.get? b = none := by
  cases q : h.get? b with
  | none => rfl
  | some o => obtain ⟨o', e1, _⟩ := x.some q; rw [e] at e1; cases e1

/-- the same of all but records -/
noncomputable def ExtW (F : List Addr) (h h' : Heap) : Prop :=
  ∀ b o, h.get? b = some o → (∀ vs, o.data ≠ .fields vs) → (∃ sl, h'.get? b = some { o with slots := sl }) ∧ (b ∉ F → h'.get? b = some o)
theorem Ext.weak {F : List Addr} {h h' : Heap} (x : Ext F h h') : ExtW F h h' := fun b o e _ => x b o e
theorem ExtW.refl (F : List Addr) (h : Heap) : ExtW F h h := (Ext.refl F h).weak
theorem ExtW.trans {F : List Addr} {h₁ h₂ h₃ : Heap} (x : ExtW F h₁ h₂) (y : ExtW F h₂ h₃) : ExtW F h₁ h₃ := fun b o e hd => by
  obtain ⟨⟨sl, e1⟩, k1⟩ := x b o e hd
  obtain ⟨⟨sl2, e2⟩, _⟩ := y b _ e1 hd
  exact ⟨⟨sl2, e2⟩, fun hb => (y b o (k1 hb) hd).2 hb⟩
theorem ExtW.some {F : List Addr} {h h' : Heap} (x : ExtW F h h') {b : Addr} {o : Obj} (e : h.get? b = some o) (hd : ∀ vs, o.data ≠ .fields vs) : ∃ o', h'.get? b = some o' ∧ o'.cls = o.cls ∧ o'.dict = o.dict ∧ o'.data = o.data :=
  let ⟨⟨_, e1⟩, _⟩ := x b o e hd; ⟨_, e1, rfl, rfl, rfl⟩

theorem ExtW.ns {F : List Addr} {h h' : Heap} {a : Addr} {m : Str → Option Value} (x : ExtW F h h') (n : h.Ns a m) : h'.Ns a m := by
  obtain ⟨o, es, ep, e, hd, r⟩ := n
  obtain ⟨o', e1, _, _, e4⟩ := x.some e (by intro vs q; rw [hd] at q; cases q)
  exact ⟨o', es, ep, e1, e4.trans hd, r⟩
theorem ExtW.isList {F : List Addr} {h h' : Heap} {a : Addr} {items : Array Value} (x : ExtW F h h') (n : h.IsList a items) : h'.IsList a items := by
  obtain ⟨o, e, hc, k, hd⟩ := n
  obtain ⟨o', e1, e2, _, e4⟩ := x.some e (by intro vs q; rw [hd] at q; cases q)
  exact ⟨o', e1, e2.trans hc, k, e4.trans hd⟩

/-- the frames' addresses hold namespaces -/
noncomputable def FrNs (F : List Addr) (h : Heap) : Prop := ∀ b ∈ F, ∃ o es ep, h.get? b = some o ∧ o.data = .dict es ep
theorem FrNs.ext {F G : List Addr} {h h' : Heap} (x : FrNs F h) (y : ExtW G h h') : FrNs F h' := fun b hb => by
  obtain ⟨o, es, ep, e, hd⟩ := x b hb
  obtain ⟨o', e1, _, _, e4⟩ := y.some e (by intro vs q; rw [hd] at q; cases q)
  exact ⟨o', es, ep, e1, e4.trans hd⟩
theorem FrNs.not_mem {F : List Addr} {h : Heap} (x : FrNs F h) {b : Addr} {o : Obj} (e : h.get? b = some o) (hd : ∀ es ep, o.data ≠ .dict es ep) : b ∉ F := fun hb => by
  obtain ⟨o', es, ep, e', hd'⟩ := x b hb
  rw [e] at e'; cases e'; exact hd _ _ hd'
theorem FrNs.fresh {F : List Addr} {h : Heap} (x : FrNs F h) {b : Addr} (e : h.get? b = none) : b ∉ F := fun hb => by
  obtain ⟨o', es, ep, e', hd'⟩ := x b hb
  rw [e] at e'; cases e'

mutual
/-- the value v of the model bears the tree (no list within) -/
noncomputable def RepI (h : Heap) : V → Value → Prop
  | .none, v => v = .none
  | .bool b, v => v = .bool b
  | .int n, v => ∃ t, v = .int n t
  | .str s, v => ∃ t, v = .str s t
  | .tup vs, v => ∃ a items n, v = .ref a ∧ IsT h a items n ∧ RepL h vs items.toList
  | .lst _ _, _ => False
  | .dict _, _ => False
  | .exc _ _ _, _ => False
noncomputable def RepL (h : Heap) : List V → List Value → Prop
  | [], l => l = []
  | v :: vs, l => ∃ x xs, l = x :: xs ∧ RepI h v x ∧ RepL h vs xs
end

/-- the tuples of h stay -/
noncomputable def Tups (h h' : Heap) : Prop := ∀ b items n, IsT h b items n → IsT h' b items n

mutual
theorem RepI.tups {h h' : Heap} (x : Tups h h') : ∀ {v : V} {u : Value}, RepI h v u → RepI h' v u
  | .none, _, r => r
  | .bool _, _, r => r
  | .int _, _, r => r
  | .str _, _, r => r
  | .tup vs, u, r => by
    unfold RepI at r ⊢
    obtain ⟨a, items, n, e, ht, r⟩ := r
    exact ⟨a, items, n, e, x _ _ _ ht, RepL.tups x r⟩
  | .lst _ _, _, r => by unfold RepI at r; exact r.elim
  | .dict _, _, r => by unfold RepI at r; exact r.elim
  | .exc _ _ _, _, r => by unfold RepI at r; exact r.elim
theorem RepL.tups {h h' : Heap} (x : Tups h h') : ∀ {vs : List V} {us : List Value}, RepL h vs us → RepL h' vs us
  | [], _, r => by unfold RepL at r ⊢; exact r
  | v :: vs, us, r => by
    unfold RepL at r ⊢
    obtain ⟨y, ys, e, r1, r2⟩ := r
    exact ⟨y, ys, e, RepI.tups x r1, RepL.tups x r2⟩
end

/-- a list at the top, or none within -/
noncomputable def Rep (h : Heap) : V → Value → Prop
  | .lst _ vs, v => ∃ a items n, v = .ref a ∧ IsL h a items n ∧ RepL h vs items.toList
  | w, v => RepI h w v

theorem ExtW.tups {F : List Addr} {h h' : Heap} (hF : FrNs F h) (x : ExtW F h h') : Tups h h' := fun b items n e =>
  (x b _ e (by intro _ q; cases q)).2 (hF.not_mem e (by intro _ _ q; cases q))
theorem ExtW.isL {F : List Addr} {h h' : Heap} (hF : FrNs F h) (x : ExtW F h h') {a : Addr} {items : Array Value} {n : Nat} (e : IsL h a items n) : IsL h' a items n :=
  (x a _ e (by intro _ q; cases q)).2 (hF.not_mem e (by intro _ _ q; cases q))

theorem RepI.rep {h : Heap} {v : V} {u : Value} (r : RepI h v u) : Rep h v u := by
  cases v <;> first | exact r | (unfold RepI at r; exact r.elim)
theorem Rep.toI {h : Heap} {v : V} {u : Value} (r : Rep h v u) (hn : noList v = true) : RepI h v u := by
  cases v <;> first | exact r | cases hn
theorem Rep.ext {F : List Addr} {h h' : Heap} (hF : FrNs F h) (x : ExtW F h h') {v : V} {u : Value} (r : Rep h v u) : Rep h' v u := by
  cases v <;> first | exact RepI.tups (x.tups hF) r | skip
  obtain ⟨a, items, n, e, ht, r⟩ := r
  exact ⟨a, items, n, e, x.isL hF ht, r.tups (x.tups hF)⟩

theorem RepL.length {h : Heap} : ∀ {vs : List V} {us : List Value}, RepL h vs us → us.length = vs.length
  | [], _, r => by unfold RepL at r; subst r; rfl
  | _ :: vs, _, r => by
    unfold RepL at r
    obtain ⟨y, ys, rfl, _, r2⟩ := r
    simp [RepL.length r2]
theorem RepL.get {h : Heap} : ∀ {vs : List V} {us : List Value}, RepL h vs us → ∀ (i : Nat) (v : V), vs[i]? = some v → ∃ u, us[i]? = some u ∧ RepI h v u
  | [], _, _, i, v, e => by simp at e
  | _ :: vs, _, r, i, v, e => by
    unfold RepL at r
    obtain ⟨y, ys, rfl, r1, r2⟩ := r
    cases i with
    | zero => simp at e; subst e; exact ⟨y, by simp, r1⟩
    | succ i => simp at e; obtain ⟨u, e1, e2⟩ := RepL.get r2 i v e; exact ⟨u, by simpa using e1, e2⟩
theorem RepL.get' {h : Heap} : ∀ {vs : List V} {us : List Value}, RepL h vs us → ∀ (i : Nat) (u : Value), us[i]? = some u → ∃ v, vs[i]? = some v ∧ RepI h v u
  | [], _, r, i, v, e => by unfold RepL at r; subst r; simp at e
  | v :: vs, _, r, i, u, e => by
    unfold RepL at r
    obtain ⟨y, ys, rfl, r1, r2⟩ := r
    cases i with
    | zero => simp at e; subst e; exact ⟨v, by simp, r1⟩
    | succ i => simp at e; obtain ⟨w, e1, e2⟩ := RepL.get' r2 i u e; exact ⟨w, by simpa using e1, e2⟩
theorem RepL.append {h : Heap} : ∀ {vs ws : List V} {us xs : List Value}, RepL h vs us → RepL h ws xs → RepL h (vs ++ ws) (us ++ xs)
  | [], _, _, _, r, q => by unfold RepL at r; subst r; exact q
  | _ :: vs, ws, _, xs, r, q => by
    unfold RepL at r
    obtain ⟨y, ys, rfl, r1, r2⟩ := r
    have := RepL.append r2 q
    show RepL h (_ :: (vs ++ ws)) (y :: (ys ++ xs))
    unfold RepL
    exact ⟨_, _, rfl, r1, this⟩
theorem RepL.drop {h : Heap} : ∀ (n : Nat) {vs : List V} {us : List Value}, RepL h vs us → RepL h (vs.drop n) (us.drop n)
  | 0, _, _, r => r
  | n + 1, [], _, r => by unfold RepL at r; subst r; simp [RepL]
  | n + 1, _ :: vs, _, r => by
    unfold RepL at r
    obtain ⟨y, ys, rfl, r1, r2⟩ := r
    exact RepL.drop n r2
theorem RepL.take {h : Heap} : ∀ (n : Nat) {vs : List V} {us : List Value}, RepL h vs us → RepL h (vs.take n) (us.take n)
  | 0, _, _, r => by simp [RepL]
  | n + 1, [], _, r => by unfold RepL at r; subst r; simp [RepL]
  | n + 1, _ :: vs, _, r => by
    unfold RepL at r
    obtain ⟨y, ys, rfl, r1, r2⟩ := r
    show RepL h (_ :: vs.take n) (y :: ys.take n)
    unfold RepL
    exact ⟨_, _, rfl, r1, RepL.take n r2⟩
theorem RepL.cons {h : Heap} {v : V} {vs : List V} {u : Value} {us : List Value} (r : RepI h v u) (q : RepL h vs us) : RepL h (v :: vs) (u :: us) := by
  unfold RepL; exact ⟨_, _, rfl, r, q⟩
theorem RepL.nil {h : Heap} : RepL h [] [] := by unfold RepL; rfl

theorem Rep.freeze {h : Heap} {v w : V} {u : Value} (r : Rep h v u) (e : freeze v = some w) : Rep h w u := by
  cases v <;> cases e <;> exact r

/-- nothing else of the state has moved -/
noncomputable def Same (s s' : Shared) : Prop := s'.gens = s.gens ∧ s'.drawn = s.drawn ∧ s'.os = s.os
theorem Same.refl (s : Shared) : Same s s := ⟨rfl, rfl, rfl⟩
theorem Same.trans {s₁ s₂ s₃ : Shared} (x : Same s₁ s₂) (y : Same s₂ s₃) : Same s₁ s₃ := ⟨y.1.trans x.1, y.2.1.trans x.2.1, y.2.2.trans x.2.2⟩

structure Step (F : List Addr) (s s' : Shared) : Prop where
  ext : Ext F s.heap s'.heap
  same : Same s s'
theorem Step.refl (F : List Addr) (s : Shared) : Step F s s := ⟨.refl _ _, .refl _⟩
theorem Step.trans {F : List Addr} {s₁ s₂ s₃ : Shared} (x : Step F s₁ s₂) (y : Step F s₂ s₃) : Step F s₁ s₃ := ⟨x.ext.trans y.ext, x.same.trans y.same⟩
theorem Step.keeps {F : List Addr} {s : Shared} {h' : Heap} {tk : Nat} (k : ∀ b o, s.heap.get? b = some o → h'.get? b = some o) : Step F s { s with heap := h', toks := tk } := ⟨.of_keeps k, rfl, rfl, rfl⟩
theorem Step.toks {F : List Addr} {s : Shared} {tk : Nat} : Step F s { s with toks := tk } := ⟨.refl _ _, rfl, rfl, rfl⟩
theorem Step.push {F : List Addr} {s : Shared} {o : Obj} {tk : Nat} : Step F s { s with heap := s.heap.push o, toks := tk } := ⟨.push _ _, rfl, rfl, rfl⟩

end Mine
end
section
open PySem PySem.Calls PyProof.Rows
set_option genInjectivity false
set_option genSizeOf false
namespace Mine

noncomputable def fr (fs : List Env) : List Addr := fs.filterMap (·.frame)
theorem fr_cons {env : Env} {L : Addr} {fs : List Env} (h : env.frame = some L) : fr (env :: fs) = L :: fr fs := by unfold fr; rw [List.filterMap_cons, h]

structure Stk (base : Heap) (fs : List Env) (h : Heap) : Prop where
  stays : base.StaysIn h
  frames : h.FunFrames base fs
  ns : FrNs (fr fs) h
theorem Stk.extW {base : Heap} {fs : List Env} {h h' : Heap} (S : Stk base fs h) (x : ExtW (fr fs) h h') (hb : base.StaysIn h') : Stk base fs h' :=
  ⟨hb, S.frames.of_keeps fun _ _ e hd => let ⟨o', e1, _, _, e4⟩ := x.some e hd; ⟨o', e1, e4⟩, S.ns.ext x⟩
theorem Stk.ext {base : Heap} {fs : List Env} {h h' : Heap} (S : Stk base fs h) (x : Ext (fr fs) h h') : Stk base fs h' :=
  S.extW x.weak fun b o e => (x b o (S.stays b o e)).2 fun hb => by rw [(S.frames.mem hb).1] at e; cases e

/-- the class of the text's own exception stands at C; what an exception object of it holds -/
noncomputable def ERep (C : Addr) (h : Heap) (a : Addr) : V → Prop
  | .exc c x ec => ∃ oe dx fs m c' x' ec', h.get? a = some oe ∧ oe.cls = .ref C ∧ oe.dict = some dx ∧ oe.data = .fields fs ∧ h.Ns dx m ∧
      m (Str.ofString "code") = some c' ∧ m (Str.ofString "value") = some x' ∧ m (Str.ofString "errorcode") = some ec' ∧ RepI h c c' ∧ RepI h x x' ∧ RepI h ec ec'
  | _ => False
theorem ERep.move {C : Addr} {F : List Addr} {h h' : Heap} {a : Addr} {ev : V} (r : ERep C h a ev) (hF : FrNs F h) (x : ExtW F h h') (he : ∀ o, h.get? a = some o → ∃ o' fs', h'.get? a = some o' ∧ o'.cls = o.cls ∧ o'.dict = o.dict ∧ o'.data = .fields fs') : ERep C h' a ev := by
  cases ev <;> try exact r
  obtain ⟨oe, dx, fs, m, c', x', ec', e, hc, hd, hf, hn, m1, m2, m3, r1, r2, r3⟩ := r
  obtain ⟨o', fs', e1, e2, e3, e4⟩ := he _ e
  exact ⟨o', dx, fs', m, c', x', ec', e1, e2.trans hc, e3.trans hd, e4, x.ns hn, m1, m2, m3, r1.tups (x.tups hF), r2.tups (x.tups hF), r3.tups (x.tups hF)⟩
theorem ERep.ext {C : Addr} {F : List Addr} {h h' : Heap} {a : Addr} {ev : V} (r : ERep C h a ev) (hF : FrNs F h) (x : Ext F h h') : ERep C h' a ev := by
  refine r.move hF x.weak fun o e => ?_
  cases ev <;> try exact r.elim
  obtain ⟨oe, dx, fs, m, c', x', ec', e0, hc, hd, hf, _⟩ := r
  rw [e0] at e; cases e
  obtain ⟨o', e1, e2, e3, e4⟩ := x.some e0
  exact ⟨o', fs, e1, e2, e3, e4.trans hf⟩

/-- an exception that has flown, new since h0 -/
structure ExcAt (C : Addr) (tr : Bool) (h0 h : Heap) (a : Addr) (ev : V) : Prop where
  rep : ERep C h a ev
  new : h0.get? a = none
  tb : ∃ oe fs, h.get? a = some oe ∧ oe.data = .fields fs ∧ 1 < fs.size ∧
    ((tr = false ∧ fs[1]? = some .none) ∨ ∃ T oT ts, fs[1]? = some (.ref T) ∧ T ≠ a ∧ h0.get? T = none ∧ h.get? T = some oT ∧ oT.data = .fields ts ∧ 3 < ts.size)
theorem ExcAt.mono {C : Addr} {tr : Bool} {F : List Addr} {h0 h1 h : Heap} {a : Addr} {ev : V} (X : ExcAt C tr h1 h a ev) (x : Ext F h0 h1) : ExcAt C tr h0 h a ev :=
  ⟨X.rep, x.fresh X.new, let ⟨oe, fs, e, hd, hs, q⟩ := X.tb; ⟨oe, fs, e, hd, hs, q.imp id fun ⟨T, oT, ts, q1, q2, q3, q4⟩ => ⟨T, oT, ts, q1, q2, x.fresh q3, q4⟩⟩⟩
theorem ExcAt.any {C : Addr} {tr : Bool} {h0 h : Heap} {a : Addr} {ev : V} (X : ExcAt C tr h0 h a ev) : ExcAt C false h0 h a ev :=
  ⟨X.rep, X.new, let ⟨oe, fs, e, hd, hs, q⟩ := X.tb; ⟨oe, fs, e, hd, hs, q.imp (fun q => ⟨rfl, q.2⟩) id⟩⟩

theorem updF_get {h : Heap} {a : Addr} {o : Obj} {vs : Array Value} (e : h.get? a = some o) (hd : o.data = .fields vs) (f : Array Value → Array Value) :
    (h.update a (Obj.mapFields f)).get? a = some (Obj.mapFields f o) ∧ (Obj.mapFields f o).data = .fields (f vs) ∧ (Obj.mapFields f o).cls = o.cls ∧ (Obj.mapFields f o).dict = o.dict := by
  obtain ⟨c, d, dt, sl⟩ := o
  cases hd
  exact ⟨Heap.get?_update_self _ e rfl, rfl, rfl, rfl⟩

/-- a record that is not in h0 is changed -/
theorem extW_upd {F : List Addr} {h : Heap} {a : Addr} {o : Obj} {vs : Array Value} (e : h.get? a = some o) (hd : o.data = .fields vs) (f : Obj → Obj) : ExtW F h (h.update a f) := fun b ob eb hb => by
  have : b ≠ a := fun q => by subst q; rw [e] at eb; cases eb; exact hb _ hd
  have e1 : (h.update a f).get? b = some ob := (Heap.get?_update_other h f (Ne.symm this)).trans eb
  exact ⟨⟨ob.slots, e1⟩, fun _ => e1⟩
theorem ext_upd {F : List Addr} {h0 h : Heap} {a : Addr} (x : Ext F h0 h) (hn : h0.get? a = none) (f : Obj → Obj) : Ext F h0 (h.update a f) := fun b ob eb => by
  have : a ≠ b := fun q => by subst q; rw [hn] at eb; cases eb
  rw [Heap.get?_update_other h f this]; exact x b ob eb

section
variable {M : Model} {A : Around} {E : Value → Shared → Prop} {s : Shared} {base h0 : Heap} {env : Env} {outer : List Env} {L a : Addr} {ev : V} {C : Addr}

/-- the traceback's new entry -/
theorem entry_ok {head : Value} {hadNext : Bool} {Q : Unit → Shared → Prop} {oe : Obj} {fs : Array Value}
    (hA : A.frames = some (env :: outer)) (hf : env.frame = some L) (S : Stk base (env :: outer) s.heap) (x0 : Ext (fr (env :: outer)) h0 s.heap)
    (r : ERep C s.heap a ev) (hn : h0.get? a = none) (e : s.heap.get? a = some oe) (hd : oe.data = .fields fs) (hsz : 1 < fs.size)
    (k : ∀ h', ExtW (fr (env :: outer)) s.heap h' → Ext (fr (env :: outer)) h0 h' → ExcAt C true h0 h' a ev → Q () { s with heap := h' }) :
    wpAny M A (do let x ← frameOf env; let pl ← entryPlaceOf L hadNext; let b ← EntryCells.newEntry head x .none (rawInt L) .none pl; setField (.ref a) 1 b) Q E s := by
  refine wpAny_bind (wpAny_frameOf_fun hA S.frames hf fun h₁ hs₁ => ?_)
  refine wpAny_bind (wpAny_entryPlaceOf fun pl hpl => ?_)
  unfold EntryCells.newEntry newFields
  refine wpAny_bind (wpAny_newObj_type ?_ (hpl.sizeOk5 _ _ _ _ _))
  have x₁ : Ext (fr (env :: outer)) s.heap h₁ := fun b o eb => by
    refine ⟨hs₁.2.2 b o eb, fun hb => (hs₁.2.1 b hb).trans eb⟩
  have hea : a ∉ fr (env :: outer) := S.ns.not_mem e (by intro _ _ q; rw [hd] at q; cases q)
  have he₁ : h₁.get? a = some oe := (x₁ a oe e).2 hea
  generalize hO : ({ cls := .type "traceback", dict := none, data := .fields ([head, .ref L, .none, rawInt L, .none] ++ (if pl.isEmpty then List.replicate 6 Value.none else pl)).toArray } : Obj) = OT
  have hOd : OT.data = .fields ([head, .ref L, .none, rawInt L, .none] ++ (if pl.isEmpty then List.replicate 6 Value.none else pl)).toArray := by subst hO; rfl
  have hOf : OT.isFreed = false := by subst hO; rfl
  have he₂ := Heap.get?_push_of_some (h := h₁) OT he₁
  refine wpAny_setField he₂ hd hsz ?_
  obtain ⟨g1, g2, g3, g4⟩ := updF_get he₂ hd (·.setIfInBounds 1 (Value.ref h₁.objs.size))
  have hTe : h₁.objs.size ≠ a := Nat.ne_of_gt (Heap.lt_size he₁)
  have hT : ((h₁.push OT).update a (Obj.mapFields (·.setIfInBounds 1 (Value.ref h₁.objs.size)))).get? h₁.objs.size = some OT :=
    (Heap.get?_update_other _ _ (Ne.symm hTe)).trans (Heap.get?_push_size h₁ hOf)
  have x₂ : Ext (fr (env :: outer)) h0 (h₁.push OT) := (x0.trans x₁).trans (.push _ _)
  have w₂ : ExtW (fr (env :: outer)) s.heap ((h₁.push OT).update a (Obj.mapFields (·.setIfInBounds 1 (Value.ref h₁.objs.size)))) :=
    (x₁.trans (.push _ _)).weak.trans (extW_upd he₂ hd _)
  have hTn : h0.get? h₁.objs.size = none := by
    cases q : h0.get? h₁.objs.size with
    | none => rfl
    | some o => obtain ⟨o', e', _⟩ := (x0.trans x₁).some q; exact absurd (Heap.lt_size e') (Nat.lt_irrefl _)
  refine k _ w₂ (ext_upd x₂ hn _) ⟨r.move S.ns w₂ fun o eo => ?_, hn, _, _, g1, g2, by simpa using hsz, .inr ⟨h₁.objs.size, OT, _, by simp [hsz], hTe, hTn, hT, hOd, ?_⟩⟩
  · rw [e] at eo; cases eo
    exact ⟨_, _, g1, g3, g4, g2⟩
  · simp only [List.size_toArray, List.length_append, List.length_cons, List.length_nil] <;> (first | lia | omega)

theorem noteFrame_ok {tr : Bool} {Q : Unit → Shared → Prop} (hA : A.frames = some (env :: outer)) (hf : env.frame = some L) (S : Stk base (env :: outer) s.heap) (x0 : Ext (fr (env :: outer)) h0 s.heap)
    (hb : ∀ b o, base.get? b = some o → ∃ o', h0.get? b = some o') (X : ExcAt C tr h0 s.heap a ev)
    (k : ∀ h', ExtW (fr (env :: outer)) s.heap h' → Ext (fr (env :: outer)) h0 h' → ExcAt C true h0 h' a ev → Q () { s with heap := h' }) :
    wpAny M A (noteFrame (.ref a) env) Q E s := by
  obtain ⟨r, hn, oe, fs, e, hd, hsz, tb⟩ := X
  unfold noteFrame
  simp only [hf]
  rcases tb with ⟨_, h1⟩ | ⟨T, oT, ts, h1, hTa, hTn, eT, hdT, h3⟩
  · refine wpAny_bind (wpAny_field e hd h1 ?_)
    rw [if_neg (by decide)]
    exact entry_ok hA hf S x0 r hn e hd hsz k
  · refine wpAny_bind (wpAny_field e hd h1 ?_)
    rw [if_pos (show (Value.ref T != Value.none) = true from by simp)]
    refine wpAny_bind (wpAny_field eT hdT (x := ts[3]) (by simp [h3]) ?_)
    by_cases q : (ts[3] == rawInt L) = true
    · rw [if_pos q]
      exact wpAny_pure (k _ (.refl _ _) x0 ⟨r, hn, oe, fs, e, hd, hsz, .inr ⟨T, oT, ts, h1, hTa, hTn, eT, hdT, h3⟩⟩)
    · rw [if_neg q]
      refine wpAny_bind (wpAny_setField eT hdT h3 ?_)
      have w₁ : ExtW (fr (env :: outer)) s.heap (s.heap.update T (Obj.mapFields (·.setIfInBounds 3 .none))) := extW_upd eT hdT _
      have x₁ := ext_upd x0 hTn (Obj.mapFields (·.setIfInBounds 3 .none))
      have ea : (s.heap.update T (Obj.mapFields (·.setIfInBounds 3 .none))).get? a = some oe := (Heap.get?_update_other _ _ hTa).trans e
      have hbT : base.get? T = none := by
        cases qq : base.get? T with
        | none => rfl
        | some o => obtain ⟨o', e'⟩ := hb _ _ qq; rw [hTn] at e'; cases e'
      have S₁ := S.extW w₁ fun b o eb => (Heap.get?_update_other _ _ (fun q => by subst q; rw [hbT] at eb; cases eb)).trans (S.stays b o eb)
      refine entry_ok (s := { s with heap := s.heap.update T (Obj.mapFields (·.setIfInBounds 3 .none)) }) hA hf S₁ x₁ (r.move S.ns w₁ fun o eo => ?_) hn ea hd hsz fun h' k1 k2 k3 => k h' (w₁.trans k1) k2 k3
      rw [e] at eo; cases eo
      exact ⟨_, _, ea, rfl, rfl, hd⟩

theorem setFlight_ok {tr : Bool} {fl : Option Addr} {F : List Addr} {Q : Unit → Shared → Prop} (hF : FrNs F s.heap) (x0 : Ext F h0 s.heap) (X : ExcAt C tr h0 s.heap a ev)
    (k : ∀ h', ExtW F s.heap h' → Ext F h0 h' → ExcAt C tr h0 h' a ev → Q () { s with heap := h' }) :
    wpAny M A (setFlight (.ref a) fl) Q E s := by
  have X0 := X
  obtain ⟨r, hn, oe, fs, e, hd, hsz, tb⟩ := X
  unfold setFlight
  rcases tb with ⟨htr, h1⟩ | ⟨T, oT, ts, h1, hTa, hTn, eT, hdT, h3⟩
  · refine wpAny_bind (wpAny_field e hd h1 ?_)
    rw [if_neg (by decide)]
    exact wpAny_pure (k _ (.refl _ _) x0 X0)
  · refine wpAny_bind (wpAny_field e hd h1 ?_)
    rw [if_pos (show (Value.ref T != Value.none) = true from by simp)]
    refine wpAny_setField eT hdT h3 ?_
    generalize hv : (fl.elim Value.none fun f => rawInt f) = fv
    obtain ⟨g1, g2, g3, g4⟩ := updF_get eT hdT (·.setIfInBounds 3 fv)
    have w₁ : ExtW F s.heap (s.heap.update T (Obj.mapFields (·.setIfInBounds 3 fv))) := extW_upd eT hdT _
    have ea : (s.heap.update T (Obj.mapFields (·.setIfInBounds 3 fv))).get? a = some oe := (Heap.get?_update_other _ _ hTa).trans e
    refine k _ w₁ (ext_upd x0 hTn _) ⟨r.move hF w₁ fun o eo => ?_, hn, oe, fs, ea, hd, hsz, .inr ⟨T, _, _, h1, hTa, hTn, g1, g2, by simpa using h3⟩⟩
    rw [e] at eo; cases eo
    exact ⟨_, _, ea, rfl, rfl, hd⟩
end

end Mine
end
section
open PySem PySem.Calls PyProof.Rows
set_option genInjectivity false
set_option genSizeOf false
namespace Mine

structure EnvOk (env : Env) (L : Addr) : Prop where
  kind : env.scope.kind = .function
  loc : env.locals = L
  frame : env.frame = some L
  glob : env.globals = mainGlobals
  bi : env.builtins = builtinsNs
  cells : ∀ x y c d, env.cells.lookup x = some c → env.cells.lookup y = some d → x ≠ y → c ≠ d

/-- where a name of the frame's stands -/
noncomputable def At (env : Env) (m cm : Str → Option Value) (x : Str) (u : Value) : Prop :=
  (env.kindOf x = some .local ∧ m x = some u) ∨ (env.kindOf x = some .cell ∧ (∃ c, env.cells.lookup x = some c) ∧ cm x = some u)

noncomputable def Own (hE : Heap) : V → Value → Prop
  | .lst true _, u => ∀ a, u = .ref a → hE.get? a = none
  | .lst false _, u => ∀ a, u = .ref a → ∃ o, hE.get? a = some o
  | _, _ => True

structure Vars (env : Env) (names : List Str) (hE h : Heap) (ρ : Rho) (m cm : Str → Option Value) (val : Nat → Value) : Prop where
  ns : h.Ns env.locals m
  cell : ∀ x c, env.cells.lookup x = some c → h.IsCell c (cm x)
  at' : ∀ i v, get ρ i = some v → ∃ x, names[i]? = some x ∧ At env m cm x (val i) ∧ Rep h v (val i) ∧ Own hE v (val i)
  apart : ∀ i j vs o ws, i ≠ j → get ρ i = some (.lst true vs) → get ρ j = some (.lst o ws) → val i ≠ val j

structure FSt (base : Heap) (env : Env) (outer : List Env) (names : List Str) (hE h : Heap) (ρ : Rho) : Prop where
  stk : Stk base (env :: outer) h
  ext : Ext (fr outer) hE h
  baseE : ∀ b o, base.get? b = some o → hE.get? b = some o
  newL : hE.get? env.locals = none
  newC : ∀ x c, env.cells.lookup x = some c → hE.get? c = none
  len : ρ.length = names.length
  vars : ∃ m cm val, Vars env names hE h ρ m cm val

theorem isCell_extW {F : List Addr} {h h' : Heap} {c : Addr} {v : Option Value} (x : ExtW F h h') (n : h.IsCell c v) : h'.IsCell c v := by
  obtain ⟨o, e, hd⟩ := n
  obtain ⟨o', e1, _, _, e4⟩ := x.some e (by intro vs q; rw [hd] at q; cases q)
  exact ⟨o', e1, e4.trans hd⟩

section
variable {base hE h h' : Heap} {env : Env} {outer : List Env} {names : List Str} {ρ : Rho} {L : Addr}

theorem ext_drop {F : List Addr} (x : Ext (L :: F) hE h) (hn : hE.get? L = none) : Ext F hE h := fun b o e =>
  ⟨(x b o e).1, fun hb => (x b o e).2 fun q => by
    rcases List.mem_cons.mp q with q | q
    · subst q; rw [hn] at e; cases e
    · exact hb q⟩
theorem fr_env (O : EnvOk env L) : fr (env :: outer) = L :: fr outer := fr_cons O.frame

theorem FSt.extW (O : EnvOk env L) (S : FSt base env outer names hE h ρ) (x : ExtW (fr (env :: outer)) h h') (y : Ext (fr (env :: outer)) hE h') : FSt base env outer names hE h' ρ := by
  have hb : base.StaysIn h' := fun b o e => (y b o (S.baseE b o e)).2 fun hb => by rw [(S.stk.frames.mem hb).1] at e; cases e
  obtain ⟨m, cm, val, V⟩ := S.vars
  refine ⟨S.stk.extW x hb, ext_drop (L := L) (by rw [← fr_env O]; exact y) (by rw [← O.loc]; exact S.newL), S.baseE, S.newL, S.newC, S.len, m, cm, val, x.ns V.ns, fun a c e => isCell_extW x (V.cell a c e), fun i v e => ?_, V.apart⟩
  obtain ⟨a, e1, e2, e3, e4⟩ := V.at' i v e
  exact ⟨a, e1, e2, e3.ext S.stk.ns x, e4⟩
theorem FSt.extE (O : EnvOk env L) (S : FSt base env outer names hE h ρ) : Ext (fr (env :: outer)) hE h := by
  rw [fr_env O]; exact S.ext.mono fun b hb => List.mem_cons_of_mem _ hb
theorem FSt.step (O : EnvOk env L) (S : FSt base env outer names hE h ρ) (x : Ext (fr (env :: outer)) h h') : FSt base env outer names hE h' ρ :=
  S.extW O x.weak ((S.extE O).trans x)
theorem FSt.fresh (O : EnvOk env L) (S : FSt base env outer names hE h ρ) {a : Addr} (e : h.get? a = none) : hE.get? a = none := (S.extE O).fresh e
end

section
variable {M : Model} {A : Around} {E : Value → Shared → Prop} {s : Shared} {base hE : Heap} {env : Env} {outer : List Env} {names : List Str} {ρ : Rho} {L : Addr}

theorem load_ok {i : Nat} {v : V} {x : Str} {Q : Value → Shared → Prop} (O : EnvOk env L) (S : FSt base env outer names hE s.heap ρ) (g : get ρ i = some v) (hx : names[i]? = some x)
    (k : ∀ u, Rep s.heap v u → Own hE v u → Q u s) : wpAny M A (loadName env x) Q E s := by
  obtain ⟨m, cm, val, V⟩ := S.vars
  obtain ⟨x', e1, e2, e3, e4⟩ := V.at' i v g
  rw [hx] at e1; cases e1
  rcases e2 with ⟨hk, hm⟩ | ⟨hk, ⟨c, hc⟩, hm⟩
  · exact wpAny_loadName_local O.kind hk V.ns hm (k _ e3 e4)
  · exact wpAny_loadName_cell O.kind hk hc (hm ▸ V.cell x c hc) (k _ e3 e4)

theorem get_put_self {i : Nat} {v : V} (hi : i < ρ.length) : get (put ρ i v) i = some v := by simp [get, put, hi]
theorem get_put_ne {i j : Nat} {v : V} (h : j ≠ i) : get (put ρ i v) j = get ρ j := by simp [get, put, List.getElem?_set, Ne.symm h]
theorem get_lt {i : Nat} {v : V} (h : get ρ i = some v) : i < ρ.length := by
  rcases Nat.lt_or_ge i ρ.length with q | q
  · exact q
  · simp [get, List.getElem?_eq_none q] at h

theorem funFrames_of {h h' : Heap} : ∀ {fs : List Env}, h.FunFrames base fs → FrNs (fr fs) h' → h'.FunFrames base fs
  | [], _, _ => trivial
  | env :: fs, ⟨hk, ⟨L, o, hf, hn, _, _⟩, hr⟩, hF => by
    rw [fr_cons hf] at hF
    obtain ⟨o', es, ep, e, hd⟩ := hF L (List.mem_cons_self ..)
    exact ⟨hk, ⟨L, o', hf, hn, e, fun vs q => by rw [hd] at q; cases q⟩, funFrames_of hr fun b hb => hF b (List.mem_cons_of_mem _ hb)⟩

theorem tups_sameBut {h h' : Heap} {b : Addr} (hs : Heap.SameBut b h h') (hb : ∀ o xs n, h.get? b = some o → o.data ≠ .seq xs n) : Tups h h' := fun c items n e =>
  (hs.2 c fun q => by subst q; exact hb _ _ _ e rfl).trans e
theorem isL_sameBut {h h' : Heap} {b : Addr} (hs : Heap.SameBut b h h') (hb : ∀ o xs n, h.get? b = some o → o.data ≠ .seq xs n) {c : Addr} {items : Array Value} {n : Nat} (e : IsL h c items n) : IsL h' c items n :=
  (hs.2 c fun q => by subst q; exact hb _ _ _ e rfl).trans e
theorem Rep.move {h h' : Heap} (t : Tups h h') (l : ∀ a items n, IsL h a items n → IsL h' a items n) {v : V} {u : Value} (r : Rep h v u) : Rep h' v u := by
  cases v <;> first | exact RepI.tups t r | skip
  obtain ⟨a, items, n, e, ht, r⟩ := r
  exact ⟨a, items, n, e, l _ _ _ ht, r.tups t⟩

/-- sequences and records stay -/
noncomputable def Kp (h h' : Heap) : Prop := ∀ b o, h.get? b = some o → ((∃ fs, o.data = .fields fs) ∨ ∃ xs n, o.data = .seq xs n) → h'.get? b = some o
theorem Kp.tups {h h' : Heap} (x : Kp h h') : Tups h h' := fun b items n e => x b _ e (.inr ⟨_, _, rfl⟩)

theorem store_ok {i : Nat} {v : V} {u : Value} {x : Str} {Q : Unit → Shared → Prop} (O : EnvOk env L) (S : FSt base env outer names hE s.heap ρ) (hn : names.Nodup) (hx : names[i]? = some x)
    (hk : env.kindOf x = some .local ∨ (env.kindOf x = some .cell ∧ ∃ c, env.cells.lookup x = some c))
    (r : Rep s.heap v u) (o : Own hE v u) (ap : ∃ m cm val, Vars env names hE s.heap ρ m cm val ∧ ∀ j o o' vs ws, j ≠ i → v = .lst o vs → get ρ j = some (.lst o' ws) → (o = true ∨ o' = true) → val j ≠ u)
    (k : ∀ h' tk, FSt base env outer names hE h' (put ρ i v) → Kp s.heap h' → Q () { s with heap := h', toks := tk }) : wpAny M A (storeName env x u) Q E s := by
  obtain ⟨m, cm, val, V, ap⟩ := ap
  have hi : i < ρ.length := by rw [S.len]; exact (List.getElem?_eq_some_iff.mp hx).1
  have nameNe : ∀ j y, names[j]? = some y → j ≠ i → y ≠ x := fun j y hj hne q => by
    subst q
    obtain ⟨l1, e1⟩ := List.getElem?_eq_some_iff.mp hj
    obtain ⟨l2, e2⟩ := List.getElem?_eq_some_iff.mp hx
    rcases Nat.lt_trichotomy j i with q | q | q
    · exact List.pairwise_iff_getElem.mp hn j i l1 l2 q (e1.trans e2.symm)
    · exact hne q
    · exact List.pairwise_iff_getElem.mp hn i j l2 l1 q (e2.trans e1.symm)
  have main : ∀ (h' : Heap) (b : Addr) (m' cm' : Str → Option Value), Heap.SameBut b s.heap h' → hE.get? b = none → (∀ o, s.heap.get? b = some o → (∀ xs n, o.data ≠ .seq xs n) ∧ ∀ fs, o.data ≠ .fields fs) →
      FrNs (fr (env :: outer)) h' → h'.Ns env.locals m' → (∀ a c, env.cells.lookup a = some c → h'.IsCell c (cm' a)) → At env m' cm' x u → (∀ y w, y ≠ x → At env m cm y w → At env m' cm' y w) →
      FSt base env outer names hE h' (put ρ i v) ∧ Kp s.heap h' := by
    intro h' b m' cm' hs hbE hq0 hF hns hcell hat hold
    have hq : ∀ o xs n, s.heap.get? b = some o → o.data ≠ .seq xs n := fun o xs n e => (hq0 o e).1 xs n
    refine ⟨?_, fun c o e hd => (hs.2 c fun q => ?_).trans e⟩
    rotate_left
    · subst q
      rcases hd with ⟨fs, hd⟩ | ⟨xs, n, hd⟩
      · exact (hq0 o e).2 fs hd
      · exact (hq0 o e).1 xs n hd
    have repK : ∀ {w : Mine.V} {z : Value}, Rep s.heap w z → Rep h' w z := fun rr => rr.move (tups_sameBut hs hq) (fun _ _ _ e => isL_sameBut hs hq e)
    have extE : Ext (fr outer) hE h' := fun c oo ec => by
      have hcb : c ≠ b := fun q => by subst q; rw [hbE] at ec; cases ec
      rw [hs.2 c hcb]; exact S.ext c oo ec
    have hb : base.StaysIn h' := fun c oo ec => (hs.2 c fun q => by subst q; have := S.baseE _ _ ec; rw [hbE] at this; cases this).trans (S.stk.stays c oo ec)
    refine ⟨⟨hb, funFrames_of S.stk.frames hF, hF⟩, extE, S.baseE, S.newL, S.newC, by simp [put, S.len], m', cm', (fun j => if j = i then u else val j), hns, hcell, fun j w ej => ?_, fun j l vs o2 ws hne ej el => ?_⟩
    · by_cases hji : j = i
      · subst hji
        rw [get_put_self hi] at ej; cases ej
        exact ⟨x, hx, by simpa using hat, by simpa using repK r, by simpa using o⟩
      · rw [get_put_ne hji] at ej
        obtain ⟨y, e1, e2, e3, e4⟩ := V.at' j w ej
        simp only [hji, if_false]
        exact ⟨y, e1, hold y _ (nameNe j y e1 hji) e2, repK e3, e4⟩
    · by_cases hji : j = i
      · subst hji
        rw [get_put_self hi] at ej; cases ej
        rw [get_put_ne (Ne.symm hne)] at el
        simp only [if_true, if_neg (Ne.symm hne)]
        exact (ap l true o2 vs ws (Ne.symm hne) rfl el (.inl rfl)).symm
      · rw [get_put_ne hji] at ej
        by_cases hli : l = i
        · subst hli
          rw [get_put_self hi] at el; cases el
          simp only [if_true, if_neg hji]
          exact ap j o2 true ws vs hji rfl ej (.inr rfl)
        · rw [get_put_ne hli] at el
          simp only [if_neg hji, if_neg hli]
          exact V.apart j l vs o2 ws hne ej el
  obtain ⟨oL, esL, epL, eL, hdL, hrest⟩ := V.ns
  rcases hk with hk | ⟨hk, c, hc⟩
  · refine wpAny_storeName_local hk V.ns (fun h' hn' hs => (fun ⟨q1, q2⟩ => k h' _ q1 q2) (main h' env.locals _ cm hs S.newL (fun o e => ?_) (fun c hc => ?_) hn' (fun a c hc => ?_) (.inl ⟨hk, by simp⟩) fun y w hy ha => ?_)) ?_
    · rw [eL] at e; cases e; exact ⟨fun xs n q => (by rw [hdL] at q; cases q), fun fs q => (by rw [hdL] at q; cases q)⟩
    · by_cases q : c = env.locals
      · subst q; obtain ⟨o', es', ep', e', hd', _⟩ := hn'; exact ⟨o', es', ep', e', hd'⟩
      · obtain ⟨o', es', ep', e', hd'⟩ := S.stk.ns c hc; exact ⟨o', es', ep', (hs.2 c q).trans e', hd'⟩
    · exact (V.cell a c hc).sameBut hs fun q => by
        subst q; obtain ⟨oc, ec, hdc⟩ := V.cell a _ hc; rw [eL] at ec; cases ec; rw [hdL] at hdc; cases hdc
    · rcases ha with ⟨h1, h2⟩ | ⟨h1, h2, h3⟩
      · exact .inl ⟨h1, by simpa [hy] using h2⟩
      · exact .inr ⟨h1, h2, h3⟩
    · show (env.scope.kind == .class || (env.scope.kind == .module && env.locals != env.globals)) = false
      rw [O.kind]; rfl
  · obtain ⟨oc, ec, hdc⟩ := V.cell x c hc
    have hcL : env.locals ≠ c := fun q => by subst q; rw [eL] at ec; cases ec; rw [hdL] at hdc; cases hdc
    refine wpAny_storeName_cell O.kind hk hc ⟨oc, ec, hdc⟩ fun h' hcl hs => ?_
    have := (fun ⟨q1, q2⟩ => k h' s.toks q1 q2) (main h' c m (fun y => if y = x then some u else cm y) hs (S.newC x c hc) (fun o e => ?_) (fun d hd => ?_) ?_ (fun a d hd => ?_) (.inr ⟨hk, ⟨c, hc⟩, by simp⟩) fun y w hy ha => ?_)
    · exact this
    · rw [ec] at e; cases e; exact ⟨fun xs n q => (by rw [hdc] at q; cases q), fun fs q => (by rw [hdc] at q; cases q)⟩
    · obtain ⟨o', es', ep', e', hd'⟩ := S.stk.ns d hd
      exact ⟨o', es', ep', (hs.2 d fun q => by subst q; rw [ec] at e'; cases e'; rw [hdc] at hd'; cases hd').trans e', hd'⟩
    · exact ⟨oL, esL, epL, (hs.2 _ hcL).trans eL, hdL, hrest⟩
    · by_cases q : a = x
      · subst q; rw [hc] at hd; cases hd; simpa using hcl
      · simp only [q, if_false]
        exact (V.cell a d hd).sameBut hs (O.cells a x d c hd hc q)
    · rcases ha with ⟨h1, h2⟩ | ⟨h1, h2, h3⟩
      · exact .inl ⟨h1, h2⟩
      · exact .inr ⟨h1, h2, by simpa [hy] using h3⟩
end
end Mine
end
section
open PySem PySem.Calls PyProof.Rows PySem.SeqAt
set_option genInjectivity false
set_option genSizeOf false
namespace Mine

/-- what holds of the law's run as a whole -/
structure Gd where
  prog : Program
  w : World
  base : Heap
  C : Addr
  mg : Str → Option Value
  mb : Str → Option Value
  fa : Nat → Addr
  hg : base.Ns mainGlobals mg
  hb : base.Ns builtinsNs mb
  nolimit : base.NoLimit
  hbi : ∀ x : Str, x ≠ "__name__" → mb x = bootBuiltins x

/-- a frame of a def's -/
structure Fx (g : Gd) where
  env : Env
  outer : List Env
  names : List Str
  L : Addr
  A : Around
  d : Nat
  O : EnvOk env L
  hA : A.frames = some (env :: outer)
  hh : A.handled = none
  nodup : names.Nodup
  depth : A.depth + d ≤ 900
  units : A.units + 40 * d + 200 ≤ 9000

noncomputable abbrev Fx.F {g : Gd} (fx : Fx g) : List Addr := fr (fx.env :: fx.outer)
noncomputable abbrev Fx.St {g : Gd} (fx : Fx g) (hE h : Heap) (ρ : Rho) : Prop := FSt g.base fx.env fx.outer fx.names hE h ρ
noncomputable abbrev Gd.M (g : Gd) : Model := model g.prog g.w

noncomputable def DRep (g : Gd) (h : Heap) (a : Addr) (kvs : List (Str × V)) : Prop :=
  (a == sysModules) = false ∧ ∃ f : Str → Option Value, h.MapOf (strKind g.prog g.w) a f ∧ ∀ k, (∀ x, dlook kvs k = some x → ∃ y, f k = some y ∧ RepI h x y) ∧ (dlook kvs k = none → f k = none)

/-- what a value that was reckoned bears -/
noncomputable def ResOk (g : Gd) (s s' : Shared) : V → Value → Prop
  | .dict kvs, u => ∃ a, u = .ref a ∧ s.heap.get? a = none ∧ DRep g s'.heap a kvs
  | .exc c x ec, u => ∃ a, u = .ref a ∧ ExcAt g.C false s.heap s'.heap a (.exc c x ec)
  | .lst true vs, u => Rep s'.heap (.lst true vs) u ∧ ∀ a, u = .ref a → s.heap.get? a = none
  | v, u => Rep s'.heap v u

noncomputable def OkE (g : Gd) (F : List Addr) (r : R V) (s : Shared) (u : Value) (s' : Shared) : Prop := ∃ v, r = some (.ok v) ∧ Step F s s' ∧ ResOk g s s' v u
noncomputable def ErrE (g : Gd) (F : List Addr) (r : R V) (s : Shared) (x : Value) (s' : Shared) : Prop := ∃ a ev, x = .ref a ∧ r = some (.error ev) ∧ Step F s s' ∧ ExcAt g.C false s.heap s'.heap a ev

/-- the walk of an expression gives what the interpreter gives -/
noncomputable def SimE {g : Gd} (fx : Fx g) (pe : Expr) (ρ : Rho) (r : R V) : Prop :=
  r ≠ none → ∀ (s : Shared) (hE : Heap), fx.St hE s.heap ρ → wpAny g.M fx.A (eval pe fx.env) (OkE g fx.F r s) (ErrE g fx.F r s) s

section
variable {g : Gd} {fx : Fx g}

theorem ResOk.rep {s s' : Shared} {v : V} {u : Value} (h : ResOk g s s' v u) (hv : (freeze v).isSome) : Rep s'.heap v u := by
  cases v <;> first | exact h | (cases hv; done) | skip
  rename_i own vs
  cases own
  · exact h
  · exact h.1
theorem ResOk.of {s s' : Shared} {v : V} {u : Value} (h : Rep s'.heap v u) (hv : ∀ vs, v ≠ .lst true vs) : ResOk g s s' v u := by
  cases v <;> first | exact h | (exfalso; revert h; simp [Rep, RepI]; done) | skip
  rename_i own vs
  cases own
  · exact h
  · exact absurd rfl (hv vs)
theorem ResOk.pre {s₀ s s' : Shared} {v : V} {u : Value} {F : List Addr} (x : Ext F s₀.heap s.heap) (h : ResOk g s s' v u) : ResOk g s₀ s' v u := by
  cases v <;> first | exact h | skip
  · rename_i own vs
    cases own
    · exact h
    · exact ⟨h.1, fun a e => x.fresh (h.2 a e)⟩
  · obtain ⟨a, e, n, d⟩ := h; exact ⟨a, e, x.fresh n, d⟩
  · obtain ⟨a, e, n⟩ := h; exact ⟨a, e, n.mono x⟩
theorem ResOk.noList {s s' : Shared} {v : V} {u : Value} (h : ResOk g s s' v u) (hv : Mine.noList v = true) : RepI s'.heap v u := (h.rep (by cases v <;> first | rfl | cases hv)).toI hv

theorem SimE.use {pe : Expr} {ρ : Rho} {r : R V} {s : Shared} {hE : Heap} {Q E : Value → Shared → Prop} (h : SimE fx pe ρ r) (hr : r ≠ none) (S : fx.St hE s.heap ρ)
    (ok : ∀ v u s₁, r = some (.ok v) → Step fx.F s s₁ → ResOk g s s₁ v u → fx.St hE s₁.heap ρ → Q u s₁)
    (err : ∀ a ev s₁, r = some (.error ev) → Step fx.F s s₁ → ExcAt g.C false s.heap s₁.heap a ev → E (.ref a) s₁) : wpAny g.M fx.A (eval pe fx.env) Q E s :=
  wpAny_mono (h hr s hE S) (fun u s₁ ⟨v, e, st, ro⟩ => ok v u s₁ e st ro (S.step fx.O st.ext)) fun x s₁ ⟨a, ev, e1, e2, st, ex⟩ => e1 ▸ err a ev s₁ e2 st ex

theorem bind_ne_none {α β : Type} {x : R α} {f : α → R β} (h : R.bind x f ≠ none) : x ≠ none := by intro q; subst q; exact h rfl
theorem bind_ok {α β : Type} {x : R α} {f : α → R β} {a : α} (e : x = some (.ok a)) : R.bind x f = f a := by subst e; rfl
theorem bind_err {α β : Type} {x : R α} {f : α → R β} {ev : V} (e : x = some (.error ev)) : R.bind x f = some (.error ev) := by subst e; rfl
theorem of_ne_none {α : Type} {x : Option α} (h : R.of x ≠ none) : ∃ a, x = some a := by cases x with | none => exact absurd rfl h | some a => exact ⟨a, rfl⟩

theorem ResOk.post {s s₁ s₂ : Shared} {v : V} {u : Value} {F : List Addr} (hF : FrNs F s.heap) (hF₁ : FrNs F s₁.heap) (x : Ext F s₁.heap s₂.heap) (h : ResOk g s s₁ v u) (hx : ∀ c y ec, v ≠ .exc c y ec) : ResOk g s s₂ v u := by
  have key : ∀ w : V, Rep s₁.heap w u → Rep s₂.heap w u := fun w r => Rep.ext hF₁ x.weak r
  match v, h, hx with
  | .none, h, _ => exact key .none h
  | .bool q, h, _ => exact key (.bool q) h
  | .int q, h, _ => exact key (.int q) h
  | .str q, h, _ => exact key (.str q) h
  | .tup q, h, _ => exact key (.tup q) h
  | .lst false q, h, _ => exact key (.lst false q) h
  | .lst true q, h, _ => exact ⟨key (.lst true q) h.1, h.2⟩
  | .dict kvs, h, _ =>
    obtain ⟨a, e, n, hs, f, ⟨o, es, ep, ho, hm⟩, hk⟩ := h
    refine ⟨a, e, n, hs, f, ⟨o, es, ep, (x a o ho).2 (hF.fresh n), hm⟩, fun k => ⟨fun y hy => ?_, (hk k).2⟩⟩
    obtain ⟨z, e1, e2⟩ := (hk k).1 y hy
    exact ⟨z, e1, e2.tups (x.weak.tups hF₁)⟩
  | .exc _ _ _, _, hx => exact absurd rfl (hx _ _ _)

/-- an expression reckoned from one part's value -/
theorem sim_un {pe pa : Expr} {ρ : Rho} {ra : R V} {op : Value → Sem Value} {f : V → R V}
    (rule : ∀ (Q E : Value → Shared → Prop) (s : Shared), wpAny g.M fx.A (eval pa fx.env) (fun u s₁ => wpAny g.M fx.A (op u) Q E s₁) E s → wpAny g.M fx.A (eval pe fx.env) Q E s)
    (ha : SimE fx pa ρ ra)
    (hop : ∀ (x : V) (u : Value) (s s₁ : Shared) (hE : Heap), f x ≠ none → fx.St hE s₁.heap ρ → ResOk g s s₁ x u → wpAny g.M fx.A (op u) (OkE g fx.F (f x) s₁) (ErrE g fx.F (f x) s₁) s₁) :
    SimE fx pe ρ (R.bind ra f) := by
  intro hr s hE S
  refine rule _ _ _ (ha.use (bind_ne_none hr) S (fun x u s₁ e st ro S₁ => ?_) fun a ev s₁ e st ex => ⟨a, ev, rfl, bind_err e, st, ex⟩)
  rw [bind_ok e] at hr ⊢
  exact wpAny_mono (hop x u s s₁ hE hr S₁ ro) (fun v s₂ ⟨z, e2, st2, ro2⟩ => ⟨z, e2, st.trans st2, ro2.pre st.ext⟩) fun x s₂ ⟨a, ev, e1, e2, st2, ex⟩ => ⟨a, ev, e1, e2, st.trans st2, ex.mono st.ext⟩

/-- from two parts' values -/
theorem sim_binT {pe pa pb : Expr} {ρ : Rho} {ra rb : R V} {T : Value → Value → (Value → Shared → Prop) → (Value → Shared → Prop) → Shared → Prop} {f : V → V → R V}
    (mono : ∀ u t Q E Q' E' s, T u t Q E s → (∀ v s', Q v s' → Q' v s') → (∀ v s', E v s' → E' v s') → T u t Q' E' s)
    (rule : ∀ (Q E : Value → Shared → Prop) (s : Shared), wpAny g.M fx.A (eval pa fx.env) (fun u s₁ => wpAny g.M fx.A (eval pb fx.env) (fun t s₂ => T u t Q E s₂) E s₁) E s → wpAny g.M fx.A (eval pe fx.env) Q E s)
    (ha : SimE fx pa ρ ra) (hb : SimE fx pb ρ rb) (hf : ∀ c x ec y, f (.exc c x ec) y = none)
    (hop : ∀ (x y : V) (u t : Value) (s s₂ : Shared) (hE : Heap), f x y ≠ none → fx.St hE s₂.heap ρ → ResOk g s s₂ x u → ResOk g s s₂ y t → T u t (OkE g fx.F (f x y) s₂) (ErrE g fx.F (f x y) s₂) s₂) :
    SimE fx pe ρ (R.bind ra fun x => R.bind rb fun y => f x y) := by
  intro hr s hE S
  refine rule _ _ _ (ha.use (bind_ne_none hr) S (fun x u s₁ e st ro S₁ => ?_) fun a ev s₁ e st ex => ⟨a, ev, rfl, bind_err e, st, ex⟩)
  rw [bind_ok e] at hr ⊢
  refine hb.use (bind_ne_none hr) S₁ (fun y t s₂ e' st' ro' S₂ => ?_) fun a ev s₂ e' st' ex => ⟨a, ev, rfl, bind_err e', st.trans st', ex.mono st.ext⟩
  rw [bind_ok e'] at hr ⊢
  have hx : ∀ c z ec, x ≠ .exc c z ec := fun c z ec q => by subst q; exact hr (hf _ _ _ _)
  exact mono _ _ _ _ _ _ _ (hop x y u t s s₂ hE hr S₂ (ro.post S.stk.ns S₁.stk.ns st'.ext hx) (ro'.pre st.ext)) (fun v s₃ ⟨z, e2, st2, ro2⟩ => ⟨z, e2, (st.trans st').trans st2, ro2.pre (st.trans st').ext⟩)
    fun x s₃ ⟨a, ev, e1, e2, st2, ex⟩ => ⟨a, ev, e1, e2, (st.trans st').trans st2, ex.mono (st.trans st').ext⟩
theorem sim_bin {pe pa pb : Expr} {ρ : Rho} {ra rb : R V} {op : Value → Value → Sem Value} {f : V → V → R V}
    (rule : ∀ (Q E : Value → Shared → Prop) (s : Shared), wpAny g.M fx.A (eval pa fx.env) (fun u s₁ => wpAny g.M fx.A (eval pb fx.env) (fun t s₂ => wpAny g.M fx.A (op u t) Q E s₂) E s₁) E s → wpAny g.M fx.A (eval pe fx.env) Q E s)
    (ha : SimE fx pa ρ ra) (hb : SimE fx pb ρ rb) (hf : ∀ c x ec y, f (.exc c x ec) y = none)
    (hop : ∀ (x y : V) (u t : Value) (s s₂ : Shared) (hE : Heap), f x y ≠ none → fx.St hE s₂.heap ρ → ResOk g s s₂ x u → ResOk g s s₂ y t → wpAny g.M fx.A (op u t) (OkE g fx.F (f x y) s₂) (ErrE g fx.F (f x y) s₂) s₂) :
    SimE fx pe ρ (R.bind ra fun x => R.bind rb fun y => f x y) :=
  sim_binT (T := fun u t Q E s => wpAny g.M fx.A (op u t) Q E s) (fun _ _ _ _ _ _ _ h h1 h2 => wpAny_mono h h1 h2) rule ha hb hf hop

/-- an end: a value at hand, the heap grown -/
theorem okE_of {r : R V} {s s' : Shared} {v : V} {u : Value} (e : r = some (.ok v)) (st : Step fx.F s s') (ro : ResOk g s s' v u) : OkE g fx.F r s u s' := ⟨v, e, st, ro⟩
end
end Mine
end
section
open PySem PySem.Calls PyProof.Rows PySem.SeqAt
namespace Mine

theorem small_bits {a : Int} (h : small a = true) : Builtin.Int.intBits a ≤ 4096 := by
  unfold small at h
  have h := of_decide_eq_true h
  unfold Builtin.Int.intBits
  split
  · (first | lia | omega)
  · rename_i hz
    have hz : a ≠ 0 := by simpa using hz
    have : a.natAbs.log2 < 4096 := (Nat.log2_lt (by (first | lia | omega))).mpr h
    (first | lia | omega)

section
variable {g : Gd} {fx : Fx g} {ρ : Rho}

theorem sim_var {i : Nat} {x : Str} {pos : Pos} (hx : fx.names[i]? = some x) (hd : (x == ("__debug__" : Str)) = false) : SimE fx (.Name x pos) ρ (R.of ((get ρ i).bind freeze)) := by
  intro hr s hE S
  obtain ⟨w, hw⟩ := of_ne_none hr
  rw [hw]
  cases hv : get ρ i with
  | none => rw [hv] at hw; cases hw
  | some v =>
    rw [hv] at hw
    have hw : freeze v = some w := hw
    refine wpAny_Name (load_ok fx.O S hv hx fun u r _ => ?_) hd
    refine ⟨w, rfl, .refl _ _, ResOk.of (r.freeze hw) ?_⟩
    intro vs q; subst q
    cases v <;> cases hw

theorem sim_none {k : Nat} {pos : Pos} : SimE fx (.Constant .none k pos) ρ (some (.ok .none)) := fun _ s _ _ => wpAny_Constant_none (okE_of rfl (.refl _ _) rfl)
theorem sim_bool {k : Nat} {b : Bool} {pos : Pos} : SimE fx (.Constant (.bool b) k pos) ρ (some (.ok (.bool b))) := fun _ s _ _ => wpAny_Constant_bool (okE_of rfl (.refl _ _) rfl)
theorem sim_int {k : Nat} {n : Int} {pos : Pos} : SimE fx (.Constant (.int n) k pos) ρ (some (.ok (.int n))) := fun _ s _ _ => wpAny_Constant_int (okE_of rfl .toks ⟨_, rfl⟩)
theorem sim_str {k : Nat} {x : Str} {pos : Pos} : SimE fx (.Constant (.str x) k pos) ρ (some (.ok (.str x))) := fun _ s _ _ => Constant_str (okE_of rfl .toks ⟨_, rfl⟩)

theorem isT_tuple {h : Heap} {a : Addr} {items : Array Value} {n : Nat} (e : IsT h a items n) : h.IsTuple a items := ⟨_, e, rfl, n, rfl⟩
theorem isT_tup {h : Heap} {a : Addr} {items : Array Value} {n : Nat} (e : IsT h a items n) : IsTup h a items := ⟨_, e, rfl, n, rfl⟩
theorem isL_list {h : Heap} {a : Addr} {items : Array Value} {n : Nat} (e : IsL h a items n) : h.IsList a items := ⟨_, e, rfl, n, rfl⟩
theorem sl_ge : (1000000 : Nat) ≤ sizeLine := by rw [sizeLine_eq]; (first | lia | omega)

theorem arithI_ok {op : AOp} {a b : Int} {z : V} {ta tb : Nat} {s₀ s : Shared} (h : arithI op a b = some z) :
    wpAny g.M fx.A (binaryOp (aop op) (.int a ta) (.int b tb)) (OkE g fx.F (some (.ok z)) s) (ErrE g fx.F (some (.ok z)) s) s := by
  cases op with
  | add => cases h; exact add_int (okE_of rfl .toks ⟨_, rfl⟩)
  | sub => cases h; exact sub_int (okE_of rfl .toks ⟨_, rfl⟩)
  | band => cases h; exact and_int (okE_of rfl .toks ⟨_, rfl⟩)
  | bor => cases h; exact or_int (okE_of rfl .toks ⟨_, rfl⟩)
  | bxor => cases h; exact xor_int (okE_of rfl .toks ⟨_, rfl⟩)
  | mul =>
    obtain ⟨hs, rfl⟩ := ite_some h
    rw [Bool.and_eq_true] at hs
    have h1 := small_bits hs.1; have h2 := small_bits hs.2
    exact PyProof.Rows.mul_int (okE_of rfl .toks ⟨_, rfl⟩) (IntMulOk.of_bits (by (first | lia | omega)) (by (first | lia | omega)))
  | fdiv =>
    obtain ⟨hs, rfl⟩ := ite_some' h
    exact floordiv_int (fun q => hs (.inl q)) (okE_of rfl .toks ⟨_, rfl⟩) (.inl (by cases q : Builtin.divisionGoesByPylong a b with | false => rfl | true => exact absurd (.inr q) hs))
  | mod =>
    obtain ⟨hs, rfl⟩ := ite_some' h
    exact mod_int' hs (okE_of rfl .toks ⟨_, rfl⟩)
  | pow =>
    obtain ⟨hs, rfl⟩ := ite_some h
    have h1 := small_bits hs.2.2
    refine PyProof.Rows.pow_int hs.1 ?_ (okE_of rfl .toks ⟨_, rfl⟩)
    have : ((Builtin.Int.intBits a : Nat) : Int) * b ≤ 4096 * 1000 := Int.mul_le_mul (by (first | lia | omega)) hs.2.1 hs.1 (by (first | lia | omega))
    (first | lia | omega)
  | shl =>
    obtain ⟨hs, rfl⟩ := ite_some h
    have h1 := small_bits hs.2.2
    exact PyProof.Rows.lshift_int hs.1 (by (first | lia | omega)) (okE_of rfl .toks ⟨_, rfl⟩)
  | shr =>
    obtain ⟨hs, rfl⟩ := ite_some h
    exact PyProof.Rows.rshift_int hs (okE_of rfl .toks ⟨_, rfl⟩)
theorem addT_ok {a b : List V} {u t : Value} {s₀ s : Shared} {hE : Heap} (S : fx.St hE s.heap ρ) (hl : a.length + b.length ≤ 1000000) (rx : RepI s.heap (.tup a) u) (ry : RepI s.heap (.tup b) t) :
    wpAny g.M fx.A (binaryOp .Add u t) (OkE g fx.F (some (.ok (.tup (a ++ b)))) s) (ErrE g fx.F (some (.ok (.tup (a ++ b)))) s) s := by
  obtain ⟨p, ip, np, rfl, hp, rp⟩ := rx
  obtain ⟨q, iq, nq, rfl, hq, rq⟩ := ry
  have l1 := rp.length; have l2 := rq.length
  simp only [Array.length_toList] at l1 l2
  obtain ⟨m, cm, val, V⟩ := S.vars
  have Fr0 : Fr {} fx.env.locals s.heap m := ⟨V.ns, (fun b o e => by simp [Heap.get?] at e), Nat.zero_le _⟩
  by_cases e1 : ip.isEmpty = true
  · have n1 : ip = #[] := by simpa using e1
    subst n1
    have : a = [] := List.length_eq_zero_iff.mp (by simpa using l1.symm)
    subst this
    exact add_tuples (vs := []) (ws := iq.toList) Fr0 News.nil (isT_tup hp) (by simpa using isT_tup hq) (fun _ => okE_of rfl (.refl _ _) ⟨_, _, _, rfl, hq, by simpa using rq⟩) (fun q _ => absurd rfl q) (fun q => absurd rfl q) (by have := sl_ge; simp only [Array.length_toList]; (first | lia | omega))
  · by_cases e2 : iq.isEmpty = true
    · have n2 : iq = #[] := by simpa using e2
      subst n2
      have : b = [] := List.length_eq_zero_iff.mp (by simpa using l2.symm)
      subst this
      refine add_tuples (vs := ip.toList) (ws := []) Fr0 News.nil (by simpa using isT_tup hp) (isT_tup hq) (fun q => ?_) (fun _ _ => okE_of rfl (.refl _ _) ⟨_, _, _, rfl, hp, by simpa using rp⟩) (fun _ q => absurd rfl q) (by have := sl_ge; simp only [Array.length_toList]; (first | lia | omega))
      exact absurd (by simpa using q) e1
    · refine P.add_tuple hp hq e1 e2 (okE_of rfl .push ⟨_, ip ++ iq, 0, rfl, IsT.new _ _, ?_⟩) (by have := sl_ge; (first | lia | omega))
      rw [Array.toList_append]
      exact (rp.append rq).tups fun b i n e => Heap.get?_push_of_some _ e
theorem addL_ok {o1 o2 : Bool} {a b : List V} {u t : Value} {s₀ s : Shared} {hE : Heap} (S : fx.St hE s.heap ρ) (hl : a.length + b.length ≤ 1000000) (rx : Rep s.heap (.lst o1 a) u) (ry : Rep s.heap (.lst o2 b) t) :
    wpAny g.M fx.A (binaryOp .Add u t) (OkE g fx.F (some (.ok (.lst true (a ++ b)))) s) (ErrE g fx.F (some (.ok (.lst true (a ++ b)))) s) s := by
  obtain ⟨p, ip, np, rfl, hp, rp⟩ := rx
  obtain ⟨q, iq, nq, rfl, hq, rq⟩ := ry
  have l1 := rp.length; have l2 := rq.length
  simp only [Array.length_toList] at l1 l2
  refine P.add_list hp hq (okE_of rfl .push ⟨⟨_, ip ++ iq, 0, rfl, IsL.new _ _, ?_⟩, fun a e => ?_⟩) (by have := sl_ge; (first | lia | omega))
  · rw [Array.toList_append]
    exact (rp.append rq).tups fun b i n e => Heap.get?_push_of_some _ e
  · cases e; exact Heap.get?_none_of_le (Nat.le_refl _)
theorem isAdd_of {op : AOp} (h : isAdd op = true) : op = .add := by cases op <;> first | rfl | cases h
theorem arith_ok {op : AOp} {x y z : V} {u t : Value} {s₀ s : Shared} {hE : Heap} (S : fx.St hE s.heap ρ) (h : arith op x y = some z) (rx : ResOk g s₀ s x u) (ry : ResOk g s₀ s y t) :
    wpAny g.M fx.A (binaryOp (aop op) u t) (OkE g fx.F (some (.ok z)) s) (ErrE g fx.F (some (.ok z)) s) s := by
  cases x with
  | int a =>
    obtain ⟨b, hb, h⟩ := Option.bind_eq_some_iff.mp h
    cases theInt_of hb
    obtain ⟨ta, rfl⟩ := rx; obtain ⟨tb, rfl⟩ := ry
    exact arithI_ok (s₀ := s₀) h
  | str a =>
    obtain ⟨b, hb, h⟩ := Option.bind_eq_some_iff.mp h
    cases theStr_of hb
    obtain ⟨ho, h⟩ := ite_opt h
    obtain ⟨hl, rfl⟩ := ite_some h
    cases isAdd_of ho
    obtain ⟨ta, rfl⟩ := rx; obtain ⟨tb, rfl⟩ := ry
    exact add_str (fun t' tk => okE_of rfl .toks ⟨_, rfl⟩) (by rw [← Str.length_append]; exact hl)
  | tup a =>
    obtain ⟨b, hb, h⟩ := Option.bind_eq_some_iff.mp h
    cases theTup_of hb
    obtain ⟨ho, h⟩ := ite_opt h
    obtain ⟨hl, rfl⟩ := ite_some h
    cases isAdd_of ho
    exact addT_ok (s₀ := s₀) S hl rx ry
  | lst o a =>
    obtain ⟨b, hb, h⟩ := Option.bind_eq_some_iff.mp h
    obtain ⟨o2, rfl⟩ := theLst_of hb
    obtain ⟨ho, h⟩ := ite_opt h
    obtain ⟨hl, rfl⟩ := ite_some h
    cases isAdd_of ho
    exact addL_ok (s₀ := s₀) S hl (rx.rep rfl) (ry.rep rfl)
  | _ => cases h

theorem sim_arith {pa pb : Expr} {op : AOp} {pos : Pos} {ra rb : R V} (ha : SimE fx pa ρ ra) (hb : SimE fx pb ρ rb) :
    SimE fx (.BinOp pa (aop op) pb pos) ρ (R.bind ra fun x => R.bind rb fun y => R.of (arith op x y)) := by
  refine sim_bin (op := fun u t => binaryOp (aop op) u t) (fun Q E s h => wpAny_BinOp h) ha hb (fun c x ec y => ?_) fun x y u t s s₂ hE hr S rx ry => ?_
  · cases op <;> rfl
  · obtain ⟨z, hz⟩ := of_ne_none hr
    rw [hz]
    exact arith_ok S hz rx ry
end
end Mine
end
section
open PySem PySem.Calls PyProof.Rows PySem.SeqAt
namespace Mine

theorem cLine9 : cLine = 9900 := rfl

section
variable {g : Gd} {fx : Fx g} {ρ : Rho}

theorem truth_ok {x : V} {b : Bool} {u : Value} {s₀ s : Shared} {Q : Bool → Shared → Prop} {E : Value → Shared → Prop} (h : truth x = some b) (rx : ResOk g s₀ s x u)
    (k : ∀ s', Step fx.F s s' → Q b s') : wpAny g.M fx.A (truthy u) Q E s := by
  unfold truth at h
  split at h <;> first | (cases h; done) | skip
  · cases h
    have : u = .bool b := rx
    subst this
    exact wpAny_truthy_bool (k _ (.refl _ _))
  · rename_i o vs
    split at h
    · cases h; rename_i hl
      obtain ⟨a, items, n, rfl, hi, r⟩ : Rep s.heap (.lst o vs) u := rx.rep rfl
      have l := r.length
      simp only [Array.length_toList] at l
      have e : (!items.isEmpty) = !vs.isEmpty := by
        cases vs with
        | nil => have : items = #[] := Array.eq_empty_of_size_eq_zero (by simpa using l)
                 subst this; rfl
        | cons v vs => have : items.size ≠ 0 := by rw [l]; simp
                       have q : items ≠ #[] := fun q => this (by rw [q]; rfl)
                       simp [q]
      refine wpAny_truthy_list (isL_list hi) (by (first | lia | omega)) ?_
      rw [e]
      exact k _ .toks
    · cases h

theorem sim_not {pa : Expr} {pos : Pos} {ra : R V} (ha : SimE fx pa ρ ra) : SimE fx (.UnaryOp .Not pa pos) ρ (R.bind ra fun x => R.of ((truth x).map fun b => .bool (!b))) := by
  refine sim_un (op := fun u => unaryOp .Not u) (fun Q E s h => wpAny_UnaryOp h) ha fun x u s s₁ hE hr S rx => ?_
  obtain ⟨z, hz⟩ := of_ne_none hr
  cases hb : truth x with
  | none => rw [hb] at hz; cases hz
  | some b =>
    rw [hb] at hz
    refine not_of (truth_ok hb rx fun s' st => ?_)
    exact okE_of (v := .bool (!b)) rfl st rfl
theorem isInt_ok {x : V} {n : Int} (h : isInt x = some n) : x = .int n := theInt_of h
theorem sim_neg {pa : Expr} {pos : Pos} {ra : R V} (ha : SimE fx pa ρ ra) : SimE fx (.UnaryOp .USub pa pos) ρ (R.bind ra fun x => R.of ((isInt x).map fun n => .int (-n))) := by
  refine sim_un (op := fun u => unaryOp .USub u) (fun Q E s h => wpAny_UnaryOp h) ha fun x u s s₁ hE hr S rx => ?_
  obtain ⟨z, hz⟩ := of_ne_none hr
  cases hb : isInt x with
  | none => rw [hb] at hz; cases hz
  | some n =>
    have := isInt_ok hb; subst this
    obtain ⟨t, rfl⟩ := rx
    exact neg_int (okE_of rfl .toks ⟨_, rfl⟩)
theorem sim_inv {pa : Expr} {pos : Pos} {ra : R V} (ha : SimE fx pa ρ ra) : SimE fx (.UnaryOp .Invert pa pos) ρ (R.bind ra fun x => R.of ((isInt x).map fun n => .int (Builtin.bitNot n))) := by
  refine sim_un (op := fun u => unaryOp .Invert u) (fun Q E s h => wpAny_UnaryOp h) ha fun x u s s₁ hE hr S rx => ?_
  obtain ⟨z, hz⟩ := of_ne_none hr
  cases hb : isInt x with
  | none => rw [hb] at hz; cases hz
  | some n =>
    have := isInt_ok hb; subst this
    obtain ⟨t, rfl⟩ := rx
    exact invert_int (okE_of rfl .toks ⟨_, rfl⟩)

/-- the walk of any tree -/
noncomputable def SimT (fx : Fx g) (t : Sem Value) (ρ : Rho) (r : R V) : Prop :=
  r ≠ none → ∀ (s : Shared) (hE : Heap), fx.St hE s.heap ρ → wpAny g.M fx.A t (OkE g fx.F r s) (ErrE g fx.F r s) s
/-- of a test -/
noncomputable def SimC (fx : Fx g) (t : Sem Bool) (ρ : Rho) (r : R V) : Prop :=
  r ≠ none → (∀ v, r = some (.ok v) → truth v ≠ none) → ∀ (s : Shared) (hE : Heap), fx.St hE s.heap ρ →
    wpAny g.M fx.A t (fun b s' => ∃ v, r = some (.ok v) ∧ truth v = some b ∧ Step fx.F s s') (ErrE g fx.F r s) s

theorem SimT.use {t : Sem Value} {r : R V} {s : Shared} {hE : Heap} {Q E : Value → Shared → Prop} (h : SimT fx t ρ r) (hr : r ≠ none) (S : fx.St hE s.heap ρ)
    (ok : ∀ v u s₁, r = some (.ok v) → Step fx.F s s₁ → ResOk g s s₁ v u → fx.St hE s₁.heap ρ → Q u s₁)
    (err : ∀ a ev s₁, r = some (.error ev) → Step fx.F s s₁ → ExcAt g.C false s.heap s₁.heap a ev → E (.ref a) s₁) : wpAny g.M fx.A t Q E s :=
  wpAny_mono (h hr s hE S) (fun u s₁ ⟨v, e, st, ro⟩ => ok v u s₁ e st ro (S.step fx.O st.ext)) fun x s₁ ⟨a, ev, e1, e2, st, ex⟩ => e1 ▸ err a ev s₁ e2 st ex
theorem SimC.use {t : Sem Bool} {r : R V} {s : Shared} {hE : Heap} {Q : Bool → Shared → Prop} {E : Value → Shared → Prop} (h : SimC fx t ρ r) (hr : r ≠ none) (ht : ∀ v, r = some (.ok v) → truth v ≠ none) (S : fx.St hE s.heap ρ)
    (ok : ∀ v b s₁, r = some (.ok v) → truth v = some b → Step fx.F s s₁ → fx.St hE s₁.heap ρ → Q b s₁)
    (err : ∀ a ev s₁, r = some (.error ev) → Step fx.F s s₁ → ExcAt g.C false s.heap s₁.heap a ev → E (.ref a) s₁) : wpAny g.M fx.A t Q E s :=
  wpAny_mono (h hr ht s hE S) (fun u s₁ ⟨v, e, tr, st⟩ => ok v u s₁ e tr st (S.step fx.O st.ext)) fun x s₁ ⟨a, ev, e1, e2, st, ex⟩ => e1 ▸ err a ev s₁ e2 st ex

theorem sim_boolOp_one {pos : Pos} {o : BoolOp} {t : Sem Value} {r : R V} (h : SimT fx t ρ r) : SimT fx (boolOp pos o [t]) ρ r := h
theorem sim_and_cons {pos : Pos} {t t' : Sem Value} {rest : List (Sem Value)} {r r' : R V} (h : SimT fx t ρ r) (h' : SimT fx (boolOp pos .And (t' :: rest)) ρ r') :
    SimT fx (boolOp pos .And (t :: t' :: rest)) ρ (R.bind r fun x => match truth x with | some true => r' | some false => some (.ok x) | none => none) := by
  intro hr s hE S
  rw [show boolOp pos .And (t :: t' :: rest) = (do
    let v ← t
    standAt pos
    let c ← holding [v] (truthy v)
    match BoolOp.And, c with
    | .And, false | .Or, true => pure v
    | _, _ => boolOp pos .And (t' :: rest)) from rfl]
  refine wpAny_bind (h.use (bind_ne_none hr) S (fun x u s₁ e st ro S₁ => ?_) fun a ev s₁ e st ex => ⟨a, ev, rfl, bind_err e, st, ex⟩)
  rw [bind_ok e] at hr ⊢
  refine wpAny_bind (wpAny_standAt (wpAny_bind (wpAny_holding ?_)))
  cases hb : truth x with
  | none => rw [hb] at hr; exact absurd rfl hr
  | some b =>
    refine truth_ok (fx := fx) hb ro fun s₂ st₂ => ?_
    rw [hb] at hr
    cases b with
    | false =>
      have : u = u := rfl
      refine wpAny_pure (okE_of rfl (st.trans st₂) ?_)
      by_cases hx : ∃ c y ec, x = .exc c y ec
      · obtain ⟨c, y, ec, rfl⟩ := hx; cases hb
      · exact (ro.post S.stk.ns S₁.stk.ns st₂.ext fun c y ec q => hx ⟨c, y, ec, q⟩)
    | true =>
      refine wpAny_mono (h' hr s₂ hE (S₁.step fx.O st₂.ext)) (fun v s₃ ⟨z, e2, st3, ro2⟩ => ⟨z, e2, (st.trans st₂).trans st3, ro2.pre (st.trans st₂).ext⟩)
        fun x s₃ ⟨a, ev, e1, e2, st3, ex⟩ => ⟨a, ev, e1, e2, (st.trans st₂).trans st3, ex.mono (st.trans st₂).ext⟩
theorem sim_or_cons {pos : Pos} {t t' : Sem Value} {rest : List (Sem Value)} {r r' : R V} (h : SimT fx t ρ r) (h' : SimT fx (boolOp pos .Or (t' :: rest)) ρ r') :
    SimT fx (boolOp pos .Or (t :: t' :: rest)) ρ (R.bind r fun x => match truth x with | some true => some (.ok x) | some false => r' | none => none) := by
  intro hr s hE S
  rw [show boolOp pos .Or (t :: t' :: rest) = (do
    let v ← t
    standAt pos
    let c ← holding [v] (truthy v)
    match BoolOp.Or, c with
    | .And, false | .Or, true => pure v
    | _, _ => boolOp pos .Or (t' :: rest)) from rfl]
  refine wpAny_bind (h.use (bind_ne_none hr) S (fun x u s₁ e st ro S₁ => ?_) fun a ev s₁ e st ex => ⟨a, ev, rfl, bind_err e, st, ex⟩)
  rw [bind_ok e] at hr ⊢
  refine wpAny_bind (wpAny_standAt (wpAny_bind (wpAny_holding ?_)))
  cases hb : truth x with
  | none => rw [hb] at hr; exact absurd rfl hr
  | some b =>
    refine truth_ok (fx := fx) hb ro fun s₂ st₂ => ?_
    rw [hb] at hr
    cases b with
    | true =>
      refine wpAny_pure (okE_of rfl (st.trans st₂) ?_)
      by_cases hx : ∃ c y ec, x = .exc c y ec
      · obtain ⟨c, y, ec, rfl⟩ := hx; cases hb
      · exact (ro.post S.stk.ns S₁.stk.ns st₂.ext fun c y ec q => hx ⟨c, y, ec, q⟩)
    | false =>
      refine wpAny_mono (h' hr s₂ hE (S₁.step fx.O st₂.ext)) (fun v s₃ ⟨z, e2, st3, ro2⟩ => ⟨z, e2, (st.trans st₂).trans st3, ro2.pre (st.trans st₂).ext⟩)
        fun x s₃ ⟨a, ev, e1, e2, st3, ex⟩ => ⟨a, ev, e1, e2, (st.trans st₂).trans st3, ex.mono (st.trans st₂).ext⟩
theorem sim_boolOp {op : BoolOp} {values : List Expr} {pos : Pos} {r : R V} (h : SimT fx (boolOp pos op (evalEach values fx.env)) ρ r) : SimE fx (.BoolOp op values pos) ρ r := h

/- tests -/
theorem simC_value {pe : Expr} {r : R V} (h : SimE fx pe ρ r) (hs : isTrue pe fx.env (eval pe fx.env) = (do let v ← eval pe fx.env; standAt pe.pos; holding [v] (truthy v))) :
    SimC fx (isTrue pe fx.env (eval pe fx.env)) ρ r := by
  intro hr ht s hE S
  refine wpAny_isTrue_value (h.use hr S (fun x u s₁ e st ro S₁ => ?_) fun a ev s₁ e st ex => ⟨a, ev, rfl, e, st, ex⟩) hs
  cases hb : truth x with
  | none => exact absurd hb (ht x e)
  | some b => exact truth_ok (fx := fx) hb ro fun s₂ st₂ => ⟨x, e, hb, st.trans st₂⟩
theorem simC_not {pa : Expr} {pos : Pos} {whole : Sem Value} {ra : R V} (h : SimC fx (isTrue pa fx.env (eval pa fx.env)) ρ ra) :
    SimC fx (isTrue (.UnaryOp .Not pa pos) fx.env whole) ρ (R.bind ra fun x => R.of ((truth x).map fun b => .bool (!b))) := by
  intro hr ht s hE S
  refine wpAny_isTrue_Not (h.use (bind_ne_none hr) (fun v e => ?_) S (fun v b s₁ e hb st S₁ => ?_) fun a ev s₁ e st ex => ⟨a, ev, rfl, bind_err e, st, ex⟩)
  · rw [bind_ok e] at hr; intro q; rw [q] at hr; exact hr rfl
  · rw [bind_ok e, hb]
    exact ⟨.bool (!b), rfl, rfl, st⟩
theorem simC_and_nil : SimC fx (allTrue .And [] fx.env) ρ (some (.ok (.bool true))) := fun _ _ s _ _ => wpAny_allTrue_And_nil ⟨_, rfl, rfl, .refl _ _⟩
theorem simC_and_one {pe : Expr} {r : R V} (h : SimC fx (isTrue pe fx.env (eval pe fx.env)) ρ r) : SimC fx (allTrue .And [pe] fx.env) ρ r := by
  intro hr ht s hE S
  refine wpAny_allTrue_And_cons (h.use hr ht S (fun v b s₁ e hb st S₁ => ?_) fun a ev s₁ e st ex => ⟨a, ev, rfl, e, st, ex⟩)
  cases b with
  | true => rw [if_pos rfl]; exact wpAny_allTrue_And_nil ⟨v, e, hb, st⟩
  | false => rw [if_neg (by decide)]; exact ⟨v, e, hb, st⟩
theorem simC_and_cons {pe : Expr} {rest : List Expr} {r r' : R V} (h : SimC fx (isTrue pe fx.env (eval pe fx.env)) ρ r) (h' : SimC fx (allTrue .And rest fx.env) ρ r') :
    SimC fx (allTrue .And (pe :: rest) fx.env) ρ (R.bind r fun x => match truth x with | some true => r' | some false => some (.ok x) | none => none) := by
  intro hr ht s hE S
  refine wpAny_allTrue_And_cons (h.use (bind_ne_none hr) (fun v e q => ?_) S (fun v b s₁ e hb st S₁ => ?_) fun a ev s₁ e st ex => ⟨a, ev, rfl, bind_err e, st, ex⟩)
  · rw [bind_ok e, q] at hr; exact hr rfl
  rw [bind_ok e, hb] at hr ht ⊢
  cases b with
  | true =>
    rw [if_pos rfl]
    exact wpAny_mono (h' hr ht s₁ hE S₁) (fun c s₂ ⟨v, e, tr, st2⟩ => ⟨v, e, tr, st.trans st2⟩) fun x s₂ ⟨a, ev, e1, e2, st2, ex⟩ => ⟨a, ev, e1, e2, st.trans st2, ex.mono st.ext⟩
  | false => rw [if_neg (by decide)]; exact ⟨v, rfl, hb, st⟩
theorem simC_or_one {pe : Expr} {r : R V} (h : SimC fx (isTrue pe fx.env (eval pe fx.env)) ρ r) : SimC fx (allTrue .Or [pe] fx.env) ρ r := by
  intro hr ht s hE S
  refine wpAny_allTrue_Or_cons (h.use hr ht S (fun v b s₁ e hb st S₁ => ?_) fun a ev s₁ e st ex => ⟨a, ev, rfl, e, st, ex⟩)
  cases b with
  | false => rw [if_neg (by decide)]; exact wpAny_allTrue_Or_nil ⟨v, e, hb, st⟩
  | true => rw [if_pos rfl]; exact ⟨v, e, hb, st⟩
theorem simC_or_cons {pe : Expr} {rest : List Expr} {r r' : R V} (h : SimC fx (isTrue pe fx.env (eval pe fx.env)) ρ r) (h' : SimC fx (allTrue .Or rest fx.env) ρ r') :
    SimC fx (allTrue .Or (pe :: rest) fx.env) ρ (R.bind r fun x => match truth x with | some true => some (.ok x) | some false => r' | none => none) := by
  intro hr ht s hE S
  refine wpAny_allTrue_Or_cons (h.use (bind_ne_none hr) (fun v e q => ?_) S (fun v b s₁ e hb st S₁ => ?_) fun a ev s₁ e st ex => ⟨a, ev, rfl, bind_err e, st, ex⟩)
  · rw [bind_ok e, q] at hr; exact hr rfl
  rw [bind_ok e, hb] at hr ht ⊢
  cases b with
  | false =>
    rw [if_neg (by decide)]
    exact wpAny_mono (h' hr ht s₁ hE S₁) (fun c s₂ ⟨v, e, tr, st2⟩ => ⟨v, e, tr, st.trans st2⟩) fun x s₂ ⟨a, ev, e1, e2, st2, ex⟩ => ⟨a, ev, e1, e2, st.trans st2, ex.mono st.ext⟩
  | true => rw [if_pos rfl]; exact ⟨v, rfl, hb, st⟩
theorem simC_boolOp {op : BoolOp} {values : List Expr} {pos : Pos} {whole : Sem Value} {r : R V} (h : SimC fx (allTrue op values fx.env) ρ r) : SimC fx (isTrue (.BoolOp op values pos) fx.env whole) ρ r :=
  fun hr ht s hE S => wpAny_isTrue_BoolOp (h hr ht s hE S)

theorem sim_ite {pc pa pb : Expr} {pos : Pos} {rc ra rb : R V} (hc : SimC fx (isTrue pc fx.env (eval pc fx.env)) ρ rc) (ha : SimE fx pa ρ ra) (hb : SimE fx pb ρ rb) :
    SimE fx (.IfExp pc pa pb pos) ρ (R.bind rc fun x => match truth x with | some true => ra | some false => rb | none => none) := by
  intro hr s hE S
  refine wpAny_IfExp (hc.use (bind_ne_none hr) (fun v e q => ?_) S (fun v b s₁ e hb' st S₁ => ?_) fun a ev s₁ e st ex => ⟨a, ev, rfl, bind_err e, st, ex⟩)
  · rw [bind_ok e, q] at hr; exact hr rfl
  rw [bind_ok e, hb'] at hr ⊢
  have fin : ∀ {pe : Expr} {r : R V}, SimE fx pe ρ r → r ≠ none → wpAny g.M fx.A (eval pe fx.env) (OkE g fx.F r s) (ErrE g fx.F r s) s₁ := fun h hr =>
    wpAny_mono (h hr s₁ hE S₁) (fun v s₃ ⟨z, e2, st3, ro2⟩ => ⟨z, e2, st.trans st3, ro2.pre st.ext⟩) fun x s₃ ⟨a, ev, e1, e2, st3, ex⟩ => ⟨a, ev, e1, e2, st.trans st3, ex.mono st.ext⟩
  cases b with
  | true => rw [if_pos rfl]; exact fin ha hr
  | false => rw [if_neg (by decide)]; exact fin hb hr
end
end Mine
end
section
open PySem PySem.Calls PyProof.Rows PySem.SeqAt
set_option genInjectivity false
set_option genSizeOf false
namespace Mine

mutual
theorem RepI.inj {h : Heap} : ∀ {v w : V} {u : Value}, RepI h v u → RepI h w u → v = w
  | .none, w, u, r, q => by
    have : u = .none := r
    subst this
    cases w <;> first | rfl | (exfalso; revert q; simp [RepI]; done)
  | .bool b, w, u, r, q => by
    have : u = .bool b := r
    subst this
    cases w <;> first | (simp [RepI] at q; rw [q]; done) | (exfalso; revert q; simp [RepI]; done)
  | .int b, w, u, r, q => by
    obtain ⟨t, rfl⟩ : ∃ t, u = .int b t := r
    cases w <;> first | (simp [RepI] at q; rw [q]; done) | (exfalso; revert q; simp [RepI]; done)
  | .str b, w, u, r, q => by
    obtain ⟨t, rfl⟩ : ∃ t, u = .str b t := r
    cases w <;> first | (simp [RepI] at q; rw [q]; done) | (exfalso; revert q; simp [RepI]; done)
  | .tup vs, w, u, r, q => by
    unfold RepI at r
    obtain ⟨a, items, n, rfl, ht, r⟩ := r
    cases w <;> first | (exfalso; revert q; simp [RepI]; done) | skip
    rename_i ws
    unfold RepI at q
    obtain ⟨a', items', n', e, ht', q⟩ := q
    cases e
    rw [IsT, ht] at ht'
    cases ht'
    rw [RepL.inj r q]
  | .lst _ _, _, _, r, _ => by unfold RepI at r; exact r.elim
  | .dict _, _, _, r, _ => by unfold RepI at r; exact r.elim
  | .exc _ _ _, _, _, r, _ => by unfold RepI at r; exact r.elim
theorem RepL.inj {h : Heap} : ∀ {vs ws : List V} {us : List Value}, RepL h vs us → RepL h ws us → vs = ws
  | [], ws, us, r, q => by
    unfold RepL at r; subst r
    cases ws with
    | nil => rfl
    | cons => unfold RepL at q; obtain ⟨_, _, e, _⟩ := q; cases e
  | v :: vs, ws, us, r, q => by
    unfold RepL at r
    obtain ⟨y, ys, rfl, r1, r2⟩ := r
    cases ws with
    | nil => unfold RepL at q; cases q
    | cons => unfold RepL at q; obtain ⟨_, _, e, q1, q2⟩ := q; cases e; rw [RepI.inj r1 q1, RepL.inj r2 q2]
end

mutual
theorem veq_self : ∀ (v : V) (b : Bool), veq v v = some b → b = true
  | .none, b, h => (Option.some.inj h).symm
  | .bool a, b, h => (Option.some.inj h).symm.trans (beq_self_eq_true a)
  | .int a, b, h => (Option.some.inj h).symm.trans (beq_self_eq_true a)
  | .str a, b, h => (Option.some.inj h).symm.trans (beq_self_eq_true a)
  | .tup vs, b, h => veqL_self vs b h
  | .lst _ _, b, h => by cases h
  | .dict _, b, h => by cases h
  | .exc _ _ _, b, h => by cases h
theorem veqL_self : ∀ (vs : List V) (b : Bool), veqL vs vs = some b → b = true
  | [], b, h => (Option.some.inj h).symm
  | v :: vs, b, h => by
    obtain ⟨x, h1, h⟩ := Option.bind_eq_some_iff.mp h
    obtain ⟨y, h2, rfl⟩ := Option.map_eq_some_iff.mp h
    rw [veq_self v _ h1, veqL_self vs _ h2]; rfl
end

/-- item by item, as far as both go -/
theorem veqL_items : ∀ (as bs : List V) (r : Bool), veqL as bs = some r →
    ∃ e : Nat → Bool, (∀ (j : Nat) (a b : V), as[j]? = some a → bs[j]? = some b → veq a b = some (e j)) ∧ ((List.range (min as.length bs.length)).all e && (as.length == bs.length)) = r
  | [], [], r, h => ⟨fun _ => true, by simp, by cases Option.some.inj h; rfl⟩
  | [], b :: bs, r, h => ⟨fun _ => true, by simp, by cases Option.some.inj h; rfl⟩
  | a :: as, [], r, h => ⟨fun _ => true, by simp, by cases Option.some.inj h; rfl⟩
  | a :: as, b :: bs, r, h => by
    · obtain ⟨x, h1, h⟩ := Option.bind_eq_some_iff.mp h
      obtain ⟨y, h2, rfl⟩ := Option.map_eq_some_iff.mp h
      obtain ⟨e, he, hr⟩ := veqL_items as bs y h2
      refine ⟨fun j => match j with | 0 => x | j + 1 => e j, fun j a' b' ha hb => ?_, ?_⟩
      · cases j with
        | zero => simp at ha hb; subst ha; subst hb; exact h1
        | succ j => simp at ha hb; exact he j a' b' ha hb
      · rw [← hr]
        simp only [List.length_cons, Nat.add_min_add_right, List.range_succ_eq_map, List.all_cons, List.all_map]
        have : ((fun j => match j with | 0 => x | j + 1 => e j) ∘ Nat.succ : Nat → Bool) = e := by funext j; rfl
        rw [this]
        cases x <;> simp

theorem vdepth_mem {vs : List V} {v : V} : v ∈ vs → vdepth v ≤ vdepthL vs := by
  induction vs with
  | nil => intro h; cases h
  | cons w ws ih =>
    intro h
    simp only [vdepthL]
    rcases List.mem_cons.mp h with rfl | h
    · (first | lia | omega)
    · have := ih h; (first | lia | omega)

inductive VeqS : V → V → Bool → Prop
  | none : VeqS .none .none true
  | bool (a b) : VeqS (.bool a) (.bool b) (a == b)
  | int (a b) : VeqS (.int a) (.int b) (a == b)
  | str (a b) : VeqS (.str a) (.str b) (a == b)
  | is (a b) : VeqS (.int a) (.str b) false
  | si (a b) : VeqS (.str a) (.int b) false
  | ts (a b) : VeqS (.tup a) (.str b) false
  | st (a b) : VeqS (.str a) (.tup b) false
  | tup (a b r) (h : veqL a b = some r) : VeqS (.tup a) (.tup b) r
theorem veq_inv {a b : V} {r : Bool} (h : veq a b = some r) : VeqS a b r := by
  cases a <;> cases b <;> first | (cases h; done) | exact .tup _ _ _ h | (cases Option.some.inj h; constructor)
theorem eqAt_ok : ∀ (n : Nat) {A : Around} {s : Shared} {a b : V} {u t : Value} {r : Bool}, vdepth a ≤ n → A.units + n < cLine → veq a b = some r → RepI s.heap a u → RepI s.heap b t → EqAt A s u t r := by
  intro n
  induction n with
  | zero =>
    intro A s a b u t r hd hu h ra rb
    cases veq_inv h
    · cases h; cases ra; cases rb; exact EqAt.same _
    · cases h; cases ra; cases rb; exact EqAt.bool_bool _ _
    · cases h; obtain ⟨t1, rfl⟩ := ra; obtain ⟨t2, rfl⟩ := rb; exact EqAt.int_int _ _ _ _
    · cases h; obtain ⟨t1, rfl⟩ := ra; obtain ⟨t2, rfl⟩ := rb; exact EqAt.str_str _ _ _ _
    · cases h; obtain ⟨t1, rfl⟩ := ra; obtain ⟨t2, rfl⟩ := rb; exact EqAt.int_str _ _ _ _
    · cases h; obtain ⟨t1, rfl⟩ := ra; obtain ⟨t2, rfl⟩ := rb; exact EqAt.str_int _ _ _ _
    · simp [vdepth] at hd
    · cases h; obtain ⟨t1, rfl⟩ := ra
      obtain ⟨p, ip, np, rfl, hp, rp⟩ : RepI s.heap (.tup _) t := rb
      exact EqAt.str_tuple _ _ (isT_tuple hp) (by (first | lia | omega))
    · simp [vdepth] at hd
  | succ n ih =>
    intro A s a b u t r hd hu h ra rb
    have h0 := h
    cases veq_inv h
    · cases h; cases ra; cases rb; exact EqAt.same _
    · cases h; cases ra; cases rb; exact EqAt.bool_bool _ _
    · cases h; obtain ⟨t1, rfl⟩ := ra; obtain ⟨t2, rfl⟩ := rb; exact EqAt.int_int _ _ _ _
    · cases h; obtain ⟨t1, rfl⟩ := ra; obtain ⟨t2, rfl⟩ := rb; exact EqAt.str_str _ _ _ _
    · cases h; obtain ⟨t1, rfl⟩ := ra; obtain ⟨t2, rfl⟩ := rb; exact EqAt.int_str _ _ _ _
    · cases h; obtain ⟨t1, rfl⟩ := ra; obtain ⟨t2, rfl⟩ := rb; exact EqAt.str_int _ _ _ _
    · cases h; obtain ⟨t1, rfl⟩ := rb
      obtain ⟨p, ip, np, rfl, hp, rp⟩ : RepI s.heap (.tup _) u := ra
      exact EqAt.tuple_str _ _ (isT_tuple hp) (by (first | lia | omega))
    · cases h; obtain ⟨t1, rfl⟩ := ra
      obtain ⟨p, ip, np, rfl, hp, rp⟩ : RepI s.heap (.tup _) t := rb
      exact EqAt.str_tuple _ _ (isT_tuple hp) (by (first | lia | omega))
    · rename_i as bs h
      obtain ⟨p, ip, np, rfl, hp, rp⟩ : RepI s.heap (.tup as) u := ra
      obtain ⟨q, iq, nq, rfl, hq, rq⟩ : RepI s.heap (.tup bs) t := rb
      by_cases hpq : p = q
      · subst hpq
        rw [IsT, hp] at hq; cases hq
        have := RepL.inj rp rq; subst this
        rw [veq_self _ _ h0]; exact EqAt.same _
      · obtain ⟨e, he, hr⟩ := veqL_items as bs r h
        have l1 := rp.length; have l2 := rq.length
        simp only [Array.length_toList] at l1 l2
        rw [← hr, ← l1, ← l2]
        refine EqAt.of_refs hpq (RcAt.tuples (isT_tuple hp) (isT_tuple hq) (by (first | lia | omega)) fun j h1 h2 => ?_)
        obtain ⟨a', ea, ra'⟩ := rp.get' j ip[j] (by simp [h1])
        obtain ⟨b', eb, rb'⟩ := rq.get' j iq[j] (by simp [h2])
        refine ih ?_ (by show A.in1.units + n < cLine; simp only [Around.in1_units]; (first | lia | omega)) (he j a' b' ea eb) ra' rb'
        have := vdepth_mem (List.mem_of_getElem? ea)
        simp only [vdepth] at hd
        (first | lia | omega)

theorem rcAt_ok {A : Around} {s : Shared} {a b : V} {u t : Value} {r : Bool} (hd : vdepth a ≤ 50) (hu : A.units + 60 < cLine) (h : veq a b = some r) (ra : RepI s.heap a u) (rb : RepI s.heap b t) :
    RcAt A s u t r ∧ RcNeAt A s u t (!r) := by
  have h0 := h
  cases veq_inv h
  · cases h; cases ra; cases rb; exact ⟨RcAt.none_none, RcNeAt.none_none⟩
  · cases h; cases ra; cases rb; exact ⟨RcAt.bool_bool _ _, RcNeAt.bool_bool _ _⟩
  · cases h; obtain ⟨t1, rfl⟩ := ra; obtain ⟨t2, rfl⟩ := rb; exact ⟨RcAt.int_int _ _ _ _, RcNeAt.int_int _ _ _ _⟩
  · cases h; obtain ⟨t1, rfl⟩ := ra; obtain ⟨t2, rfl⟩ := rb; exact ⟨RcAt.str_str _ _ _ _, RcNeAt.str_str _ _ _ _⟩
  · cases h; obtain ⟨t1, rfl⟩ := ra; obtain ⟨t2, rfl⟩ := rb; exact ⟨RcAt.int_str _ _ _ _, RcNeAt.int_str _ _ _ _⟩
  · cases h; obtain ⟨t1, rfl⟩ := ra; obtain ⟨t2, rfl⟩ := rb; exact ⟨RcAt.str_int _ _ _ _, RcNeAt.str_int _ _ _ _⟩
  · cases h; obtain ⟨t1, rfl⟩ := rb
    obtain ⟨p, ip, np, rfl, hp, rp⟩ : RepI s.heap (.tup _) u := ra
    exact ⟨RcAt.tuple_str _ _ (isT_tuple hp) (by (first | lia | omega)), RcNeAt.tuple_str _ _ (isT_tuple hp) (by (first | lia | omega))⟩
  · cases h; obtain ⟨t1, rfl⟩ := ra
    obtain ⟨p, ip, np, rfl, hp, rp⟩ : RepI s.heap (.tup _) t := rb
    exact ⟨RcAt.str_tuple _ _ (isT_tuple hp) (by (first | lia | omega)), RcNeAt.str_tuple _ _ (isT_tuple hp) (by (first | lia | omega))⟩
  · rename_i as bs h
    obtain ⟨p, ip, np, rfl, hp, rp⟩ : RepI s.heap (.tup as) u := ra
    obtain ⟨q, iq, nq, rfl, hq, rq⟩ : RepI s.heap (.tup bs) t := rb
    obtain ⟨e, he, hr⟩ := veqL_items as bs r h
    have l1 := rp.length; have l2 := rq.length
    simp only [Array.length_toList] at l1 l2
    have items : ∀ (j : Nat) (h1 : j < ip.size) (h2 : j < iq.size), EqAt A.in1 s ip[j] iq[j] (e j) := fun j h1 h2 => by
      obtain ⟨a', ea, ra'⟩ := rp.get' j ip[j] (by simp [h1])
      obtain ⟨b', eb, rb'⟩ := rq.get' j iq[j] (by simp [h2])
      refine eqAt_ok 50 ?_ (by show A.in1.units + 50 < cLine; simp only [Around.in1_units]; (first | lia | omega)) (he j a' b' ea eb) ra' rb'
      have := vdepth_mem (List.mem_of_getElem? ea)
      simp only [vdepth] at hd
      (first | lia | omega)
    rw [← hr, ← l1, ← l2]
    exact ⟨RcAt.tuples (isT_tuple hp) (isT_tuple hq) (by (first | lia | omega)) items, RcNeAt.tuples (isT_tuple hp) (isT_tuple hq) (by (first | lia | omega)) items⟩

theorem veq_noList {a b : V} {r : Bool} (h : veq a b = some r) : noList a = true ∧ noList b = true := by
  cases veq_inv h <;> exact ⟨rfl, rfl⟩

section
variable {g : Gd} {fx : Fx g} {ρ : Rho}

inductive VcmpS : COp → V → V → Bool → Prop
  | eq {x y r} (hd : vdepth x ≤ 50) (h : veq x y = some r) : VcmpS .eq x y r
  | ne {x y r} (hd : vdepth x ≤ 50) (h : veq x y = some r) : VcmpS .ne x y (!r)
  | lt (a b) : VcmpS .lt (.int a) (.int b) (decide (a < b))
  | le (a b) : VcmpS .le (.int a) (.int b) (decide (a ≤ b))
  | gt (a b) : VcmpS .gt (.int a) (.int b) (decide (a > b))
  | ge (a b) : VcmpS .ge (.int a) (.int b) (decide (a ≥ b))
  | lts (a b : Str) : VcmpS .lt (.str a) (.str b) (decide (a.cps.toList < b.cps.toList))
theorem vcmp_inv {op : COp} {x y : V} {b : Bool} (h : vcmp op x y = some b) : VcmpS op x y b := by
  cases op with
  | eq => obtain ⟨hd, h⟩ := ite_opt h; exact .eq hd h
  | ne =>
    obtain ⟨hd, h⟩ := ite_opt h
    obtain ⟨c, h2, rfl⟩ := Option.map_eq_some_iff.mp h
    exact .ne hd h2
  | lt => cases x <;> first | (cases h; done) | (cases y <;> first | (cases h; done) | (cases Option.some.inj h; constructor))
  | le => cases x <;> first | (cases h; done) | (cases y <;> first | (cases h; done) | (cases Option.some.inj h; constructor))
  | gt => cases x <;> first | (cases h; done) | (cases y <;> first | (cases h; done) | (cases Option.some.inj h; constructor))
  | ge => cases x <;> first | (cases h; done) | (cases y <;> first | (cases h; done) | (cases Option.some.inj h; constructor))
theorem cmp_ok {op : COp} {x y : V} {b : Bool} {u t : Value} {s₀ s : Shared} (h : vcmp op x y = some b) (rx : ResOk g s₀ s x u) (ry : ResOk g s₀ s y t) :
    wpAny g.M fx.A (compareOp (cop op) u t) (OkE g fx.F (some (.ok (.bool b))) s) (ErrE g fx.F (some (.ok (.bool b))) s) s := by
  have hu := fx.units
  have fin : ∀ {c : Bool} {r : R V}, r = some (.ok (.bool c)) → OkE g fx.F r s (.bool c) s := fun e => okE_of e (.refl _ _) rfl
  cases vcmp_inv h with
  | eq hd h =>
    have ⟨h1, h2⟩ := veq_noList h
    exact W.cmp_ofEq ((rcAt_ok hd (by rw [cLine9]; (first | lia | omega)) h (rx.noList h1) (ry.noList h2)).1 _ _ _ _ (fin rfl))
  | ne hd hq =>
    have ⟨h1, h2⟩ := veq_noList hq
    exact W.cmp_ofNotEq ((rcAt_ok hd (by rw [cLine9]; (first | lia | omega)) hq (rx.noList h1) (ry.noList h2)).2 _ _ _ _ (fin rfl))
  | lt a c => obtain ⟨t1, rfl⟩ := rx; obtain ⟨t2, rfl⟩ := ry; exact lt_int (fin rfl)
  | le a c => obtain ⟨t1, rfl⟩ := rx; obtain ⟨t2, rfl⟩ := ry; exact le_int (fin rfl)
  | gt a c => obtain ⟨t1, rfl⟩ := rx; obtain ⟨t2, rfl⟩ := ry; exact gt_int (fin rfl)
  | ge a c => obtain ⟨t1, rfl⟩ := rx; obtain ⟨t2, rfl⟩ := ry; exact ge_int (fin rfl)
  | lts a c => obtain ⟨t1, rfl⟩ := rx; obtain ⟨t2, rfl⟩ := ry; exact lt_str (fin rfl)

/-- a test by one comparison, out of the comparison's walk -/
theorem simC_cmp {pop : CmpOp} {pa pb : Expr} {pos : Pos} {whole : Sem Value} {ra rb : R V} {f : V → V → R V} (hm : behindInMarks pop pb = false) (ha : SimE fx pa ρ ra) (hb : SimE fx pb ρ rb) (hf : ∀ c x ec y, f (.exc c x ec) y = none)
    (hop : ∀ (x y : V) (u t : Value) (s s₂ : Shared) (hE : Heap), f x y ≠ none → fx.St hE s₂.heap ρ → ResOk g s s₂ x u → ResOk g s s₂ y t → wpAny g.M fx.A (compareOp pop u t) (OkE g fx.F (f x y) s₂) (ErrE g fx.F (f x y) s₂) s₂) :
    SimC fx (isTrue (.Compare pa [pop] [pb] pos) fx.env whole) ρ (R.bind ra fun x => R.bind rb fun y => f x y) := by
  intro hr ht s hE S
  refine wpAny_isTrue_Compare1 (ha.use (bind_ne_none hr) S (fun x u s₁ e st ro S₁ => ?_) fun a ev s₁ e st ex => ⟨a, ev, rfl, bind_err e, st, ex⟩) hm
  rw [bind_ok e] at hr ht ⊢
  refine hb.use (bind_ne_none hr) S₁ (fun y t s₂ e' st' ro' S₂ => ?_) fun a ev s₂ e' st' ex => ⟨a, ev, rfl, bind_err e', st.trans st', ex.mono st.ext⟩
  rw [bind_ok e'] at hr ht ⊢
  have hx : ∀ c z ec, x ≠ .exc c z ec := fun c z ec q => by subst q; exact hr (hf _ _ _ _)
  refine wpAny_mono (hop x y u t s s₂ hE hr S₂ (ro.post S.stk.ns S₁.stk.ns st'.ext hx) (ro'.pre st.ext)) (fun v s₃ ⟨z, e2, st2, ro2⟩ => ?_)
    fun x s₃ ⟨a, ev, e1, e2, st2, ex⟩ => ⟨a, ev, e1, e2, (st.trans st').trans st2, ex.mono (st.trans st').ext⟩
  cases hb' : truth z with
  | none => exact absurd hb' (ht z e2)
  | some b => exact truth_ok (fx := fx) hb' ro2 fun s₄ st₄ => ⟨z, e2, hb', ((st.trans st').trans st2).trans st₄⟩
theorem sim_cmp1 {pop : CmpOp} {pa pb : Expr} {pos : Pos} {ra rb : R V} {f : V → V → R V} (hm : behindInMarks pop pb = false) (ha : SimE fx pa ρ ra) (hb : SimE fx pb ρ rb) (hf : ∀ c x ec y, f (.exc c x ec) y = none)
    (hop : ∀ (x y : V) (u t : Value) (s s₂ : Shared) (hE : Heap), f x y ≠ none → fx.St hE s₂.heap ρ → ResOk g s s₂ x u → ResOk g s s₂ y t → wpAny g.M fx.A (compareOp pop u t) (OkE g fx.F (f x y) s₂) (ErrE g fx.F (f x y) s₂) s₂) :
    SimE fx (.Compare pa [pop] [pb] pos) ρ (R.bind ra fun x => R.bind rb fun y => f x y) :=
  sim_bin (op := fun u t => compareOp pop u t) (fun Q E s h => wpAny_Compare1 h hm) ha hb hf hop

theorem hop_cmp (op : COp) (x y : V) (u t : Value) (s s₂ : Shared) (hE : Heap) (hr : R.of ((vcmp op x y).map V.bool) ≠ none) (_S : fx.St hE s₂.heap ρ) (rx : ResOk g s s₂ x u) (ry : ResOk g s s₂ y t) :
    wpAny g.M fx.A (compareOp (cop op) u t) (OkE g fx.F (R.of ((vcmp op x y).map V.bool)) s₂) (ErrE g fx.F (R.of ((vcmp op x y).map V.bool)) s₂) s₂ := by
  cases hb : vcmp op x y with
  | none => rw [hb] at hr; exact absurd rfl hr
  | some b => exact cmp_ok hb rx ry
theorem hf_cmp (op : COp) (c x ec y : V) : R.of ((vcmp op (.exc c x ec) y).map V.bool) = none := by
  have : vcmp op (.exc c x ec) y = none := by
    cases hq : vcmp op (.exc c x ec) y with
    | none => rfl
    | some b => exact (by cases vcmp_inv hq <;> (rename_i h; cases veq_inv h) : False).elim
  rw [this]; rfl
theorem sim_cmp {op : COp} {pa pb : Expr} {pos : Pos} {ra rb : R V} (hm : behindInMarks (cop op) pb = false) (ha : SimE fx pa ρ ra) (hb : SimE fx pb ρ rb) :
    SimE fx (.Compare pa [cop op] [pb] pos) ρ (R.bind ra fun x => R.bind rb fun y => R.of ((vcmp op x y).map .bool)) := sim_cmp1 hm ha hb (hf_cmp op) (hop_cmp op)
theorem simC_cmp' {op : COp} {pa pb : Expr} {pos : Pos} {whole : Sem Value} {ra rb : R V} (hm : behindInMarks (cop op) pb = false) (ha : SimE fx pa ρ ra) (hb : SimE fx pb ρ rb) :
    SimC fx (isTrue (.Compare pa [cop op] [pb] pos) fx.env whole) ρ (R.bind ra fun x => R.bind rb fun y => R.of ((vcmp op x y).map .bool)) := simC_cmp hm ha hb (hf_cmp op) (hop_cmp op)
end
end Mine
end
section
open PySem PySem.Calls PyProof.Rows PySem.SeqAt
set_option genInjectivity false
set_option genSizeOf false
namespace Mine

theorem starEach_cons {e : Expr} (h : notStar e = true) (r : List Expr) (env : Env) : starEach (e :: r) env = (false, eval e env) :: starEach r env := by
  cases e <;> first | rfl | cases h
theorem backTo_cons (pos : Pos) (t : Sem Value) (r : List (Bool × Sem Value)) : backTo pos ((false, t) :: r) = (false, t) :: backTo pos r := rfl

/-- values at hand, item by item -/
noncomputable def RepA (h : Heap) : List V → List Value → Prop
  | [], l => l = []
  | v :: vs, l => ∃ x xs, l = x :: xs ∧ Rep h v x ∧ RepA h vs xs
theorem RepA.ext {F : List Addr} {h h' : Heap} (hF : FrNs F h) (x : ExtW F h h') : ∀ {vs : List V} {us : List Value}, RepA h vs us → RepA h' vs us
  | [], _, r => r
  | _ :: _, _, ⟨y, ys, e, r1, r2⟩ => ⟨y, ys, e, r1.ext hF x, RepA.ext hF x r2⟩
theorem RepA.length {h : Heap} : ∀ {vs : List V} {us : List Value}, RepA h vs us → us.length = vs.length
  | [], _, r => by cases r; rfl
  | _ :: _, _, ⟨y, ys, e, r1, r2⟩ => by subst e; simp [RepA.length r2]
theorem RepA.toL {h : Heap} : ∀ {vs : List V} {us : List Value}, RepA h vs us → vs.all noList = true → RepL h vs us
  | [], _, r, _ => by cases r; exact RepL.nil
  | v :: vs, _, ⟨y, ys, e, r1, r2⟩, q => by
    subst e
    simp only [List.all_cons, Bool.and_eq_true] at q
    exact RepL.cons (r1.toI q.1) (RepA.toL r2 q.2)

section
variable {g : Gd} {fx : Fx g} {ρ : Rho}

theorem ResOk.plain {s s' : Shared} {v : V} {u : Value} (h : ResOk g s s' v u) (hv : Mine.plain v = true) : Rep s'.heap v u := h.rep (by cases v <;> first | rfl | cases hv)

noncomputable def OkL (g : Gd) (F : List Addr) (r : R (List V)) (s : Shared) (us : List Value) (s' : Shared) : Prop := ∃ vs, r = some (.ok vs) ∧ Step F s s' ∧ RepA s'.heap vs us
noncomputable def ErrL (g : Gd) (F : List Addr) (r : R (List V)) (s : Shared) (x : Value) (s' : Shared) : Prop := ∃ a ev, x = .ref a ∧ r = some (.error ev) ∧ Step F s s' ∧ ExcAt g.C false s.heap s'.heap a ev
noncomputable def SimL (fx : Fx g) (t : Sem (List Value)) (ρ : Rho) (r : R (List V)) : Prop :=
  r ≠ none → ∀ (s : Shared) (hE : Heap), fx.St hE s.heap ρ → wpAny g.M fx.A t (OkL g fx.F r s) (ErrL g fx.F r s) s

theorem SimL.use {t : Sem (List Value)} {r : R (List V)} {s : Shared} {hE : Heap} {Q : List Value → Shared → Prop} {E : Value → Shared → Prop} (h : SimL fx t ρ r) (hr : r ≠ none) (S : fx.St hE s.heap ρ)
    (ok : ∀ vs us s₁, r = some (.ok vs) → Step fx.F s s₁ → RepA s₁.heap vs us → fx.St hE s₁.heap ρ → Q us s₁)
    (err : ∀ a ev s₁, r = some (.error ev) → Step fx.F s s₁ → ExcAt g.C false s.heap s₁.heap a ev → E (.ref a) s₁) : wpAny g.M fx.A t Q E s :=
  wpAny_mono (h hr s hE S) (fun u s₁ ⟨v, e, st, ro⟩ => ok v u s₁ e st ro (S.step fx.O st.ext)) fun x s₁ ⟨a, ev, e1, e2, st, ex⟩ => e1 ▸ err a ev s₁ e2 st ex

theorem simL_nil : SimL fx (spliced []) ρ (some (.ok [])) := fun _ s _ _ => spliced_nil ⟨[], rfl, .refl _ _, rfl⟩
theorem simL_cons {t : Sem Value} {rest : List (Bool × Sem Value)} {r : R V} {rl : R (List V)} (h : SimT fx t ρ r) (hl : SimL fx (spliced rest) ρ rl) :
    SimL fx (spliced ((false, t) :: rest)) ρ (R.bind r fun x => if plain x then R.bind rl fun xs => some (.ok (x :: xs)) else none) := by
  intro hr s hE S
  refine spliced_cons (h.use (bind_ne_none hr) S (fun x u s₁ e st ro S₁ => ?_) fun a ev s₁ e st ex => ⟨a, ev, rfl, bind_err e, st, ex⟩)
  rw [bind_ok e] at hr ⊢
  cases hp : plain x with
  | false => rw [hp] at hr; exact absurd rfl hr
  | true =>
    rw [hp] at hr
    rw [if_pos rfl] at hr ⊢
    refine hl.use (bind_ne_none hr) S₁ (fun vs us s₂ e2 st2 ra S₂ => ?_) fun a ev s₂ e2 st2 ex => ⟨a, ev, rfl, bind_err e2, st.trans st2, ex.mono st.ext⟩
    exact ⟨x :: vs, bind_ok e2, st.trans st2, u, us, rfl, (ro.plain hp).ext S₁.stk.ns st2.ext.weak, ra⟩

theorem simL_args {f : Value} {ts : List (Bool × Sem Value)} {rl : R (List V)} {s : Shared} {hE : Heap} {Q : Args → Shared → Prop} {E : Value → Shared → Prop} (hts : ts = [] ∨ ∃ x r, ts = (false, x) :: r)
    (h : SimL fx (spliced ts) ρ rl) (hr : rl ≠ none) (S : fx.St hE s.heap ρ)
    (ok : ∀ vs us s₁, rl = some (.ok vs) → Step fx.F s s₁ → RepA s₁.heap vs us → fx.St hE s₁.heap ρ → Q ⟨us, []⟩ s₁)
    (err : ∀ a ev s₁, rl = some (.error ev) → Step fx.F s s₁ → ExcAt g.C false s.heap s₁.heap a ev → E (.ref a) s₁) : wpAny g.M fx.A (evalArgs f true ts []) Q E s := by
  rcases hts with rfl | ⟨x, r, rfl⟩
  · unfold evalArgs
    show wpAny g.M fx.A (spliced [] >>= _) Q E s
    refine wpAny_bind (h.use hr S (fun vs us s₁ e st ra S₁ => ?_) err)
    refine wpAny_holding ?_
    exact wpAny_bind (wpAny_pure (wpAny_bind (wpAny_pure (wpAny_pure (ok vs us s₁ e st ra S₁)))))
  · exact evalArgs_plain (h.use hr S (fun vs us s₁ e st ra S₁ => ok vs us s₁ e st ra S₁) err)

theorem sim_tup {elts : List Expr} {k : Nat} {pos : Pos} {rl : R (List V)} (h : SimL fx (spliced (backTo pos (starEach elts fx.env))) ρ rl) :
    SimE fx (.Tuple elts k pos) ρ (R.bind rl fun vs => if vs.all noList && decide (vs.length ≤ 1000) then some (.ok (.tup vs)) else none) := by
  intro hr s hE S
  refine Tuple_ (h.use (bind_ne_none hr) S (fun vs us s₁ e st ra S₁ => ?_) fun a ev s₁ e st ex => ⟨a, ev, rfl, bind_err e, st, ex⟩)
  rw [bind_ok e] at hr ⊢
  cases hc : (vs.all noList && decide (vs.length ≤ 1000)) with
  | false => rw [hc] at hr; exact absurd rfl hr
  | true =>
    rw [if_pos rfl]
    rw [Bool.and_eq_true, decide_eq_true_eq] at hc
    have hl := ra.length
    refine wpAny_newTuple (okE_of rfl (st.trans .push) ⟨_, us.toArray, 0, rfl, IsT.new _ _, ?_⟩) (by have := sl_ge; (first | lia | omega))
    exact (ra.toL hc.1).tups fun b i n e => Heap.get?_push_of_some _ e
theorem sim_lst {elts : List Expr} {pos : Pos} {rl : R (List V)} (h : SimL fx (spliced (backTo pos (starEach elts fx.env))) ρ rl) :
    SimE fx (.List elts pos) ρ (R.bind rl fun vs => if vs.all noList && decide (vs.length ≤ 1000) then some (.ok (.lst true vs)) else none) := by
  intro hr s hE S
  refine List_ (h.use (bind_ne_none hr) S (fun vs us s₁ e st ra S₁ => ?_) fun a ev s₁ e st ex => ⟨a, ev, rfl, bind_err e, st, ex⟩)
  rw [bind_ok e] at hr ⊢
  cases hc : (vs.all noList && decide (vs.length ≤ 1000)) with
  | false => rw [hc] at hr; exact absurd rfl hr
  | true =>
    rw [if_pos rfl]
    rw [Bool.and_eq_true, decide_eq_true_eq] at hc
    have hl := ra.length
    refine wpAny_newList (okE_of rfl (st.trans .push) ⟨⟨_, us.toArray, 0, rfl, IsL.new _ _, ?_⟩, fun a e' => ?_⟩) (by have := sl_ge; (first | lia | omega))
    · exact (ra.toL hc.1).tups fun b i n e => Heap.get?_push_of_some _ e
    · cases e'; exact st.ext.fresh (Heap.get?_none_of_le (Nat.le_refl _))

/- membership, identity with None, the two-sided comparison -/
theorem strIs_mem {h : Heap} {x : Str} {tx : Tok} {A : Around} {s : Shared} (hs : s.heap = h) : ∀ {vs : List V} {us : List Value} {l : List Str}, strIs vs = some l → RepL h vs us →
    ∃ e : Value → Bool, (∀ y ∈ us, EqAt A s y (.str x tx) (e y)) ∧ us.any e = l.any (· == x) := by
  intro vs us l hl r
  have key : ∀ {vs : List V} {us : List Value} {l : List Str}, strIs vs = some l → RepL h vs us → (∀ y ∈ us, ∃ z t, y = .str z t) ∧ us.any (fun y => y.isStr x) = l.any (· == x) := by
    intro vs
    induction vs with
    | nil => intro us l hl r; unfold RepL at r; subst r; cases isL_nil hl; exact ⟨fun _ h => (by cases h), rfl⟩
    | cons v vs ih =>
      intro us l hl r
      unfold RepL at r
      obtain ⟨y, ys, rfl, r1, r2⟩ := r
      obtain ⟨z, l', hv, hl', rfl⟩ := isL_cons hl
      cases theStr_of hv
      obtain ⟨t, rfl⟩ := r1
      obtain ⟨i1, i2⟩ := ih hl' r2
      refine ⟨fun y hy => ?_, ?_⟩
      · rcases List.mem_cons.mp hy with rfl | hy
        · exact ⟨_, _, rfl⟩
        · exact i1 y hy
      · rw [List.any_cons, List.any_cons, i2]; rfl
  obtain ⟨k1, k2⟩ := key hl r
  refine ⟨fun y => y.isStr x, fun y hy => ?_, k2⟩
  obtain ⟨z, t, rfl⟩ := k1 y hy
  exact EqAt.str_str _ _ _ _

inductive IsInS : V → V → Bool → Prop
  | tup {a vs l} (h : strIs vs = some l) : IsInS (.str a) (.tup vs) (l.any (· == a))
  | lst {a o vs l} (h : strIs vs = some l) : IsInS (.str a) (.lst o vs) (l.any (· == a))
theorem isIn_inv {x y : V} {b : Bool} (h : isInV x y = some b) : IsInS x y b := by
  cases x <;> first | (cases h; done) | (cases y <;> first | (cases h; done) | (obtain ⟨l, hl, rfl⟩ := Option.map_eq_some_iff.mp h; constructor; exact hl))
theorem in_ok {neg : Bool} {x y : V} {b : Bool} {u t : Value} {s₀ s : Shared} (h : isInV x y = some b) (rx : ResOk g s₀ s x u) (ry : ResOk g s₀ s y t) :
    wpAny g.M fx.A (compareOp (if neg then .NotIn else .In) u t) (OkE g fx.F (some (.ok (.bool (b != neg)))) s) (ErrE g fx.F (some (.ok (.bool (b != neg)))) s) s := by
  have fin : OkE g fx.F (some (.ok (.bool (b != neg)))) s (.bool (b != neg)) s := okE_of rfl (.refl _ _) rfl
  cases isIn_inv h
  · rename_i a vs l hl
    obtain ⟨ta, rfl⟩ : ∃ ta, u = .str a ta := rx
    obtain ⟨p, ip, np, rfl, hp, rp⟩ : RepI s.heap (.tup vs) t := ry
    · skip
      obtain ⟨e, he, ha⟩ := strIs_mem (x := a) (tx := ta) (A := fx.A.in1) (s := s) rfl hl rp
      have ha' : ip.any e = l.any (· == a) := by rw [← ha]; simp
      cases neg with
      | false =>
        refine in_tupleAt e (isT_tuple hp) (fun y hy => he y (by simpa using hy)) ?_
        rw [ha']; simpa using fin
      | true =>
        refine notIn_tupleAt e (isT_tuple hp) (fun y hy => he y (by simpa using hy)) ?_
        rw [ha']; simpa using fin
  · rename_i a o vs l hl
    obtain ⟨ta, rfl⟩ : ∃ ta, u = .str a ta := rx
    obtain ⟨p, ip, np, rfl, hp, rp⟩ : Rep s.heap (.lst o vs) t := ry.rep rfl
    · skip
      obtain ⟨e, he, ha⟩ := strIs_mem (x := a) (tx := ta) (A := fx.A.in1) (s := s) rfl hl rp
      have ha' : ip.any e = l.any (· == a) := by rw [← ha]; simp
      cases neg with
      | false =>
        refine in_listAt e (isL_list hp) (fun y hy => he y (by simpa using hy)) ?_
        rw [ha']; simpa using fin
      | true =>
        refine notIn_listAt e (isL_list hp) (fun y hy => he y (by simpa using hy)) ?_
        rw [ha']; simpa using fin
theorem hop_in (neg : Bool) (x y : V) (u t : Value) (s s₂ : Shared) (hE : Heap) (hr : R.of ((isInV x y).map fun r => V.bool (r != neg)) ≠ none) (_S : fx.St hE s₂.heap ρ) (rx : ResOk g s s₂ x u) (ry : ResOk g s s₂ y t) :
    wpAny g.M fx.A (compareOp (if neg then .NotIn else .In) u t) (OkE g fx.F (R.of ((isInV x y).map fun r => V.bool (r != neg))) s₂) (ErrE g fx.F (R.of ((isInV x y).map fun r => V.bool (r != neg))) s₂) s₂ := by
  cases hb : isInV x y with
  | none => rw [hb] at hr; exact absurd rfl hr
  | some b => exact in_ok hb rx ry
theorem sim_in {neg : Bool} {pa pb : Expr} {pos : Pos} {ra rb : R V} (hm : behindInMarks (if neg then .NotIn else .In) pb = false) (ha : SimE fx pa ρ ra) (hb : SimE fx pb ρ rb) :
    SimE fx (.Compare pa [if neg then .NotIn else .In] [pb] pos) ρ (R.bind ra fun x => R.bind rb fun y => R.of ((isInV x y).map fun r => .bool (r != neg))) :=
  sim_cmp1 hm ha hb (fun _ _ _ _ => rfl) (hop_in neg)
theorem simC_in {neg : Bool} {pa pb : Expr} {pos : Pos} {whole : Sem Value} {ra rb : R V} (hm : behindInMarks (if neg then .NotIn else .In) pb = false) (ha : SimE fx pa ρ ra) (hb : SimE fx pb ρ rb) :
    SimC fx (isTrue (.Compare pa [if neg then .NotIn else .In] [pb] pos) fx.env whole) ρ (R.bind ra fun x => R.bind rb fun y => R.of ((isInV x y).map fun r => .bool (r != neg))) :=
  simC_cmp hm ha hb (fun _ _ _ _ => rfl) (hop_in neg)

noncomputable def whenNone (r : R V) : V → R V
  | .none => r
  | _ => none
theorem hop_isNone (neg : Bool) (x y : V) (u t : Value) (s s₂ : Shared) (hE : Heap) (hr : (whenNone (isNoneV neg x) y) ≠ none) (_S : fx.St hE s₂.heap ρ) (rx : ResOk g s s₂ x u) (ry : ResOk g s s₂ y t) :
    wpAny g.M fx.A (compareOp (if neg then .IsNot else .Is) u t) (OkE g fx.F (whenNone (isNoneV neg x) y) s₂) (ErrE g fx.F (whenNone (isNoneV neg x) y) s₂) s₂ := by
  cases y <;> first | exact absurd rfl hr | skip
  have : t = .none := ry
  subst this
  have fin : ∀ b : Bool, OkE g fx.F (some (.ok (.bool b))) s₂ (.bool b) s₂ := fun b => okE_of rfl (.refl _ _) rfl
  have other : (∀ v w, (v, w) = (u, Value.none) → plainIs v w = true) → u ≠ .none → wpAny g.M fx.A (compareOp (if neg then .IsNot else .Is) u .none) (OkE g fx.F (some (.ok (.bool neg))) s₂) (ErrE g fx.F (some (.ok (.bool neg))) s₂) s₂ := fun hp hn => by
    cases neg with
    | true => exact wpAny_isNot_other (hp _ _ rfl) hn (fin _)
    | false => exact wpAny_is_other (hp _ _ rfl) hn (fin _)
  simp only [whenNone] at hr ⊢
  cases x <;> dsimp only [isNoneV] at hr ⊢
  · have : u = .none := rx
    subst this
    cases neg with
    | true => exact wpAny_isNot_plain rfl (by simpa using fin false)
    | false => exact wpAny_is_plain rfl (by simpa using fin true)
  · have : u = .bool _ := rx
    subst this
    exact other (by rintro v w q; cases q; rfl) (by simp)
  · obtain ⟨t1, rfl⟩ := rx; exact other (by rintro v w q; cases q; rfl) (by simp)
  · obtain ⟨t1, rfl⟩ := rx; exact other (by rintro v w q; cases q; rfl) (by simp)
  · obtain ⟨p, ip, np, rfl, hp, rp⟩ : RepI s₂.heap (.tup _) u := rx
    exact other (by rintro v w q; cases q; rfl) (by simp)
  · obtain ⟨p, ip, np, rfl, hp, rp⟩ : Rep s₂.heap (.lst _ _) u := rx.rep rfl
    exact other (by rintro v w q; cases q; rfl) (by simp)
  · obtain ⟨p, rfl, _⟩ := rx
    exact other (by rintro v w q; cases q; rfl) (by simp)
  · exact absurd rfl hr
theorem isNone_eq {neg : Bool} {ra : R V} : (R.bind ra fun x => R.bind (some (.ok V.none)) fun y => (whenNone (isNoneV neg x) y)) = R.bind ra fun x => isNoneV neg x := rfl
theorem sim_isNone {neg : Bool} {pa : Expr} {k : Nat} {p pos : Pos} {ra : R V} (ha : SimE fx pa ρ ra) :
    SimE fx (.Compare pa [if neg then .IsNot else .Is] [.Constant .none k p] pos) ρ (R.bind ra fun x => isNoneV neg x) := by
  rw [← isNone_eq]
  exact sim_cmp1 (by cases neg <;> rfl) ha sim_none (fun _ _ _ y => by cases y <;> rfl) (hop_isNone neg)
theorem simC_isNone {neg : Bool} {pa : Expr} {k : Nat} {p pos : Pos} {whole : Sem Value} {ra : R V} (ha : SimE fx pa ρ ra) :
    SimC fx (isTrue (.Compare pa [if neg then .IsNot else .Is] [.Constant .none k p] pos) fx.env whole) ρ (R.bind ra fun x => isNoneV neg x) := by
  rw [← isNone_eq]
  exact simC_cmp (by cases neg <;> rfl) ha sim_none (fun _ _ _ y => by cases y <;> rfl) (hop_isNone neg)
end
end Mine
end
section
open PySem PySem.Calls PyProof.Rows PySem.SeqAt
set_option genInjectivity false
set_option genSizeOf false
namespace Mine

section
variable {prog : Program} {w : World} {A : Around} {E : Value → Shared → Prop} {s : Shared}

theorem clip_ok {v n : Nat} (h : v ≤ n) : (if (v : Int) < 0 then max ((v : Int) + n) 0 else min (v : Int) n) = v := (if_neg (Int.not_lt.mpr (Int.natCast_nonneg v))).trans (Int.min_eq_left (Int.ofNat_le.mpr h))
theorem adjust_ok {lo hi : Option Int} {a b n : Nat} (hlo : (lo = none ∧ a = 0) ∨ lo = some (a : Int)) (hhi : (hi = none ∧ b = n) ∨ hi = some (b : Int)) (hab : a ≤ b) (hbn : b ≤ n) : Builtin.Slice.sliceAdjust lo hi 1 (n : Int) = ((a : Int), (b : Int)) := by
  rcases hlo with ⟨rfl, rfl⟩ | rfl <;> rcases hhi with ⟨rfl, rfl⟩ | rfl
  · rfl
  · exact Prod.ext rfl (clip_ok hbn)
  · exact Prod.ext (clip_ok hab) rfl
  · exact Prod.ext (clip_ok (Nat.le_trans hab hbn)) (clip_ok hbn)
theorem places_ok (a b : Nat) : Builtin.Slice.slicePlaces (a : Int) (b : Int) 1 = b - a := by
  show (if (a : Int) < b then ((b : Int) - a - 1) / 1 + 1 else 0).toNat = b - a
  rw [Int.ediv_one]
  split <;> (first | lia | omega)
theorem part_ok {v : Value} {c d : Nat} {R : Option Int → Shared → Prop} (hv : (v = .none ∧ c = d) ∨ ∃ u, v = .int c u) (k : ∀ o : Option Int, (o = none ∧ c = d) ∨ o = some (c : Int) → R o s) : wpAny (model prog w) A (Builtin.Slice.slicePartIndex v) R E s := by
  rcases hv with ⟨rfl, e⟩ | ⟨u, rfl⟩
  · exact slicePart_none (k _ (.inl ⟨rfl, e⟩))
  · exact slicePart_int (k _ (.inr rfl))
theorem whole_no {a b n : Nat} (hab : a ≤ b) (hbn : b ≤ n) (hw : ¬ (a = 0 ∧ b = n)) : ¬ (((a : Int) == 0 && (1 : Int) == 1 && (b - a) == n) = true) := by
  simp only [Bool.and_eq_true, beq_iff_eq]
  (first | lia | omega)
theorem whole_yes {n : Nat} : (((0 : Nat) : Int) == 0 && (1 : Int) == 1 && (n - 0) == n) = true := (Bool.true_and _).trans (beq_self_eq_true n)
theorem sliceApplied_ab {sl : Addr} {vl vu : Value} {a b n : Nat} {Q : Int × Int × Nat → Shared → Prop} (hs : s.heap.IsSliceOf sl vl vu .none) (hab : a ≤ b) (hbn : b ≤ n)
    (hl : (vl = .none ∧ a = 0) ∨ ∃ u, vl = .int a u) (hu : (vu = .none ∧ b = n) ∨ ∃ u, vu = .int b u) (h : Q ((a : Int), 1, b - a) s) :
    wpAny (model prog w) A (Builtin.Slice.sliceApplied (.ref sl) (pure (n : Int))) Q E s := by
  obtain ⟨os, hos, hcs, hds⟩ := id hs
  unfold Builtin.Slice.sliceApplied Builtin.Slice.sliceFields
  refine wpAny_bind (wpAny_bind (wpAny_field hos hds (x := vl) rfl (wpAny_bind (wpAny_field hos hds (x := vu) rfl (wpAny_bind (wpAny_field hos hds (x := .none) rfl (wpAny_pure ?_)))))))
  refine wpAny_bind (slicePart_none ?_)
  show wpAny _ _ (if ((1 : Int) == 0) = true then _ else _) _ _ s
  rw [if_neg (by decide)]
  refine wpAny_bind (part_ok hl fun lo hlo => wpAny_bind (part_ok hu fun hi hhi => wpAny_bind (wpAny_pure ?_)))
  show wpAny _ _ (match Builtin.Slice.sliceAdjust lo hi 1 (n : Int) with | (lo, hi) => pure (lo, (1 : Int), Builtin.Slice.slicePlaces lo hi 1)) _ _ s
  rw [adjust_ok hlo hhi hab hbn]
  show wpAny _ _ (pure ((a : Int), (1 : Int), Builtin.Slice.slicePlaces (a : Int) (b : Int) 1)) _ _ s
  rw [places_ok]
  exact wpAny_pure h

theorem pick_ab (xs : Array Value) (a b : Nat) : ((List.range (b - a)).filterMap fun (k : Nat) => xs[((a : Int) + (k : Int) * 1).toNat]?).toArray = ((xs.toList.drop a).take (b - a)).toArray := by
  have e : (fun (k : Nat) => xs[((a : Int) + (k : Int) * 1).toNat]?) = fun k => xs[a + k]? := by
    funext k
    have : ((a : Int) + (k : Int) * 1).toNat = a + k := by (first | lia | omega)
    rw [this]
  rw [e]
  have := pick_run xs a (b - a)
  rw [List.filterMap_map] at this
  have e2 : ((fun x => xs[x]?) ∘ fun x => a + x) = fun k => xs[a + k]? := rfl
  rw [e2] at this
  rw [this]

theorem getItem_tuple_ab {t sl : Addr} {items : Array Value} {vl vu : Value} {a b : Nat} {Q : Value → Shared → Prop} (ht : IsTup s.heap t items) (hs : s.heap.IsSliceOf sl vl vu .none) (hab : a ≤ b) (hbn : b ≤ items.size)
    (hl : (vl = .none ∧ a = 0) ∨ ∃ u, vl = .int a u) (hu : (vu = .none ∧ b = items.size) ∨ ∃ u, vu = .int b u)
    (h1 : a = 0 → b = items.size → Q (.ref t) s)
    (h2 : Q (.ref s.heap.objs.size) { s with heap := s.heap.push { cls := .type "tuple", data := .seq ((items.toList.drop a).take (b - a)).toArray } })
    (hsz : items.size ≤ sizeLine) : wpAny (model prog w) A (getItem (.ref t) (.ref sl)) Q E s := by
  have hdrop : sizeOk (.seq ((items.toList.drop a).take (b - a)).toArray) := by
    show ((items.toList.drop a).take (b - a)).toArray.size ≤ sizeLine
    rw [List.size_toArray, List.length_take, List.length_drop, Array.length_toList]
    exact Nat.le_trans (Nat.min_le_right ..) (Nat.le_trans (Nat.sub_le ..) hsz)
  obtain ⟨os, hos, hcs, hds⟩ := id hs
  have hTs : s.TypeIs (.ref sl) "slice" := ⟨os, hos, hcs⟩
  unfold getItem
  try with_reducible refine wpAny_holding ?_
  first | refine wpAny_bind (wpAny_pure ?_) | skip
  refine wpAny_bind (wpAny_sequenceKey ht.typeIs (by decide) ?_)
  refine wpAny_bind (wpAny_callSpecial?_slot (name := Str.ofString "__getitem__") ht.typeIs slot_tuple_getitem
    (wpAny_call_entry slot_tuple_getitem ht.typeIs entry_tuple_getitem ?_ (args_tuple_getitem _ _)))
  show wpAny _ _ (Builtin.Tuple.tupleItemsOf (.ref t) >>= _) _ _ s
  refine wpAny_bind (tupleItemsOf_ ht ?_)
  refine wpAny_bind (wpAny_typeOf hTs ?_)
  rw [if_pos (by decide)]
  refine wpAny_bind (sliceApplied_ab hs hab hbn hl hu ?_)
  by_cases hw : a = 0 ∧ b = items.size
  · obtain ⟨rfl, rfl⟩ := hw
    show wpAny _ _ (if (((0 : Nat) : Int) == 0 && (1 : Int) == 1 && (items.size - 0) == items.size) = true then _ else _) _ _ s
    rw [if_pos whole_yes]
    refine wpAny_bind (m := Builtin.Tuple.tupleIsExact (.ref t)) ?_
    unfold Builtin.Tuple.tupleIsExact
    refine wpAny_bind (wpAny_typeOf ht.typeIs (wpAny_pure ?_))
    rw [if_pos (by decide)]
    refine wpAny_bind (wpAny_rule ?_)
    exact wpAny_pure ⟨_, rfl, wpAny_pure (h1 rfl rfl)⟩
  · show wpAny _ _ (if ((a : Int) == 0 && (1 : Int) == 1 && (b - a) == items.size) = true then _ else _) _ _ s
    rw [if_neg (whole_no hab hbn hw), pick_ab items a b]
    first
      | exact wpAny_bind (m := Builtin.Tuple.tupleExact _) (wpAny_newObj_type (wpAny_pure ⟨_, rfl, wpAny_pure h2⟩) hdrop)
      | exact wpAny_bind (m := Builtin.Tuple.tupleExact _) (wpAny_newObj_type (wpAny_bind (wpAny_pure (wpAny_pure ⟨_, rfl, wpAny_pure h2⟩))) hdrop)
      | exact wpAny_bind (wpAny_bind (m := Builtin.Tuple.tupleExact _) (wpAny_newObj_type (wpAny_pure (wpAny_pure ⟨_, rfl, wpAny_pure h2⟩)) hdrop))
      | exact wpAny_bind (wpAny_bind (m := Builtin.Tuple.tupleExact _) (wpAny_newObj_type (wpAny_pure ⟨_, rfl, wpAny_pure h2⟩) hdrop))
end

theorem subscripted_of {e : Expr} (h : notSlice e = true) (o i : Value) : subscripted e false o i = operate [o, i] (getItem o i) := by
  cases e <;> first | rfl | cases h

inductive Vi : V → V → V → Prop
  | str (s i z) (h : (if 0 ≤ i ∧ i ≤ 1000000000 then (s.cps.toList[i.toNat]?).map fun c => V.str ⟨#[c]⟩ else Option.none) = some z) : Vi (.str s) (.int i) z
  | tup (vs i z) (h : (if 0 ≤ i ∧ i ≤ 1000000000 then vs[i.toNat]? else Option.none) = some z) : Vi (.tup vs) (.int i) z
  | lst (o vs i z) (h : (if 0 ≤ i ∧ i ≤ 1000000000 then vs[i.toNat]? else Option.none) = some z) : Vi (.lst o vs) (.int i) z
theorem vidx_inv {x y z : V} (h : vidx x y = some z) : Vi x y z := by
  cases x <;> first | (cases h; done) | (cases y <;> first | (cases h; done) | exact .str _ _ _ h | exact .tup _ _ _ h | exact .lst _ _ _ _ h)
inductive Vt : V → V → V → Prop
  | tup (vs : List V) (hi : Int) (z) (h : (if 0 ≤ hi ∧ hi ≤ vs.length ∧ vs.length ≤ 1000000 then some (V.tup (vs.take hi.toNat)) else Option.none) = some z) : Vt (.tup vs) (.int hi) z
  | lst (o) (vs : List V) (hi : Int) (z) (h : (if 0 ≤ hi ∧ vs.length ≤ 1000000 then some (V.lst true (vs.take hi.toNat)) else Option.none) = some z) : Vt (.lst o vs) (.int hi) z
theorem vslTo_inv {x y z : V} (h : vslTo x y = some z) : Vt x y z := by
  cases x <;> first | (cases h; done) | (cases y <;> first | (cases h; done) | exact .tup _ _ _ h | exact .lst _ _ _ _ h)
inductive Vf : V → V → V → Prop
  | tup (vs : List V) (lo : Int) (z) (h : (if 0 ≤ lo ∧ lo ≤ vs.length ∧ vs.length ≤ 1000000 then some (V.tup (vs.drop lo.toNat)) else Option.none) = some z) : Vf (.tup vs) (.int lo) z
  | lst (o) (vs : List V) (lo : Int) (z) (h : (if 0 ≤ lo ∧ vs.length ≤ 1000000 then some (V.lst true (vs.drop lo.toNat)) else Option.none) = some z) : Vf (.lst o vs) (.int lo) z
theorem vslFrom_inv {x y z : V} (h : vslFrom x y = some z) : Vf x y z := by
  cases x <;> first | (cases h; done) | (cases y <;> first | (cases h; done) | exact .tup _ _ _ h | exact .lst _ _ _ _ h)
theorem vslBoth_inv {x y z v : V} (h : vslBoth x y z = some v) : ∃ s lo hi, x = .str s ∧ y = .int lo ∧ z = .int hi ∧ (if s.length ≤ sizeLine then some (V.str (Txt.slice s (some lo) (some hi))) else Option.none) = some v := by
  cases x <;> first | (cases h; done) | (cases y <;> first | (cases h; done) | (cases z <;> first | (cases h; done) | exact ⟨_, _, _, rfl, rfl, rfl, h⟩))

section
variable {g : Gd} {fx : Fx g} {ρ : Rho}

theorem sim_idx {pa pb : Expr} {pos : Pos} {ra rb : R V} (hn : notSlice pb = true) (ha : SimE fx pa ρ ra) (hb : SimE fx pb ρ rb) :
    SimE fx (.Subscript pa pb pos) ρ (R.bind ra fun x => R.bind rb fun y => R.of (vidx x y)) := by
  refine sim_bin (op := fun u t => subscriptTail pa pb u t) (fun Q E s h => Subscript_ h) ha hb (fun _ _ _ _ => rfl) fun x y u t s s₂ hE hr S rx ry => ?_
  obtain ⟨z, hz⟩ := of_ne_none hr
  rw [hz]
  cases vidx_inv hz
  · rename_i a i hz
    obtain ⟨tx, rfl⟩ : ∃ t1, u = .str a t1 := rx
    obtain ⟨ty, rfl⟩ : ∃ t1, t = .int i t1 := ry
    split at hz
    · rename_i hi
      cases hc : a.cps.toList[i.toNat]? with
      | none => rw [hc] at hz; cases hz
      | some c =>
        rw [hc] at hz; cases hz
        refine tail_any (typeIs_str _ _ _) F.slot_str_getitem.lookup (P.getItem_str (c := c) (by simp only [Bool.or_eq_false_iff, decide_eq_false_iff_not]; (first | lia | omega)) ?_ (okE_of rfl .toks ⟨_, rfl⟩)) (subscripted_of hn _ _)
        have hlt : i.toNat < a.cps.toList.length := (List.getElem?_eq_some_iff.mp hc).1
        have hlt' : i.toNat < a.length := by simpa [Str.length] using hlt
        unfold seqIndex?
        simp only [show ¬ (i < 0) from by (first | lia | omega), if_false]
        rw [if_pos (by simp only [Bool.and_eq_true, decide_eq_true_eq]; (first | lia | omega))]
        show a.cps[i.toNat]? = some c
        rw [← Array.getElem?_toList]; exact hc
    · cases hz
  · rename_i vs i hz
    obtain ⟨p, ip, np, rfl, hp, rp⟩ : RepI s₂.heap (.tup vs) u := rx
    obtain ⟨ty, rfl⟩ : ∃ t1, t = .int i t1 := ry
    split at hz
    · rename_i hi
      obtain ⟨q, e, r⟩ := rp.get _ _ hz
      have hlt : i.toNat < ip.size := by have := (List.getElem?_eq_some_iff.mp e).1; simpa using this
      refine tail_any (isT_tup hp).typeIs slot_tuple_getitem.lookup (PyProof.Rows.getItem_tuple (isT_tup hp) (j := i.toNat) (by (first | lia | omega)) (by (first | lia | omega)) ?_ (by rw [← Array.getElem?_toList]; exact e) (okE_of rfl (.refl _ _) (ResOk.of r.rep ?_))) (subscripted_of hn _ _)
      · unfold seqIndex?
        simp only [show ¬ (i < 0) from by (first | lia | omega), if_false]
        rw [if_pos (by simp only [Bool.and_eq_true, decide_eq_true_eq]; (first | lia | omega))]
      · intro ws qq; subst qq; unfold RepI at r; exact r.elim
    · cases hz
  · rename_i o vs i hz
    obtain ⟨p, ip, np, rfl, hp, rp⟩ : Rep s₂.heap (.lst o vs) u := rx.rep rfl
    obtain ⟨ty, rfl⟩ : ∃ t1, t = .int i t1 := ry
    split at hz
    · rename_i hi
      obtain ⟨q, e, r⟩ := rp.get _ _ hz
      refine tail_any (isL_list hp).typeIs slot_list_getitem.lookup (wpAny_getItem_list (isL_list hp) hi.1 (by (first | lia | omega)) (x := q) (by rw [← Array.getElem?_toList]; exact e) (okE_of rfl (.refl _ _) (ResOk.of r.rep ?_))) (subscripted_of hn _ _)
      intro ws qq; subst qq; unfold RepI at r; exact r.elim
    · cases hz

theorem sub_slice {lower upper : Option Expr} {pl : Pos} (o i : Value) : subscripted (.Slice lower upper none pl) false o i = operate [i, o] (getItem o i) := rfl
theorem pushS {s : Shared} {o : Obj} : Step fx.F s { s with heap := s.heap.push o } := .push

noncomputable abbrev slObj (l u : Value) : Obj := { cls := .type "slice", data := .fields #[l, u, .none] }

theorem mono_sl (pa sl : Expr) (f : Value → Obj) (u t : Value) (Q E Q' E' : Value → Shared → Prop) (s : Shared) (h : wpAny g.M fx.A (subscriptTail pa sl u (.ref s.heap.objs.size)) Q E { s with heap := s.heap.push (f t) })
    (h1 : ∀ v s', Q v s' → Q' v s') (h2 : ∀ v s', E v s' → E' v s') : wpAny g.M fx.A (subscriptTail pa sl u (.ref s.heap.objs.size)) Q' E' { s with heap := s.heap.push (f t) } := wpAny_mono h h1 h2

theorem sim_slTo {pa pb : Expr} {p pos : Pos} {ra rb : R V} (ha : SimE fx pa ρ ra) (hb : SimE fx pb ρ rb) :
    SimE fx (.Subscript pa (.Slice none (some pb) none p) pos) ρ (R.bind ra fun x => R.bind rb fun y => R.of (vslTo x y)) := by
  refine sim_binT (T := fun u t Q E s => wpAny g.M fx.A (subscriptTail pa (.Slice none (some pb) none p) u (.ref s.heap.objs.size)) Q E { s with heap := s.heap.push (slObj .none t) })
    (mono_sl pa _ (slObj .none)) (fun Q E s h => ?_) ha hb (fun _ _ _ _ => rfl) fun x y u t s s₂ hE hr S rx ry => ?_
  · exact Subscript_ (wpAny_mono h (fun u s₁ h₁ => wpAny_Slice (wpAny_pure (wpAny_mono h₁ (fun t s₂ h₂ => wpAny_pure h₂) fun _ _ e => e))) fun _ _ e => e)
  obtain ⟨z, hz⟩ := of_ne_none hr
  rw [hz]
  have hS := Heap.IsSliceOf.new s₂.heap .none t .none
  cases vslTo_inv hz
  · rename_i vs hi hz
    obtain ⟨q, iq, nq, rfl, hp, rp⟩ : RepI s₂.heap (.tup vs) u := rx
    obtain ⟨ty, rfl⟩ : ∃ t1, t = .int hi t1 := ry
    have hl := rp.length
    simp only [Array.length_toList] at hl
    split at hz
    · rename_i hc; cases hz
      have hp' : IsT (s₂.heap.push (slObj .none (.int hi ty))) q iq nq := hp.push _
      have e0 : ((hi.toNat : Nat) : Int) = hi := by (first | lia | omega)
      refine tail_any (isT_tup hp').typeIs slot_tuple_getitem.lookup (getItem_tuple_ab (a := 0) (b := hi.toNat) (isT_tup hp') hS (Nat.zero_le _) (by (first | lia | omega)) (.inl ⟨rfl, rfl⟩) (.inr ⟨ty, by rw [e0]⟩) (fun _ h2 => ?_) ?_ (by have := sl_ge; (first | lia | omega))) (sub_slice _ _)
      · refine okE_of rfl .push ⟨q, iq, nq, rfl, hp', ?_⟩
        rw [List.take_of_length_le (by (first | lia | omega))]
        exact rp.tups fun b i n e => Heap.get?_push_of_some _ e
      · refine okE_of rfl (Step.trans .push .push) ⟨_, _, 0, rfl, IsT.new _ _, ?_⟩
        simp only [List.drop_zero, Nat.sub_zero]
        exact (rp.take hi.toNat).tups fun b i n e => Heap.get?_push_of_some _ (Heap.get?_push_of_some _ e)
    · cases hz
  · rename_i o vs hi hz
    obtain ⟨q, iq, nq, rfl, hp, rp⟩ : Rep s₂.heap (.lst o vs) u := rx.rep rfl
    obtain ⟨ty, rfl⟩ : ∃ t1, t = .int hi t1 := ry
    have hl := rp.length
    simp only [Array.length_toList] at hl
    split at hz
    · rename_i hc; cases hz
      have hp' : IsL (s₂.heap.push (slObj .none (.int hi ty))) q iq nq := hp.push _
      refine tail_any (isL_list hp').typeIs slot_list_getitem.lookup (wpAny_getItem_list_slice (isL_list hp') hS .none (.int hi ty) .none (by simp) ?_ (by have := sl_ge; (first | lia | omega))) (sub_slice _ _)
      have e0 : ((hi.toNat : Nat) : Int) = hi := by (first | lia | omega)
      rw [← e0, slicePick_upto']
      refine okE_of rfl (Step.trans .push .push) ⟨⟨_, _, 0, rfl, IsL.new _ _, ?_⟩, fun a e => ?_⟩
      · rw [e0]
        exact (rp.take hi.toNat).tups fun b i n e => Heap.get?_push_of_some _ (Heap.get?_push_of_some _ e)
      · cases e; exact Heap.get?_none_of_le (by simp)
    · cases hz

theorem sim_slFrom {pa pb : Expr} {p pos : Pos} {ra rb : R V} (ha : SimE fx pa ρ ra) (hb : SimE fx pb ρ rb) :
    SimE fx (.Subscript pa (.Slice (some pb) none none p) pos) ρ (R.bind ra fun x => R.bind rb fun y => R.of (vslFrom x y)) := by
  refine sim_binT (T := fun u t Q E s => wpAny g.M fx.A (subscriptTail pa (.Slice (some pb) none none p) u (.ref s.heap.objs.size)) Q E { s with heap := s.heap.push (slObj t .none) })
    (mono_sl pa _ (fun t => slObj t .none)) (fun Q E s h => ?_) ha hb (fun _ _ _ _ => rfl) fun x y u t s s₂ hE hr S rx ry => ?_
  · exact Subscript_ (wpAny_mono h (fun u s₁ h₁ => wpAny_Slice (wpAny_mono h₁ (fun t s₂ h₂ => wpAny_pure (wpAny_pure h₂)) fun _ _ e => e)) fun _ _ e => e)
  obtain ⟨z, hz⟩ := of_ne_none hr
  rw [hz]
  have hS := Heap.IsSliceOf.new s₂.heap t .none .none
  cases vslFrom_inv hz
  · rename_i vs lo hz
    obtain ⟨q, iq, nq, rfl, hp, rp⟩ : RepI s₂.heap (.tup vs) u := rx
    obtain ⟨ty, rfl⟩ : ∃ t1, t = .int lo t1 := ry
    have hl := rp.length
    simp only [Array.length_toList] at hl
    split at hz
    · rename_i hc; cases hz
      have hp' : IsT (s₂.heap.push (slObj (.int lo ty) .none)) q iq nq := hp.push _
      have e0 : ((lo.toNat : Nat) : Int) = lo := by (first | lia | omega)
      refine tail_any (isT_tup hp').typeIs slot_tuple_getitem.lookup (getItem_tuple_ab (a := lo.toNat) (b := iq.size) (isT_tup hp') hS (by (first | lia | omega)) (Nat.le_refl _) (.inr ⟨ty, by rw [e0]⟩) (.inl ⟨rfl, rfl⟩) (fun h1 _ => ?_) ?_ (by have := sl_ge; (first | lia | omega))) (sub_slice _ _)
      · refine okE_of rfl .push ⟨q, iq, nq, rfl, hp', ?_⟩
        rw [h1, List.drop_zero]
        exact rp.tups fun b i n e => Heap.get?_push_of_some _ e
      · refine okE_of rfl (Step.trans .push .push) ⟨_, _, 0, rfl, IsT.new _ _, ?_⟩
        rw [List.take_of_length_le (by simp)]
        exact (rp.drop lo.toNat).tups fun b i n e => Heap.get?_push_of_some _ (Heap.get?_push_of_some _ e)
    · cases hz
  · rename_i o vs lo hz
    obtain ⟨q, iq, nq, rfl, hp, rp⟩ : Rep s₂.heap (.lst o vs) u := rx.rep rfl
    obtain ⟨ty, rfl⟩ : ∃ t1, t = .int lo t1 := ry
    have hl := rp.length
    simp only [Array.length_toList] at hl
    split at hz
    · rename_i hc; cases hz
      have hp' : IsL (s₂.heap.push (slObj (.int lo ty) .none)) q iq nq := hp.push _
      refine tail_any (isL_list hp').typeIs slot_list_getitem.lookup (wpAny_getItem_list_slice (isL_list hp') hS (.int lo ty) .none .none (by simp) ?_ (by have := sl_ge; (first | lia | omega))) (sub_slice _ _)
      have e0 : ((lo.toNat : Nat) : Int) = lo := by (first | lia | omega)
      rw [← e0, slicePick_from']
      refine okE_of rfl (Step.trans .push .push) ⟨⟨_, _, 0, rfl, IsL.new _ _, ?_⟩, fun a e => ?_⟩
      · rw [e0]
        exact (rp.drop lo.toNat).tups fun b i n e => Heap.get?_push_of_some _ (Heap.get?_push_of_some _ e)
      · cases e; exact Heap.get?_none_of_le (by simp)
    · cases hz

theorem sim_slBoth {pa pb pc : Expr} {p pos : Pos} {ra rb rc : R V} (ha : SimE fx pa ρ ra) (hb : SimE fx pb ρ rb) (hc : SimE fx pc ρ rc) :
    SimE fx (.Subscript pa (.Slice (some pb) (some pc) none p) pos) ρ (R.bind ra fun x => R.bind rb fun y => R.bind rc fun z => R.of (vslBoth x y z)) := by
  intro hr s hE S
  refine Subscript_ (ha.use (bind_ne_none hr) S (fun x u s₁ e st ro S₁ => ?_) fun a ev s₁ e st ex => ⟨a, ev, rfl, bind_err e, st, ex⟩)
  rw [bind_ok e] at hr ⊢
  refine wpAny_Slice (hb.use (bind_ne_none hr) S₁ (fun y t s₂ e' st' ro' S₂ => ?_) fun a ev s₂ e' st' ex => ⟨a, ev, rfl, bind_err e', st.trans st', ex.mono st.ext⟩)
  rw [bind_ok e'] at hr ⊢
  refine hc.use (bind_ne_none hr) S₂ (fun z q s₃ e3 st3 ro3 S₃ => wpAny_pure ?_) fun a ev s₃ e3 st3 ex => ⟨a, ev, rfl, bind_err e3, (st.trans st').trans st3, ex.mono (st.trans st').ext⟩
  rw [bind_ok e3] at hr ⊢
  obtain ⟨v, hv⟩ := of_ne_none hr
  rw [hv]
  obtain ⟨a, lo, hi, rfl, rfl, rfl, hq⟩ := vslBoth_inv hv
  clear hv; have hv := hq
  split at hv
  · rename_i hl; cases hv
    obtain ⟨tx, rfl⟩ : ∃ t1, u = .str a t1 := ro
    obtain ⟨ty, rfl⟩ : ∃ t1, t = .int lo t1 := ro'
    obtain ⟨tz, rfl⟩ : ∃ t1, q = .int hi t1 := ro3
    refine tail_any (typeIs_str _ _ _) F.slot_str_getitem.lookup (wpAny_getItem_str_slice (l := some (lo, ty)) (u := some (hi, tz)) (st := none) ⟨_, Heap.get?_push_size _ rfl, rfl, rfl⟩ rfl ?_) (sub_slice _ _)
    exact post_val_or_str ⟨Nat.le_trans (Txt.slice_le a _ _) hl, fun t' k => okE_of rfl (((st.trans st').trans st3).trans .push) ⟨_, rfl⟩⟩
  · cases hv
end
end Mine
end
section
open PySem PySem.Calls PyProof.Rows PySem.SeqAt
set_option genInjectivity false
set_option genSizeOf false
namespace Mine

section
variable {g : Gd} {fx : Fx g} {ρ : Rho}

theorem glob_ns {h : Heap} (hb : g.base.StaysIn h) : h.Ns mainGlobals g.mg := g.hg.keeps hb
theorem eval_builtin {x : Str} {np : Pos} {bv : Value} {s : Shared} {hE : Heap} {Q E : Value → Shared → Prop} (S : fx.St hE s.heap ρ) (hk : fx.env.kindOf x = some .globalImplicit) (hm : g.mg x = none) (hn : x ≠ "__name__")
    (hv : bootBuiltins x = some bv) (hd : (x == ("__debug__" : Str)) = false) (h : Q bv s) : wpAny g.M fx.A (eval (.Name x np) fx.env) Q E s := by
  refine Name_function_global fx.O.kind hk ?_ hd
  refine loadGlobal_builtin (by rw [fx.O.glob]; exact glob_ns S.stk.stays) hm (by rw [fx.O.bi]; exact g.hb.keeps S.stk.stays) ((g.hbi x hn).trans hv) h
theorem eval_global {x : Str} {np : Pos} {gv : Value} {s : Shared} {hE : Heap} {Q E : Value → Shared → Prop} (S : fx.St hE s.heap ρ) (hk : fx.env.kindOf x = some .globalImplicit) (hm : g.mg x = some gv)
    (hd : (x == ("__debug__" : Str)) = false) (h : Q gv s) : wpAny g.M fx.A (eval (.Name x np) fx.env) Q E s := by
  refine Name_function_global fx.O.kind hk ?_ hd
  exact loadGlobal_global (by rw [fx.O.glob]; exact glob_ns S.stk.stays) hm h

/-- a built-in's name within this text -/
structure BName (fx : Fx g) (x : Str) (bv : Value) : Prop where
  kind : fx.env.kindOf x = some .globalImplicit
  free : g.mg x = none
  main : x ≠ "__name__"
  boot : bootBuiltins x = some bv
  dbg : (x == ("__debug__" : Str)) = false

theorem call1_builtin {id : String} {pos : Pos} {t : Sem Value} {s : Shared} {Q E : Value → Shared → Prop}
    (h : wpAny g.M fx.A t (fun u s₁ => wpAny g.M fx.A (call (.builtin id) [u]) Q E s₁) E s) : wpAny g.M fx.A (callWith pos (.builtin id) [] [(false, t)] []) Q E s :=
  callWith_builtin rfl (evalArgs_plain (spliced_cons (wpAny_mono h (fun u s₁ h₁ => spliced_nil h₁) fun _ _ e => e)))
theorem call1_type {T : String} {pos : Pos} {t : Sem Value} {s : Shared} {Q E : Value → Shared → Prop}
    (h : wpAny g.M fx.A t (fun u s₁ => wpAny g.M fx.A (call (.type T) [u]) Q E s₁) E s) : wpAny g.M fx.A (callWith pos (.type T) [] [(false, t)] []) Q E s :=
  callWith_excType rfl (evalArgs_plain (spliced_cons (wpAny_mono h (fun u s₁ h₁ => spliced_nil h₁) fun _ _ e => e)))

noncomputable def b1val : B1 → Value
  | .len => .builtin "len" | .ord => .builtin "ord" | .str => .type "str" | .max => .builtin "max" | .min => .builtin "min" | .abs => .builtin "abs" | .all => .builtin "all" | .tuple => .type "tuple"
theorem b1boot (f : B1) : bootBuiltins (b1name f) = some (b1val f) := by cases f <;> decide +kernel
theorem b1main (f : B1) : b1name f ≠ "__name__" := by cases f <;> decide +kernel
theorem b1dbg (f : B1) : (b1name f == ("__debug__" : Str)) = false := by cases f <;> decide +kernel

theorem RepL.unc {h : Heap} {v : V} {vs : List V} {us : List Value} (r : RepL h (v :: vs) us) : ∃ y ys, us = y :: ys ∧ RepI h v y ∧ RepL h vs ys := r
theorem isL_get {α : Type} {p : V → Option α} {q : Nat → α → Value → Prop} {h : Heap} (hp : ∀ v u a, p v = some a → RepI h v u → q 0 a u) : ∀ {vs : List V} {us : List Value} {l : List α}, isL p vs = some l → RepL h vs us →
    us.length = l.length ∧ ∀ (i : Nat) (u : Value), us[i]? = some u → ∃ a, l[i]? = some a ∧ q 0 a u := by
  intro vs
  induction vs with
  | nil => intro us l hl r; cases isL_nil hl; cases (show us = [] from r); exact ⟨rfl, fun i u h => nomatch h⟩
  | cons v vs ih =>
    intro us l hl r
    obtain ⟨y, ys, rfl, r1, r2⟩ := r.unc
    obtain ⟨n0, l', hv, hl', rfl⟩ := isL_cons hl
    have ih := ih hl' r2
    exact ⟨congrArg (· + 1) ih.1, fun i => Nat.casesOn i (fun u hu => ⟨n0, rfl, (Option.some.inj hu) ▸ hp _ _ _ hv r1⟩) fun i u hu => ih.2 i u hu⟩
theorem all_range (l : List Bool) : (List.range l.length).all (fun i => l.getD i true) = l.all id := by
  rw [Bool.eq_iff_iff]
  simp only [List.all_eq_true, List.mem_range, id]
  constructor
  · intro h b hb
    obtain ⟨i, hi, rfl⟩ := List.mem_iff_getElem.mp hb
    have := h i hi
    rwa [List.getD_eq_getElem?_getD, List.getElem?_eq_getElem hi] at this
  · intro h i hi
    rw [List.getD_eq_getElem?_getD, List.getElem?_eq_getElem hi]
    exact h _ (List.getElem_mem hi)

theorem foldl_take {α : Type} (f : α → α → α) (a : α) : ∀ (r : List α) (k : Nat) (x : α), r[k]? = some x → (r.take (k + 1)).foldl f a = f ((r.take k).foldl f a) x := by
  intro r k x hx
  rw [List.take_add_one, hx, List.foldl_append]; rfl
theorem argBest_fold (p : Int → Int → Bool) (a : Int) (r : List Int) (bt : Nat → Nat → Bool) (hbt : ∀ i j x y, (a :: r)[i]? = some x → (a :: r)[j]? = some y → bt i j = p y x) :
    ∀ k, k ≤ r.length → (a :: r)[argBest bt k]? = some ((r.take k).foldl (fun m x => if p m x then x else m) a) := by
  intro k
  induction k with
  | zero => intro _; simp [argBest]
  | succ k ih =>
    intro hk
    have hx : r[k]? = some r[k] := List.getElem?_eq_getElem (by (first | lia | omega))
    have ih := ih (by (first | lia | omega))
    have hx' : (a :: r)[k + 1]? = some r[k] := by simpa using hx
    rw [show argBest bt (k + 1) = if bt (k + 1) (argBest bt k) then k + 1 else argBest bt k from rfl, foldl_take _ _ _ _ _ hx, hbt _ _ _ _ hx' ih]
    split
    · exact hx'
    · exact ih

/-- a built-in, called with one value -/
noncomputable def CallsTo (fx : Fx g) (b u : Value) (z : V) (s : Shared) : Prop := wpAny g.M fx.A (call b [u]) (OkE g fx.F (some (.ok z)) s) (ErrE g fx.F (some (.ok z)) s) s
noncomputable def IntIs (_ : Nat) (n : Int) (u : Value) : Prop := ∃ t, u = .int n t
noncomputable def BoolIs (_ : Nat) (n : Bool) (u : Value) : Prop := u = .bool n
theorem int_rep {h : Heap} (v : V) (u : Value) (a : Int) (e : theInt v = some a) (r : RepI h v u) : IntIs 0 a u := by cases theInt_of e; exact r
theorem bool_rep {h : Heap} (v : V) (u : Value) (a : Bool) (e : theBool v = some a) (r : RepI h v u) : BoolIs 0 a u := by cases theBool_of e; exact r
theorem lt63 {n : Nat} (h : n ≤ 1000000000) : (n : Int) < 2 ^ 63 := by (first | lia | omega)
theorem len_ok {x z : V} {u : Value} {s₀ s : Shared} (h : builtin1 .len x = some z) (rx : ResOk g s₀ s x u) : CallsTo fx (.builtin "len") u z s := by
  obtain ⟨n, hn, h⟩ := Option.bind_eq_some_iff.mp h
  obtain ⟨hle, h⟩ := ite_some h
  subst h
  cases x <;> first | (cases hn; done) | skip
  · obtain ⟨t, rfl⟩ : ∃ t, u = .str _ t := rx
    cases hn; exact P.len_str (Int.not_le.mpr (lt63 hle)) (okE_of rfl .toks ⟨_, rfl⟩)
  · obtain ⟨p, ip, np, rfl, hp, rp⟩ : RepI s.heap (.tup _) u := rx
    have hl := rp.length
    cases hn; exact P.len_tuple hp (Int.not_le.mpr (lt63 (Nat.le_trans (Nat.le_of_eq hl) hle))) (okE_of rfl .toks ⟨_, congrArg (fun n : Nat => Value.int n _) hl⟩)
  · obtain ⟨p, ip, np, rfl, hp, rp⟩ : Rep s.heap (.lst _ _) u := rx.rep rfl
    have hl := rp.length
    cases hn; exact len_list (isL_list hp) (lt63 (Nat.le_trans (Nat.le_of_eq hl) hle)) (okE_of rfl .toks ⟨_, congrArg (fun n : Nat => Value.int n _) hl⟩)
/-- how max and min walk -/
noncomputable def BestRule (fx : Fx g) (b : Value) (op : CmpOp) : Prop := ∀ (x : Value) (Q E : Value → Shared → Prop) (s : Shared),
  wpAny g.M fx.A.in1 (pyIter x) (fun it s₂ => ∃ I fp wr n P St bt, it = .ref I ∧ Walks g.prog g.w fx.A.in1 I fp wr n P St ∧ St 0 s₂.heap ∧ (∀ b ∈ fp, b < s₂.heap.objs.size) ∧ 0 < n ∧ CmpOf g.prog g.w fx.A.in1 op P bt ∧
      ∀ v h' tk, P (argBest bt (n - 1)) v → (∀ b o, b ∉ wr → s₂.heap.get? b = some o → h'.get? b = some o) → Q v { s₂ with heap := h', toks := tk }) E s →
    wpAny g.M fx.A (call b [x]) Q E s
theorem best_ok {b : Value} {op : CmpOp} {p : Int → Int → Bool} (rule : BestRule fx b op) (cmp : ∀ (m n : Int) (t t' : Nat) (s : Shared) (Q E : Value → Shared → Prop), Q (.bool (p n m)) s → wpAny g.M fx.A.in1 (richCompare op (.int m t) (.int n t')) Q E s)
    {o : Bool} {vs : List V} {a : Int} {r : List Int} {u : Value} {s : Shared} (hi : intIs vs = some (a :: r)) (rx : Rep s.heap (.lst o vs) u) : CallsTo fx b u (.int (r.foldl (fun m x => if p m x = true then x else m) a)) s := by
  obtain ⟨q, ip, np, rfl, hp, rp⟩ := rx
  obtain ⟨hlen, hget⟩ := isL_get int_rep hi rp
  refine rule _ _ _ _ (wpAny_pyIter_list (isL_list hp) ?_)
  have hne : q ≠ s.heap.objs.size := Nat.ne_of_lt (Heap.lt_size hp)
  have hl' := isL_list (hp.push { cls := .type "list_iterator", data := .fields #[.ref q, .int 0 0] })
  have vals : ∀ (i : Nat) (v : Value), ip[i]? = some v → ∃ n, (a :: r)[i]? = some n ∧ IntIs 0 n v := fun i v hv => hget i v (Array.getElem?_toList.trans hv)
  have bts : ∀ i j x y, (a :: r)[i]? = some x → (a :: r)[j]? = some y → p ((a :: r).getD j 0) ((a :: r).getD i 0) = p y x := fun i j x y e1 e2 => by
    rw [List.getD_eq_getElem?_getD, List.getD_eq_getElem?_getD, e1, e2]; rfl
  have hsz : ip.size = r.length + 1 := hlen
  refine ⟨s.heap.objs.size, _, _, _, _, _, fun i j => p ((a :: r).getD j 0) ((a :: r).getD i 0), rfl, Walks.list (A := fx.A.in1) fx.hh s.heap.objs.size q hne ip, ⟨⟨_, Heap.get?_push_size _ rfl, rfl, rfl⟩, hl'⟩, ?_, hsz ▸ Nat.succ_pos _, ?_, ?_⟩
  · intro b hb
    rw [Heap.size_push]
    rcases List.mem_cons.mp hb with e | hb
    · rw [e]; exact Nat.lt_succ_self _
    · rw [List.mem_singleton.mp hb]; exact Nat.lt_succ_of_lt (Heap.lt_size hp)
  · intro i j vi vj s' Q E hi' hj hq
    obtain ⟨n1, e1, t1, rfl⟩ := vals i vi hi'
    obtain ⟨n2, e2, t2, rfl⟩ := vals j vj hj
    exact cmp n1 n2 t1 t2 s' Q E (bts i j _ _ e1 e2 ▸ hq)
  · intro v h' tk hv hk
    have hb := argBest_fold p a r (fun i j => p ((a :: r).getD j 0) ((a :: r).getD i 0)) bts r.length (Nat.le_refl _)
    obtain ⟨n1, e1, t1, rfl⟩ := vals _ v hv
    rw [hsz] at e1
    have hb' := Option.some.inj (hb.symm.trans e1)
    rw [List.take_of_length_le (Nat.le_refl _)] at hb'
    exact okE_of rfl ⟨.of_keeps fun b o e => hk b o (fun m => Nat.ne_of_lt (Heap.lt_size e) (List.mem_singleton.mp m)) (Heap.get?_push_of_some _ e), rfl, rfl, rfl⟩ ⟨t1, hb' ▸ rfl⟩
theorem all_ok {o : Bool} {vs : List V} {l : List Bool} {u : Value} {s : Shared} (hi : boolIs vs = some l) (rx : Rep s.heap (.lst o vs) u) : CallsTo fx (.builtin "all") u (.bool (l.all id)) s := by
  obtain ⟨q, ip, np, rfl, hp, rp⟩ := rx
  obtain ⟨hlen, hget⟩ := isL_get bool_rep hi rp
  refine call_all_walk (wpAny_pyIter_list (isL_list hp) ?_)
  have hne : q ≠ s.heap.objs.size := Nat.ne_of_lt (Heap.lt_size hp)
  have hl' := isL_list (hp.push { cls := .type "list_iterator", data := .fields #[.ref q, .int 0 0] })
  refine ⟨s.heap.objs.size, _, _, _, _, _, fun i => l.getD i true, rfl, Walks.list (A := fx.A.in1) fx.hh s.heap.objs.size q hne ip, ⟨⟨_, Heap.get?_push_size _ rfl, rfl, rfl⟩, hl'⟩, ?_, ?_⟩
  · intro i v s' Q E hi' hq
    obtain ⟨b, e1, e2⟩ := hget i v (Array.getElem?_toList.trans hi')
    cases (show v = .bool b from e2)
    have : l.getD i true = b := by rw [List.getD_eq_getElem?_getD, e1]; rfl
    exact wpAny_truthy_bool (this ▸ hq)
  · intro h' tk hk
    exact okE_of rfl ⟨.of_keeps fun b o e => hk b o (fun m => Nat.ne_of_lt (Heap.lt_size e) (List.mem_singleton.mp m)) (Heap.get?_push_of_some _ e), rfl, rfl, rfl⟩ (congrArg Value.bool ((congrArg (fun n => (List.range n).all _) hlen).trans (all_range l)))
theorem oneC_of {s : Str} {c : Nat} (h : oneC s = some c) : s = ⟨#[c]⟩ := by
  obtain ⟨⟨l⟩⟩ := s
  cases l with
  | nil => cases h
  | cons a r =>
    cases r with
    | nil => cases h; rfl
    | cons b q => cases h
theorem the_lst {v z : V} {f : List V → Option V} (h : (theLst v).bind f = some z) : ∃ o vs, v = .lst o vs ∧ f vs = some z := by
  obtain ⟨vs, hv, h⟩ := Option.bind_eq_some_iff.mp h
  obtain ⟨o, e⟩ := theLst_of hv
  exact ⟨o, vs, e, h⟩
theorem foldl_dec {q : Int → Int → Prop} [∀ m x, Decidable (q m x)] (r : List Int) (a : Int) : r.foldl (fun m x => if q m x then x else m) a = r.foldl (fun m x => if decide (q m x) = true then x else m) a :=
  congrArg (fun f => r.foldl f a) (funext fun m => funext fun x => by by_cases h : q m x <;> simp [h])
theorem max_rule : BestRule fx (.builtin "max") .Gt := fun _ _ _ _ h => call_max_walk h
theorem min_rule : BestRule fx (.builtin "min") .Lt := fun _ _ _ _ h => call_min_walk h
theorem b1_ok {f : B1} {x z : V} {u : Value} {s₀ s : Shared} (h : builtin1 f x = some z) (rx : ResOk g s₀ s x u) : CallsTo fx (b1val f) u z s := by
  cases f with
  | len => exact len_ok h rx
  | ord =>
    obtain ⟨a, ha, h⟩ := Option.bind_eq_some_iff.mp h
    obtain ⟨c, hc, rfl⟩ := Option.map_eq_some_iff.mp h
    cases theStr_of ha
    cases oneC_of hc
    obtain ⟨t, rfl⟩ : ∃ t, u = .str ⟨#[c]⟩ t := rx
    exact P.ord_of_char (okE_of rfl .toks ⟨_, rfl⟩)
  | str =>
    obtain ⟨n, ha, h⟩ := Option.bind_eq_some_iff.mp h
    obtain ⟨hl, rfl⟩ := ite_some h
    cases theInt_of ha
    obtain ⟨t, rfl⟩ : ∃ t, u = .int n t := rx
    exact P.str_of_int hl (okE_of rfl .toks ⟨_, rfl⟩)
  | max =>
    obtain ⟨o, vs, rfl, h⟩ := the_lst h
    obtain ⟨l, hl, h⟩ := Option.bind_eq_some_iff.mp h
    cases l with
    | nil => cases h
    | cons a r =>
      cases h
      rw [foldl_dec]
      exact best_ok max_rule (p := fun m n => decide (m < n)) (fun m n t t' s Q E h => gt_int h) hl (rx.rep rfl)
  | min =>
    obtain ⟨o, vs, rfl, h⟩ := the_lst h
    obtain ⟨l, hl, h⟩ := Option.bind_eq_some_iff.mp h
    cases l with
    | nil => cases h
    | cons a r =>
      cases h
      rw [foldl_dec]
      exact best_ok min_rule (p := fun m n => decide (n < m)) (fun m n t t' s Q E h => lt_int h) hl (rx.rep rfl)
  | abs =>
    obtain ⟨n, ha, rfl⟩ := Option.map_eq_some_iff.mp h
    cases theInt_of ha
    obtain ⟨t, rfl⟩ : ∃ t, u = .int n t := rx
    refine call_abs_int fun t' tk => okE_of rfl .toks ⟨t', ?_⟩
    congr 1; split <;> (first | lia | omega)
  | all =>
    obtain ⟨o, vs, rfl, h⟩ := the_lst h
    obtain ⟨l, hl, rfl⟩ := Option.map_eq_some_iff.mp h
    exact all_ok hl (rx.rep rfl)
  | tuple =>
    obtain ⟨o, vs, rfl, h⟩ := the_lst h
    obtain ⟨hle, rfl⟩ := ite_some h
    obtain ⟨p, ip, np, rfl, hp, rp⟩ : Rep s.heap (.lst o vs) u := rx.rep rfl
    refine call_tuple_list (isL_list hp) (fun h' hk => okE_of rfl ⟨.trans (.of_keeps hk) (.push _ _), rfl, rfl, rfl⟩ ⟨_, _, 0, rfl, IsT.new _ _, ?_⟩) (Nat.le_trans (Nat.le_trans (Nat.le_of_eq rp.length) hle) sl_ge)
    exact rp.tups fun b i n e => Heap.get?_push_of_some _ (hk _ _ e)

theorem sim_b1 {f : B1} {pa : Expr} {np pos : Pos} {ra : R V} (hs : notStar pa = true) (hb : BName fx (b1name f) (b1val f)) (ha : SimE fx pa ρ ra) :
    SimE fx (.Call (.Name (b1name f) np) [pa] [] pos) ρ (R.bind ra fun x => R.of (builtin1 f x)) := by
  intro hr s hE S
  refine wpAny_Call_NameR (eval_builtin S hb.kind hb.free hb.main hb.boot hb.dbg ?_)
  rw [starEach_cons hs, backTo_cons]
  have main : wpAny g.M fx.A (eval pa fx.env) (fun u s₁ => wpAny g.M fx.A (call (b1val f) [u]) (OkE g fx.F (R.bind ra fun x => R.of (builtin1 f x)) s) (ErrE g fx.F (R.bind ra fun x => R.of (builtin1 f x)) s) s₁) (ErrE g fx.F (R.bind ra fun x => R.of (builtin1 f x)) s) s := by
    refine ha.use (bind_ne_none hr) S (fun x u s₁ e st ro S₁ => ?_) fun a ev s₁ e st ex => ⟨a, ev, rfl, bind_err e, st, ex⟩
    rw [bind_ok e] at hr ⊢
    obtain ⟨z, hz⟩ := of_ne_none hr
    rw [hz]
    exact wpAny_mono (b1_ok hz ro) (fun v s₂ ⟨z, e2, st2, ro2⟩ => ⟨z, e2, st.trans st2, ro2.pre st.ext⟩) fun x s₂ ⟨a, ev, e1, e2, st2, ex⟩ => ⟨a, ev, e1, e2, st.trans st2, ex.mono st.ext⟩
  cases f with
  | len => exact call1_builtin (id := "len") main
  | ord => exact call1_builtin (id := "ord") main
  | str => exact call1_type (T := "str") main
  | max => exact call1_builtin (id := "max") main
  | min => exact call1_builtin (id := "min") main
  | abs => exact call1_builtin (id := "abs") main
  | all => exact call1_builtin (id := "all") main
  | tuple => exact call1_type (T := "tuple") main
end
end Mine
end
section
open PySem PySem.Calls PyProof.Rows PySem.SeqAt
namespace Mine

theorem attrBase_of {o : Expr} (h : noCall o = true) (name : Str) (env : Env) (whole : Sem Value) : attributeBase o name env whole = whole := by
  cases o <;> first | rfl | cases h
theorem attrBase_call {id : Str} {p pos : Pos} (h : (id != "super") = true) (name : Str) (env : Env) (whole : Sem Value) : attributeBase (.Call (.Name id p) [] [] pos) name env whole = whole := by
  show (if (id != "super" || name == "__class__" || env.kindOf "super" != some .globalImplicit || env.kindOf "__class__" != some .free) = true then (do return ← whole) else _) = whole
  rw [h]
  simp

theorem evalArgs_nil {M : Model} {A : Around} {E : Value → Shared → Prop} {s : Shared} {f : Value} {Q : Args → Shared → Prop} (h : Q ⟨[], []⟩ s) : wpAny M A (evalArgs f true [] []) Q E s := by
  unfold evalArgs
  show wpAny M A (spliced [] >>= _) Q E s
  refine wpAny_bind (spliced_nil ?_)
  refine wpAny_bind (wpAny_pure ?_)
  refine wpAny_holding ?_
  exact wpAny_bind (wpAny_pure (wpAny_bind (wpAny_pure (wpAny_pure h))))

section
variable {g : Gd} {fx : Fx g} {ρ : Rho}

theorem str_noref {x : Str} {t : Tok} {s : Shared} : ∀ a, Value.str x t = .ref a → ∃ ob, s.heap.get? a = some ob ∧ ob.dict = none := fun _ q => by cases q

theorem sim_lower {pa : Expr} {apos pos : Pos} {ra : R V} (hb : noCall pa = true) (hl : (apos.endLine == pos.line) = true) (ha : SimE fx pa ρ ra) :
    SimE fx (.Call (.Attribute pa (Str.ofString "lower") apos) [] [] pos) ρ (R.bind ra fun x => match x with
      | .str s => if Builtin.Str.tooLong (Txt.lower s).length = false then some (.ok (.str (Txt.lower s))) else none
      | _ => none) := by
  intro hr s hE S
  refine wpAny_Call_method (T := "str") (id := "str.lower") (attrBase_of hb _ _ _) rfl hl F.plainAttrs_str F.slot_str_lower F.type_str_lower (ha.use (bind_ne_none hr) S (fun x u s₁ e st ro S₁ => ?_) fun a ev s₁ e st ex => ⟨a, ev, rfl, bind_err e, st, ex⟩)
  rw [bind_ok e] at hr ⊢
  split at hr <;> first | exact absurd rfl hr | skip
  rename_i a
  split at hr <;> first | exact absurd rfl hr | skip
  rename_i hc
  obtain ⟨t, rfl⟩ : ∃ t, u = .str a t := ro
  refine ⟨typeIs_str _ _ _, str_noref, callWith_builtin rfl (evalArgs_nil (SC.lower hc (okE_of (v := .str (Txt.lower a)) (by simp [hc]) (st.trans .toks) ⟨_, rfl⟩)))⟩

theorem sim_starts {pa pb : Expr} {apos pos : Pos} {ra rb : R V} (hb : noCall pa = true) (hs : notStar pb = true) (hl : (apos.endLine == pos.line) = true) (ha : SimE fx pa ρ ra) (hb' : SimE fx pb ρ rb) :
    SimE fx (.Call (.Attribute pa (Str.ofString "startswith") apos) [pb] [] pos) ρ (R.bind ra fun x => match x with
      | .str s => R.bind rb fun y => match y with
        | .str t => some (.ok (.bool (Txt.startswith s t)))
        | _ => none
      | _ => none) := by
  intro hr s hE S
  have hba : backTo pos (starEach [pb] fx.env) = [(false, eval pb fx.env)] := by rw [starEach_cons hs]; rfl
  refine wpAny_Call_method (T := "str") (id := "str.startswith") (attrBase_of hb _ _ _) (by rw [hba]; rfl) hl F.plainAttrs_str F.slot_str_startswith F.type_str_startswith (ha.use (bind_ne_none hr) S (fun x u s₁ e st ro S₁ => ?_) fun a ev s₁ e st ex => ⟨a, ev, rfl, bind_err e, st, ex⟩)
  rw [bind_ok e] at hr ⊢
  rw [hba]
  cases x <;> first | exact absurd rfl hr | skip
  rename_i a
  obtain ⟨t, rfl⟩ : ∃ t, u = .str a t := ro
  refine ⟨typeIs_str _ _ _, str_noref, callWith_builtin rfl (evalArgs_plain (spliced_cons (hb'.use (bind_ne_none hr) S₁ (fun y t' s₂ e' st' ro' S₂ => spliced_nil ?_) fun a ev s₂ e' st' ex => ⟨a, ev, rfl, bind_err e', st.trans st', ex.mono st.ext⟩)))⟩
  dsimp only at hr ⊢
  rw [bind_ok e'] at hr ⊢
  cases y <;> first | exact absurd rfl hr | skip
  rename_i b
  obtain ⟨t2, rfl⟩ : ∃ t2, t' = .str b t2 := ro'
  exact SC.startswith (okE_of rfl (st.trans st') rfl)

theorem strIs_vals {h : Heap} : ∀ {vs : List V} {us : List Value} {l : List Str}, strIs vs = some l → RepL h vs us → ∃ ps : List (Str × Tok), us = strValues ps ∧ ps.map (·.1) = l
  | [], us, l, hl, r => by unfold RepL at r; subst r; cases isL_nil hl; exact ⟨[], rfl, rfl⟩
  | v :: vs, us, l, hl, r => by
    unfold RepL at r
    obtain ⟨y, ys, rfl, r1, r2⟩ := r
    obtain ⟨n0, l', hv, hl', rfl⟩ := isL_cons hl
    cases theStr_of hv
    obtain ⟨t, rfl⟩ := r1
    obtain ⟨ps, e1, e2⟩ := strIs_vals hl' r2
    exact ⟨(_, t) :: ps, by rw [e1]; rfl, by rw [List.map_cons, e2]⟩

theorem sim_join {pb : Expr} {k : Nat} {p apos pos : Pos} {rb : R V} (hs : notStar pb = true) (hl : (apos.endLine == pos.line) = true) (hb' : SimE fx pb ρ rb) :
    SimE fx (.Call (.Attribute (.Constant (.str Str.empty) k p) (Str.ofString "join") apos) [pb] [] pos) ρ (R.bind rb fun x => match x with
      | .lst _ vs => R.of ((strIs vs).bind fun l => if JoinOk Str.empty l = true then some (.str (Txt.join Str.empty l)) else none)
      | _ => none) := by
  intro hr s hE S
  have hba : backTo pos (starEach [pb] fx.env) = [(false, eval pb fx.env)] := by rw [starEach_cons hs]; rfl
  refine wpAny_Call_method (T := "str") (id := "str.join") (attrBase_of rfl _ _ _) (by rw [hba]; rfl) hl F.plainAttrs_str F.slot_str_join F.type_str_join (Constant_str ?_)
  rw [hba]
  refine ⟨typeIs_str _ _ _, str_noref, callWith_builtin rfl (evalArgs_plain (spliced_cons ?_))⟩
  have S0 : fx.St hE ({ s with toks := s.toks + 1 } : Shared).heap ρ := S
  refine hb'.use (bind_ne_none hr) S0 (fun y t' s₂ e' st' ro' S₂ => spliced_nil ?_) fun a ev s₂ e' st' ex => ⟨a, ev, rfl, bind_err e', ⟨st'.ext, st'.same⟩, ex⟩
  rw [bind_ok e'] at hr ⊢
  cases y <;> first | exact absurd rfl hr | skip
  rename_i o vs
  obtain ⟨q, iq, nq, rfl, hp, rp⟩ : Rep s₂.heap (.lst o vs) t' := ro'.rep rfl
  dsimp only at hr ⊢
  cases hi : strIs vs with
  | none => rw [hi] at hr; exact absurd rfl hr
  | some l =>
    rw [hi] at hr
    simp only [Option.bind_some] at hr ⊢
    split at hr <;> first | exact absurd rfl hr | skip
    rename_i hok
    obtain ⟨ps, e1, e2⟩ := strIs_vals hi rp
    refine SC.join (D := q) (l := ps) (by rw [← e1]; simpa using isL_list hp) e2 hok fun t' k => okE_of (v := .str (Txt.join Str.empty l)) (by rw [if_pos hok]; rfl) ⟨st'.ext, st'.same⟩ ⟨_, rfl⟩

/- f-strings -/
theorem sim_fmt {pa : Expr} {pos : Pos} {ra : R V} (ha : SimE fx pa ρ ra) (hstr : ∀ v, ra = some (.ok v) → ∃ s : Str, v = .str s ∧ s.length ≤ sizeLine) (hra : ∀ ev, ra ≠ some (.error ev)) : SimE fx (.FormattedValue pa (-1) none pos) ρ ra := by
  intro hr s hE S
  refine FormattedValue_plain (ha.use hr S (fun x u s₁ e st ro S₁ => ?_) fun a ev s₁ e st ex => absurd e (hra ev))
  obtain ⟨a, rfl, hl⟩ := hstr x e
  obtain ⟨t, rfl⟩ : ∃ t, u = .str a t := ro
  exact formatField_str (fun t' tk => okE_of e (st.trans .toks) ⟨_, rfl⟩) hl

end
end Mine
end
section
open PySem PySem.Calls PyProof.Rows PySem.SeqAt
set_option genInjectivity false
set_option genSizeOf false
namespace Mine

inductive All2 {α β : Type} (R : α → β → Prop) : List α → List β → Prop
  | nil : All2 R [] []
  | cons {a b l m} : R a b → All2 R l m → All2 R (a :: l) (b :: m)

section
variable {g : Gd} {fx : Fx g} {ρ : Rho}

/- f-strings -/
theorem joinParts_ok : ∀ (ts : List (Sem Value)) (l : List Str), All2 (fun t (a : Str) => SimT fx t ρ (some (.ok (.str a)))) ts l → ∀ (out : Str) (s : Shared) (hE : Heap) (Q E : Value → Shared → Prop), fx.St hE s.heap ρ →
    out.length + (l.map (·.length)).sum ≤ 2000000 → (∀ s' t', Step fx.F s s' → Q (.str (l.foldl (· ++ ·) out) t') s') → wpAny g.M fx.A (joinParts out ts) Q E s
  | [], [], _, out, s, hE, Q, E, S, hl, k => joinParts_nil (k _ _ .toks) (by rw [sizeLine_eq]; simp at hl; (first | lia | omega))
  | t :: ts, a :: l, .cons h hr, out, s, hE, Q, E, S, hl, k => by
    simp only [List.map_cons, List.sum_cons] at hl
    refine joinParts_cons (h.use (by simp) S (fun x u s₁ e st ro S₁ => ?_) fun _ _ _ e _ _ => by simp at e)
    simp at e; subst e
    obtain ⟨tt, rfl⟩ : ∃ t, u = .str a t := ro
    refine ⟨by rw [sizeLine_eq, Str.length_append]; (first | lia | omega), joinParts_ok ts l hr (out ++ a) s₁ hE Q E S₁ (by rw [Str.length_append]; (first | lia | omega)) fun s' t' st' => k s' t' (st.trans st')⟩

theorem strIs_len : ∀ {vs : List V} {l : List Str}, strIs vs = some l → vs.length = l.length
  | [], l, h => by cases isL_nil h; rfl
  | v :: vs, l, h => by
    obtain ⟨n0, l', hv, h', rfl⟩ := isL_cons h
    exact congrArg (· + 1) (strIs_len h')

theorem sim_fstr {values : List Expr} {pos : Pos} {vs : List V} {l : List Str} (h2 : 2 ≤ values.length) (hl : strIs vs = some l) (hsum : (l.map (·.length)).sum ≤ 1000000)
    (h : All2 (fun t (a : Str) => SimT fx t ρ (some (.ok (.str a)))) (evalEach values fx.env) l) :
    SimE fx (.JoinedStr values pos) ρ (some (.ok (.str (l.foldl (· ++ ·) Str.empty)))) := by
  intro _ s hE S
  match values, h2, h with
  | v₁ :: v₂ :: rest, _, h =>
    refine JoinedStr_many (joinParts_ok _ l h Str.empty s hE _ _ S (by have : Str.empty.length = 0 := rfl; (first | lia | omega)) fun s' t' st => okE_of rfl st ⟨_, rfl⟩)

/- dicts -/
noncomputable def mkPairs (env : Env) (pos : Pos) : List (Option Expr) → List Expr → List (Sem Value × Sem Value)
  | some k :: ks, v :: vs => (eval k env, do let x ← eval v env; standAt pos; pure x) :: mkPairs env pos ks vs
  | _, _ => []
theorem keyIs_ok {k : Option Expr} {x : Str} (h : keyIs k x = true) : ∃ n q, k = some (.Constant (.str x) n q) := by
  cases k with
  | none => cases h
  | some e =>
    cases e with
    | Constant c n q =>
      cases c with
      | str k => exact ⟨n, q, by rw [eq_of_beq (show (k == x) = true from h)]⟩
      | _ => cases h
    | _ => cases h
theorem keysAre_cons {k : Option Expr} {ks : List (Option Expr)} {xs : List Str} (h : keysAre (k :: ks) xs = true) : ∃ x n q r, xs = x :: r ∧ k = some (.Constant (.str x) n q) ∧ keysAre ks r = true := by
  cases xs with
  | nil => cases h
  | cons x r =>
    have h : (keyIs k x && keysAre ks r) = true := h
    rw [Bool.and_eq_true] at h
    obtain ⟨n, q, rfl⟩ := keyIs_ok h.1
    exact ⟨x, n, q, r, rfl, rfl, h.2⟩

theorem mkPairs_shape (env : Env) (pos : Pos) : ∀ (keys : List (Option Expr)) (ks : List Str) (values : List Expr), keysAre keys ks = true → keys.length = values.length →
    (evalEachOpt keys env).zip ((evalEach values env).map fun v => do let x ← v; standAt pos; pure x) = (mkPairs env pos keys values).map fun p => (some p.1, p.2)
  | [], ks, values, h, hl => by
    cases values with
    | nil => rfl
    | cons _ _ => cases hl
  | k :: keys, ks, values, h, hl => by
    cases values with
    | nil => cases hl
    | cons v values =>
      obtain ⟨x, n, q, r, _, rfl, h2⟩ := keysAre_cons h
      exact congrArg _ (mkPairs_shape env pos keys r values h2 (Nat.succ.inj hl))
theorem mkPairs_length (env : Env) (pos : Pos) : ∀ (keys : List (Option Expr)) (ks : List Str) (values : List Expr), keysAre keys ks = true → keys.length = values.length → (mkPairs env pos keys values).length = ks.length
  | [], ks, values, h, hl => by
    cases ks with
    | nil => rfl
    | cons _ _ => cases h
  | k :: keys, ks, values, h, hl => by
    cases values with
    | nil => cases hl
    | cons v values =>
      obtain ⟨x, n, q, r, rfl, rfl, h2⟩ := keysAre_cons h
      exact congrArg Nat.succ (mkPairs_length env pos keys r values h2 (Nat.succ.inj hl))

/-- the pairs of a display -/
noncomputable def SimP (fx : Fx g) (pairs : List (Sem Value × Sem Value)) (ks : List Str) (ρ : Rho) (r : R (List V)) : Prop :=
  r ≠ none → ∀ (s : Shared) (hE : Heap), fx.St hE s.heap ρ → wpAny g.M fx.A (evalPairs pairs) (fun ps s' => ∃ vs us, r = some (.ok vs) ∧ Step fx.F s s' ∧ RepA s'.heap vs us ∧ Carries (strKind g.prog g.w) ps (ks.zip us) ∧ us.length = ks.length) (ErrL g fx.F r s) s
theorem simP_nil : SimP fx [] [] ρ (some (.ok [])) := fun _ _ _ _ => evalPairs_nil ⟨[], [], rfl, .refl _ _, rfl, trivial, rfl⟩
theorem simP_cons {k : Str} {kk : Nat} {p pos : Pos} {t : Sem Value} {pairs : List (Sem Value × Sem Value)} {ks : List Str} {r : R V} {rl : R (List V)} (h : SimT fx t ρ r) (hl : SimP fx pairs ks ρ rl) :
    SimP fx ((eval (.Constant (.str k) kk p) fx.env, do let x ← t; standAt pos; pure x) :: pairs) (k :: ks) ρ (R.bind r fun x => if plain x then R.bind rl fun xs => some (.ok (x :: xs)) else none) := by
  intro hr s hE S
  refine evalPairs_cons (Constant_str (wpAny_bind ?_))
  have S0 : fx.St hE ({ s with toks := s.toks + 1 } : Shared).heap ρ := S
  have t0 : Step fx.F s { s with toks := s.toks + 1 } := .toks
  refine h.use (bind_ne_none hr) S0 (fun x u s₁ e st ro S₁ => wpAny_bind (wpAny_standAt (wpAny_pure ?_))) fun a ev s₁ e st ex => ⟨a, ev, rfl, bind_err e, t0.trans st, ex⟩
  rw [bind_ok e] at hr ⊢
  cases hp : plain x with
  | false => rw [hp] at hr; exact absurd rfl hr
  | true =>
    rw [hp] at hr
    rw [if_pos rfl] at hr ⊢
    refine wpAny_mono (hl (bind_ne_none hr) s₁ hE S₁) (fun ps s₂ ⟨vs, us, e2, st2, ra, hc, hlen⟩ => ?_) fun y s₂ ⟨a, ev, e1, e2, st2, ex⟩ => ⟨a, ev, e1, bind_err e2, (t0.trans st).trans st2, ex.mono (t0.trans st).ext⟩
    refine ⟨x :: vs, u :: us, bind_ok e2, (t0.trans st).trans st2, ⟨u, us, rfl, (ro.plain hp).ext S₁.stk.ns st2.ext.weak, ra⟩, ⟨?_, rfl, hc⟩, by simp [hlen]⟩
    show Value.isStrOf k (.str k s.toks) = true
    unfold Value.isStrOf; simp

theorem stored_new {kvs : List (Str × Value)} {k : Str} {v : Value} (h : k ∉ kvs.map (·.1)) : stored kvs k v = kvs ++ [(k, v)] := by
  unfold stored
  rw [if_neg]
  intro q
  rw [List.any_eq_true] at q
  obtain ⟨p, hp, e⟩ := q
  exact h (List.mem_map.mpr ⟨p, hp, by simpa using e⟩)
theorem merged_nodup : ∀ (more acc : List (Str × Value)), (more.map (·.1)).Nodup → (∀ p ∈ more, p.1 ∉ acc.map (·.1)) → merged acc more = acc ++ more
  | [], acc, _, _ => by simp [merged]
  | (k, v) :: r, acc, hn, hd => by
    rw [List.map_cons, List.nodup_cons] at hn
    have e : merged acc ((k, v) :: r) = merged (stored acc k v) r := rfl
    rw [e, stored_new (hd (k, v) (List.mem_cons_self ..)), merged_nodup r _ hn.2]
    · simp
    · intro p hp q
      rw [List.map_append, List.mem_append] at q
      rcases q with q | q
      · exact hd p (List.mem_cons_of_mem _ hp) q
      · simp at q
        exact hn.1 (List.mem_map.mpr ⟨p, hp, q⟩)

theorem dlook_rep {h : Heap} : ∀ (ks : List Str) (vs : List V) (us : List Value), RepL h vs us → ks.length = vs.length → ∀ k,
    (∀ x, dlook (ks.zip vs) k = some x → ∃ y, valueAt (ks.zip us) k = some y ∧ RepI h x y) ∧ (dlook (ks.zip vs) k = none → valueAt (ks.zip us) k = none)
  | [], [], us, r, _, k => by unfold RepL at r; subst r; simp [dlook, valueAt]
  | c :: ks, v :: vs, us, r, hl, k => by
    unfold RepL at r
    obtain ⟨y, ys, rfl, r1, r2⟩ := r
    have ih := dlook_rep ks vs ys r2 (by simpa using hl) k
    by_cases q : c = k
    · subst q
      simp [dlook, valueAt, List.find?_cons]
      exact r1
    · have e1 : dlook ((c :: ks).zip (v :: vs)) k = dlook (ks.zip vs) k := by
        simp [dlook, List.find?_cons, q]
      have e2 : valueAt ((c :: ks).zip (y :: ys)) k = valueAt (ks.zip ys) k := by
        simp [valueAt, List.find?_cons, q]
      rw [e1, e2]; exact ih

theorem sim_dict {keys : List (Option Expr)} {values : List Expr} {ks : List Str} {pos : Pos} {rl : R (List V)} (hk : keysAre keys ks = true) (hlen : keys.length = values.length) (hne : ks ≠ []) (c2 : ks.Nodup) (h15 : ks.length ≤ 15)
    (h : SimP fx (mkPairs fx.env pos keys values) ks ρ rl) :
    SimE fx (.Dict keys values pos) ρ (R.bind rl fun xs => if ks.length = xs.length ∧ xs.all noList = true then some (.ok (.dict (ks.zip xs))) else none) := by
  intro hr s hE S
  have hml := mkPairs_length fx.env pos keys ks values hk hlen
  · refine wpAny_Dict_pairs (knd := strKind g.prog g.w) (mkPairs_shape fx.env pos keys ks values hk hlen) (fun q => hne (List.length_eq_zero_iff.mp (by rw [← hml, q]; rfl))) (by rw [hml]; exact h15) ?_
    have p0 : Step fx.F s { s with heap := s.heap.push { cls := .type "dict", data := .dict #[] } } := .push
    have S0 : fx.St hE (s.heap.push { cls := .type "dict", data := .dict #[] }) ρ := S.step fx.O p0.ext
    refine wpAny_mono (h (bind_ne_none hr) _ hE S0) (fun ps s₁ ⟨vs, us, e, st, ra, hc, hul⟩ => ?_) fun y s₁ ⟨a, ev, e1, e2, st, ex⟩ => ⟨a, ev, e1, bind_err e2, p0.trans st, ex.mono p0.ext⟩
    rw [bind_ok e] at hr ⊢
    split at hr <;> first | exact absurd rfl hr | skip
    rename_i hcnd
    obtain ⟨c1, c4⟩ := hcnd
    have hn : s.heap.get? s.heap.objs.size = none := Heap.get?_none_of_le (Nat.le_refl _)
    have hnF : s.heap.objs.size ∉ fx.F := S.stk.ns.fresh hn
    have D0 : (s.heap.push { cls := .type "dict", data := .dict #[] }).DictOf (strKind g.prog g.w) s.heap.objs.size [] := Heap.DictOf.new _
    refine ⟨ks.zip us, hc, D0.at fun o eo => (st.ext _ o eo).2 hnF, fun h' hD hS => ?_⟩
    have hkeys : (ks.zip us).map (·.1) = ks := List.map_fst_zip (by (first | lia | omega))
    rw [merged_nodup _ _ (by rw [hkeys]; exact c2) (by simp)] at hD
    have x1 : Ext fx.F s.heap h' := fun b o eb => by
      have hb : b ≠ s.heap.objs.size := Nat.ne_of_lt (Heap.lt_size eb)
      rw [hS.2 b hb]; exact (p0.trans st).ext b o eb
    refine okE_of (v := .dict (ks.zip vs)) (by rw [if_pos ⟨c1, c4⟩]) ⟨x1, st.same⟩ ⟨_, rfl, hn, ?_, _, hD.mapOf, fun k => ?_⟩
    · obtain ⟨o, es, ep, eg, _⟩ := g.hg
      have := Heap.lt_size (S.stk.stays _ _ eg)
      have h1 : sysModules < mainGlobals := by decide
      exact beq_eq_false_iff_ne.mpr (Nat.ne_of_gt (Nat.lt_trans h1 this))
    · have rL : RepL s₁.heap vs us := ra.toL c4
      have rL' : RepL h' vs us := rL.tups (tups_sameBut hS fun o xs n eo q => by
        have := (st.ext _ _ (Heap.get?_push_size s.heap (o := { cls := .type "dict", data := .dict #[] }) rfl)).2 hnF
        rw [this] at eo; cases eo; cases q)
      simp only [List.nil_append]
      exact dlook_rep ks vs us rL' c1 k
end
end Mine
end
section
open PySem PySem.Calls PyProof.Rows PySem.SeqAt
namespace Mine

/-- all but one object go on -/
noncomputable def ExtB (B : Addr) (F : List Addr) (h h' : Heap) : Prop :=
  ∀ b o, b ≠ B → h.get? b = some o → (∃ sl, h'.get? b = some { o with slots := sl }) ∧ (b ∉ F → h'.get? b = some o)
theorem ExtB.of_ext {B : Addr} {F : List Addr} {h h' : Heap} (x : Ext F h h') : ExtB B F h h' := fun b o _ e => x b o e
theorem ExtB.of_same {B : Addr} {F : List Addr} {h h' : Heap} (x : Heap.SameBut B h h') : ExtB B F h h' := fun b o hb e => by rw [x.2 b hb]; exact ⟨⟨o.slots, e⟩, fun _ => e⟩
theorem ExtB.trans {B : Addr} {F : List Addr} {h₁ h₂ h₃ : Heap} (x : ExtB B F h₁ h₂) (y : ExtB B F h₂ h₃) : ExtB B F h₁ h₃ := fun b o hb e => by
  obtain ⟨⟨sl, e1⟩, k1⟩ := x b o hb e
  obtain ⟨⟨sl2, e2⟩, _⟩ := y b _ hb e1
  exact ⟨⟨sl2, e2⟩, fun hF => (y b o hb (k1 hF)).2 hF⟩
/-- what stood before B was made -/
theorem ExtB.from {B : Addr} {F : List Addr} {h h₁ h₂ : Heap} (x : Ext F h h₁) (y : ExtB B F h₁ h₂) (hB : h.get? B = none) : Ext F h h₂ := fun b o e => by
  have hb : b ≠ B := fun q => by subst q; rw [hB] at e; cases e
  obtain ⟨⟨sl, e1⟩, k1⟩ := x b o e
  obtain ⟨⟨sl2, e2⟩, _⟩ := y b _ hb e1
  exact ⟨⟨sl2, e2⟩, fun hF => (y b o hb (k1 hF)).2 hF⟩

section
variable {g : Gd} {fx : Fx g} {ρ : Rho}

/-- the items of a list or a tuple, walked -/
theorem iter_src {x : V} {vs : List V} {u : Value} {s₀ s : Shared} {hE : Heap} {Q E : Value → Shared → Prop} (S : fx.St hE s.heap ρ) (hx : (∃ o, x = .lst o vs) ∨ x = .tup vs) (rx : ResOk g s₀ s x u)
    (k : ∀ (oI : Obj) (St : Nat → Heap → Prop) (ax : Addr) (items : Array Value), RepL s.heap vs items.toList → ax < s.heap.objs.size → ax ∉ fx.F →
      Walks g.prog g.w fx.A s.heap.objs.size [s.heap.objs.size, ax] [s.heap.objs.size] items.size (fun i v => items[i]? = some v) St → St 0 (s.heap.push oI) → (∀ i h, St i h → (∃ o, h.get? s.heap.objs.size = some o ∧ ∀ xs n, o.data ≠ .seq xs n) ∧ ((∃ j, h.IsListIter s.heap.objs.size ax j) ∨ x = .tup vs)) →
      Q (.ref s.heap.objs.size) { s with heap := s.heap.push oI }) : wpAny g.M fx.A (pyIter u) Q E s := by
  rcases hx with ⟨o, rfl⟩ | rfl
  · obtain ⟨p, ip, np, rfl, hp, rp⟩ : Rep s.heap (.lst o vs) u := rx.rep rfl
    have hne : p ≠ s.heap.objs.size := Nat.ne_of_lt (Heap.lt_size hp)
    refine wpAny_pyIter_list (isL_list hp) (k _ _ p ip rp (Heap.lt_size hp) (S.stk.ns.not_mem hp (by intro _ _ q; cases q)) (Walks.list fx.hh _ p hne ip) ⟨⟨_, Heap.get?_push_size _ rfl, rfl, rfl⟩, isL_list (hp.push _)⟩ fun i h st => ⟨let ⟨o, e, _, hd⟩ := st.1; ⟨o, e, fun xs n q => by rw [hd] at q; cases q⟩, .inl ⟨_, st.1⟩⟩)
  · obtain ⟨p, ip, np, rfl, hp, rp⟩ : RepI s.heap (.tup vs) u := rx
    have hne : p ≠ s.heap.objs.size := Nat.ne_of_lt (Heap.lt_size hp)
    exact wpAny_pyIter_tuple (isT_tuple hp) (k _ _ p ip rp (Heap.lt_size hp) (S.stk.ns.not_mem hp (by intro _ _ q; cases q)) (Walks.tuple fx.hh _ p hne ip) ⟨⟨_, Heap.get?_push_size _ rfl, rfl, rfl⟩, isT_tuple (hp.push _)⟩ fun i h st => ⟨let ⟨o, e, _, hd⟩ := st.1; ⟨o, e, fun xs n q => by rw [hd] at q; cases q⟩, .inr rfl⟩)

/-- one turn of a comprehension, as a predicate transformer -/
noncomputable abbrev TurnT := Value → (Value → Shared → Prop) → (Value → Shared → Prop) → Shared → Prop

theorem comp_core {elt target iter : Expr} {scope : Scope} {pos : Pos} {cl : List (Str × Addr)} {x : V} {vs xs : List V} {u : Value} {s₀ s : Shared} {hE : Heap} {Q E : Value → Shared → Prop} (T : Addr → Addr → TurnT)
    (hclos : closureFor scope fx.env = pure cl) (hcell : ∀ y ∈ scope.names, y.2 ≠ .cell) (hkind : scope.kind = .function)
    (S : fx.St hE s.heap ρ) (hx : (∃ o, x = .lst o vs) ∨ x = .tup vs) (rx : ResOk g s₀ s x u) (hlen : xs.length = vs.length) (hsz : vs.length ≤ 1000000)
    (hloop : ∀ (C D I : Addr) (Inv : Nat → Shared → Prop) (R : Result → Shared → Prop) (n : Nat) (t : Shared),
      (∀ n t, Inv n t → wpAny g.M fx.A (pyNext (.ref I)) (fun r t₁ => match r with
        | none => R (.ok .next) t₁
        | some v => T I C v (fun y t₄ => wpAny g.M fx.A (call (.builtin "list.append") [.ref D, y]) (fun _ t₅ => ∃ m, m < n ∧ Inv m t₅) (notedBy g.M fx.A (compEnvC scope cl C fx.env) fun e s' => R (.error e) s') t₄)
            (notedBy g.M fx.A (compEnvC scope cl C fx.env) fun e s' => R (.error e) s') t₁) (notedBy g.M fx.A (compEnvC scope cl C fx.env) fun e s' => R (.error e) s') t) → Inv n t →
      codeAny g.M fx.A (.compLoop (.ListComp elt [⟨target, iter, [], 0⟩] scope pos) 0 (.ref I) (.ref D) (compEnvC scope cl C fx.env)) R t)
    (helt : ∀ (I C : Addr) (i : Nat) (v : V) (z : Value) (t : Shared) (m : Str → Option Value) (K Er : Value → Shared → Prop), vs[i]? = some v → RepI t.heap v z → s.heap.get? C = none → t.heap.Ns C m → Ext fx.F s.heap t.heap → Same s t → fx.St hE t.heap ρ →
      ((∃ ax j, t.heap.IsListIter I ax j) ∨ x = .tup vs) →
      (∀ y t₄ xi m', xs[i]? = some xi → RepI t₄.heap xi y → ExtB C fx.F t.heap t₄.heap → t₄.heap.Ns C m' → Same t t₄ → K y t₄) → T I C z K Er t)
    (fin : ∀ (D : Addr) (s' : Shared) (ys : Array Value) n, s.heap.get? D = none → IsL s'.heap D ys n → RepL s'.heap xs ys.toList → Step fx.F s s' → Q (.ref D) s') :
    wpAny g.M fx.A (pyIter u) (fun it s₂ => wpAny g.M fx.A (newList []) (fun acc s₃ => wpAny g.M fx.A (newFunctionEnv scope fx.env.globals cl [] fx.env.qual none .none (some fx.env)) (fun cenv s₄ =>
      codeAny g.M fx.A (.compStart (.ListComp elt [⟨target, iter, [], 0⟩] scope pos) 0 it acc { cenv with scope := relabel scope fx.env }) (compPost g.M fx.A E none Q acc cenv.locals) s₄) E s₃) E s₂) E s := by
  refine iter_src S hx rx fun oI St ax items rL hax haxF W hst hit => ?_
  have litems := rL.length
  simp only [Array.length_toList] at litems
  -- the new list, the new names
  refine wpAny_newObj_type (wpAny_newFunctionEnv hcell (by intro y hy; simp at hy) (fun h₁ hns₁ hsb₁ => ?_) hkind)
  dsimp only at hns₁ hsb₁ ⊢
  have z1 : (s.heap.push oI).objs.size = s.heap.objs.size + 1 := Heap.size_push _ _
  have z2 : ((s.heap.push oI).push { cls := .type "list", dict := none, data := .seq ([] : List Value).toArray }).objs.size = s.heap.objs.size + 1 + 1 := by rw [Heap.size_push, z1]
  have hIn : s.heap.get? s.heap.objs.size = none := Heap.get?_none_of_le (Nat.le_refl _)
  have hDn : s.heap.get? (s.heap.push oI).objs.size = none := Heap.get?_none_of_le (by rw [z1]; exact Nat.le_succ _)
  have hCn : s.heap.get? ((s.heap.push oI).push { cls := .type "list", dict := none, data := .seq ([] : List Value).toArray }).objs.size = none := Heap.get?_none_of_le (by rw [z2]; exact Nat.le_succ_of_le (Nat.le_succ _))
  have hID : s.heap.objs.size ≠ (s.heap.push oI).objs.size := by rw [z1]; exact Nat.ne_of_lt (Nat.lt_succ_self _)
  have hIC : s.heap.objs.size ≠ ((s.heap.push oI).push { cls := .type "list", dict := none, data := .seq ([] : List Value).toArray }).objs.size := by rw [z2]; exact Nat.ne_of_lt (Nat.lt_succ_of_lt (Nat.lt_succ_self _))
  have hDC : (s.heap.push oI).objs.size ≠ ((s.heap.push oI).push { cls := .type "list", dict := none, data := .seq ([] : List Value).toArray }).objs.size := by rw [z1, z2]; exact Nat.ne_of_lt (Nat.lt_succ_self _)
  have haxC : ax ≠ ((s.heap.push oI).push { cls := .type "list", dict := none, data := .seq ([] : List Value).toArray }).objs.size := by rw [z2]; exact Nat.ne_of_lt (Nat.lt_succ_of_lt (Nat.lt_succ_of_lt hax))
  have haxD : ax ≠ (s.heap.push oI).objs.size := by rw [z1]; exact Nat.ne_of_lt (Nat.lt_succ_of_lt hax)
  have hD0 : ((s.heap.push oI).push { cls := .type "list", dict := none, data := .seq ([] : List Value).toArray }).get? (s.heap.push oI).objs.size = some { cls := .type "list", dict := none, data := .seq ([] : List Value).toArray } := Heap.get?_push_size _ rfl
  have keep1 : ∀ b o, s.heap.get? b = some o → (s.heap.push oI).get? b = some o := fun b o e => Heap.get?_push_of_some _ e
  have keep2 : ∀ b o, (s.heap.push oI).get? b = some o → ((s.heap.push oI).push { cls := .type "list", dict := none, data := .seq ([] : List Value).toArray }).get? b = some o := fun b o e => Heap.get?_push_of_some _ e
  clear z1 z2
  generalize ((s.heap.push oI).push { cls := .type "list", dict := none, data := .seq ([] : List Value).toArray }).objs.size = C at *
  generalize ((s.heap.push oI).push { cls := .type "list", dict := none, data := .seq ([] : List Value).toArray }) = H2 at *
  generalize (s.heap.push oI).objs.size = D at *
  generalize (s.heap.push oI) = H1 at *
  generalize s.heap.objs.size = I at *
  have keep3 : ∀ b o, b ≠ C → H2.get? b = some o → h₁.get? b = some o := fun b o hb e => hsb₁.extBut b o hb (Heap.get?_push_of_some _ e)
  have old : Ext fx.F s.heap h₁ := .of_keeps fun b o e => keep3 b o (fun q => by subst q; rw [hCn] at e; cases e) (keep2 _ _ (keep1 _ _ e))
  have hIF : I ∉ fx.F := S.stk.ns.fresh hIn
  have hDF : D ∉ fx.F := S.stk.ns.fresh hDn
  have hL0 : IsL h₁ D #[] 0 := keep3 _ _ hDC hD0
  have st1 : St 0 h₁ := W.frame _ _ _ hst fun b hb o e => by
    have : b ≠ C := by
      rcases List.mem_cons.mp hb with q | hb
      · rw [q]; exact hIC
      · rw [List.mem_singleton.mp hb]; exact haxC
    exact keep3 b o this (keep2 _ _ e)
  let Inv : Nat → Shared → Prop := fun k t => ∃ i m ys n, k = items.size + 1 - i ∧ i ≤ items.size ∧ Same s t ∧ Ext fx.F s.heap t.heap ∧ t.heap.Ns C m ∧ IsL t.heap D ys n ∧ RepL t.heap (xs.take i) ys.toList ∧ St i t.heap
  have start : ∀ tk, Inv (items.size + 1) { s with heap := h₁, toks := tk } := fun tk => ⟨0, _, #[], 0, rfl, Nat.zero_le _, .refl _, old, hns₁, hL0, by simp [RepL], st1⟩
  have loop : ∀ tk, codeAny g.M fx.A (.compLoop (.ListComp elt [⟨target, iter, [], 0⟩] scope pos) 0 (.ref I) (.ref D) (compEnvC scope cl C fx.env)) (compPost g.M fx.A E none Q (.ref D) C) { s with heap := h₁, toks := tk } := fun tk => by
    refine hloop C D I Inv _ _ _ (fun k t hInv => ?_) (start tk)
    obtain ⟨i, m, ys, n, rfl, hi, sm, ext, hns, hl, rl, hst⟩ := hInv
    have stay : ∀ {h' : Heap} (b : Addr) o, b ≠ I → (∀ c oc, c ∉ [I] → t.heap.get? c = some oc → h'.get? c = some oc) → t.heap.get? b = some o → h'.get? b = some o := fun b o hb hk e => hk b o (by simpa using hb) e
    have tupsN : ∀ {h' : Heap}, (∀ c oc, c ∉ [I] → t.heap.get? c = some oc → h'.get? c = some oc) → Tups t.heap h' := fun hk b it n e => by
      by_cases q : b = I
      · subst q
        obtain ⟨⟨o, eo, hd⟩, _⟩ := hit i t.heap hst
        rw [IsT, eo] at e; cases e; exact absurd rfl (hd _ _)
      · exact stay b _ q hk e
    by_cases hlt : i < items.size
    · refine W.item i t _ _ hlt hst fun v h' tk' hv hst' hk => ?_
      have hv : items[i]? = some v := hv
      obtain ⟨vi, evi, rvi⟩ := rL.get' i v (by simpa using hv)
      have ext' : Ext fx.F s.heap h' := fun b o e => by
        have hb : b ≠ I := fun q => by subst q; rw [hIn] at e; cases e
        obtain ⟨⟨sl, e1⟩, k1⟩ := ext b o e
        exact ⟨⟨sl, stay b _ hb hk e1⟩, fun hF => stay b o hb hk (k1 hF)⟩
      have ns' : h'.Ns C m := by obtain ⟨o, es, ep, e, r⟩ := hns; exact ⟨o, es, ep, stay C o (Ne.symm hIC) hk e, r⟩
      have l' : IsL h' D ys n := stay D _ (Ne.symm hID) hk hl
      have tups' : Tups t.heap h' := tupsN hk
      refine helt I C i vi v { t with heap := h', toks := tk' } m _ _ evi (rvi.tups (ext'.weak.tups S.stk.ns)) hCn ns' ext' sm (S.step fx.O ext') ?_ fun y t₄ xi m' exi ryi xb hns4 sm4 => ?_
      · rcases (hit (i + 1) h' hst').2 with ⟨j, q⟩ | q
        · exact .inl ⟨_, _, q⟩
        · exact .inr q
      · have l4 : IsL t₄.heap D ys n := (xb D _ hDC l').2 hDF
        have hys : ys.size ≤ sizeLine := by
          have := rl.length
          simp only [Array.length_toList, List.length_take] at this
          have := sl_ge; (first | lia | omega)
        have hst4 : St (i + 1) t₄.heap := W.frame _ _ _ hst' fun b hb o e => by
          rcases List.mem_cons.mp hb with q | hb
          · rw [q] at e ⊢; exact (xb I o hIC e).2 hIF
          · rw [List.mem_singleton.mp hb] at e ⊢; exact (xb ax o haxC e).2 haxF
        refine wpAny_list_append_plain (hsz := hys) ⟨n, l4⟩ fun h₅ hl₅ hs₅ => ?_
        obtain ⟨n5, hl5⟩ := hl₅
        have ext4 : Ext fx.F s.heap t₄.heap := xb.from ext' hCn
        have tups4 : Tups t.heap t₄.heap := fun b it nn e => by
          have e' := tups' b it nn e
          have hb : b ≠ C := fun q => by subst q; obtain ⟨o, es, ep, eo, hd, _⟩ := ns'; rw [IsT, eo] at e'; cases e'; cases hd
          exact (xb b _ hb e').2 (FrNs.not_mem (S.step fx.O ext').stk.ns e' (by intro _ _ q; cases q))
        have tups5 : Tups t₄.heap h₅ := fun b it nn e => (hs₅.2 b fun q => by subst q; rw [IsT, l4] at e; simp at e).trans e
        refine ⟨items.size + 1 - (i + 1), by (first | lia | omega), i + 1, m', ys.push y, n5, rfl, hlt, (sm.trans ⟨rfl, rfl, rfl⟩).trans (sm4.trans ⟨rfl, rfl, rfl⟩), fun b o e => ?_, ?_, hl5, ?_, ?_⟩
        · have hb : b ≠ D := fun q => by subst q; rw [hDn] at e; cases e
          obtain ⟨⟨sl, e1⟩, k1⟩ := ext4 b o e
          exact ⟨⟨sl, (hs₅.2 b hb).trans e1⟩, fun hF => (hs₅.2 b hb).trans (k1 hF)⟩
        · obtain ⟨o, es, ep, e, r⟩ := hns4; exact ⟨o, es, ep, (hs₅.2 C (Ne.symm hDC)).trans e, r⟩
        · rw [List.take_add_one, exi, Array.toList_push]
          exact ((rl.tups tups4).append (RepL.cons ryi RepL.nil)).tups tups5
        · refine W.frame _ _ _ hst4 fun b hb o e => (hs₅.2 b fun q => ?_).trans e
          subst q
          rcases List.mem_cons.mp hb with q | hb
          · exact hID q.symm
          · exact haxD (List.mem_singleton.mp hb).symm
    · have hin : i = items.size := by (first | lia | omega)
      subst hin
      refine W.done t _ _ hst fun h' tk' hk => ?_
      have ext' : Ext fx.F s.heap h' := fun b o e => by
        have hb : b ≠ I := fun q => by subst q; rw [hIn] at e; cases e
        obtain ⟨⟨sl, e1⟩, k1⟩ := ext b o e
        exact ⟨⟨sl, stay b _ hb hk e1⟩, fun hF => stay b o hb hk (k1 hF)⟩
      have l' : IsL h' D ys n := stay D _ (Ne.symm hID) hk hl
      have ns' : h'.Ns C m := by obtain ⟨o, es, ep, e, r⟩ := hns; exact ⟨o, es, ep, stay C o (Ne.symm hIC) hk e, r⟩
      refine ⟨m, ns', fun h'' hs'' => ?_⟩
      have rl' : RepL h' xs ys.toList := by
        have e : xs.take items.size = xs := List.take_of_length_le (by (first | lia | omega))
        rw [e] at rl
        exact rl.tups (tupsN hk)
      have tC : Tups h' h'' := tups_sameBut hs'' fun o xx nn e q => by obtain ⟨oo, es, ep, eo, hd, _⟩ := ns'; rw [eo] at e; cases e; rw [hd] at q; cases q
      exact fin D _ ys n hDn ((hs''.2 D hDC).trans l') (rl'.tups tC) ⟨fun b o e => by
        have hb : b ≠ C := fun q => by subst q; rw [hCn] at e; cases e
        obtain ⟨⟨sl, e1⟩, k1⟩ := ext' b o e
        exact ⟨⟨sl, (hs''.2 b hb).trans e1⟩, fun hF => (hs''.2 b hb).trans (k1 hF)⟩, sm.trans ⟨rfl, rfl, rfl⟩⟩
  exact codeAny_compStart_list (loop _) (W.self 0 _ _ _ st1 (loop _))
end
end Mine
end
section
open PySem PySem.Calls PyProof.Rows PySem.SeqAt
set_option genInjectivity false
set_option genSizeOf false
namespace Mine

/-- a def of the text's by its name -/
structure GName (g : Gd) (f : Nat) (x : Str) : Prop where
  name : g.mg x = some (.ref (g.fa f))
  fn : ∃ o fd, g.base.get? (g.fa f) = some o ∧ o.data = .func fd
  dbg : (x == ("__debug__" : Str)) = false

/-- the calls of a depth d -/
noncomputable def CallOk (g : Gd) (d : Nat) (cl : Nat → List V → R V) : Prop :=
  ∀ (f : Nat) (args : List V) (A : Around) (fs : List Env) (s : Shared) (us : List Value), cl f args ≠ none → A.frames = some fs → A.handled = none → A.depth + d ≤ 900 → A.units + 40 * d + 200 ≤ 9000 →
    Stk g.base fs s.heap → RepA s.heap args us → wpAny g.M A (call (.ref (g.fa f)) us) (OkE g (fr fs) (cl f args) s) (ErrE g (fr fs) (cl f args) s) s

section
variable {g : Gd} {fx : Fx g} {ρ : Rho} {cl : Nat → List V → R V}

theorem sim_call {f : Nat} {x : Str} {np pos : Pos} {pes : List Expr} {rl : R (List V)} (hcl : CallOk g fx.d cl) (hx : GName g f x) (hk : fx.env.kindOf x = some .globalImplicit)
    (hts : backTo pos (starEach pes fx.env) = [] ∨ ∃ t r, backTo pos (starEach pes fx.env) = (false, t) :: r) (h : SimL fx (spliced (backTo pos (starEach pes fx.env))) ρ rl) :
    SimE fx (.Call (.Name x np) pes [] pos) ρ (R.bind rl fun vs => cl f vs) := by
  intro hr s hE S
  obtain ⟨o, fd, ho, hfd⟩ := hx.fn
  refine wpAny_Call_NameR (eval_global S hk hx.name hx.dbg (callWith_function (o := o) (fd := fd) (simL_args hts h (bind_ne_none hr) S (fun vs us s₁ e st ra S₁ => ?_) fun a ev s₁ e st ex => ⟨a, ev, rfl, bind_err e, st, ex⟩)))
  rw [bind_ok e] at hr ⊢
  refine ⟨⟨S₁.stk.stays _ _ ho, hfd⟩, ?_⟩
  have hu := fx.units
  exact wpAny_mono (hcl f vs fx.A (fx.env :: fx.outer) s₁ us hr fx.hA fx.hh fx.depth hu S₁.stk ra) (fun v s₂ ⟨z, e2, st2, ro2⟩ => ⟨z, e2, st.trans st2, ro2.pre st.ext⟩) fun x s₂ ⟨a, ev, e1, e2, st2, ex⟩ => ⟨a, ev, e1, e2, st.trans st2, ex.mono st.ext⟩

/- dicts read -/
theorem sim_didx {pa pb : Expr} {pos : Pos} {ra rb : R V} (hn : notSlice pb = true) (ha : SimE fx pa ρ ra) (hb : SimE fx pb ρ rb) :
    SimE fx (.Subscript pa pb pos) ρ (R.bind ra fun x => match x with
      | .dict kvs => R.bind rb fun y => match y with
        | .str s => R.of (dlook kvs s)
        | _ => none
      | _ => none) := by
  intro hr s hE S
  refine Subscript_ (ha.use (bind_ne_none hr) S (fun x u s₁ e st ro S₁ => ?_) fun a ev s₁ e st ex => ⟨a, ev, rfl, bind_err e, st, ex⟩)
  rw [bind_ok e] at hr ⊢
  cases x <;> first | exact absurd rfl hr | skip
  rename_i kvs
  dsimp only at hr ⊢
  refine hb.use (bind_ne_none hr) S₁ (fun y t s₂ e' st' ro' S₂ => ?_) fun a ev s₂ e' st' ex => ⟨a, ev, rfl, bind_err e', st.trans st', ex.mono st.ext⟩
  rw [bind_ok e'] at hr ⊢
  cases y <;> first | exact absurd rfl hr | skip
  rename_i k
  dsimp only at hr ⊢
  obtain ⟨z, hz⟩ := of_ne_none hr
  obtain ⟨t2, rfl⟩ : ∃ t2, t = .str k t2 := ro'
  obtain ⟨d, rfl, hfr, hsm, f, hm, hk⟩ := ro.post S.stk.ns S₁.stk.ns st'.ext (by intro _ _ _ q; cases q)
  obtain ⟨y, e1, e2⟩ := (hk k).1 z hz
  refine tail_any hm.typeIs F.slot_dict_getitem.lookup (wpAny_getItem_of (knd := strKind g.prog g.w) (k := k) (by show Value.isStrOf k (.str k t2) = true; unfold Value.isStrOf; simp) hm e1 ?_) (subscripted_of hn _ _)
  rw [hz]
  exact okE_of rfl ((st.trans st').trans .toks) (ResOk.of e2.rep (by intro vs q; subst q; unfold RepI at e2; exact e2))

theorem sim_dget {pa pb : Expr} {apos pos : Pos} {ra rb : R V} (hab : ∀ whole, attributeBase pa (Str.ofString "get") fx.env whole = whole) (hs : notStar pb = true) (hl : (apos.endLine == pos.line) = true) (ha : SimE fx pa ρ ra) (hb' : SimE fx pb ρ rb) :
    SimE fx (.Call (.Attribute pa (Str.ofString "get") apos) [pb] [] pos) ρ (R.bind ra fun x => match x with
      | .dict kvs => R.bind rb fun y => match y with
        | .str s => some (.ok ((dlook kvs s).getD .none))
        | _ => none
      | _ => none) := by
  intro hr s hE S
  have hba : backTo pos (starEach [pb] fx.env) = [(false, eval pb fx.env)] := by rw [starEach_cons hs]; rfl
  refine wpAny_Call_method (T := "dict") (id := "dict.get") (hab _) (by rw [hba]; rfl) hl F.plainAttrs_dict F.slot_dict_get F.type_dict_get (ha.use (bind_ne_none hr) S (fun x u s₁ e st ro S₁ => ?_) fun a ev s₁ e st ex => ⟨a, ev, rfl, bind_err e, st, ex⟩)
  rw [bind_ok e] at hr ⊢
  rw [hba]
  cases x <;> first | exact absurd rfl hr | skip
  rename_i kvs
  obtain ⟨d, rfl, hfr, hsm, f, hm, hk⟩ := id ro
  refine ⟨hm.typeIs, fun a q => by cases q; obtain ⟨o, es, ep, eo, hex, _⟩ := hm; exact ⟨o, eo, hex.2.1⟩, wpAny_dict_get1 (knd := strKind g.prog g.w) hsm (hb'.use (bind_ne_none hr) S₁ (fun y t' s₂ e' st' ro' S₂ => ?_) fun a ev s₂ e' st' ex => ⟨a, ev, rfl, bind_err e', st.trans st', ex.mono st.ext⟩)⟩
  dsimp only at hr ⊢
  rw [bind_ok e'] at hr ⊢
  cases y <;> first | exact absurd rfl hr | skip
  rename_i k
  obtain ⟨t2, rfl⟩ : ∃ t2, t' = .str k t2 := ro'
  obtain ⟨d2, e0, _, _, f2, hm2, hk2⟩ := ro.post S.stk.ns S₁.stk.ns st'.ext (by intro _ _ _ q; cases q)
  cases e0
  refine ⟨k, f2, by show Value.isStrOf k (.str k t2) = true; unfold Value.isStrOf; simp, hm2, ?_⟩
  dsimp only
  cases hd : dlook kvs k with
  | none =>
    rw [(hk2 k).2 hd]
    exact okE_of rfl ((st.trans st').trans .toks) rfl
  | some z =>
    obtain ⟨y, e1, e2⟩ := (hk2 k).1 z hd
    rw [e1]
    exact okE_of rfl ((st.trans st').trans .toks) (ResOk.of e2.rep (by intro vs q; subst q; unfold RepI at e2; exact e2))

/- comprehensions -/
theorem mapR_ok {f : V → R V} : ∀ {vs xs : List V}, mapR f vs = some (.ok xs) → xs.length = vs.length ∧ ∀ (i : Nat) (v : V), vs[i]? = some v → ∃ x, xs[i]? = some x ∧ f v = some (.ok x)
  | [], xs, h => by simp [mapR] at h; subst h; exact ⟨rfl, by simp⟩
  | v :: vs, xs, h => by
    simp only [mapR] at h
    cases hf : f v with
    | none => rw [hf] at h; cases h
    | some q =>
      cases q with
      | error e => rw [hf] at h; cases h
      | ok x =>
        rw [hf] at h
        simp only [R.bind_ok] at h
        cases hm : mapR f vs with
        | none => rw [hm] at h; cases h
        | some q =>
          cases q with
          | error e => rw [hm] at h; cases h
          | ok ys =>
            rw [hm] at h
            simp only [R.bind_ok] at h
            cases h
            obtain ⟨h1, h2⟩ := mapR_ok hm
            refine ⟨by simp [h1], fun i w hw => ?_⟩
            cases i with
            | zero => simp at hw; subst hw; exact ⟨x, by simp, hf⟩
            | succ i => simp at hw; obtain ⟨y, e1, e2⟩ := h2 i w hw; exact ⟨y, by simpa using e1, e2⟩

/-- the comprehension's own scope -/
structure CompScope (sc : Scope) (x : Str) : Prop where
  kind : sc.kind = .function
  cell : ∀ y ∈ sc.names, y.2 ≠ .cell
  names : ∀ y ∈ sc.names, y.2 = .local → sc.names.lookup y.1 = some .local
  var : sc.names.lookup x = some .local
  dbg : (x == ("__debug__" : Str)) = false

theorem lookup_relabel_glob {env : Env} : ∀ {names : List (Str × NameKind)} {x : Str}, names.lookup x = some .globalImplicit →
    (names.map fun (n, k) => if (k == NameKind.free && env.scope.kind == .function && env.kindOf n == some .cell) then (n, NameKind.cell) else (n, k)).lookup x = some .globalImplicit
  | [], _, h => by simp at h
  | (n, k) :: r, x, h => by
    have ih := @lookup_relabel_glob env r x
    show List.lookup x ((if (k == NameKind.free && env.scope.kind == .function && env.kindOf n == some .cell) = true then (n, NameKind.cell) else (n, k)) :: _) = _
    cases hx : x == n with
    | true =>
      simp only [List.lookup_cons, hx] at h
      cases h
      simp [List.lookup_cons, hx]
    | false =>
      simp only [List.lookup_cons, hx] at h
      by_cases hc : (k == NameKind.free && env.scope.kind == .function && env.kindOf n == some .cell) = true
      · rw [if_pos hc]; simp only [List.lookup_cons, hx]; exact ih h
      · rw [if_neg hc]; simp only [List.lookup_cons, hx]; exact ih h

theorem lc_end {r : R V} {s s₀ : Shared} {xs : List V} (e : r = some (.ok (.lst true xs))) (st : Step fx.F s₀ s) (D : Addr) (s' : Shared) (ys : Array Value) (n : Nat) (hD : s.heap.get? D = none) (hl : IsL s'.heap D ys n) (rl : RepL s'.heap xs ys.toList) (st' : Step fx.F s s') :
    OkE g fx.F r s₀ (.ref D) s' := okE_of e (st.trans st') ⟨⟨D, ys, n, rfl, hl, rl⟩, fun a q => by cases q; exact st.ext.fresh hD⟩

/-- a comprehension of one name -/
theorem sim_compN {elt iter : Expr} {x : Str} {px pos : Pos} {sc : Scope} {ri r : R V} {src : V → Prop} (hc : CompScope sc x) (hfree : ∀ y ∈ sc.names, y.2 ≠ .free) (hfs : ∀ y, foldedSetIterable iter fx.env y = pure y) (hi : SimE fx iter ρ ri)
    (hr0 : r ≠ none → ri ≠ none) (herr : ∀ ev, ri = some (.error ev) → r = some (.error ev))
    (h : ∀ w, ri = some (.ok w) → r ≠ none → ∃ vs xs, ((∃ o, w = .lst o vs) ∨ w = .tup vs) ∧ r = some (.ok (.lst true xs)) ∧ xs.length = vs.length ∧ vs.length ≤ 1000000 ∧
      ∀ (C : Addr) (hE : Heap) (i : Nat) (v : V) (z : Value) (t : Shared) (m : Str → Option Value) (K Er : Value → Shared → Prop), vs[i]? = some v → RepI t.heap v z → t.heap.Ns C m → m x = some z → fx.St hE t.heap ρ →
        (∀ y t₄ xi, xs[i]? = some xi → RepI t₄.heap xi y → Step fx.F t t₄ → K y t₄) → wpAny g.M fx.A (eval elt (compEnvC sc [] C fx.env)) K Er t) :
    SimE fx (.ListComp elt [⟨.Name x px, iter, [], 0⟩] sc pos) ρ r := by
  intro hr s hE S
  rw [eval_ListComp]
  refine wpAny_comprehension_free (use := none) rfl hfs (closureFor_none hfree) hc.kind hc.names (hi.use (hr0 hr) S (fun w u s₁ e st ro S₁ => ?_) fun a ev s₁ e st ex => ⟨a, ev, rfl, herr ev e, st, ex⟩)
  obtain ⟨vs, xs, hx, hrx, hlen, hsz, helt⟩ := h w e hr
  refine comp_core (cl := []) (xs := xs) (T := fun _ C v K Er t => wpAny g.M fx.A (assign (.Name x px) (compEnvC sc [] C fx.env) v) (fun _ t₂ => wpAny g.M fx.A (eval elt (compEnvC sc [] C fx.env)) K Er t₂) Er t)
    (closureFor_none hfree) hc.cell hc.kind S₁ hx ro hlen hsz (fun C D I Inv R n t hturn h0 => ?_) (fun I C i v z t m K Er hvi rz hCn hns ext sm St _ k => ?_) fun D s' ys n hD hl rl st' => lc_end hrx st D s' ys n hD hl rl st'
  · exact codeAny_compLoop_list Inv (fun n t hI => wpAny_mono (hturn n t hI) (fun r t₁ h₁ => by cases r <;> exact h₁) fun _ _ y => y) n h0
  · refine wpAny_assign_Name (wpAny_storeName_local (lookup_relabel_local hc.var) hns (fun h' hn' hs' => ?_) (by simp [compEnvC, relabel, hc.kind]))
    have hCx : ∀ o xx n, t.heap.get? C = some o → o.data ≠ .seq xx n := fun o xx n e q => by obtain ⟨oo, es, ep, eo, hd, _⟩ := hns; rw [eo] at e; cases e; rw [hd] at q; cases q
    have hCF : C ∉ fx.F := S₁.stk.ns.fresh hCn
    have hCs : s.heap.get? C = none := st.ext.fresh hCn
    have extN : Ext fx.F s.heap h' := fun b o e => by
      have hb : b ≠ C := fun q => by subst q; rw [hCs] at e; cases e
      rw [hs'.2 b hb]; exact (st.ext.trans ext) b o e
    refine helt C hE i v z { t with heap := h', toks := t.toks + 1 } _ K Er hvi (rz.tups (tups_sameBut hs' hCx)) hn' (by simp) (S.step fx.O extN) fun y t₄ xi hxi ry st4 => ?_
    refine k y t₄ xi _ hxi ry ((ExtB.of_same hs').trans (.of_ext st4.ext)) (st4.ext.weak.ns hn') (Same.trans ⟨rfl, rfl, rfl⟩ st4.same)

theorem scalars_ok {x : R (List V)} {r : V} (h : scalars x ≠ none) : ∃ xs, x = some (.ok xs) ∧ xs.all scalar = true ∧ scalars x = some (.ok (.lst true xs)) := by
  unfold scalars at h ⊢
  split at h
  · rename_i xs
    split at h
    · rename_i hs; exact ⟨xs, rfl, hs, by rw [if_pos hs]⟩
    · exact absurd rfl h
  · exact absurd rfl h
theorem compCallV_ok {f : Nat} {w : V} (h : compCallV cl f w ≠ none) : ∃ vs xs, ((∃ o, w = .lst o vs) ∨ w = .tup vs) ∧ vs.length ≤ 1000000 ∧ mapR (fun v => cl f [v]) vs = some (.ok xs) ∧ xs.all scalar = true ∧ compCallV cl f w = some (.ok (.lst true xs)) := by
  unfold compCallV at h ⊢
  split at h
  · split at h
    · rename_i hl
      obtain ⟨xs, e1, e2, e3⟩ := scalars_ok (r := .none) h
      exact ⟨_, xs, .inl ⟨_, rfl⟩, hl, e1, e2, by rw [if_pos hl]; exact e3⟩
    · exact absurd rfl h
  · split at h
    · rename_i hl
      obtain ⟨xs, e1, e2, e3⟩ := scalars_ok (r := .none) h
      exact ⟨_, xs, .inr rfl, hl, e1, e2, by rw [if_pos hl]; exact e3⟩
    · exact absurd rfl h
  · exact absurd rfl h

theorem sim_compCall {iter : Expr} {f : Nat} {fn x : Str} {np ap px cp pos : Pos} {sc : Scope} {ri : R V} (hcl : CallOk g fx.d cl) (hx : GName g f fn) (hk : sc.names.lookup fn = some .globalImplicit) (hc : CompScope sc x) (hfree : ∀ y ∈ sc.names, y.2 ≠ .free)
    (hfs : ∀ y, foldedSetIterable iter fx.env y = pure y) (hi : SimE fx iter ρ ri) :
    SimE fx (.ListComp (.Call (.Name fn np) [.Name x ap] [] cp) [⟨.Name x px, iter, [], 0⟩] sc pos) ρ (R.bind ri fun w => compCallV cl f w) := by
  refine sim_compN (src := fun _ => True) hc hfree hfs hi (fun h => bind_ne_none h) (fun ev e => bind_err e) fun w e hr => ?_
  rw [bind_ok e] at hr ⊢
  obtain ⟨vs, xs, hw, hsz, hm, hsc, hre⟩ := compCallV_ok hr
  obtain ⟨hlen, hget⟩ := mapR_ok hm
  refine ⟨vs, xs, hw, hre, hlen, hsz, fun C hE i v z t m K Er hvi rz hns hmx St k => ?_⟩
  obtain ⟨xi, exi, hcv⟩ := hget i v hvi
  obtain ⟨o, fd, ho, hfd⟩ := hx.fn
  have ek : (compEnvC sc [] C fx.env).scope.kind = .function := hc.kind
  refine wpAny_Call_NameR (Name_function_global ek (lookup_relabel_glob hk) (loadGlobal_global (by show t.heap.Ns fx.env.globals _; rw [fx.O.glob]; exact glob_ns St.stk.stays) hx.name (callWith_function (o := o) (fd := fd) (evalArgs_plain (spliced_cons (wpAny_Name (wpAny_loadName_local ek (lookup_relabel_local hc.var) hns hmx (spliced_nil ?_)) hc.dbg))))) hx.dbg)
  refine ⟨⟨St.stk.stays _ _ ho, hfd⟩, ?_⟩
  refine wpAny_mono (hcl f [v] fx.A (fx.env :: fx.outer) t [z] (by rw [hcv]; simp) fx.hA fx.hh fx.depth fx.units St.stk ⟨z, [], rfl, rz.rep, rfl⟩) (fun y t₄ ⟨q, e1, st4, ro4⟩ => ?_) fun y t₄ ⟨a, ev, _, e1, _⟩ => by rw [hcv] at e1; cases e1
  rw [hcv] at e1; cases e1
  have hs : scalar xi = true := List.all_eq_true.mp hsc _ (List.mem_of_getElem? exi)
  exact k y t₄ xi exi (ro4.noList (by cases xi <;> first | rfl | cases hs)) st4
end
end Mine
end
section
open PySem PySem.Calls PyProof.Rows PySem.SeqAt
set_option genInjectivity false
set_option genSizeOf false
namespace Mine
set_option linter.unusedVariables false

section
variable {base hE h h' : Heap} {env : Env} {outer : List Env} {names : List Str} {ρ : Rho} {L : Addr} {m cm : Str → Option Value} {val : Nat → Value}

theorem Vars.extW (S : FSt base env outer names hE h ρ) (V : Vars env names hE h ρ m cm val) (x : ExtW (fr (env :: outer)) h h') : Vars env names hE h' ρ m cm val :=
  ⟨x.ns V.ns, fun a c e => isCell_extW x (V.cell a c e), fun i v e => let ⟨a, e1, e2, e3, e4⟩ := V.at' i v e; ⟨a, e1, e2, e3.ext S.stk.ns x, e4⟩, V.apart⟩

theorem IsT.not_isL {h : Heap} {a : Addr} {x y : Array Value} {n k : Nat} (e : IsT h a x n) (f : IsL h a y k) : False := by
  rw [IsT, f] at e; simp at e

/-- a frame's own list is changed -/
theorem upd_list (S : FSt base env outer names hE h ρ) (V : Vars env names hE h ρ m cm val) {j : Nat} {vs vs' : List Mine.V} {b : Addr} {items' : Array Value} {n' : Nat}
    (hj : get ρ j = some (.lst true vs)) (hb : val j = .ref b) (hs : Heap.SameBut b h h') (hl : IsL h' b items' n') (hr : RepL h vs' items'.toList) :
    FSt base env outer names hE h' (put ρ j (.lst true vs')) ∧ Vars env names hE h' (put ρ j (.lst true vs')) m cm val := by
  obtain ⟨x, e1, hat, ⟨a, its, n, ea, hl0, _⟩, ow⟩ := V.at' j _ hj
  rw [hb] at ea; cases ea
  have hbE : hE.get? b = none := ow b hb
  have hlt : j < ρ.length := get_lt hj
  have tups : Tups h h' := fun c items n e => (hs.2 c fun q => by subst q; exact IsT.not_isL e hl0).trans e
  have noNs : ∀ {c : Addr} {o : Obj} {es ep}, h.get? c = some o → o.data = .dict es ep → c ≠ b := fun e hd q => by subst q; rw [hl0] at e; cases e; cases hd
  have hF : FrNs (fr (env :: outer)) h' := fun c hc => by
    obtain ⟨o, es, ep, e, hd⟩ := S.stk.ns c hc
    exact ⟨o, es, ep, (hs.2 c (noNs e hd)).trans e, hd⟩
  have hbase : base.StaysIn h' := fun c oo ec => (hs.2 c fun q => by subst q; have := S.baseE _ _ ec; rw [hbE] at this; cases this).trans (S.stk.stays c oo ec)
  have extE : Ext (fr outer) hE h' := fun c oo ec => by
    have hcb : c ≠ b := fun q => by subst q; rw [hbE] at ec; cases ec
    rw [hs.2 c hcb]; exact S.ext c oo ec
  have vars : Vars env names hE h' (put ρ j (.lst true vs')) m cm val := by
    refine ⟨?_, fun y c hc => ?_, fun i w ei => ?_, fun i l us o ws hne ei el => ?_⟩
    · obtain ⟨o, es, ep, e, hd, r⟩ := V.ns
      exact ⟨o, es, ep, (hs.2 _ (noNs e hd)).trans e, hd, r⟩
    · obtain ⟨o, e, hd⟩ := V.cell y c hc
      exact ⟨o, (hs.2 c fun q => by subst q; rw [hl0] at e; cases e; cases hd).trans e, hd⟩
    · by_cases hij : i = j
      · subst hij
        rw [get_put_self hlt] at ei; cases ei
        exact ⟨x, e1, hat, ⟨b, items', n', hb, hl, hr.tups tups⟩, ow⟩
      · rw [get_put_ne hij] at ei
        obtain ⟨y, f1, f2, f3, f4⟩ := V.at' i w ei
        refine ⟨y, f1, f2, ?_, f4⟩
        cases w <;> first | exact RepI.tups tups f3 | skip
        rename_i o us
        obtain ⟨c, its2, n2, ec, hl2, r2⟩ := f3
        refine ⟨c, its2, n2, ec, (hs.2 c fun q => ?_).trans hl2, r2.tups tups⟩
        subst q
        exact V.apart j i vs o us (Ne.symm hij) hj ei (hb.trans ec.symm)
    · have up : ∀ {k : Nat} {o : Bool} {us : List Mine.V}, get (put ρ j (.lst true vs')) k = some (.lst o us) → ∃ us', get ρ k = some (.lst o us') := fun {k o us} ek => by
        by_cases hk : k = j
        · subst hk; rw [get_put_self hlt] at ek; cases ek; exact ⟨_, hj⟩
        · rw [get_put_ne hk] at ek; exact ⟨_, ek⟩
      obtain ⟨_, a1⟩ := up ei
      obtain ⟨_, a2⟩ := up el
      exact V.apart i l _ o _ hne a1 a2
  exact ⟨⟨⟨hbase, funFrames_of S.stk.frames hF, hF⟩, extE, S.baseE, S.newL, S.newC, by simp [put, S.len], m, cm, val, vars⟩, vars⟩
end

/-- a name of the frame's that may be stored -/
structure NmOk {g : Gd} (fx : Fx g) (i : Nat) (x : Str) : Prop where
  pos : fx.names[i]? = some x
  kind : fx.env.kindOf x = some .local ∨ (fx.env.kindOf x = some .cell ∧ ∃ c, fx.env.cells.lookup x = some c)

noncomputable def RetOk (g : Gd) (hE : Heap) (s' : Shared) (v : V) (u : Value) : Prop := ResOk g { s' with heap := hE } s' v u

/-- how a block ends -/
noncomputable def OkS {g : Gd} (fx : Fx g) (hE : Heap) (r : Option Out) (s : Shared) : Flow → Shared → Prop
  | .next, s' => ∃ ρ', r = some (.next ρ') ∧ fx.St hE s'.heap ρ' ∧ Same s s'
  | .cont, s' => ∃ ρ', r = some (.cont ρ') ∧ fx.St hE s'.heap ρ' ∧ Same s s'
  | .brk, _ => False
  | .ret u, s' => ∃ v, r = some (.ret v) ∧ Stk g.base (fx.env :: fx.outer) s'.heap ∧ Ext (fr fx.outer) hE s'.heap ∧ Same s s' ∧ RetOk g hE s' v u
noncomputable def ErrS {g : Gd} (fx : Fx g) (hE : Heap) (r : Option Out) (s : Shared) (x : Value) (s' : Shared) : Prop :=
  ∃ a ev ρ', x = .ref a ∧ r = some (.exc ev ρ') ∧ fx.St hE s'.heap ρ' ∧ Same s s' ∧ ExcAt g.C false hE s'.heap a ev

noncomputable def SimS {g : Gd} (fx : Fx g) (ps : List Stmt) (ρ : Rho) (r : Option Out) : Prop :=
  r ≠ none → ∀ (s : Shared) (hE : Heap), fx.St hE s.heap ρ → wpAny g.M fx.A (PySem.execs ps fx.env) (OkS fx hE r s) (ErrS fx hE r s) s
noncomputable def Sim1 {g : Gd} (fx : Fx g) (p : Stmt) (ρ : Rho) (r : Option Out) : Prop :=
  r ≠ none → ∀ (s : Shared) (hE : Heap), fx.St hE s.heap ρ → wpAny g.M fx.A (PySem.exec p fx.env) (OkS fx hE r s) (ErrS fx hE r s) s

section
variable {g : Gd} {fx : Fx g} {ρ : Rho}

theorem OkS.mono {hE : Heap} {r r' : Option Out} {s s₁ s' : Shared} {f : Flow} (sm : Same s s₁) (e : r = r') (h : OkS fx hE r s₁ f s') : OkS fx hE r' s f s' := by
  subst e
  cases f with
  | next => obtain ⟨ρ', a, b, c⟩ := h; exact ⟨ρ', a, b, sm.trans c⟩
  | cont => obtain ⟨ρ', a, b, c⟩ := h; exact ⟨ρ', a, b, sm.trans c⟩
  | brk => exact h
  | ret u => obtain ⟨v, a, b, c, d, e⟩ := h; exact ⟨v, a, b, c, sm.trans d, e⟩
theorem ErrS.mono {hE : Heap} {r r' : Option Out} {s s₁ s' : Shared} {x : Value} (sm : Same s s₁) (e : r = r') (h : ErrS fx hE r s₁ x s') : ErrS fx hE r' s x s' := by
  subst e
  obtain ⟨a, ev, ρ', e1, e2, S, c, d⟩ := h
  exact ⟨a, ev, ρ', e1, e2, S, sm.trans c, d⟩
theorem SimS.go {ps : List Stmt} {r r' : Option Out} {s s₁ : Shared} {hE : Heap} (h : SimS fx ps ρ r) (hr : r' ≠ none) (e : r = r') (S : fx.St hE s₁.heap ρ) (sm : Same s s₁) :
    wpAny g.M fx.A (PySem.execs ps fx.env) (OkS fx hE r' s) (ErrS fx hE r' s) s₁ :=
  wpAny_mono (h (e ▸ hr) s₁ hE S) (fun _ _ x => x.mono sm e) fun _ _ x => x.mono sm e

/-- an expression's exception within a statement -/
theorem errS_of {hE : Heap} {r : Option Out} {s s₁ : Shared} {a : Addr} {ev : V} (S : fx.St hE s.heap ρ) (e : r = some (.exc ev ρ)) (st : Step fx.F s s₁) (ex : ExcAt g.C false s.heap s₁.heap a ev) : ErrS fx hE r s (.ref a) s₁ :=
  ⟨a, ev, ρ, rfl, e, S.step fx.O st.ext, st.same, ex.mono (S.extE fx.O)⟩

theorem onE_ne {r : R V} {f : V → Option Out} (h : onE ρ r f ≠ none) : r ≠ none := by intro q; subst q; exact h rfl
theorem onE_okk {r : R V} {f : V → Option Out} {v : V} (e : r = some (.ok v)) : onE ρ r f = f v := by subst e; rfl
theorem onE_errr {r : R V} {f : V → Option Out} {v : V} (e : r = some (.error v)) : onE ρ r f = some (.exc v ρ) := by subst e; rfl

theorem simS_nil : SimS fx [] ρ (some (.next ρ)) := fun _ s hE S => wpAny_execs_nil ⟨ρ, rfl, S, .refl _⟩
theorem simS_cons {p : Stmt} {ps : List Stmt} {r : Option Out} {f : Rho → Option Out} (h : Sim1 fx p ρ r) (h' : ∀ ρ', SimS fx ps ρ' (f ρ')) :
    SimS fx (p :: ps) ρ (match (generalizing := false) r with | some (.next ρ') => f ρ' | o => o) := by
  intro hr s hE S
  have hr0 : r ≠ none := by intro q; subst q; exact hr rfl
  refine wpAny_execs_cons (wpAny_mono (h hr0 s hE S) (fun fl s₁ o => ?_) fun x s₁ o => ?_)
  · cases fl with
    | next =>
      obtain ⟨ρ', e, S₁, sm⟩ := o
      subst e
      exact (h' ρ').go hr rfl S₁ sm
    | cont => obtain ⟨ρ', e, S₁, sm⟩ := o; subst e; exact ⟨ρ', rfl, S₁, sm⟩
    | brk => exact o
    | ret u => obtain ⟨v, e, k⟩ := o; subst e; exact ⟨v, rfl, k⟩
  · obtain ⟨a, ev, ρ', e1, e, k⟩ := o
    subst e
    exact ⟨a, ev, ρ', e1, rfl, k⟩

theorem sim1_cont {pos : Pos} : Sim1 fx (.Continue pos) ρ (some (.cont ρ)) := fun _ s hE S => wpAny_Continue ⟨ρ, rfl, S, .refl _⟩

theorem sim1_ret {pe : Expr} {pos : Pos} {r : R V} (h : SimE fx pe ρ r) : Sim1 fx (.Return (some pe) pos) ρ (onE ρ r fun v => some (.ret v)) := by
  intro hr s hE S
  refine wpAny_Return_some (h.use (onE_ne hr) S (fun v u s₁ e st ro S₁ => ?_) fun a ev s₁ e st ex => errS_of S (onE_errr e) st ex)
  refine ⟨v, onE_okk e, S₁.stk, S₁.ext, st.same, ?_⟩
  exact ro.pre (s₀ := { s₁ with heap := hE }) (S.extE fx.O)
theorem sim1_ret_none {pos : Pos} : Sim1 fx (.Return none pos) ρ (some (.ret .none)) := fun _ s hE S => wpAny_Return_none ⟨.none, rfl, S.stk, S.ext, .refl _, rfl⟩

/-- a value that was just reckoned is stored -/
theorem store_new {i : Nat} {v : V} {x : Str} {u : Value} {s₀ s : Shared} {hE : Heap} {Q : Unit → Shared → Prop} {E : Value → Shared → Prop} (S₀ : fx.St hE s₀.heap ρ) (xt : Ext fx.F s₀.heap s.heap) (hx : NmOk fx i x)
    (hv : storable v = true) (ro : ResOk g s₀ s v u) (k : ∀ h' tk, fx.St hE h' (put ρ i v) → Kp s.heap h' → Q () { s with heap := h', toks := tk }) : wpAny g.M fx.A (storeName fx.env x u) Q E s := by
  have S : fx.St hE s.heap ρ := S₀.step fx.O xt
  obtain ⟨m, cm, val, V⟩ := S₀.vars
  have V₁ := V.extW S₀ xt.weak
  refine store_ok fx.O S fx.nodup hx.pos hx.kind (ro.rep (by cases v <;> first | rfl | cases hv)) ?_ ?_ k
  · cases v <;> first | trivial | skip
    rename_i own vs
    cases own
    · cases hv
    · exact fun a e => S₀.fresh fx.O (ro.2 a e)
  · refine ⟨m, cm, val, V₁, fun j o o' vs ws hne hvv hj _ q => ?_⟩
    subst hvv
    cases o <;> simp only [storable, Bool.false_eq_true] at hv
    obtain ⟨y, e1, e2, ⟨c, its, n, ec, hl, _⟩, e4⟩ := V.at' j _ hj
    have := ro.2 c (q ▸ ec)
    rw [hl] at this; cases this

theorem swaps_of {e : Expr} (h : noComp e = true) (t : Option Expr) (n : Nat) (env : Env) : swapsWith e t n env = pure false := by
  cases e <;> first | rfl | cases h

theorem sim1_assign {pe : Expr} {i : Nat} {x : Str} {p pos : Pos} {r : R V} (hx : NmOk fx i x) (hn : noComp pe = true) (h : SimE fx pe ρ r) :
    Sim1 fx (.Assign [.Name x p] pe pos) ρ (onE ρ r fun v => if storable v then some (.next (put ρ i v)) else none) := by
  intro hr s hE S
  refine wpAny_Assign_Name (h.use (onE_ne hr) S (fun v u s₁ e st ro S₁ => ?_) fun a ev s₁ e st ex => errS_of S (onE_errr e) st ex) (swaps_of hn _ _ _)
  rw [onE_okk e] at hr ⊢
  split at hr <;> first | exact absurd rfl hr | skip
  rename_i hv
  rw [if_pos hv]
  exact store_new S st.ext hx hv ro fun h' tk S' _ => ⟨_, rfl, S', st.same.trans ⟨rfl, rfl, rfl⟩⟩

theorem sim1_aug {pe : Expr} {op : AOp} {i : Nat} {x : Str} {p pos : Pos} {r : R V} (hx : NmOk fx i x) (hop : op = .add ∨ op = .sub) (h : SimE fx pe ρ r) :
    Sim1 fx (.AugAssign (.Name x p) (aop op) pe pos) ρ (match get ρ i with
      | some (.int a) => onE ρ r fun v => (augV op a v).map fun z => .next (put ρ i z)
      | _ => none) := by
  intro hr s hE S
  split at hr <;> first | exact absurd rfl hr | skip
  rename_i a hg
  refine wpAny_AugAssign_Name (load_ok fx.O S hg hx.pos fun u ru _ => ?_)
  obtain ⟨t, rfl⟩ : ∃ t, u = .int a t := ru
  refine h.use (onE_ne hr) S (fun v u s₁ e st ro S₁ => ?_) fun a ev s₁ e st ex => ?_
  · rw [onE_okk e] at hr
    rcases hop with rfl | rfl <;> cases v <;> first | exact absurd rfl hr | skip
    all_goals
      rename_i b
      obtain ⟨t2, rfl⟩ : ∃ t2, u = .int b t2 := ro
    · refine P.iadd_int (store_new (s := { s₁ with toks := s₁.toks + 1 }) (v := .int (a + b)) S st.ext hx rfl ⟨_, rfl⟩ fun h' tk S' _ => ⟨_, ?_, S', st.same.trans ⟨rfl, rfl, rfl⟩⟩)
      exact onE_okk e
    · refine P.isub_int (store_new (s := { s₁ with toks := s₁.toks + 1 }) (v := .int (a - b)) S st.ext hx rfl ⟨_, rfl⟩ fun h' tk S' _ => ⟨_, ?_, S', st.same.trans ⟨rfl, rfl, rfl⟩⟩)
      exact onE_okk e
  · exact errS_of S (onE_errr e) st ex

theorem sim1_expr {pe : Expr} {pos : Pos} {r : R V} (hn : noComp pe = true) (h : SimE fx pe ρ r) :
    Sim1 fx (.Expr pe pos) ρ (onE ρ r fun v => match v with | .none => some (.next ρ) | _ => none) := by
  intro hr s hE S
  have hi : interactive fx.env = false := by unfold interactive; rw [fx.O.kind]; rfl
  refine wpAny_Expr_any (h.use (onE_ne hr) S (fun v u s₁ e st ro S₁ => ?_) fun a ev s₁ e st ex => errS_of S (onE_errr e) st ex) hi (swaps_of hn _ _ _)
  rw [onE_okk e] at hr ⊢
  cases v <;> first | exact absurd rfl hr | skip
  exact ⟨ρ, rfl, S₁, st.same⟩

theorem sim1_if {pc : Expr} {pa pb : List Stmt} {pos : Pos} {rc : R V} {ra rb : Option Out} (hc : SimC fx (isTrue pc fx.env (eval pc fx.env)) ρ rc) (ha : SimS fx pa ρ ra) (hb : SimS fx pb ρ rb) :
    Sim1 fx (.If pc pa pb pos) ρ (onE ρ rc fun x => match truth x with | some true => ra | some false => rb | none => none) := by
  intro hr s hE S
  refine wpAny_If (hc.use (onE_ne hr) (fun v e q => ?_) S (fun v b s₁ e tr st S₁ => ?_) fun a ev s₁ e st ex => errS_of S (onE_errr e) st ex)
  · rw [onE_okk e, q] at hr; exact hr rfl
  · rw [onE_okk e, tr] at hr ⊢
    cases b
    · exact hb.go hr rfl S₁ st.same
    · exact ha.go hr rfl S₁ st.same

/-- a loop's note of an exception -/
theorem noted_came {hE : Heap} {s : Shared} {a : Addr} {ev : V} {E : Value → Shared → Prop} (S : fx.St hE s.heap ρ) (X : ExcAt g.C false hE s.heap a ev)
    (k : ∀ h', fx.St hE h' ρ → ExcAt g.C false hE h' a ev → E (.ref a) { s with heap := h' }) :
    notedBy g.M fx.A fx.env (fun e s' => cameBackBy g.M fx.A fx.env E e s') (.ref a) s := by
  refine noteFrame_ok fx.hA fx.O.frame S.stk (S.extE fx.O) (fun b o e => ⟨o, S.baseE b o e⟩) X fun h' w x X' => ?_
  have S' : fx.St hE h' ρ := S.extW fx.O w x
  show cameBackBy g.M fx.A fx.env E (.ref a) _
  unfold cameBackBy
  obtain ⟨r, hn, oe, fs, e, hd, hsz, tb⟩ := id X'
  rcases tb with ⟨q, _⟩ | ⟨T, oT, ts, h1, _⟩
  · cases q
  · refine wpAny_bind (wpAny_field e hd h1 ?_)
    rw [if_neg (show ¬((Value.ref T == Value.none) = true) by simp)]
    refine setFlight_ok S'.stk.ns (S'.extE fx.O) X' fun h'' w' x' X'' => k h'' (S'.extW fx.O w' x') X''.any
end
end Mine
end
section
open PySem PySem.Calls PyProof.Rows PySem.SeqAt
namespace Mine
set_option linter.unusedVariables false

section
variable {g : Gd} {fx : Fx g} {ρ : Rho}

theorem load_val {M : Model} {A : Around} {E : Value → Shared → Prop} {s : Shared} {hE : Heap} {names : List Str} {env : Env} {L : Addr} {m cm : Str → Option Value} {val : Nat → Value} {i : Nat} {v : V} {x : Str} {Q : Value → Shared → Prop}
    (O : EnvOk env L) (V : Vars env names hE s.heap ρ m cm val) (hg : get ρ i = some v) (hx : names[i]? = some x) (k : Q (val i) s) : wpAny M A (loadName env x) Q E s := by
  obtain ⟨x', e1, e2, e3, e4⟩ := V.at' i v hg
  rw [hx] at e1; cases e1
  rcases e2 with ⟨hk, hm⟩ | ⟨hk, ⟨c, hc⟩, hm⟩
  · exact wpAny_loadName_local O.kind hk V.ns hm k
  · exact wpAny_loadName_cell O.kind hk hc (hm ▸ V.cell x c hc) k

theorem sim1_append {pe : Expr} {i : Nat} {x : Str} {np apos cpos pos : Pos} {r : R V} (hx : fx.names[i]? = some x) (hd : (x == ("__debug__" : Str)) = false) (hs : notStar pe = true)
    (hl : (apos.endLine == cpos.line) = true) (h : SimE fx pe ρ r) :
    Sim1 fx (.Expr (.Call (.Attribute (.Name x np) (Str.ofString "append") apos) [pe] [] cpos) pos) ρ (match get ρ i with
      | some (.lst true _) => onE ρ r fun v => match get ρ i with
        | some (.lst true vs) => if noList v && decide (vs.length ≤ 1000000) then some (.next (put ρ i (.lst true (vs ++ [v])))) else none
        | _ => none
      | _ => none) := by
  intro hr s hE S
  split at hr <;> first | exact absurd rfl hr | skip
  rename_i vs hg
  have hi : interactive fx.env = false := by unfold interactive; rw [fx.O.kind]; rfl
  have hba : backTo cpos (starEach [pe] fx.env) = [(false, eval pe fx.env)] := by rw [starEach_cons hs]; rfl
  obtain ⟨m, cm, val, V⟩ := S.vars
  obtain ⟨x', _, _, ⟨b, its, n, eb, hl0, rl0⟩, _⟩ := V.at' i _ hg
  refine wpAny_Expr_any (wpAny_Call_method (T := "list") (id := "list.append") (attrBase_of rfl _ _ _) (by rw [hba]; rfl) hl F.plainAttrs_list F.slot_list_append F.type_list_append
    (wpAny_Name (load_val fx.O V hg hx ?_) hd)) hi rfl
  rw [hba, eb]
  refine ⟨⟨_, hl0, rfl⟩, fun a q => by cases q; exact ⟨_, hl0, rfl⟩, P.append_list (h.use (onE_ne hr) S (fun v u s₁ e st ro S₁ => ?_) fun a ev s₁ e st ex => errS_of S (onE_errr e) st ex)⟩
  rw [onE_okk e] at hr
  have V₁ := V.extW S st.ext.weak
  obtain ⟨_, _, _, ⟨b', its₁, n₁, eb', hl₁, rl₁⟩, _⟩ := V₁.at' i _ hg
  rw [eb] at eb'; cases eb'
  dsimp only at hr
  split at hr <;> first | exact absurd rfl hr | skip
  rename_i hc
  simp only [Bool.and_eq_true, decide_eq_true_eq] at hc
  have hlen := rl₁.length
  simp only [Array.length_toList] at hlen
  refine ⟨its₁, n₁, Nat.le_trans (by (first | lia | omega)) sl_ge, hl₁, _, ?_, (upd_list S₁ V₁ (vs' := vs ++ [v]) (items' := its₁.push u) hg eb ⟨by simp, fun c hc => Heap.get?_update_other _ _ (Ne.symm hc)⟩ (hl₁.update _) ?_).1, st.same.trans ⟨rfl, rfl, rfl⟩⟩
  · rw [onE_okk e]
    dsimp only
    rw [if_pos (by simp [hc.1, hc.2])]
  · rw [Array.toList_push]
    exact rl₁.append (RepL.cons (ro.noList hc.1) RepL.nil)

theorem sim1_pop {i j : Nat} {x y : Str} {p np apos cpos pos : Pos} (hx : NmOk fx i x) (hy : fx.names[j]? = some y) (hd : (y == ("__debug__" : Str)) = false) (hl : (apos.endLine == cpos.line) = true) :
    Sim1 fx (.Assign [.Name x p] (.Call (.Attribute (.Name y np) (Str.ofString "pop") apos) [] [] cpos) pos) ρ (match get ρ j with
      | some (.lst true vs) => match vs.getLast? with
        | some v => if i ≠ j ∧ vs.length ≤ 1000000 then some (.next (put (put ρ j (.lst true vs.dropLast)) i v)) else none
        | none => none
      | _ => none) := by
  intro hr s hE S
  split at hr <;> first | exact absurd rfl hr | skip
  rename_i vs hg
  split at hr <;> first | exact absurd rfl hr | skip
  rename_i v hv
  split at hr <;> first | exact absurd rfl hr | skip
  rename_i hij
  rw [if_pos hij]
  obtain ⟨m, cm, val, V⟩ := S.vars
  obtain ⟨x', _, _, ⟨b, its, n, eb, hl0, rl0⟩, _⟩ := V.at' j _ hg
  have hlen := rl0.length
  simp only [Array.length_toList] at hlen
  have hi' : interactive fx.env = false := by unfold interactive; rw [fx.O.kind]; rfl
  have hpos : vs.length - 1 < vs.length := by
    cases vs with
    | nil => simp at hv
    | cons _ _ => simp
  have hlast : vs[vs.length - 1]? = some v := by rw [← hv, List.getLast?_eq_getElem?]
  obtain ⟨u, hu, ru⟩ := rl0.get _ _ hlast
  have hu' : its[its.size - 1]? = some u := by rw [← Array.getElem?_toList, hlen]; exact hu
  have hsv : storable v = true := by cases v <;> first | rfl | (unfold RepI at ru; exact ru.elim)
  have hjl : j < ρ.length := get_lt hg
  refine wpAny_Assign_Name (wpAny_Call_method (T := "list") (id := "list.pop") (attrBase_of rfl _ _ _) rfl hl F.plainAttrs_list F.slot_list_pop F.type_list_pop
    (wpAny_Name (load_val fx.O V hg hy ?_) hd)) rfl
  rw [eb]
  have hsb : Heap.SameBut b s.heap (s.heap.update b (Obj.mapSeq fun xs => xs.eraseIdxIfInBounds (its.size - 1))) := Heap.SameBut.update ..
  have tups : Tups s.heap (s.heap.update b (Obj.mapSeq fun xs => xs.eraseIdxIfInBounds (its.size - 1))) := fun c items k hk =>
    (hsb.2 c fun q => by subst q; exact IsT.not_isL hk hl0).trans hk
  have er : (its.eraseIdxIfInBounds (its.size - 1)).toList = its.toList.dropLast := by
    unfold Array.eraseIdxIfInBounds
    rw [dif_pos (by (first | lia | omega))]
    simp only [Array.toList_eraseIdx]
    rw [show its.size - 1 = its.toList.length - 1 by simp, List.eraseIdx_length_sub_one]
  have up := (upd_list S V (vs' := vs.dropLast) (items' := its.eraseIdxIfInBounds (its.size - 1)) hg eb hsb (hl0.update _) (by
    rw [er, List.dropLast_eq_take, List.dropLast_eq_take, show its.toList.length = vs.length by simpa using hlen]
    exact rl0.take _)).1
  refine ⟨⟨_, hl0, rfl⟩, fun a q => by cases q; exact ⟨_, hl0, rfl⟩, P.pop_list hl0 hu' (store_new (s₀ := { s with heap := _ }) (s := { s with heap := _ }) up (Ext.refl _ _) hx hsv (ResOk.of (ru.tups tups).rep (by intro ws q; subst q; cases ru)) fun h' tk S' _ => ⟨_, rfl, S', rfl, rfl, rfl⟩) (Nat.le_trans (by (first | lia | omega)) sl_ge)⟩

theorem swapsSole_of {e : Expr} (h : noComp e = true) (t : Expr) (n : Nat) (env : Env) : swapsWithSole [t] e n env = pure false := by
  show swapsWith e (some t) n env = _
  exact swaps_of h _ _ _

theorem pairOf_ok {v a b : V} (h : pairOf v = some (a, b)) : v = .tup [a, b] := by
  unfold pairOf at h
  split at h <;> simp at h
  rw [h.1, h.2]

theorem put_comm {ρ : Rho} {i j : Nat} {a b : V} (h : i ≠ j) : put (put ρ i a) j b = put (put ρ j b) i a := by
  unfold put
  exact List.set_comm _ _ h

/-- the items of a tuple, into two names -/
theorem sim1_unpack {pe : Expr} {i j : Nat} {x y : Str} {k : Nat} {px py tp pos : Pos} {r : R V} (hx : NmOk fx i x) (hy : NmOk fx j y) (hij : i ≠ j) (hn : noComp pe = true)
    (hw : swappedStores [.Tuple [.Name x px, .Name y py] k tp] pe fx.env = pure none ∨ swappedStores [.Tuple [.Name x px, .Name y py] k tp] pe fx.env = pure (some [x, y])) (h : SimE fx pe ρ r) :
    Sim1 fx (.Assign [.Tuple [.Name x px, .Name y py] k tp] pe pos) ρ (onE ρ r fun v => match pairOf v with
      | some (a, b) => some (.next (put (put ρ i a) j b))
      | none => none) := by
  intro hr s hE S
  -- two stores of old values
  have two : ∀ (i j : Nat) (x y : Str) (a b : V) (ua ub : Value) (s₁ : Shared) (h' : Heap) (Q : Flow → Shared → Prop) (E : Value → Shared → Prop), NmOk fx i x → NmOk fx j y → fx.St hE s₁.heap ρ → Heap.ExtBut s₁.heap.objs.size s₁.heap h' → RepI s₁.heap a ua → RepI s₁.heap b ub →
      (∀ h'' tk, fx.St hE h'' (put (put ρ i a) j b) → Q .next { s₁ with heap := h'', toks := tk }) →
      wpAny g.M fx.A (storeName fx.env x ua) (fun _ s₂ => wpAny g.M fx.A (storeName fx.env y ub) (fun _ s₃ => Q .next s₃) E s₂) E { s₁ with heap := h' } := by
    intro i j x y a b ua ub s₁ h' Q E hx hy S₁ he ra rb kk
    have xt : Ext fx.F s₁.heap h' := .of_keeps fun c o e => he c o (fun q => by subst q; exact absurd (Heap.lt_size e) (Nat.lt_irrefl _)) e
    have S₂ : fx.St hE h' ρ := S₁.step fx.O xt
    have tp : Tups s₁.heap h' := xt.weak.tups S₁.stk.ns
    have sa : storable a = true := by cases a <;> first | rfl | (unfold RepI at ra; exact ra.elim)
    have sb : storable b = true := by cases b <;> first | rfl | (unfold RepI at rb; exact rb.elim)
    have na : ∀ vs, a ≠ .lst true vs := by intro vs q; subst q; cases ra
    have nb : ∀ vs, b ≠ .lst true vs := by intro vs q; subst q; cases rb
    refine store_new (s₀ := { s₁ with heap := h' }) S₂ (Ext.refl _ _) hx sa (ResOk.of (ra.tups tp).rep na) fun h₂ tk₂ S₃ t₂ => ?_
    exact store_new (s₀ := { s₁ with heap := h₂ }) (s := { s₁ with heap := h₂, toks := tk₂ }) S₃ (Ext.refl _ _) hy sb (ResOk.of ((rb.tups tp).tups t₂.tups).rep nb) fun h₃ tk₃ S₄ _ => kk h₃ tk₃ S₄
  have core : ∀ (v : V) (u : Value) (s₁ : Shared), r = some (.ok v) → ResOk g s s₁ v u → ∃ a b t its ua ub n, pairOf v = some (a, b) ∧ u = .ref t ∧ IsT s₁.heap t its n ∧ its.toList = [ua, ub] ∧ its.size = 2 ∧ RepI s₁.heap a ua ∧ RepI s₁.heap b ub := by
    intro v u s₁ e ro
    rw [onE_okk e] at hr
    split at hr <;> first | exact absurd rfl hr | skip
    rename_i a b hp
    have hv := pairOf_ok hp
    subst hv
    obtain ⟨t, its, n, rfl, ht, rl⟩ : RepI s₁.heap (.tup [a, b]) u := ro
    have hlen := rl.length
    unfold RepL at rl
    obtain ⟨ua, r2, e2, ra, rl⟩ := rl
    unfold RepL at rl
    obtain ⟨ub, r3, e3, rb, rl⟩ := rl
    unfold RepL at rl
    subst rl; subst e3
    exact ⟨a, b, t, its, ua, ub, n, rfl, rfl, ht, e2, by simpa using hlen, ra, rb⟩
  obtain ⟨rr, hrr⟩ : ∃ rr, rr = onE ρ r fun v => match pairOf v with
      | some (a, b) => some (.next (put (put ρ i a) j b))
      | none => none := ⟨_, rfl⟩
  rw [← hrr]
  rcases hw with hw | hw
  · refine Assign_Tuple (h.use (onE_ne hr) S (fun v u s₁ e st ro S₁ => ?_) fun a ev s₁ e st ex => errS_of S (hrr.trans (onE_errr e)) st ex) (swapsSole_of hn _ _ _) hw
    obtain ⟨a, b, t, its, ua, ub, n, hp, rfl, ht, el, h2, ra, rb⟩ := core v u s₁ e ro
    refine assign_Tuple_tuple fx.hh (isT_tup ht) (by rw [h2]; rfl) rfl fun h' he => ?_
    rw [el]
    refine assignInOrder_cons (PyProof.Rows.assign_Name (wpAny_mono (two i j x y a b ua ub s₁ h' (OkS fx hE rr s) (ErrS fx hE rr s) hx hy S₁ he ra rb fun h'' tk S' => ⟨_, by rw [hrr, onE_okk e, hp], S', st.same.trans ⟨rfl, rfl, rfl⟩⟩) (fun _ s₂ k => ?_) fun _ _ k => k))
    exact assignInOrder_cons (PyProof.Rows.assign_Name (wpAny_mono k (fun _ s₃ k => assignInOrder_nil k) fun _ _ k => k))
  · refine Assign_Tuple_swapped (h.use (onE_ne hr) S (fun v u s₁ e st ro S₁ => ?_) fun a ev s₁ e st ex => errS_of S (hrr.trans (onE_errr e)) st ex) (swapsSole_of hn _ _ _) hw
    obtain ⟨a, b, t, its, ua, ub, n, hp, rfl, ht, el, h2, ra, rb⟩ := core v u s₁ e ro
    rw [show [x, y].length = its.size by rw [h2]; rfl]
    refine unpackItems_tuple fx.hh (isT_tup ht) fun h' he => ?_
    rw [el]
    refine assignInOrder_cons (bindName_ (wpAny_mono (two j i y x b a ub ua s₁ h' (OkS fx hE rr s) (ErrS fx hE rr s) hy hx S₁ he rb ra fun h'' tk S' => ⟨_, by rw [hrr, onE_okk e, hp]; dsimp only; rw [put_comm hij], S', st.same.trans ⟨rfl, rfl, rfl⟩⟩) (fun _ s₂ k => ?_) fun _ _ k => k))
    exact assignInOrder_cons (bindName_ (wpAny_mono k (fun _ s₃ k => assignInOrder_nil k) fun _ _ k => k))
end
end Mine
end
section
open PySem PySem.Calls PyProof.Rows PySem.SeqAt
open PySem.W (hideAll of_hideAll hideAll_get hideAll_none)
set_option genInjectivity false
set_option genSizeOf false
namespace Mine
set_option linter.unusedVariables false

/-- a record or a tuple -/
noncomputable def Odd (o : Obj) : Prop := (∃ fs, o.data = .fields fs) ∨ (o.cls = .type "tuple" ∧ ∃ xs n, o.data = .seq xs n)

structure Hid (F : List Addr) (hE hE' : Heap) : Prop where
  ext : Ext F hE hE'
  odd : ∀ b o, hE.get? b = none → hE'.get? b = some o → Odd o

section
variable {base hE hE' h h' : Heap} {env : Env} {outer : List Env} {names : List Str} {ρ ρ' : Rho} {L : Addr}

open Classical in
/-- what is not of before, and neither a record nor a tuple, is hidden -/
theorem FSt.hide (S : FSt base env outer names hE h ρ) :
    ∃ hE', FSt base env outer names hE' h ρ ∧ Hid (fr outer) hE hE' ∧ (∀ b o, hE'.get? b = some o → h.get? b = some o) ∧ (∀ b o, h.get? b = some o → Odd o → hE'.get? b = some o) := by
  let l := (List.range h.objs.size).filter fun b => (hE.get? b).isNone && !decide (∃ o, h.get? b = some o ∧ Odd o)
  have inl : ∀ b o, h.get? b = some o → hE.get? b = none → ¬ Odd o → b ∈ l := fun b o e hn hb => by
    refine List.mem_filter.mpr ⟨List.mem_range.mpr (Heap.lt_size e), ?_⟩
    rw [hn, decide_eq_false]
    · rfl
    · rintro ⟨o', e', q⟩
      rw [e] at e'; cases e'; exact hb q
  have outl : ∀ b, (∃ o, hE.get? b = some o) ∨ (∃ o, h.get? b = some o ∧ Odd o) → b ∉ l := fun b q hb => by
    have := (List.mem_filter.mp hb).2
    rw [Bool.and_eq_true] at this
    rcases q with ⟨o, e⟩ | q
    · rw [e] at this; cases this.1
    · rw [decide_eq_true q] at this; cases this.2
  have none' : ∀ b, hE.get? b = none → (∀ o, h.get? b = some o → ¬ Odd o) → (hideAll h l).get? b = none := fun b hn hb => by
    cases e : h.get? b with
    | none =>
      cases q : (hideAll h l).get? b with
      | none => rfl
      | some o => have := of_hideAll l q; rw [e] at this; cases this
    | some o => exact hideAll_none l (inl b o e hn (hb o e))
  have ext : Ext (fr outer) hE (hideAll h l) := fun b o e => by
    obtain ⟨⟨sl, e1⟩, k1⟩ := S.ext b o e
    have hb := outl b (.inl ⟨o, e⟩)
    exact ⟨⟨sl, hideAll_get l e1 hb⟩, fun q => hideAll_get l (k1 q) hb⟩
  have kept : ∀ b o, h.get? b = some o → Odd o → (hideAll h l).get? b = some o := fun b o e hb => hideAll_get l e (outl b (.inr ⟨o, e, hb⟩))
  obtain ⟨m, cm, val, V⟩ := S.vars
  refine ⟨hideAll h l, ⟨S.stk, .of_keeps fun b o e => of_hideAll l e, fun b o e => hideAll_get l (S.stk.stays b o e) (outl b (.inl ⟨o, S.baseE b o e⟩)), ?_, fun x c e => ?_, S.len, m, cm, val, V.ns, V.cell, fun i v e => ?_, V.apart⟩,
    ⟨ext, fun b o hn e => ?_⟩, fun b o e => of_hideAll l e, kept⟩
  · obtain ⟨o, es, ep, e, hd, _⟩ := V.ns
    refine none' _ S.newL fun o' e' => ?_
    rw [e] at e'; cases e'
    rintro (⟨fs, q⟩ | ⟨_, xs, n, q⟩) <;> (rw [hd] at q; cases q)
  · obtain ⟨o, eo, hd⟩ := V.cell x c e
    refine none' _ (S.newC x c e) fun o' e' => ?_
    rw [eo] at e'; cases e'
    rintro (⟨fs, q⟩ | ⟨_, xs, n, q⟩) <;> (rw [hd] at q; cases q)
  · obtain ⟨x, e1, e2, e3, e4⟩ := V.at' i v e
    refine ⟨x, e1, e2, e3, ?_⟩
    cases v <;> try trivial
    rename_i own vs
    obtain ⟨a, its, n, ea, hl, _⟩ := e3
    cases own
    · intro a' q
      obtain ⟨o, eo⟩ := e4 a' q
      obtain ⟨o', e', _⟩ := ext.some eo
      exact ⟨o', e'⟩
    · intro a' q
      refine none' _ (e4 a' q) fun o' e' => ?_
      rw [ea] at q; cases q
      rw [hl] at e'; cases e'
      rintro (⟨fs, q⟩ | ⟨q, _⟩)
      · cases q
      · simp at q
  · have e0 := of_hideAll l e
    by_cases q : Odd o
    · exact q
    · rw [none' b hn fun o' e' => by rw [e0] at e'; cases e'; exact q] at e; cases e

theorem FSt.back (S : FSt base env outer names hE h ρ) (H : Hid (fr outer) hE hE') (S' : FSt base env outer names hE' h' ρ') : FSt base env outer names hE h' ρ' := by
  obtain ⟨m, cm, val, V⟩ := S'.vars
  refine ⟨S'.stk, H.ext.trans S'.ext, S.baseE, S.newL, S.newC, S'.len, m, cm, val, V.ns, V.cell, fun i v e => ?_, V.apart⟩
  obtain ⟨x, e1, e2, e3, e4⟩ := V.at' i v e
  refine ⟨x, e1, e2, e3, ?_⟩
  cases v <;> try trivial
  rename_i own vs
  obtain ⟨a, its, n, ea, hl, _⟩ := e3
  cases own
  · intro a' q
    obtain ⟨o, eo⟩ := e4 a' q
    cases hn : hE.get? a' with
    | some o' => exact ⟨o', rfl⟩
    | none =>
      have od := H.odd a' o hn eo
      obtain ⟨o3, e3', c3, _, d3⟩ := S'.ext.some eo
      rw [ea] at q; cases q
      rw [hl] at e3'; cases e3'
      rcases od with ⟨fs, q⟩ | ⟨q, _⟩
      · rw [← d3] at q; cases q
      · rw [← c3] at q; simp at q
  · exact fun a' q => H.ext.fresh (e4 a' q)
end

section
variable {g : Gd} {fx : Fx g} {ρ : Rho}

theorem OkS.back {hE hE' h : Heap} {ρ : Rho} {r : Option Out} {s s' : Shared} {f : Flow} (S : fx.St hE h ρ) (H : Hid (fr fx.outer) hE hE') (o : OkS fx hE' r s f s') : OkS fx hE r s f s' := by
  cases f with
  | next => obtain ⟨ρ', a, b, c⟩ := o; exact ⟨ρ', a, S.back H b, c⟩
  | cont => obtain ⟨ρ', a, b, c⟩ := o; exact ⟨ρ', a, S.back H b, c⟩
  | brk => exact o
  | ret u => obtain ⟨v, a, b, c, d, e⟩ := o; exact ⟨v, a, b, H.ext.trans c, d, e.pre (s := { s' with heap := hE' }) (s₀ := { s' with heap := hE }) H.ext⟩
theorem ErrS.back {hE hE' h : Heap} {ρ : Rho} {r : Option Out} {s s' : Shared} {x : Value} (S : fx.St hE h ρ) (H : Hid (fr fx.outer) hE hE') (o : ErrS fx hE' r s x s') : ErrS fx hE r s x s' := by
  obtain ⟨a, ev, ρ', e1, e2, S', sm, ex⟩ := o
  exact ⟨a, ev, ρ', e1, e2, S.back H S', sm, ex.mono H.ext⟩

theorem sim1_while {pc : Expr} {pb : List Stmt} {pos : Pos} {test : Rho → R V} {body : Rho → Option Out} (hc : ∀ ρ, SimC fx (isTrue pc fx.env (eval pc fx.env)) ρ (test ρ)) (hb : ∀ ρ, SimS fx pb ρ (body ρ)) (n : Nat) :
    Sim1 fx (.While pc pb [] pos) ρ (loopN test body n ρ) := by
  intro hr s hE S
  refine wpAny_While (codeAny_whileLoop (fun k s' => ∃ ρ', loopN test body k ρ' = loopN test body n ρ ∧ fx.St hE s'.heap ρ' ∧ Same s s') (fun k s₁ hI => ?_) n ⟨ρ, rfl, S, .refl _⟩)
  obtain ⟨ρ', e, S₁, sm⟩ := hI
  cases k with
  | zero => exact absurd (e.symm.trans rfl) hr
  | succ k =>
    have hr' : loopN test body (k + 1) ρ' ≠ none := e ▸ hr
    simp only [loopN] at hr'
    have e' : loopN test body n ρ = onE ρ' (test ρ') fun x => match truth x with
      | none => none
      | some false => some (.next ρ')
      | some true => match body ρ' with
        | some (.next ρ') => loopN test body k ρ'
        | some (.cont ρ') => loopN test body k ρ'
        | o => o := by rw [← e]; rfl
    refine (hc ρ').use (onE_ne hr') (fun v ev q => ?_) S₁ (fun v b s₂ ev tr st S₂ => ?_) fun a ev s₂ ee st ex => ?_
    · rw [onE_okk ev, q] at hr'; exact hr' rfl
    · rw [onE_okk ev, tr] at hr' e'
      cases b
      · exact wpAny_execs_nil ⟨ρ', e', S₂, sm.trans st.same⟩
      · dsimp only at hr' e'
        have hb0 : body ρ' ≠ none := by intro q; rw [q] at hr'; exact hr' rfl
        refine wpAny_mono (hb ρ' hb0 s₂ hE S₂) (fun f s₃ o => ?_) fun x s₃ o => ?_
        · cases f with
          | next => obtain ⟨ρ'', eb, S₃, sm3⟩ := o; rw [eb] at e'; exact ⟨k, Nat.lt_succ_self _, ρ'', e'.symm, S₃, (sm.trans st.same).trans sm3⟩
          | cont => obtain ⟨ρ'', eb, S₃, sm3⟩ := o; rw [eb] at e'; exact ⟨k, Nat.lt_succ_self _, ρ'', e'.symm, S₃, (sm.trans st.same).trans sm3⟩
          | brk => exact o.elim
          | ret u => obtain ⟨v, eb, k1, k2, k3, k4⟩ := o; rw [eb] at e'; exact ⟨v, e', k1, k2, (sm.trans st.same).trans k3, k4⟩
        · obtain ⟨a, ev, ρ'', e1, eb, S₃, sm3, ex⟩ := o
          subst e1
          rw [eb] at e'
          exact noted_came S₃ ex fun h' S' X' => ⟨a, ev, ρ'', rfl, e', S', ((sm.trans st.same).trans sm3).trans ⟨rfl, rfl, rfl⟩, X'⟩
    · rw [onE_errr ee] at e'
      exact noted_came (S₁.step fx.O st.ext) (ex.mono (S₁.extE fx.O)) fun h' S' X' => ⟨a, ev, ρ', rfl, e', S', (sm.trans st.same).trans ⟨rfl, rfl, rfl⟩, X'⟩

/-- a for over a walk -/
theorem for_core {pb : List Stmt} {i : Nat} {x : Str} {px : Pos} {vs : List V} {body : Rho → Option Out} {s s₁ : Shared} {hE : Heap} {I : Addr} {fp : List Addr} {n : Nat} {P : Nat → Value → Prop} {St : Nat → Heap → Prop} {r : Option Out}
    (hx : NmOk fx i x) (hb : ∀ ρ, SimS fx pb ρ (body ρ)) (S₁ : fx.St hE s₁.heap ρ) (sm₁ : Same s s₁) (W : Walks g.prog g.w fx.A I fp [I] n P St) (hn : n = vs.length) (hst : St 0 s₁.heap)
    (hI : hE.get? I = none) (hfld : ∀ j h, St j h → ∃ o fs, h.get? I = some o ∧ o.data = .fields fs) (hfp : ∀ b ∈ fp, b = I ∨ (∃ o, hE.get? b = some o ∧ ∃ xs n, o.data = .seq xs n) ∨ ∀ j h, St j h → h.IsTuple b xs)
    (hP : ∀ j v, j < vs.length → P j v → ∃ w, vs[j]? = some w ∧ RepI s₁.heap w v) (hr : forL i body vs ρ ≠ none) (er : r = forL i body vs ρ) :
    codeAny g.M fx.A (.forLoop (.Name x px) (.ref I) pb [] fx.env) (fun r' s' => match r' with | .ok f => OkS fx hE r s f s' | .error e => cameBackBy g.M fx.A fx.env (ErrS fx hE r s) e s') s₁ := by
  subst er; subst hn
  refine codeAny_forLoop (fun k s' => ∃ j ρ', k = vs.length + 1 - j ∧ j ≤ vs.length ∧ forL i body (vs.drop j) ρ' = forL i body vs ρ ∧ St j s'.heap ∧ Tups s₁.heap s'.heap ∧ fx.St hE s'.heap ρ' ∧ Same s s') (fun k s' hInv => ?_) (vs.length + 1)
    ⟨0, ρ, rfl, Nat.zero_le _, rfl, hst, fun _ _ _ e => e, S₁, sm₁⟩
  obtain ⟨j, ρ', rfl, hj, ef, hst', tp, S', sm⟩ := hInv
  obtain ⟨oI, fs, eI, dI⟩ := hfld j _ hst'
  -- the heap but for the iterator
  have move : ∀ h'', (∀ b o, b ∉ [I] → s'.heap.get? b = some o → h''.get? b = some o) → fx.St hE h'' ρ' ∧ Tups s'.heap h'' := fun h'' hk => by
    refine ⟨S'.extW fx.O (fun b o e hd => ?_) fun b o e => ?_, fun b its k e => hk b _ ?_ e⟩
    · have hbI : b ∉ [I] := fun q => by rw [List.mem_singleton.mp q, eI] at e; cases e; exact hd _ dI
      exact ⟨⟨o.slots, hk b o hbI e⟩, fun _ => hk b o hbI e⟩
    · obtain ⟨⟨sl, e1⟩, k1⟩ := S'.extE fx.O b o e
      have hbI : b ∉ [I] := fun q => by rw [List.mem_singleton.mp q, hI] at e; cases e
      exact ⟨⟨sl, hk b _ hbI e1⟩, fun q => hk b _ hbI (k1 q)⟩
    · intro q
      rw [List.mem_singleton.mp q, IsT, eI] at e; cases e; cases dI
  by_cases hlt : j < vs.length
  · refine W.item j s' _ _ hlt hst' fun v h'' tk hPv hst'' hk => ?_
    obtain ⟨w, ew, rw0⟩ := hP j v hlt hPv
    obtain ⟨S'', tp'⟩ := move h'' hk
    have hsw : storable w = true := by cases w <;> first | rfl | (unfold RepI at rw0; exact rw0.elim)
    have hnl : ∀ us, w ≠ .lst true us := by intro us q; subst q; cases rw0
    have ed : vs.drop j = w :: vs.drop (j + 1) := by
      rw [List.drop_eq_getElem_cons hlt]
      rw [List.getElem?_eq_getElem hlt] at ew; cases ew; rfl
    have ef' : forL i body vs ρ = match body (put ρ' i w) with
      | some (.next ρ') => forL i body (vs.drop (j + 1)) ρ'
      | some (.cont ρ') => forL i body (vs.drop (j + 1)) ρ'
      | o => o := by rw [← ef, ed]; rfl
    have hb0 : body (put ρ' i w) ≠ none := by intro q; rw [q] at ef'; exact hr ef'
    refine wpAny_assign_Name (store_new (s₀ := { s' with heap := h'' }) (s := { s' with heap := h'', toks := tk }) S'' (Ext.refl _ _) hx hsw (ResOk.of ((rw0.tups tp).tups tp').rep hnl) fun h₃ tk₃ S₃ kp => ?_)
    obtain ⟨hE', S₃', H, of', kept⟩ := S₃.hide
    obtain ⟨oI2, fs2, eI2, dI2⟩ := hfld _ _ hst''
    have eI3 := kp _ _ eI2 (.inl ⟨fs2, dI2⟩)
    -- what the walk stands on is kept by the body
    have stay : ∀ h₄, Ext (fr fx.outer) hE' h₄ → Tups h₃ h₄ ∧ St (j + 1) h₄ := fun h₄ x4 => by
      have nm : ∀ {b : Addr} {o : Obj}, h₃.get? b = some o → (∀ es ep, o.data ≠ .dict es ep) → b ∉ fr fx.outer := fun e hd q => S₃.stk.ns.not_mem e hd (by rw [fr_env fx.O]; exact List.mem_cons_of_mem _ q)
      refine ⟨fun b its k e => (x4 b _ (kept b _ e (.inr ⟨rfl, _, _, rfl⟩))).2 (nm e (by intro _ _ q; cases q)), W.frame _ _ _ hst'' fun b hb o e => ?_⟩
      rcases hfp b hb with rfl | ⟨oh, eh, xs, k, hd⟩ | hT
      · rw [eI2] at e; cases e
        exact (x4 _ _ (kept _ _ eI3 (.inl ⟨fs2, dI2⟩))).2 (nm eI3 (by intro _ _ q; rw [dI2] at q; cases q))
      · have hF3 : b ∉ fr fx.outer := by
          obtain ⟨⟨sl, e3⟩, _⟩ := S₃.ext b oh eh
          exact nm e3 (by intro _ _ q; exact absurd (hd.symm.trans q) (by intro q; cases q))
        have e3 : h₃.get? b = some oh := (S₃.ext b oh eh).2 hF3
        have e2 : h''.get? b = some oh := (S''.ext b oh eh).2 hF3
        rw [e2] at e; cases e
        exact (x4 b _ ((H.ext b _ eh).2 hF3)).2 hF3
      · obtain ⟨oT, eT, cT, nT, dT⟩ := hT _ _ hst''
        rw [eT] at e; cases e
        have eT3 := kp _ _ eT (.inr ⟨_, _, dT⟩)
        exact (x4 b _ (kept _ _ eT3 (.inr ⟨cT, _, _, dT⟩))).2 (nm eT3 (by intro _ _ q; rw [dT] at q; cases q))
    refine wpAny_mono (hb _ hb0 { s' with heap := h₃, toks := tk₃ } hE' S₃') (fun f s₄ o => ?_) fun y s₄ o => ?_
    · cases f with
      | next =>
        obtain ⟨ρ₄, eb, S₄, sm4⟩ := o
        rw [eb] at ef'
        obtain ⟨t4, st4⟩ := stay _ S₄.ext
        exact ⟨vs.length + 1 - (j + 1), by (first | lia | omega), j + 1, ρ₄, rfl, hlt, ef'.symm, st4, fun b its k e => t4 _ _ _ (kp.tups _ _ _ (tp' _ _ _ (tp _ _ _ e))), S₃.back H S₄, sm.trans (Same.trans ⟨rfl, rfl, rfl⟩ sm4)⟩
      | cont =>
        obtain ⟨ρ₄, eb, S₄, sm4⟩ := o
        rw [eb] at ef'
        obtain ⟨t4, st4⟩ := stay _ S₄.ext
        exact ⟨vs.length + 1 - (j + 1), by (first | lia | omega), j + 1, ρ₄, rfl, hlt, ef'.symm, st4, fun b its k e => t4 _ _ _ (kp.tups _ _ _ (tp' _ _ _ (tp _ _ _ e))), S₃.back H S₄, sm.trans (Same.trans ⟨rfl, rfl, rfl⟩ sm4)⟩
      | brk => exact o.elim
      | ret u =>
        obtain ⟨v', eb, k1, k2, k3, k4⟩ := OkS.back S₃ H o
        rw [eb] at ef'
        exact ⟨v', ef', k1, k2, sm.trans (Same.trans ⟨rfl, rfl, rfl⟩ k3), k4⟩
    · obtain ⟨a, ev, ρ₄, e1, eb, S₄, sm4, ex⟩ := ErrS.back S₃ H o
      subst e1
      rw [eb] at ef'
      exact noted_came S₄ ex fun h' S5 X' => ⟨a, ev, ρ₄, rfl, ef', S5, sm.trans (Same.trans ⟨rfl, rfl, rfl⟩ (sm4.trans ⟨rfl, rfl, rfl⟩)), X'⟩
  · have hje : j = vs.length := by (first | lia | omega)
    subst hje
    refine W.done s' _ _ hst' fun h'' tk hk => ?_
    rw [List.drop_length] at ef
    exact wpAny_execs_nil ⟨ρ', ef.symm, (move h'' hk).1, sm.trans ⟨rfl, rfl, rfl⟩⟩
end
end Mine
end
section
open PySem PySem.Calls PyProof.Rows PySem.SeqAt
namespace Mine
set_option linter.unusedVariables false

section
variable {g : Gd} {fx : Fx g} {ρ : Rho}

theorem push_St {h : Heap} {hE : Heap} (S : fx.St hE h ρ) (o : Obj) : fx.St hE (h.push o) ρ := S.step fx.O (.push _ _)
theorem fresh_E {h : Heap} {hE : Heap} (S : fx.St hE h ρ) : hE.get? h.objs.size = none := S.fresh fx.O (Heap.get?_none_of_le (Nat.le_refl _))

theorem sim1_for {pe : Expr} {pb : List Stmt} {i : Nat} {x : Str} {px pos : Pos} {re : R V} {body : Rho → Option Out} (hx : NmOk fx i x) (hfs : ∀ y, foldedSetIterable pe fx.env y = pure y)
    (he : SimE fx pe ρ re) (hb : ∀ ρ, SimS fx pb ρ (body ρ)) :
    Sim1 fx (.For (.Name x px) pe pb [] pos) ρ (onE ρ re fun v => match itemsOf v with
      | some vs => if vs.length ≤ 1000000 then forL i body vs ρ else none
      | none => none) := by
  intro hr s hE S
  refine wpAny_For (he.use (onE_ne hr) S (fun v u s₁ e st ro S₁ => ?_) fun a ev s₁ e st ex => errS_of S (onE_errr e) st ex) hfs
  obtain ⟨rr, hrr⟩ : ∃ rr, rr = onE ρ re fun v => match itemsOf v with
      | some vs => if vs.length ≤ 1000000 then forL i body vs ρ else none
      | none => none := ⟨_, rfl⟩
  rw [← hrr]
  rw [onE_okk e] at hr hrr
  split at hr <;> first | exact absurd rfl hr | skip
  rename_i vs hv
  rw [hv] at hrr
  dsimp only at hrr
  split at hr <;> first | exact absurd rfl hr | skip
  rename_i hlen
  rw [if_pos hlen] at hrr
  cases v <;> first | (cases hv; done) | replace hv := Option.some.inj hv
  · -- the signs of a text
    rename_i a
    subst hv
    obtain ⟨t, rfl⟩ : ∃ t, u = .str a t := ro
    have hn : a.cps.size = (a.cps.toList.map fun c => V.str ⟨#[c]⟩).length := by simp
    have hP : ∀ (h : Heap) j v, j < (a.cps.toList.map fun c => V.str ⟨#[c]⟩).length → SignAt a j v → ∃ w, (a.cps.toList.map fun c => V.str ⟨#[c]⟩)[j]? = some w ∧ RepI h w v := by
      rintro h j v _ ⟨c, u, hc, rfl⟩
      refine ⟨.str ⟨#[c]⟩, ?_, ⟨u, rfl⟩⟩
      simp only [List.getElem?_map, Array.getElem?_toList, hc, Option.map_some]
    cases ha : a.cps.all (· < 128)
    · refine wpAny_pyIter_wide ha ?_
      refine for_core (xs := #[]) hx hb (push_St S₁ _) (st.same.trans ⟨rfl, rfl, rfl⟩) (Walks.strWide fx.hh _ a t) hn ⟨_, Heap.get?_push_size _ rfl, rfl, rfl⟩ (fresh_E S₁) (fun j h q => let ⟨o, e, _, hd⟩ := q; ⟨o, _, e, hd⟩) (fun b hb => .inl (List.mem_singleton.mp hb)) (hP _) hr hrr
    · refine wpAny_pyIter_ascii ha ?_
      refine for_core (xs := #[]) hx hb (push_St S₁ _) (st.same.trans ⟨rfl, rfl, rfl⟩) (Walks.strAscii fx.hh _ a t) hn ⟨_, Heap.get?_push_size _ rfl, rfl, rfl⟩ (fresh_E S₁) (fun j h q => let ⟨o, e, _, hd⟩ := q; ⟨o, _, e, hd⟩) (fun b hb => .inl (List.mem_singleton.mp hb)) (hP _) hr hrr
  · -- a tuple's items
    subst hv
    obtain ⟨p, ip, np, rfl, hp, rp⟩ : RepI s₁.heap (.tup _) u := ro
    have hne : p ≠ s₁.heap.objs.size := Nat.ne_of_lt (Heap.lt_size hp)
    have hlen := rp.length
    simp only [Array.length_toList] at hlen
    refine wpAny_pyIter_tuple (isT_tuple hp) ?_
    refine for_core (xs := ip) hx hb (push_St S₁ _) (st.same.trans ⟨rfl, rfl, rfl⟩) (Walks.tuple fx.hh _ p hne ip) hlen ⟨⟨_, Heap.get?_push_size _ rfl, rfl, rfl⟩, isT_tuple (hp.push _)⟩ (fresh_E S₁)
      (fun j h q => let ⟨o, e, _, hd⟩ := q.1; ⟨o, _, e, hd⟩) (fun b hb => ?_) (fun j v hj hv => ?_) hr hrr
    · rcases List.mem_cons.mp hb with q | hb
      · exact .inl q
      · rw [List.mem_singleton.mp hb]; exact .inr (.inr fun j h q => q.2)
    · obtain ⟨w, e1, e2⟩ := rp.get' j v (by simpa using hv)
      exact ⟨w, e1, e2.tups fun b its k e => Heap.get?_push_of_some _ e⟩

theorem sim1_forVar {pb : List Stmt} {i k : Nat} {x y : Str} {px py pos : Pos} {body : Rho → Option Out} (hx : NmOk fx i x) (hy : fx.names[k]? = some y) (hd : (y == ("__debug__" : Str)) = false)
    (hb : ∀ ρ, SimS fx pb ρ (body ρ)) :
    Sim1 fx (.For (.Name x px) (.Name y py) pb [] pos) ρ (match get ρ k with
      | some (.lst false vs) => if vs.length ≤ 1000000 then forL i body vs ρ else none
      | _ => none) := by
  intro hr s hE S
  split at hr <;> first | exact absurd rfl hr | skip
  rename_i vs hg
  split at hr <;> first | exact absurd rfl hr | skip
  rename_i hlen
  rw [if_pos hlen]
  refine wpAny_For (wpAny_Name (load_ok fx.O S hg hy fun u ru ow => ?_) hd) fun _ => rfl
  obtain ⟨p, ip, np, rfl, hp, rp⟩ : Rep s.heap (.lst false vs) u := ru
  obtain ⟨o, eo⟩ := ow p rfl
  obtain ⟨o', e', _, _, hd'⟩ := S.ext.some eo
  rw [hp] at e'; cases e'
  have hne : p ≠ s.heap.objs.size := Nat.ne_of_lt (Heap.lt_size hp)
  have hlen := rp.length
  simp only [Array.length_toList] at hlen
  refine wpAny_pyIter_list (isL_list hp) ?_
  refine for_core (xs := ip) hx hb (push_St S _) ⟨rfl, rfl, rfl⟩ (Walks.list fx.hh _ p hne ip) hlen ⟨⟨_, Heap.get?_push_size _ rfl, rfl, rfl⟩, isL_list (hp.push _)⟩ (fresh_E S)
    (fun j h q => let ⟨o, e, _, hd⟩ := q.1; ⟨o, _, e, hd⟩) (fun b hb => ?_) (fun j v hj hv => ?_) hr rfl
  · rcases List.mem_cons.mp hb with q | hb
    · exact .inl q
    · rw [List.mem_singleton.mp hb]; exact .inr (.inl ⟨o, eo, _, _, hd'.symm⟩)
  · obtain ⟨w, e1, e2⟩ := rp.get' j v (by simpa using hv)
    exact ⟨w, e1, e2.tups fun b its k e => Heap.get?_push_of_some _ e⟩

theorem sim1_forRange {pe : Expr} {pb : List Stmt} {i : Nat} {x : Str} {px np cp pos : Pos} {re : R V} {body : Rho → Option Out} (hx : NmOk fx i x) (hs : notStar pe = true) (hn : BName fx (Str.ofString "range") (.type "range"))
    (he : SimE fx pe ρ re) (hb : ∀ ρ, SimS fx pb ρ (body ρ)) :
    Sim1 fx (.For (.Name x px) (.Call (.Name (Str.ofString "range") np) [pe] [] cp) pb [] pos) ρ (onE ρ re fun v => match v with
      | .int n => if 0 ≤ n ∧ n ≤ 1000000 then forL i body ((List.range n.toNat).map fun k => V.int (k : Nat)) ρ else none
      | _ => none) := by
  intro hr s hE S
  refine wpAny_For (wpAny_Call_NameR (eval_builtin S hn.kind hn.free hn.main hn.boot hn.dbg ?_)) fun _ => rfl
  rw [starEach_cons hs, backTo_cons]
  refine call1_type (T := "range") (he.use (onE_ne hr) S (fun v u s₁ e st ro S₁ => ?_) fun a ev s₁ e st ex => errS_of S (onE_errr e) st ex)
  obtain ⟨rr, hrr⟩ : ∃ rr, rr = onE ρ re fun v => match v with
      | .int n => if 0 ≤ n ∧ n ≤ 1000000 then forL i body ((List.range n.toNat).map fun k => V.int (k : Nat)) ρ else none
      | _ => none := ⟨_, rfl⟩
  rw [← hrr]
  rw [onE_okk e] at hr hrr
  cases v <;> first | exact absurd rfl hr | skip
  rename_i n
  dsimp only at hr hrr
  split at hr <;> first | exact absurd rfl hr | skip
  rename_i hc
  rw [if_pos hc] at hrr
  obtain ⟨t, rfl⟩ : ∃ t, u = .int n t := ro
  refine call_range_1 ?_
  refine wpAny_pyIter_range (IsRange.new _ _ _ _ _ _ _) (small_one (by (first | lia | omega)) (by (first | lia | omega)) (by (first | lia | omega)) (by (first | lia | omega))) ?_
  have hsz : Builtin.Range.rangeSize 0 n 1 = ((n.toNat : Nat) : Int) := by rw [rangeSize_one]; split <;> (first | lia | omega)
  have S₂ := push_St S₁ (o := { cls := .type "range", data := .fields #[.int 0 s₁.toks, .int n t, .int 1 (s₁.toks + 1)] })
  refine for_core (xs := #[]) (n := n.toNat) hx hb (push_St S₂ _) (st.same.trans ⟨rfl, rfl, rfl⟩) (Walks.range fx.hh _ 0 1 n.toNat) (by simp) ?_ (fresh_E S₂) (fun j h q => ⟨_, _, q, rfl⟩) (fun b hb => .inl (List.mem_singleton.mp hb)) (fun j v hj hv => ?_) hr hrr
  · rw [hsz]
    exact Heap.get?_push_size _ rfl
  · obtain ⟨t, rfl⟩ := hv
    simp only [List.length_map, List.length_range] at hj
    refine ⟨.int (j : Nat), by simp [hj], t, ?_⟩
    simp
end
end Mine
end
section
set_option maxRecDepth 100000
open PySem PySem.Calls PyProof.Rows PySem.SeqAt
open Builtin Builtin.ObjectAttr
namespace Mine
set_option linter.unusedVariables false

noncomputable abbrev excMro : List Value := [.type "Exception", .type "BaseException", .type "object"]

section
variable {prog : Program} {w : World} {A : Around} {E : Value → Shared → Prop} {h : Heap} {gn : Array GenState} {d : Drawn} {t : Nat} {os : OsState}
variable {nm q : Str} {C N e : Addr} {bs : List Value} {sn : List Str} {sub : List Value} {ab : Bool} {col : Option Bool} {dd : Option Addr} {k0 k1 k2 k3 k5 : Option Value} {newId : String} {mN : Str → Option Value} {name : Str} {v : Value}

/-- the state behind the first store -/
noncomputable abbrev FirstPost (h : Heap) (C e : Addr) (fs : Array Value) (sl : Array (Option Value)) (name : Str) (v : Value) (h' : Heap) : Prop :=
  h'.get? e = some { cls := .ref C, dict := some h.objs.size, data := .fields fs, slots := sl } ∧ h'.Ns1 h.objs.size (fun y => if y = name then some v else none) ∧ (∀ b o, b ≠ e → h.get? b = some o → h'.get? b = some o)

theorem exc_first_run {sa owner : String} (SF : StoreFacts "Exception" excMro sa owner) {tk : Tok} {fs : Array Value} {sl : Array (Option Value)} {Q : Fin → Shared → Prop} {o : Obj} (ho : o = { cls := .ref C, dict := none, data := .fields fs, slots := sl })
    (hC : h.get? C = some (excClassObj nm q C N bs excMro true sn sub ab col dd k0 k1 k2 k3 k5 newId)) (hn : h.Ns N mN) (hna : mN name = none)
    (hB : typeLookup (.type "Exception") name = pure none) (he : h.get? e = some o)
    (hq : ∀ h' tk', FirstPost h C e fs sl name v h' → Q (.done (.ret .none)) ⟨h', gn, d, tk', os⟩) :
    wpAny (model prog w) A (Builtin.«object.__setattr__» ⟨[.ref e, .str name tk, v], []⟩) Q E ⟨h, gn, d, t, os⟩ := by
  have hpass := SF.passes (.ref e)
  have hc : o.cls = .ref C := by rw [ho]
  have hdn : o.dict = none := by rw [ho]
  unfold Builtin.«object.__setattr__»
  repeat (first | rw [refuse_eq] | (rw [refuseLoop_ref, hpass]) | (with_reducible refine wpAny_loadPart_at he ?_; rw [hc]) | with_reducible refine wpAny_mroOf_exc hC ?_ | (with_reducible refine wpAny_typeLookup_exc hC hn SF.mro hB ?_; rw [hna]) | wp_step)
  rw [hdn, if_neg (by simp [typeHasDict])]
  subst ho
  have hee : e ≠ h.objs.size := Nat.ne_of_lt (Heap.lt_size he)
  have he₁ := Heap.get?_push_of_some (h := h) { cls := .type "dict", dict := none, data := .dict #[] } he
  show wpAny (model prog w) A (do
    let d ← alloc { cls := Value.type "dict", data := Data.dict #[] }
    update e fun o => { cls := o.cls, dict := some d, data := o.data, slots := o.slots }
    dictMade (Value.ref C) e d) _ _ _
  refine wpAny_bind (wpAny_alloc' (wpAny_bind (wpAny_update' he₁ (wpAny_pure ?_))))
  generalize hH : ((h.push { cls := .type "dict", dict := none, data := .dict #[] }).update e fun o => { cls := o.cls, dict := some h.objs.size, data := o.data, slots := o.slots }) = H
  have hD : H.get? h.objs.size = some { cls := .type "dict", dict := none, data := .dict #[] } := by
    rw [← hH]
    exact (Heap.get?_update_other _ _ hee).trans (Heap.get?_push_size _ rfl)
  have hE : H.get? e = some { cls := .ref C, dict := some h.objs.size, data := .fields fs, slots := sl } := by
    rw [← hH]
    exact Heap.get?_update_self _ he₁ rfl
  have hk : ∀ b o, b ≠ e → h.get? b = some o → H.get? b = some o := fun b o hb eo => by
    rw [← hH]
    exact (Heap.get?_update_other _ _ (Ne.symm hb)).trans (Heap.get?_push_of_some _ eo)
  have hns : H.Ns h.objs.size fun _ => none := ⟨_, _, _, hD, rfl, fun x hx => absurd hx (by simp), fun _ => rfl⟩
  show wpAny _ _ (storeInDict h.objs.size (.str name tk) name v) Q E _
  unfold storeInDict newKeyGuard
  refine wpAny_bind (wpAny_pure (wpAny_bind (wpAny_nsSet1 (s := { heap := H, gens := gn, drawn := d, toks := t, os := os }) (Heap.Ns1.of_empty hns) fun h' hn' hs => ?_)))
  obtain ⟨oD, esD, epD, hoD, hdD, hcD⟩ := hn'.count (Within.cons name v Within.nil)
  refine wpAny_bind (wpAny_lookBehind hoD (by rw [hdD]; exact pastItsLine_dict (Nat.le_trans hcD (by simp [sizeLine_eq]))) (wpAny_pure (hq h' _ ⟨(hs.2 e hee).trans hE, hn', fun b o hb eo => (hs.2 b (Nat.ne_of_lt (Heap.lt_size eo))).trans (hk b o hb eo)⟩)))

theorem exc_first_call {sa owner : String} (SF : StoreFacts "Exception" excMro sa owner) {tk : Tok} {fs : Array Value} {sl : Array (Option Value)} {R : Result → Shared → Prop} {o : Obj} (ho : o = { cls := .ref C, dict := none, data := .fields fs, slots := sl })
    (hC : h.get? C = some (excClassObj nm q C N bs excMro true sn sub ab col dd k0 k1 k2 k3 k5 newId)) (hn : h.Ns N mN) (hna : mN name = none)
    (hB : typeLookup (.type "Exception") name = pure none) (he : h.get? e = some o)
    (hq : ∀ h' tk', FirstPost h C e fs sl name v h' → R (.ok (.ret .none)) ⟨h', gn, d, tk', os⟩) :
    codeAny (model prog w) A (.call (.builtin sa) ⟨[.ref e, .str name tk, v], []⟩) R ⟨h, gn, d, t, os⟩ := by
  have hc : o.cls = .ref C := by rw [ho]
  exact codeAny_call_builtin SF.slot.plain SF.entry (wpAny_check_sa SF hC he hc (exc_first_run SF ho hC hn hna hB he hq))

theorem exc_first {sa owner : String} (SF : StoreFacts "Exception" excMro sa owner) {fs : Array Value} {sl : Array (Option Value)} {Q : Unit → Shared → Prop} {o : Obj} (ho : o = { cls := .ref C, dict := none, data := .fields fs, slots := sl })
    (hC : h.get? C = some (excClassObj nm q C N bs excMro true sn sub ab col dd k0 k1 k2 k3 k5 newId)) (hn : h.Ns N mN) (hns : mN "__setattr__" = none) (hna : mN name = none)
    (hB : typeLookup (.type "Exception") name = pure none) (he : h.get? e = some o)
    (hq : ∀ h' tk', FirstPost h C e fs sl name v h' → Q () ⟨h', gn, d, tk', os⟩) :
    wpAny (model prog w) A (setAttr (.ref e) name v) Q E ⟨h, gn, d, t, os⟩ := by
  have hc : o.cls = .ref C := by rw [ho]
  have f3 := SF.slot.bind (.ref e)
  unfold setAttr callSpecial? specialOf
  repeat (any_goals (first | assumption | (with_reducible refine wpAny_loadPart_at he ?_; rw [hc]) | (with_reducible refine wpAny_typeLookup_exc hC hn SF.mro SF.slot.lookup ?_; rw [hns]) | wp_step))
  refine exc_first_call SF ho hC hn hna hB he fun h' tk' fp => ?_
  exact wpAny_pure (wpAny_pure (hq h' tk' fp))

theorem exc_load_run {tk : Tok} {Q : Fin → Shared → Prop} {o : Obj} {dx : Addr} {m : Str → Option Value} {bm : List Value} (hbm : mroOf (.type "Exception") = pure bm)
    (hC : h.get? C = some (excClassObj nm q C N bs bm true sn sub ab col dd k0 k1 k2 k3 k5 newId)) (hn : h.Ns N mN) (hna : mN name = none)
    (hB : typeLookup (.type "Exception") name = pure none) (he : h.get? e = some o) (hc : o.cls = .ref C) (hnc : ∀ c, o.data ≠ .cls c) (hdx : o.dict = some dx) (hns : h.Ns dx m) (hv : m name = some v)
    (hq : Q (.done (.ret v)) ⟨h, gn, d, t, os⟩) :
    wpAny (model prog w) A (Builtin.«object.__getattribute__» ⟨[.ref e, .str name tk], []⟩) Q E ⟨h, gn, d, t, os⟩ := by
  unfold Builtin.«object.__getattribute__»
  repeat (first | (with_reducible refine wpAny_loadPart_at he ?_; rw [hc]) | (with_reducible refine wpAny_typeLookup_exc hC hn hbm hB ?_; rw [hna]) | wp_step)
  split
  · rename_i c hcd
    exact absurd hcd (hnc c)
  unfold instanceDict
  repeat (first | (with_reducible refine wpAny_loadPart_at he ?_; rw [hc]) | with_reducible refine wpAny_loadPart_at hC ?_ | wp_step)
  rw [hdx]
  repeat (first | (with_reducible refine wpAny_nsGet hns ?_; rw [hv]) | wp_step)
  exact hq

theorem exc_load_call {tk : Tok} {R : Result → Shared → Prop} {o : Obj} {dx : Addr} {m : Str → Option Value} {bm : List Value} (FB : ExcAttrBase "Exception" bm)
    (hC : h.get? C = some (excClassObj nm q C N bs bm true sn sub ab col dd k0 k1 k2 k3 k5 newId)) (hn : h.Ns N mN) (hna : mN name = none)
    (hB : typeLookup (.type "Exception") name = pure none) (he : h.get? e = some o) (hc : o.cls = .ref C) (hnc : ∀ c, o.data ≠ .cls c) (hdx : o.dict = some dx) (hns : h.Ns dx m) (hv : m name = some v)
    (hq : R (.ok (.ret v)) ⟨h, gn, d, t, os⟩) :
    codeAny (model prog w) A (.call (.builtin "BaseException.__getattribute__") ⟨[.ref e, .str name tk], []⟩) R ⟨h, gn, d, t, os⟩ :=
  codeAny_call_builtin FB.ga.plain F.entry_bexc_ga (wpAny_check_ga_own FB hC .base he hc (exc_load_run FB.mro hC hn hna hB he hc hnc hdx hns hv hq))

theorem exc_load {expr : Bool} {Q : Value → Shared → Prop} {o : Obj} {dx : Addr} {m : Str → Option Value} {bm : List Value} (FB : ExcAttrBase "Exception" bm)
    (hC : h.get? C = some (excClassObj nm q C N bs bm true sn sub ab col dd k0 k1 k2 k3 k5 newId)) (hn : h.Ns N mN) (hga : mN "__getattribute__" = none) (hgt : mN "__getattr__" = none) (hna : mN name = none)
    (hB : typeLookup (.type "Exception") name = pure none) (he : h.get? e = some o) (hc : o.cls = .ref C) (hnc : ∀ c, o.data ≠ .cls c) (hdx : o.dict = some dx) (hns : h.Ns dx m) (hv : m name = some v) (hh : handedOut v = pure v)
    (hq : Q v ⟨h, gn, d, t + 1, os⟩) : wpAny (model prog w) A (getAttr (.ref e) name expr) Q E ⟨h, gn, d, t, os⟩ := by
  have f3 := FB.ga.bind (.ref e)
  have hx0 : (expr && onTheHeap (Value.builtin "BaseException.__getattribute__")) = false := by cases expr <;> rfl
  have hx2 : (Value.builtin "BaseException.__getattribute__" == Value.builtin "object.__getattribute__") = false := by decide +kernel
  have hx1 : (onTheHeap (Value.ref C) && Value.builtin "BaseException.__getattribute__" == Value.builtin "object.__getattribute__") = false := by rw [hx2]; rfl
  unfold getAttr getAttrBy
  repeat (any_goals (first | assumption | (with_reducible refine wpAny_loadPart_at he ?_; rw [hc]) | (with_reducible refine wpAny_typeLookup_exc hC hn FB.mro FB.ga.lookup ?_; rw [hga]) | (with_reducible refine wpAny_typeLookup_exc hC hn FB.mro FB.noGetattr ?_; rw [hgt]) | wp_step))
  refine exc_load_call FB hC hn hna hB he hc hnc hdx hns hv ?_
  show wpAny _ _ (handedOut v) _ _ _
  rw [hh]
  exact wpAny_pure hq
end
end Mine
end
section
set_option maxRecDepth 100000
open PySem PySem.Calls PyProof.Rows PySem.SeqAt
set_option genInjectivity false
set_option genSizeOf false
namespace Mine
set_option linter.unusedVariables false

/-- the text of the class's own __init__ -/
inductive InitBody : List Stmt → Prop
  | mk {a1 a2 a3 a4 a5 a6 b1 b2 b3 b4 c1 c2 c3 c4 d1 d2 d3 d4 e1 e2 e3 e4 f1 f2 f3 f4 g1 g2 g3 g4 i1 i2 i3 i4 j1 j2 j3 j4 l1 l2 l3 l4 : Pos} {k1 k2 k3 : Nat} (hl : (a2.endLine == a5.line) = true) : InitBody
    [.Expr (.Call (.Attribute (.Name (Str.ofString "Exception") a1) (Str.ofString "__init__") a2) [.Name (Str.ofString "self") a3, .Name (Str.ofString "value") a4] [] a5) a6,
     .Assign [.Attribute (.Name (Str.ofString "self") b1) (Str.ofString "code") b2] (.Name (Str.ofString "code") b3) b4,
     .Assign [.Attribute (.Name (Str.ofString "self") c1) (Str.ofString "value") c2] (.Name (Str.ofString "value") c3) c4,
     .Assign [.Attribute (.Name (Str.ofString "self") d1) (Str.ofString "errorcode") d2] (.Name (Str.ofString "errorcode") d3) d4,
     .Assign [.Attribute (.Name (Str.ofString "self") e1) (Str.ofString "level") e2] (.Name (Str.ofString "level") e3) e4,
     .Assign [.Attribute (.Name (Str.ofString "self") f1) (Str.ofString "ret") f2] (.Name (Str.ofString "ret") f3) f4,
     .Assign [.Attribute (.Name (Str.ofString "self") g1) (Str.ofString "info") g2] (.Constant (.str (Str.ofString "")) k1 g3) g4,
     .Assign [.Attribute (.Name (Str.ofString "self") i1) (Str.ofString "is_noted") i2] (.Constant (.bool false) k2 i3) i4,
     .Assign [.Attribute (.Name (Str.ofString "self") j1) (Str.ofString "line") j2] (.Constant (.int 0) k3 j3) j4,
     .Assign [.Attribute (.Name (Str.ofString "self") l1) (Str.ofString "extra") l2] (.List [] l3) l4]

theorem excAttrs_free : ∀ n ∈ excAttrs, typeLookup (.type "Exception") n = pure none := by
  intro n hn
  simp only [excAttrs, List.mem_cons, List.not_mem_nil, or_false] at hn
  rcases hn with rfl | rfl | rfl | rfl | rfl | rfl | rfl | rfl | rfl <;> (rw [typeLookup_type, builtinLookup_eq_fast]; kernel_rfl)

/-- the text's own exception class, as it stands on the heap -/
structure ExcCls (g : Gd) where
  N : Addr
  mN : Str → Option Value
  nm : Str
  q : Str
  bs : List Value
  sn : List Str
  sub : List Value
  ab : Bool
  col : Option Bool
  dd : Option Addr
  k0 : Option Value
  k1 : Option Value
  k2 : Option Value
  k3 : Option Value
  k5 : Option Value
  hC : g.base.get? g.C = some (excClassObj nm q g.C N bs excMro true sn sub ab col dd k0 k1 k2 k3 k5 "Exception.__new__")
  hN : g.base.Ns N mN
  fI : Addr
  oI : Obj
  fd : FuncData
  body : List Stmt
  init : mN (Str.ofString "__init__") = some (.ref fI)
  noSet : mN (Str.ofString "__setattr__") = none
  noGet : mN (Str.ofString "__getattribute__") = none
  noHook : mN (Str.ofString "__getattr__") = none
  quiet : ∀ n ∈ excAttrs, mN n = none
  hfI : g.base.get? fI = some oI
  hfc : oI.cls = .type "function"
  hfd : oI.data = .func fd
  code : g.base.CodeRec fd.code fd.qualname
  hbody : fd.body = .stmts body
  text : InitBody body
  kind : fd.scope.kind = .function
  coro : fd.scope.isCoroutine = false
  gen : fd.scope.isGenerator = false
  cell : ∀ x ∈ fd.scope.names, x.2 ≠ .cell
  loc : ∀ x ∈ [Str.ofString "self", Str.ofString "code", Str.ofString "value", Str.ofString "errorcode", Str.ofString "level", Str.ofString "ret"], fd.scope.names.lookup x = some .local
  exc : fd.scope.names.lookup (Str.ofString "Exception") = some .globalImplicit
  glob : fd.globals = mainGlobals
  bi : fd.builtins = builtinsNs
  free : g.mg (Str.ofString "Exception") = none
  binds : ∀ (s : Shared), g.base.StaysIn s.heap → ∀ a b c d, ∃ l r, BindsTo s fd ⟨[a, b, c, d], []⟩ [(Str.ofString "self", a), (Str.ofString "code", b), (Str.ofString "value", c), (Str.ofString "errorcode", d), (Str.ofString "level", l), (Str.ofString "ret", r)]

/-- within the class's own __init__: the new object, its dict, the frame -/
structure EIn (C : Addr) (h0 : Heap) (L e dx : Addr) (m mA : Str → Option Value) (h : Heap) : Prop where
  keep : ∀ b o, h0.get? b = some o → h.get? b = some o
  ns : h.Ns L m
  obj : ∃ fs sl, h.get? e = some { cls := .ref C, dict := some dx, data := .fields fs, slots := sl } ∧ fs.size = 6 ∧ fs[1]? = some .none
  dict : h.Ns1 dx mA
  newE : h0.get? e = none
  newD : h0.get? dx = none
  eL : e ≠ L
  dL : dx ≠ L
  de : dx ≠ e

section
variable {g : Gd} {A : Around} {E : Value → Shared → Prop} {s : Shared} {h0 : Heap} {L e dx : Addr} {m mA : Str → Option Value}

theorem EIn.push {h : Heap} (I : EIn g.C h0 L e dx m mA h) (o : Obj) : EIn g.C h0 L e dx m mA (h.push o) := by
  have k : ∀ b ob, h.get? b = some ob → (h.push o).get? b = some ob := fun b ob eb => Heap.get?_push_of_some _ eb
  obtain ⟨fs, sl, e1, r⟩ := I.obj
  exact ⟨fun b ob eb => k _ _ (I.keep b ob eb), I.ns.keeps k, ⟨fs, sl, k _ _ e1, r⟩, I.dict.at fun ob eb => k _ _ eb, I.newE, I.newD, I.eL, I.dL, I.de⟩

theorem store_step (X : ExcCls g) (hb : g.base.StaysIn h0) (I : EIn g.C h0 L e dx m mA s.heap) {name : Str} {v : Value} {ns : List Str} {Q : Unit → Shared → Prop} (hn : name ∈ excAttrs) (hw : Within mA ns) (hsz : ns.length ≤ 100)
    (k : ∀ h' tk, EIn g.C h0 L e dx m (fun y => if y = name then some v else mA y) h' → Q () { s with heap := h', toks := tk }) : wpAny g.M A (setAttr (.ref e) name v) Q E s := by
  obtain ⟨hp, gn, dr, tk, os⟩ := s
  obtain ⟨fs, sl, eo, hsz6, h1⟩ := I.obj
  have hst : g.base.StaysIn hp := fun b o eb => I.keep _ _ (hb b o eb)
  have heC : e ≠ g.C := fun q => by subst q; have := hb _ _ X.hC; rw [I.newE] at this; cases this
  refine store_attr PySem.F.store_Exception (hst _ _ X.hC) (X.hN.keeps hst) X.noSet (X.quiet _ hn) (excAttrs_free _ hn) heC ⟨_, eo, rfl, (by intro c q; cases q), .inr ⟨dx, rfl, I.de, I.dict⟩⟩ (fun h' tk' I' hk hsame => ?_) hw (by rw [sizeLine_eq]; (first | lia | omega))
  have hk' : ∀ b o, b ≠ e → b ≠ dx → hp.get? b = some o → h'.get? b = some o := fun b o h1 h2 eb => hk b o h1 (fun o₀ dx' q1 q2 => by rw [eo] at q1; cases q1; cases q2; exact h2) eb
  obtain ⟨o₁, f1, f2, f3, f4, f5⟩ := hsame _ eo
  have o1e : o₁ = { cls := .ref g.C, dict := some dx, data := .fields fs, slots := sl } := by
    obtain ⟨a, b, c, d⟩ := o₁
    have := f5 dx rfl
    dsimp only at f2 f3 f4 this
    rw [f2, f3, f4, this]
  subst o1e
  obtain ⟨o₂, g1, g2, g3, g4⟩ := I'
  rw [f1] at g1; cases g1
  have hD : h'.Ns1 dx fun y => if y = name then some v else mA y := by
    rcases g4 with ⟨q, _⟩ | ⟨d', q, _, r⟩
    · cases q
    · cases q; exact r
  refine k h' tk' ⟨fun b o eb => hk' b o (fun q => by subst q; rw [I.newE] at eb; cases eb) (fun q => by subst q; rw [I.newD] at eb; cases eb) (I.keep b o eb), ?_, ⟨fs, sl, f1, hsz6, h1⟩, hD, I.newE, I.newD, I.eL, I.dL, I.de⟩
  obtain ⟨o, es, ep, eb, r⟩ := I.ns
  exact ⟨o, es, ep, hk' _ _ (Ne.symm I.eL) (Ne.symm I.dL) eb, r⟩
end
end Mine
end
section
set_option maxRecDepth 100000
open PySem PySem.Calls PyProof.Rows PySem.SeqAt
set_option genInjectivity false
set_option genSizeOf false
namespace Mine
set_option linter.unusedVariables false

section
variable {prog : Program} {w : World} {A : Around} {E : Value → Shared → Prop} {h : Heap} {gn : Array GenState} {dr : Drawn} {t : Nat} {os : OsState}
variable {nm q : Str} {C N e : Addr} {bs bm : List Value} {hdct : Bool} {sn : List Str} {sub : List Value} {ab : Bool} {col : Option Bool} {dd : Option Addr} {k0 k1 k2 k3 k5 : Option Value} {B newId initId : String}

theorem exc_base_init (F : ExcBaseFacts B newId initId bm) (hC : h.get? C = some (excClassObj nm q C N bs bm hdct sn sub ab col dd k0 k1 k2 k3 k5 newId)) {o : Obj} {fs : Array Value} {t0 : Addr} {rest : List Value} {Q : Value → Shared → Prop}
    (he : h.get? e = some o) (hc : o.cls = .ref C) (hd : o.data = .fields fs) (h0 : fs[0]? = some (.ref t0)) (hrest : rest.length ≤ sizeLine)
    (hq : Q .none ⟨(h.push { cls := .type "tuple", data := .seq rest.toArray }).update e (Obj.mapFields (·.setIfInBounds 0 (.ref h.objs.size))), gn, dr, t, os⟩) :
    wpAny (model prog w) A (call (.builtin initId) (.ref e :: rest)) Q E ⟨h, gn, dr, t, os⟩ := by
  refine wpAny_call (codeAny_call_builtin F.init.plain F.initEntry (wpAny_check_init_sub F hC he hc ?_))
  unfold Builtin.«BaseException.__init__»
  dsimp only
  rw [if_neg (by simp)]
  unfold newTuple Builtin.BaseException.bexcPut
  have hsz : 0 < fs.size := (Array.getElem?_eq_some_iff.mp h0).1
  have he₁ := Heap.get?_push_of_some (h := h) { cls := .type "tuple", data := .seq rest.toArray } he
  refine wpAny_bind (wpAny_newObj_type (wpAny_bind (wpAny_bind (wpAny_field he₁ hd h0 (wpAny_bind (wpAny_setField he₁ hd hsz ?_))))) (by show rest.toArray.size ≤ sizeLine; rw [List.size_toArray]; exact hrest))
  exact wpAny_letGo (wpAny_pure hq)
end

section
variable {g : Gd} {A : Around} {E : Value → Shared → Prop} {s : Shared} {h0 : Heap} {L e dx : Addr} {m mA : Str → Option Value}

theorem fc_init : PySem.W.findCls [] (.type "Exception") (.type "type") "__init__" = some (.val (.builtin "Exception.__init__")) := by rfl
theorem exc_type : typeOf (.type "Exception") = pure (.type "type") := by rfl
theorem exc_stub : Manifest.isStub "Exception" = false := by decide +kernel
theorem exc_boot : bootBuiltins (Str.ofString "Exception") = some (.type "Exception") := by decide +kernel
theorem exc_main : Str.ofString "Exception" ≠ Str.ofString "__name__" := by decide +kernel

/-- the names that the class's own __init__ is given -/
noncomputable abbrev initMap (e : Addr) (c x ec l r : Value) : Str → Option Value := fun y =>
  ([(Str.ofString "self", Value.ref e), (Str.ofString "code", c), (Str.ofString "value", x), (Str.ofString "errorcode", ec), (Str.ofString "level", l), (Str.ofString "ret", r)] : List (Str × Value)).reverse.lookup y

theorem im_self {e : Addr} {c x ec l r : Value} : initMap e c x ec l r (Str.ofString "self") = some (.ref e) := by kernel_rfl
theorem im_code {e : Addr} {c x ec l r : Value} : initMap e c x ec l r (Str.ofString "code") = some c := by kernel_rfl
theorem im_value {e : Addr} {c x ec l r : Value} : initMap e c x ec l r (Str.ofString "value") = some x := by kernel_rfl
theorem im_errorcode {e : Addr} {c x ec l r : Value} : initMap e c x ec l r (Str.ofString "errorcode") = some ec := by kernel_rfl
theorem im_level {e : Addr} {c x ec l r : Value} : initMap e c x ec l r (Str.ofString "level") = some l := by kernel_rfl
theorem im_ret {e : Addr} {c x ec l r : Value} : initMap e c x ec l r (Str.ofString "ret") = some r := by kernel_rfl

theorem init_name (X : ExcCls g) {L : Addr} {y : Str} {p : Pos} {v : Value} {Q : Value → Shared → Prop}
    (hl : y ∈ [Str.ofString "self", Str.ofString "code", Str.ofString "value", Str.ofString "errorcode", Str.ofString "level", Str.ofString "ret"]) (hn : s.heap.Ns L m) (hv : m y = some v) (k : Q v s) (hd : (y == ("__debug__" : Str)) = false := by decide +kernel) :
    wpAny g.M A (eval (.Name y p) (callEnv X.fd L X.fI)) Q E s :=
  wpAny_Name (wpAny_loadName_local X.kind (X.loc y hl) hn hv k) hd

theorem init_store (X : ExcCls g) (hb : g.base.StaysIn h0) (I : EIn g.C h0 L e dx m mA s.heap) (hm : m (Str.ofString "self") = some (.ref e)) {name : Str} {p1 p2 : Pos} {pe : Expr} {pos : Pos} {v : Value} {ns : List Str} {Q : Flow → Shared → Prop}
    (hn : name ∈ excAttrs) (hw : Within mA ns) (hsz : ns.length ≤ 100) (hs : noComp pe = true)
    (hv : ∀ (Q : Value → Shared → Prop), (∀ h' tk, EIn g.C h0 L e dx m mA h' → Q v { s with heap := h', toks := tk }) → wpAny g.M A (eval pe (callEnv X.fd L X.fI)) Q E s)
    (k : ∀ h' tk, EIn g.C h0 L e dx m (fun y => if y = name then some v else mA y) h' → Q .next { s with heap := h', toks := tk }) :
    wpAny g.M A (PySem.exec (.Assign [.Attribute (.Name (Str.ofString "self") p1) name p2] pe pos) (callEnv X.fd L X.fI)) Q E s := by
  refine plainObj_wpAny_Assign_Attribute (hv _ fun h' tk I' => ?_) (swaps_of hs _ _ _)
  refine init_name X (by simp) I'.ns hm ?_
  exact store_step X hb I' hn hw hsz fun h'' tk' I'' => k h'' tk' I''
end

section
variable {g : Gd} {A : Around} {E : Value → Shared → Prop} {s : Shared}

theorem methodCall_line {M : Model} {env : Env} {o : Expr} {name : Str} {apos pos : Pos} {args : List Expr} {Q : Value → Shared → Prop} (hbase : attributeBase o name env (eval o env) = eval o env)
    (hform : methodCallForm (args.length + ([] : List Keyword).length) (backTo pos (starEach args env)) (backToKw pos (keywordEach [] env)) = true) (hline : (apos.endLine == pos.line) = true)
    (h : wpAny M A (eval o env) (fun ov s₁ => wpAny M A (getMethod ov name (do return (← importBound o env).getD true)) (fun fx s₂ => wpAny M A (callWith pos fx.1 fx.2 (backTo pos (starEach args env)) (backToKw pos (keywordEach [] env))) Q E s₂) E s₁) E s) :
    wpAny M A (eval (.Call (.Attribute o name apos) args [] pos) env) Q E s := by
  rw [arm_eval_Call, hbase]
  refine wpAny_bind (wpAny_mono h (fun ov s₁ h₁ => ?_) fun _ _ e => e)
  refine wpAny_bind (wpAny_standAt ?_)
  have hpos : methodCallPos true o env apos pos = pure pos := by unfold methodCallPos; simp [hline]
  unfold methodCall
  rw [hform]
  refine wpAny_bind (wpAny_holding (wpAny_mono h₁ (fun fx s₂ h₂ => ?_) fun _ _ e => e))
  exact wpAny_bind (wpAny_of_eq hpos h₂)

theorem ne_code_value : ¬ (Str.ofString "code" = Str.ofString "value") := by decide +kernel
theorem ne_code_errorcode : ¬ (Str.ofString "code" = Str.ofString "errorcode") := by decide +kernel
theorem ne_code_level : ¬ (Str.ofString "code" = Str.ofString "level") := by decide +kernel
theorem ne_code_ret : ¬ (Str.ofString "code" = Str.ofString "ret") := by decide +kernel
theorem ne_code_info : ¬ (Str.ofString "code" = Str.ofString "info") := by decide +kernel
theorem ne_code_is_noted : ¬ (Str.ofString "code" = Str.ofString "is_noted") := by decide +kernel
theorem ne_code_line : ¬ (Str.ofString "code" = Str.ofString "line") := by decide +kernel
theorem ne_code_extra : ¬ (Str.ofString "code" = Str.ofString "extra") := by decide +kernel
theorem ne_value_errorcode : ¬ (Str.ofString "value" = Str.ofString "errorcode") := by decide +kernel
theorem ne_value_level : ¬ (Str.ofString "value" = Str.ofString "level") := by decide +kernel
theorem ne_value_ret : ¬ (Str.ofString "value" = Str.ofString "ret") := by decide +kernel
theorem ne_value_info : ¬ (Str.ofString "value" = Str.ofString "info") := by decide +kernel
theorem ne_value_is_noted : ¬ (Str.ofString "value" = Str.ofString "is_noted") := by decide +kernel
theorem ne_value_line : ¬ (Str.ofString "value" = Str.ofString "line") := by decide +kernel
theorem ne_value_extra : ¬ (Str.ofString "value" = Str.ofString "extra") := by decide +kernel
theorem ne_errorcode_level : ¬ (Str.ofString "errorcode" = Str.ofString "level") := by decide +kernel
theorem ne_errorcode_ret : ¬ (Str.ofString "errorcode" = Str.ofString "ret") := by decide +kernel
theorem ne_errorcode_info : ¬ (Str.ofString "errorcode" = Str.ofString "info") := by decide +kernel
theorem ne_errorcode_is_noted : ¬ (Str.ofString "errorcode" = Str.ofString "is_noted") := by decide +kernel
theorem ne_errorcode_line : ¬ (Str.ofString "errorcode" = Str.ofString "line") := by decide +kernel
theorem ne_errorcode_extra : ¬ (Str.ofString "errorcode" = Str.ofString "extra") := by decide +kernel

/-- what the new object holds in the end -/
structure EDone (C : Addr) (h0 : Heap) (e : Addr) (c x ec : Value) (h : Heap) : Prop where
  keep : ∀ b o, h0.get? b = some o → h.get? b = some o
  newE : h0.get? e = none
  rep : ∃ dx fs sl mA, h.get? e = some { cls := .ref C, dict := some dx, data := .fields fs, slots := sl } ∧ fs.size = 6 ∧ fs[1]? = some .none ∧ h.Ns dx mA ∧ mA (Str.ofString "code") = some c ∧ mA (Str.ofString "value") = some x ∧ mA (Str.ofString "errorcode") = some ec

set_option maxHeartbeats 2000000 in
theorem init_body (X : ExcCls g) {h0 : Heap} {L e : Addr} {c x ec l r : Value} {t0 : Addr} {Q : Flow → Shared → Prop} (hb : g.base.StaysIn h0) (hmb : g.base.Ns builtinsNs g.mb)
    (keep : ∀ b o, h0.get? b = some o → s.heap.get? b = some o) (hns : s.heap.Ns L (initMap e c x ec l r)) (hL : h0.get? L = none) (hLe : e ≠ L) (hlt : e < L) (newE : h0.get? e = none) (hLs : L < s.heap.objs.size)
    (he : s.heap.get? e = some { cls := .ref g.C, data := .fields #[.ref t0, .none, .none, .none, .bool false, .none] })
    (k : ∀ h' tk, EDone g.C h0 e c x ec h' → Q .next { s with heap := h', toks := tk }) :
    wpAny g.M A (PySem.execs X.body (callEnv X.fd L X.fI)) Q E s := by
  have hst : ∀ {h : Heap}, (∀ b o, h0.get? b = some o → h.get? b = some o) → g.base.StaysIn h := fun kk b o eb => kk _ _ (hb b o eb)
  have hC := hst keep _ _ X.hC
  obtain ⟨hp, gn, dr, tk, os⟩ := s
  generalize hB : X.body = B
  have ht := X.text
  rw [hB] at ht
  cases ht
  rename_i hl
  -- Exception.__init__(self, value)
  refine wpAny_execs_cons (wpAny_Expr_any ?_ (by unfold interactive; rw [show (callEnv X.fd L X.fI).scope.kind = .function from X.kind]; rfl) rfl)
  refine methodCall_line rfl rfl hl ?_
  refine Name_function_global X.kind (show X.fd.scope.names.lookup _ = _ from X.exc) ?_ (by decide +kernel)
  refine loadGlobal_builtin (show hp.Ns X.fd.globals g.mg from X.glob ▸ g.hg.keeps (hst keep)) X.free (show hp.Ns X.fd.builtins g.mb from X.bi ▸ g.hb.keeps (hst keep)) ((g.hbi _ exc_main).trans exc_boot) ?_
  refine PySem.W.method_type (K := []) (h₀ := { objs := #[] }) (L := L) (m := initMap e c x ec l r) ⟨hns, fun b o eb => (by simp [Heap.get?] at eb), Nat.zero_le _⟩ (by intro a o q; cases q) exc_type exc_stub fc_init (by decide +kernel) ?_
  refine callWith_builtin rfl (evalArgs_plain (spliced_cons (init_name X (by simp) hns im_self (spliced_cons (init_name X (by simp) hns im_value (spliced_nil ?_))))))
  refine exc_base_init PySem.F.excBase_Exception hC he rfl rfl rfl (by rw [sizeLine_eq]; simp) ?_
  dsimp only
  have hee : hp.objs.size ≠ e := Nat.ne_of_gt (Heap.lt_size he)
  have he₁ := Heap.get?_push_of_some (h := hp) { cls := .type "tuple", data := .seq [x].toArray } he
  have hsz : ((hp.push { cls := .type "tuple", data := .seq [x].toArray }).update e (Obj.mapFields (·.setIfInBounds 0 (.ref hp.objs.size)))).objs.size = hp.objs.size + 1 := by rw [(Heap.SameBut.update (hp.push { cls := .type "tuple", data := .seq [x].toArray }) e (Obj.mapFields (·.setIfInBounds 0 (.ref hp.objs.size)))).1, Heap.size_push]
  have hE := (updF_get he₁ rfl (·.setIfInBounds 0 (.ref hp.objs.size))).1
  have kH : ∀ b o, b ≠ e → hp.get? b = some o → ((hp.push { cls := .type "tuple", data := .seq [x].toArray }).update e (Obj.mapFields (·.setIfInBounds 0 (.ref hp.objs.size)))).get? b = some o := fun b o hb eb =>
    (Heap.get?_update_other _ _ (Ne.symm hb)).trans (Heap.get?_push_of_some _ eb)
  generalize ((hp.push { cls := .type "tuple", data := .seq [x].toArray }).update e (Obj.mapFields (·.setIfInBounds 0 (.ref hp.objs.size)))) = H at hE kH hsz ⊢
  have keepH : ∀ b o, h0.get? b = some o → H.get? b = some o := fun b o eb => kH b o (fun q => by subst q; rw [newE] at eb; cases eb) (keep b o eb)
  have nsH : H.Ns L (initMap e c x ec l r) := by
    obtain ⟨o, es, ep, eb, rr⟩ := hns
    exact ⟨o, es, ep, kH _ _ (Ne.symm hLe) eb, rr⟩
  -- self.code = code
  refine wpAny_execs_cons (plainObj_wpAny_Assign_Attribute (init_name X (by simp) nsH im_code (init_name X (by simp) nsH im_self ?_)) (swaps_of rfl _ _ _))
  refine exc_first PySem.F.store_Exception rfl (hst keepH _ _ X.hC) (X.hN.keeps (hst keepH)) X.noSet (X.quiet _ (by simp [excAttrs])) (excAttrs_free _ (by simp [excAttrs])) hE fun h₁ tk₁ ⟨f1, f2, f3⟩ => ?_
  have I₁ : EIn g.C h0 L e H.objs.size (initMap e c x ec l r) (fun y => if y = Str.ofString "code" then some c else none) h₁ := by
    refine ⟨fun b o eb => f3 b o (fun q => by subst q; rw [newE] at eb; cases eb) (keepH b o eb), ?_, ⟨_, _, f1, by simp, by simp⟩, f2, newE, ?_, Ne.symm (Ne.symm hLe), ?_, ?_⟩
    · obtain ⟨o, es, ep, eb, rr⟩ := nsH
      exact ⟨o, es, ep, f3 _ _ (Ne.symm hLe) eb, rr⟩
    · cases q : h0.get? H.objs.size with
      | none => rfl
      | some o => exact absurd (Heap.lt_size (keepH _ _ q)) (Nat.lt_irrefl _)
    · exact fun q => Nat.lt_asymm (show hp.objs.size + 1 < hp.objs.size from (hsz.symm.trans q) ▸ hLs) (Nat.lt_succ_self _)
    · exact fun q => Nat.lt_asymm (show hp.objs.size + 1 < hp.objs.size from (hsz.symm.trans q) ▸ Heap.lt_size he) (Nat.lt_succ_self _)
  have w0 : Within (fun _ => none) [] := Within.nil
  have w1 := w0.cons (Str.ofString "code") c
  -- the rest
  refine wpAny_execs_cons (init_store X hb I₁ im_self (by simp [excAttrs]) w1 (by simp) rfl (fun Q k => init_name X (by simp) I₁.ns im_value (k _ _ I₁)) fun h₂ tk₂ I₂ => ?_)
  have w2 := w1.cons (Str.ofString "value") x
  refine wpAny_execs_cons (init_store X hb I₂ im_self (by simp [excAttrs]) w2 (by simp) rfl (fun Q k => init_name X (by simp) I₂.ns im_errorcode (k _ _ I₂)) fun h₃ tk₃ I₃ => ?_)
  have w3 := w2.cons (Str.ofString "errorcode") ec
  refine wpAny_execs_cons (init_store X hb I₃ im_self (by simp [excAttrs]) w3 (by simp) rfl (fun Q k => init_name X (by simp) I₃.ns im_level (k _ _ I₃)) fun h₄ tk₄ I₄ => ?_)
  have w4 := w3.cons (Str.ofString "level") l
  refine wpAny_execs_cons (init_store X hb I₄ im_self (by simp [excAttrs]) w4 (by simp) rfl (fun Q k => init_name X (by simp) I₄.ns im_ret (k _ _ I₄)) fun h₅ tk₅ I₅ => ?_)
  have w5 := w4.cons (Str.ofString "ret") r
  refine wpAny_execs_cons (init_store X hb I₅ im_self (by simp [excAttrs]) w5 (by simp) rfl (fun Q k => Constant_str (k _ _ I₅)) fun h₆ tk₆ I₆ => ?_)
  have w6 := w5.cons (Str.ofString "info") (.str (Str.ofString "") tk₅)
  refine wpAny_execs_cons (init_store X hb I₆ im_self (by simp [excAttrs]) w6 (by simp) rfl (fun Q k => wpAny_Constant_bool (k _ _ I₆)) fun h₇ tk₇ I₇ => ?_)
  have w7 := w6.cons (Str.ofString "is_noted") (.bool false)
  refine wpAny_execs_cons (init_store X hb I₇ im_self (by simp [excAttrs]) w7 (by simp) rfl (fun Q k => wpAny_Constant_int (k _ _ I₇)) fun h₈ tk₈ I₈ => ?_)
  have w8 := w7.cons (Str.ofString "line") (.int 0 tk₇)
  refine wpAny_execs_cons (init_store X hb I₈ im_self (by simp [excAttrs]) w8 (by simp) rfl (fun Q k => List_ (spliced_nil (wpAny_newList (k _ _ (I₈.push _)) (by simp)))) fun h₉ tk₉ I₉ => ?_)
  refine wpAny_execs_nil (k _ _ ?_)
  obtain ⟨fs, sl, e1, e2, e3⟩ := I₉.obj
  refine ⟨I₉.keep, newE, _, fs, sl, _, e1, e2, e3, I₉.dict.ns, ?_, ?_, ?_⟩
  · simp only [ne_code_value, ne_code_errorcode, ne_code_level, ne_code_ret, ne_code_info, ne_code_is_noted, ne_code_line, ne_code_extra, if_false, if_true]
  · simp only [ne_value_errorcode, ne_value_level, ne_value_ret, ne_value_info, ne_value_is_noted, ne_value_line, ne_value_extra, if_false, if_true]
  · simp only [ne_errorcode_level, ne_errorcode_ret, ne_errorcode_info, ne_errorcode_is_noted, ne_errorcode_line, ne_errorcode_extra, if_false, if_true]
end
end Mine
end
section
set_option maxRecDepth 100000
open PySem PySem.Calls PyProof.Rows PySem.SeqAt
namespace Mine
set_option linter.unusedVariables false

section
variable {M : Model} {A : Around} {E : Value → Shared → Prop} {s : Shared}
variable {nm q : Str} {C N : Addr} {bs bm : List Value} {hdct : Bool} {sn : List Str} {sub : List Value} {ab : Bool} {col : Option Bool} {dd : Option Addr} {k0 k1 k2 k3 k5 : Option Value} {newId : String}

noncomputable def IsExcC (h : Heap) (C : Addr) : Prop := ∃ nm q N bs bm hdct sn sub ab col dd k0 k1 k2 k3 k5 newId, h.get? C = some (excClassObj nm q C N bs bm hdct sn sub ab col dd k0 k1 k2 k3 k5 newId)

theorem callWith_cls {pos : Pos} {ts : List (Bool × Sem Value)} {Q : Value → Shared → Prop} (hplain : ts.any (·.1) = false)
    (h : wpAny M A (evalArgs (.ref C) true ts []) (fun a s₁ => IsExcC s₁.heap C ∧ wpAny M A (call (.ref C) ([] ++ a.pos) a.kw) Q E s₁) E s) :
    wpAny M A (callWith pos (.ref C) [] ts []) Q E s := by
  unfold callWith
  refine wpAny_bind (wpAny_holding (wpAny_mono h (fun a s₁ h₁ => wpAny_bind (wpAny_standAt ?_)) fun _ _ x => x))
  obtain ⟨⟨nm, q, N, bs, bm, hdct, sn, sub, ab, col, dd, k0, k1, k2, k3, k5, newId, hC⟩, h₁⟩ := h₁
  obtain ⟨hp, gn, dr, tk, os⟩ := s₁
  simp only [hplain]
  refine wpAny_bind (wpAny_keeperOf_exc hC ?_)
  exact wpAny_bind (wpAny_mono h₁ (fun v s₂ h₂ => wpAny_bind (wpAny_holding (wpAny_point (wpAny_pure h₂)))) fun _ _ x => x)
end

section
variable {g : Gd} {fx : Fx g} {ρ : Rho}

theorem made_ok (X : ExcCls g) {A : Around} {E : Value → Shared → Prop} {s : Shared} {c x ec : Value} {Q : Value → Shared → Prop} (hd : A.depth ≤ 900) (hst : g.base.StaysIn s.heap)
    (k : ∀ e h' tk, EDone g.C s.heap e c x ec h' → Q (.ref e) { s with heap := h', toks := tk }) : wpAny g.M A (call (.ref g.C) [c, x, ec]) Q E s := by
  obtain ⟨hp, gn, dr, tk, os⟩ := s
  refine wpAny_call_exc_init PySem.F.excBase_Exception (hst _ _ X.hC) (X.hN.keeps hst) X.init (hst _ _ X.hfI) X.hfc (fun h' e hm => ?_) (by rw [sizeLine_eq]; simp)
  have hst' : g.base.StaysIn h' := fun b o eb => hm.keeps _ _ (hst b o eb)
  obtain ⟨l, r, hbind⟩ := X.binds ⟨h', gn, dr, tk, os⟩ hst' (.ref e) c x ec
  obtain ⟨t0, he, _, _⟩ := hm.there
  refine wpAny_call (codeAny_call_def (s := ⟨h', gn, dr, tk, os⟩) (fd := X.fd) (body := X.body) (binds := _) ?_ (hst' _ _ X.hfI) X.hfd (g.nolimit.keeps hst') (X.code.keeps hst') X.hbody hbind X.cell ?_ (fun h₀ hns hk => ?_) X.coro X.gen X.kind)
  · rw [PySem.W.depth_under_kw]
    exact Nat.lt_of_le_of_lt (Nat.succ_le_succ hd) (by decide)
  · intro y hy
    refine X.loc _ ?_
    simp only [List.mem_cons, List.not_mem_nil, or_false] at hy ⊢
    rcases hy with rfl | rfl | rfl | rfl | rfl | rfl <;> simp
  · have heL : e < h'.objs.size := Heap.lt_size he
    refine init_body X (h0 := hp) (c := c) (x := x) (ec := ec) (l := l) (r := r) (t0 := t0) hst g.hb (fun b o eb => hk _ _ (hm.keeps _ _ eb)) hns ?_ (Nat.ne_of_lt heL) heL hm.new ?_ (hk _ _ he) fun h'' tk' D => ⟨rfl, k e h'' tk' D⟩
    · cases q : hp.get? h'.objs.size with
      | none => rfl
      | some o => exact absurd (Heap.lt_size (hm.keeps _ _ q)) (Nat.lt_irrefl _)
    · exact hns.lt

theorem sim_mkExc (X : ExcCls g) {x : Str} {np pos : Pos} {pes : List Expr} {rl : R (List V)} (hx : g.mg x = some (.ref g.C)) (hd : (x == ("__debug__" : Str)) = false) (hk : fx.env.kindOf x = some .globalImplicit)
    (hts : backTo pos (starEach pes fx.env) = [] ∨ ∃ t r, backTo pos (starEach pes fx.env) = (false, t) :: r) (hpl : (backTo pos (starEach pes fx.env)).any (·.1) = false)
    (h : SimL fx (spliced (backTo pos (starEach pes fx.env))) ρ rl) :
    SimE fx (.Call (.Name x np) pes [] pos) ρ (R.bind rl fun vs => match vs with
      | [x, y, z] => if noList x && noList y && noList z then some (.ok (.exc x y z)) else none
      | _ => none) := by
  intro hr s hE S
  refine wpAny_Call_NameR (eval_global S hk hx hd (callWith_cls hpl (simL_args hts h (bind_ne_none hr) S (fun vs us s₁ e st ra S₁ => ?_) fun a ev s₁ e st ex => ⟨a, ev, rfl, bind_err e, st, ex⟩)))
  rw [bind_ok e] at hr ⊢
  refine ⟨⟨_, _, _, _, _, _, _, _, _, _, _, _, _, _, _, _, _, S₁.stk.stays _ _ X.hC⟩, ?_⟩
  split at hr <;> first | exact absurd rfl hr | skip
  rename_i c y z
  split at hr <;> first | exact absurd rfl hr | skip
  rename_i hc
  simp only [Bool.and_eq_true] at hc
  obtain ⟨c', us1, rfl, rc, ra⟩ := ra
  obtain ⟨y', us2, rfl, ry, ra⟩ := ra
  obtain ⟨z', us3, rfl, rz, ra⟩ := ra
  cases ra
  refine made_ok X (Nat.le_trans (Nat.le_add_right _ _) fx.depth) S₁.stk.stays fun e₀ h' tk D => ?_
  have xk : Ext fx.F s₁.heap h' := .of_keeps D.keep
  obtain ⟨dx, fs, sl, mA, e1, e2, e3, e4, e5, e6, e7⟩ := D.rep
  refine okE_of (v := .exc c y z) (by rw [if_pos (by simp [hc])]) (st.trans ⟨xk, rfl, rfl, rfl⟩) ⟨e₀, rfl, ⟨⟨_, dx, fs, mA, c', y', z', e1, rfl, rfl, rfl, e4, e5, e6, e7, (rc.toI hc.1.1).tups (xk.weak.tups S₁.stk.ns), (ry.toI hc.1.2).tups (xk.weak.tups S₁.stk.ns), (rz.toI hc.2).tups (xk.weak.tups S₁.stk.ns)⟩, st.ext.fresh D.newE, ⟨_, fs, e1, rfl, by rw [e2]; decide, .inl ⟨rfl, e3⟩⟩⟩⟩
end
end Mine
end
section
set_option maxRecDepth 100000
open PySem PySem.Calls PyProof.Rows PySem.SeqAt
namespace Mine
set_option linter.unusedVariables false

section
variable {M : Model} {A : Around} {E : Value → Shared → Prop} {env : Env}
variable {nm q : Str} {C N : Addr} {bs bm : List Value} {hdct : Bool} {sn : List Str} {sub : List Value} {ab : Bool} {col : Option Bool} {dd : Option Addr} {k0 k1 k2 k3 k5 : Option Value} {newId : String}

theorem raise_inst {s : Shared} {x : Sem Value} {Q : Flow → Shared → Prop} (hbase : bm.contains (.type "BaseException") = true) (hh : A.handled = none)
    (h : wpAny M A x (fun v s₁ => ∃ e o, v = .ref e ∧ s₁.heap.get? C = some (excClassObj nm q C N bs bm hdct sn sub ab col dd k0 k1 k2 k3 k5 newId) ∧
      s₁.heap.get? e = some o ∧ o.cls = .ref C ∧ (∃ fs, o.data = .fields fs) ∧ wpAny M A (setFlight (.ref e) none) (fun _ s₂ => E (.ref e) s₂) E s₁) E s) :
    wpAny M A (raiseStmt env (some x) none) Q E s := by
  have hcB : (Value.ref C :: bm).contains (.type "BaseException") = true := by rw [List.contains_cons, hbase, Bool.or_true]
  unfold raiseStmt
  refine wpAny_bind (wpAny_mono h (fun v s₁ h₁ => ?_) fun _ _ x => x)
  obtain ⟨e, ⟨oc, od, odt, osl⟩, rfl, hC, he, hc, ⟨fs, hfs⟩, hE⟩ := h₁
  dsimp only at hc hfs
  subst hc hfs
  obtain ⟨hp, g, d, tk, os⟩ := s₁
  repeat (first | with_reducible exact wpAny_bind (wpAny_mono hE (fun _ s₂ h₂ => wpAny_raiseNew_none hh h₂) fun _ _ x => x) | with_reducible refine wpAny_loadPart_at he ?_ | with_reducible refine wpAny_loadPart_at hC ?_ | (with_reducible refine wpAny_isSubtype_exc hC ?_; rw [hcB]) | wp_step)
end

section
variable {g : Gd} {fx : Fx g} {ρ : Rho}

theorem mro_base : excMro.contains (.type "BaseException") = true := by decide +kernel

theorem sim1_raise (X : ExcCls g) {pe : Expr} {pos : Pos} {r : R V} (h : SimE fx pe ρ r) :
    Sim1 fx (.Raise (some pe) none pos) ρ (onE ρ r fun v => match v with
      | .exc .. => some (.exc v ρ)
      | _ => none) := by
  intro hr s hE S
  rw [arm_exec_Raise]
  refine wpAny_bind (wpAny_standAt ?_)
  show wpAny g.M fx.A (raiseStmt fx.env (some (do let v ← eval pe fx.env; standAt pos; pure v)) none) _ _ _
  obtain ⟨rr, hrr⟩ : ∃ rr, rr = onE ρ r fun v => match v with
      | .exc .. => some (.exc v ρ)
      | _ => none := ⟨_, rfl⟩
  rw [← hrr]
  refine raise_inst (C := g.C) (nm := X.nm) (q := X.q) (N := X.N) (bs := X.bs) (bm := excMro) (hdct := true) (sn := X.sn) (sub := X.sub) (ab := X.ab) (col := X.col) (dd := X.dd) (k0 := X.k0) (k1 := X.k1) (k2 := X.k2) (k3 := X.k3) (k5 := X.k5) (newId := "Exception.__new__") mro_base fx.hh (wpAny_bind (wpAny_mono (h.use (onE_ne hr) S (fun v u s₁ e st ro S₁ => ?_) fun a ev s₁ e st ex => errS_of S (hrr.trans (onE_errr e)) st ex) (fun v s₁ h₁ => wpAny_bind (wpAny_standAt (wpAny_pure h₁))) fun _ _ x => x))
  rw [onE_okk e] at hr hrr
  cases v <;> first | exact absurd rfl hr | skip
  rename_i c x ec
  obtain ⟨a, rfl, ex⟩ := ro
  obtain ⟨oe, dx, fs, m, c', x', ec', e1, e2, e3, e4, _⟩ := id ex.rep
  refine ⟨a, oe, rfl, S₁.stk.stays _ _ X.hC, e1, e2, ⟨fs, e4⟩, ?_⟩
  refine setFlight_ok S₁.stk.ns (S₁.extE fx.O) (ex.mono (S.extE fx.O)) fun h' w x X' => ?_
  exact ⟨a, .exc _ _ _, ρ, rfl, hrr, S₁.extW fx.O w x, st.same.trans ⟨rfl, rfl, rfl⟩, X'⟩
end
end Mine
end
section
set_option maxRecDepth 100000
open PySem PySem.Calls PyProof.Rows PySem.SeqAt
set_option genInjectivity false
set_option genSizeOf false
namespace Mine
set_option linter.unusedVariables false

/-- what a handler returns of the fault -/
inductive ToldE (n : Str) : Expr → Prop
  | mk {k1 k2 : Nat} {p1 p2 p3 p4 p5 p6 p7 p8 : Pos} : ToldE n (.Tuple [.Constant (.str (Str.ofString "fault")) k1 p1, .Attribute (.Name n p2) (Str.ofString "code") p3, .Attribute (.Name n p4) (Str.ofString "value") p5,
      .Attribute (.Name n p6) (Str.ofString "errorcode") p7] k2 p8)

/-- but for the frame, all goes on -/
structure Lx (L : Addr) (h h' : Heap) : Prop where
  keep : ∀ b o, b ≠ L → h.get? b = some o → h'.get? b = some o
  ns : ∃ m, h'.Ns L m

section
variable {base hE h h' : Heap} {env : Env} {outer : List Env} {names : List Str} {ρ : Rho} {L : Addr}

theorem FSt.low (S : FSt base env outer names hE h ρ) (x : Lx env.locals h h') : Stk base (env :: outer) h' ∧ Ext (fr outer) hE h' ∧ Tups h h' := by
  obtain ⟨m, cm, val, V⟩ := S.vars
  obtain ⟨oL, esL, epL, eL, hdL, _⟩ := V.ns
  have hF : FrNs (fr (env :: outer)) h' := fun c hc => by
    by_cases q : c = env.locals
    · subst q
      obtain ⟨m', o, es, ep, e, hd, _⟩ := x.ns
      exact ⟨o, es, ep, e, hd⟩
    · obtain ⟨o, es, ep, e, hd⟩ := S.stk.ns c hc
      exact ⟨o, es, ep, x.keep _ _ q e, hd⟩
  refine ⟨⟨fun b o e => x.keep _ _ (fun q => by subst q; have := S.baseE _ _ e; rw [S.newL] at this; cases this) (S.stk.stays b o e), funFrames_of S.stk.frames hF, hF⟩, fun b o e => ?_, fun b its n e => x.keep _ _ (fun q => ?_) e⟩
  · have hb : b ≠ env.locals := fun q => by subst q; rw [S.newL] at e; cases e
    obtain ⟨⟨sl, e1⟩, k1⟩ := S.ext b o e
    exact ⟨⟨sl, x.keep _ _ hb e1⟩, fun q => x.keep _ _ hb (k1 q)⟩
  · subst q; rw [IsT, eL] at e; cases e; cases hdL
end

section
variable {g : Gd} {A : Around} {E : Value → Shared → Prop} {env : Env}

theorem handed_rep {h : Heap} {v : V} {u : Value} (r : RepI h v u) : handedOut u = pure u := by
  cases v <;> unfold RepI at r
  · subst r; rfl
  · subst r; rfl
  · obtain ⟨t, rfl⟩ := r; rfl
  · obtain ⟨t, rfl⟩ := r; rfl
  · obtain ⟨a, i, n, rfl, _⟩ := r; rfl
  all_goals exact r.elim

theorem code_free : typeLookup (.type "Exception") (Str.ofString "code") = pure none := excAttrs_free _ (by simp [excAttrs])
theorem value_free : typeLookup (.type "Exception") (Str.ofString "value") = pure none := excAttrs_free _ (by simp [excAttrs])
theorem errorcode_free : typeLookup (.type "Exception") (Str.ofString "errorcode") = pure none := excAttrs_free _ (by simp [excAttrs])

theorem fault_attr (X : ExcCls g) {n : Str} {np pos : Pos} {name : Str} {s : Shared} {m mD : Str → Option Value} {e dx : Addr} {oe : Obj} {fs : Array Value} {v : Value} {Q : Value → Shared → Prop} (hst : g.base.StaysIn s.heap)
    (hk : env.scope.kind = .function) (hl : env.kindOf n = some .local) (hd : (n == ("__debug__" : Str)) = false) (hns : s.heap.Ns env.locals m) (hm : m n = some (.ref e)) (hn : name ∈ excAttrs)
    (he : s.heap.get? e = some oe) (hc : oe.cls = .ref g.C) (hdx : oe.dict = some dx) (hfs : oe.data = .fields fs) (hD : s.heap.Ns dx mD) (hv : mD name = some v) (hh : handedOut v = pure v)
    (k : ∀ tk, Q v { s with toks := tk }) : wpAny g.M A (eval (.Attribute (.Name n np) name pos) env) Q E s := by
  refine Attribute_name (wpAny_Name (wpAny_loadName_local hk hl hns hm ?_) hd)
  obtain ⟨hp, gn, dr, tk, os⟩ := s
  exact exc_load PySem.F.attrBase_Exception (hst _ _ X.hC) (X.hN.keeps hst) X.noGet X.noHook (X.quiet _ hn) (excAttrs_free _ hn) he hc (fun c q => by rw [hfs] at q; cases q) hdx hD hv hh (k (tk + 1))

theorem told_ok (X : ExcCls g) {n : Str} {te : Expr} (ht : ToldE n te) {s : Shared} {m mD : Str → Option Value} {e dx : Addr} {oe : Obj} {fs : Array Value} {c x ec : V} {c' x' ec' : Value} {Q : Value → Shared → Prop} (hst : g.base.StaysIn s.heap)
    (hk : env.scope.kind = .function) (hl : env.kindOf n = some .local) (hd : (n == ("__debug__" : Str)) = false) (hns : s.heap.Ns env.locals m) (hm : m n = some (.ref e))
    (he : s.heap.get? e = some oe) (hc : oe.cls = .ref g.C) (hdx : oe.dict = some dx) (hfs : oe.data = .fields fs) (hD : s.heap.Ns dx mD)
    (m1 : mD (Str.ofString "code") = some c') (m2 : mD (Str.ofString "value") = some x') (m3 : mD (Str.ofString "errorcode") = some ec') (r1 : RepI s.heap c c') (r2 : RepI s.heap x x') (r3 : RepI s.heap ec ec')
    (k : ∀ t h' tk, (∀ b o, s.heap.get? b = some o → h'.get? b = some o) → RepI h' (toldOf (.exc c x ec)) (.ref t) → Q (.ref t) { s with heap := h', toks := tk }) : wpAny g.M A (eval te env) Q E s := by
  cases ht
  refine Tuple_ ?_
  rw [starEach_cons rfl, backTo_cons, starEach_cons rfl, backTo_cons, starEach_cons rfl, backTo_cons, starEach_cons rfl, backTo_cons]
  refine spliced_cons (Constant_str (spliced_cons (fault_attr X hst hk hl hd hns hm (by simp [excAttrs]) he hc hdx hfs hD m1 (handed_rep r1) fun t1 => ?_)))
  refine spliced_cons (fault_attr X hst hk hl hd hns hm (by simp [excAttrs]) he hc hdx hfs hD m2 (handed_rep r2) fun t2 => ?_)
  refine spliced_cons (fault_attr X hst hk hl hd hns hm (by simp [excAttrs]) he hc hdx hfs hD m3 (handed_rep r3) fun t3 => spliced_nil ?_)
  refine wpAny_newTuple (k _ _ _ (fun b o eb => Heap.get?_push_of_some _ eb) ?_) (by rw [sizeLine_eq]; simp)
  have tp : Tups s.heap (s.heap.push { cls := .type "tuple", data := .seq [Value.str (Str.ofString "fault") s.toks, c', x', ec'].toArray }) := fun b its n e => Heap.get?_push_of_some _ e
  exact ⟨_, _, 0, rfl, IsT.new _ _, RepL.cons ⟨_, rfl⟩ (RepL.cons (r1.tups tp) (RepL.cons (r2.tups tp) (RepL.cons (r3.tups tp) RepL.nil)))⟩

theorem handle_own (X : ExcCls g) {s : Shared} {e : Addr} {t : Expr} {n : Str} {b₀ : Stmt} {suite : List Stmt} {pos : Pos} {rest : List ExceptHandler} {Q : Flow → Shared → Prop}
    (h : ∀ (E₁ E₂ E₃ : Value → Shared → Prop), wpAny g.M (A.mark (some (.ref e))) (eval t env) (fun c s₁ => c = .ref g.C ∧ g.base.StaysIn s₁.heap ∧ (∃ oe, s₁.heap.get? e = some oe ∧ oe.cls = .ref g.C) ∧
      wpAny g.M (A.mark (some (.ref e))) (setFlight (.ref e) none) (fun _ s₂ => wpAny g.M (A.mark (some (.ref e))) (storeName env n (.ref e)) (fun _ s₃ =>
        wpAny g.M (A.mark (some (.ref e))) (PySem.execs (b₀ :: suite) env) (fun f s₄ => wpAny g.M A (do bindName env n .none; unbindBehindTheSuite env n pos) (fun _ s₅ => Q f s₅) E s₄) E₁ s₃) E₂ s₂) E₃ s₁) E₃ s) :
    wpAny g.M A (handleBy (.ref e) env (.ExceptHandler (some t) (some n) (b₀ :: suite) pos :: rest)) Q E s := by
  refine wpAny_handleBy_cons (codeAny_handlers_test (wpAny_mono (h (AsSuiteRaised g.M (A.mark (some (.ref e))) env n pos (notedBy g.M (A.mark (some (.ref e))) env (cameBackBy g.M A env E))) (notedBy g.M (A.mark (some (.ref e))) env (cameBackBy g.M A env E)) (notedBy g.M (A.mark (some (.ref e))) env (cameBackBy g.M A env E))) (fun c s₁ h₁ => ?_) fun _ _ y => y)) (by intro q; cases q)
  obtain ⟨rfl, hst, ⟨oe, he, hcls⟩, hk⟩ := h₁
  obtain ⟨hh, gn, d, tk, os⟩ := s₁
  exact wpAny_excMatches_sub_self (hst _ _ X.hC) he hcls mro_base (codeAny_handlers_suite_as hk)
end
end Mine
end
section
set_option maxRecDepth 100000
open PySem PySem.Calls PyProof.Rows PySem.SeqAt
set_option genInjectivity false
set_option genSizeOf false
namespace Mine
set_option linter.unusedVariables false

section
variable {g : Gd} {fx : Fx g} {ρ : Rho}

inductive HandE (fx : Fx g) (n : Str) : Option Nat → Expr → Prop
  | told {te : Expr} (h : ToldE n te) : HandE fx n none te
  | same {d : Nat} {y : Str} {yp cp : Pos} {te : Expr} (hy : fx.names[d]? = some y) (hd : (y == ("__debug__" : Str)) = false) (hne : y ≠ n) (h : ToldE n te) : HandE fx n (some d) (.Compare (.Name y yp) [.Eq] [te] cp)

theorem sim1_try (X : ExcCls g) {pb : List Stmt} {x n : Str} {he : Expr} {h : Option Nat} {xp rp hp pos : Pos} {rb : Option Out} (hb : SimS fx pb ρ rb) (hx : g.mg x = some (.ref g.C)) (hxd : (x == ("__debug__" : Str)) = false)
    (hxk : fx.env.kindOf x = some .globalImplicit) (hn : fx.env.kindOf n = some .local) (hnd : (n == ("__debug__" : Str)) = false) (hh : HandE fx n h he) (hnc : n ∉ excAttrs) :
    Sim1 fx (.Try pb [.ExceptHandler (some (.Name x xp)) (some n) [.Return (some he) rp] hp] [] [] pos) ρ (tryOut h rb) := by
  intro hr s hE S
  obtain ⟨rr, hrr⟩ : ∃ rr, rr = tryOut h rb := ⟨_, rfl⟩
  rw [← hrr] at hr ⊢
  have hb0 : rb ≠ none := by intro q; subst q; exact hr hrr
  have hp' : (fx.env.scope.kind == .class || (fx.env.scope.kind == .module && fx.env.locals != fx.env.globals)) = false := by rw [fx.O.kind]; rfl
  refine wpAny_Try_except (wpAny_mono (hb hb0 s hE S) (fun f s₁ o => ?_) fun y s₁ o => ?_)
  · cases f with
    | next => obtain ⟨ρ', e, S₁, sm⟩ := o; subst e; exact wpAny_execs_nil ⟨ρ', hrr, S₁, sm⟩
    | cont => obtain ⟨ρ', e, S₁, sm⟩ := o; subst e; exact ⟨ρ', hrr, S₁, sm⟩
    | brk => exact o
    | ret u => obtain ⟨v, e, k⟩ := o; subst e; exact ⟨v, hrr, k⟩
  obtain ⟨a, ev, ρ', rfl, e, S₁, sm, ex⟩ := o
  subst e
  unfold tryOut at hrr
  dsimp only at hrr
  refine noteFrame_ok fx.hA fx.O.frame S₁.stk (S₁.extE fx.O) (fun b o e => ⟨o, S₁.baseE b o e⟩) ex fun h₁ w₁ x₁ X₁ => ?_
  have S₂ : fx.St hE h₁ ρ' := S₁.extW fx.O w₁ x₁
  refine setFlight_ok S₂.stk.ns (S₂.extE fx.O) X₁ fun h₂ w₂ x₂ X₂ => ?_
  have S₃ : fx.St hE h₂ ρ' := S₂.extW fx.O w₂ x₂
  refine handle_own X fun E₁ E₂ E₃ => ?_
  refine Name_function_global fx.O.kind hxk (loadGlobal_global (by show h₂.Ns fx.env.globals _; rw [fx.O.glob]; exact glob_ns S₃.stk.stays) hx ?_) hxd
  obtain ⟨oe', dx', fs', mD', c1, x1, ec1, q1, q2, _⟩ : ∃ (oe : Obj) (dx : Addr) (fs : Array Value) (mD : Str → Option Value) (c1 x1 ec1 : Value), h₂.get? a = some oe ∧ oe.cls = .ref g.C ∧ True := by
    have := X₂.rep
    cases ev <;> first | exact this.elim | skip
    obtain ⟨oe, dx, fs, m, c', x', ec', e1, e2, _⟩ := this
    exact ⟨oe, dx, fs, m, c', x', ec', e1, e2, trivial⟩
  refine ⟨rfl, S₃.stk.stays, ⟨oe', q1, q2⟩, ?_⟩
  refine setFlight_ok S₃.stk.ns (S₃.extE fx.O) X₂ fun h₃ w₃ x₃ X₃ => ?_
  have S₄ : fx.St hE h₃ ρ' := S₃.extW fx.O w₃ x₃
  obtain ⟨m, cm, val, V⟩ := S₄.vars
  have hrep := X₃.rep
  cases ev <;> first | exact hrep.elim | skip
  rename_i c x ec
  obtain ⟨oe, dx, fs, mD, c', x', ec', e1, e2, e3, e4, e5, m1, m2, m3, r1, r2, r3⟩ := hrep
  have haL : a ≠ fx.env.locals := fun q => by
    subst q; obtain ⟨o, es, ep, eL, hdL, _⟩ := V.ns; rw [e1] at eL; cases eL; rw [e4] at hdL; cases hdL
  refine wpAny_storeName_local hn V.ns (fun h₄ hn₄ hs₄ => ?_) hp'
  have tp₄ : Tups h₃ h₄ := fun b its k q => (hs₄.2 b fun z => by subst z; obtain ⟨o, es, ep, eL, hdL, _⟩ := V.ns; rw [IsT, eL] at q; cases q; cases hdL).trans q
  have st₄ : g.base.StaysIn h₄ := fun b o q => (hs₄.2 b fun z => by subst z; have := S₄.baseE _ _ q; rw [S₄.newL] at this; cases this).trans (S₄.stk.stays b o q)
  obtain ⟨mD₄, hD₄, n1, n2, n3⟩ : ∃ mD₄, h₄.Ns dx mD₄ ∧ mD₄ (Str.ofString "code") = some c' ∧ mD₄ (Str.ofString "value") = some x' ∧ mD₄ (Str.ofString "errorcode") = some ec' := by
    by_cases q : dx = fx.env.locals
    · subst q
      have same : ∀ y, mD y = m y := fun y => by
        obtain ⟨o, es, ep, ea, hd, _, hm⟩ := V.ns
        obtain ⟨o', es', ep', ea', hd', _, hm'⟩ := e5
        rw [ea] at ea'; cases ea'; rw [hd] at hd'; cases hd'
        rw [← hm, ← hm']
      have ne : ∀ z ∈ excAttrs, z ≠ n := fun z hz q => hnc (q ▸ hz)
      refine ⟨_, hn₄, ?_, ?_, ?_⟩
      · rw [if_neg (ne _ (by simp [excAttrs])), ← same]; exact m1
      · rw [if_neg (ne _ (by simp [excAttrs])), ← same]; exact m2
      · rw [if_neg (ne _ (by simp [excAttrs])), ← same]; exact m3
    · obtain ⟨o, es, ep, ea, r⟩ := e5
      exact ⟨mD, ⟨o, es, ep, (hs₄.2 _ q).trans ea, r⟩, m1, m2, m3⟩
  have ea₄ : h₄.get? a = some oe := (hs₄.2 a haL).trans e1
  -- the end
  have fin : ∀ (v : Mine.V) (u : Value) (h₅ : Heap) (tk : Nat), (∀ b o, h₄.get? b = some o → h₅.get? b = some o) → RepI h₅ v u → rr = some (.ret v) → (∀ us, v ≠ .lst true us) →
      wpAny g.M fx.A (do bindName fx.env n .none; unbindBehindTheSuite fx.env n hp) (fun _ s₅ => OkS fx hE rr s (.ret u) s₅) (ErrS fx hE rr s) { s₁ with heap := h₅, toks := tk } := fun v u h₅ tk keep rep er hnl => by
    have hn₅ : h₅.Ns fx.env.locals _ := hn₄.keeps keep
    refine wpAny_nameGoes hn hn₅ hp' fun h₆ m₆ hn₆ hs₆ => ?_
    have lx : Lx fx.env.locals h₃ h₆ := ⟨fun b o hb eb => (hs₆.2 b hb).trans (keep _ _ ((hs₄.2 b hb).trans eb)), ⟨m₆, hn₆⟩⟩
    obtain ⟨k1, k2, k3⟩ := S₄.low lx
    have tp₆ : Tups h₅ h₆ := fun b its k q => (hs₆.2 b fun z => by subst z; obtain ⟨o, es, ep, eL, hdL, _⟩ := hn₅; rw [IsT, eL] at q; cases q; cases hdL).trans q
    exact ⟨v, er, k1, k2, sm.trans ⟨rfl, rfl, rfl⟩, ResOk.of (rep.tups tp₆).rep hnl⟩
  refine wpAny_execs_cons (wpAny_Return_some ?_)
  cases hh with
  | told ht =>
    refine told_ok X ht st₄ fx.O.kind hn hnd hn₄ (by simp) ea₄ e2 e3 e4 hD₄ n1 n2 n3 (r1.tups tp₄) (r2.tups tp₄) (r3.tups tp₄) fun t h₅ tk keep rep => ?_
    exact fin _ _ h₅ tk keep rep hrr (by intro us q; cases q)
  | same hy hd hne ht =>
    rename_i d y yp cp te
    cases hg : (get ρ' d).bind fun v => vcmp .eq v (toldOf (.exc c x ec)) with
    | none => dsimp only at hrr; rw [hg] at hrr; exact absurd hrr hr
    | some b =>
      dsimp only at hrr
      rw [hg] at hrr
      obtain ⟨vd, ed, hcmp⟩ := Option.bind_eq_some_iff.mp hg
      have hveq : vdepth vd ≤ 50 ∧ veq vd (toldOf (.exc c x ec)) = some b := by
        have e : vcmp .eq vd (toldOf (.exc c x ec)) = if vdepth vd ≤ 50 then veq vd (toldOf (.exc c x ec)) else none := rfl
        rw [e] at hcmp
        split at hcmp
        · exact ⟨by assumption, hcmp⟩
        · cases hcmp
      have hbm : behindInMarks .Eq te = false := by cases ht; rfl
      obtain ⟨y', f1, f2, f3, _⟩ := V.at' d _ ed
      rw [hy] at f1; cases f1
      have hnoL := (veq_noList hveq.2).1
      have load : ∀ (Q : Value → Shared → Prop) (s' : Shared), s'.heap = h₄ → Q (val d) s' → wpAny g.M (fx.A.mark (some (.ref a))) (loadName fx.env y) Q E₁ s' := fun Q s' hs' hq => by
        rcases f2 with ⟨hk, hm⟩ | ⟨hk, ⟨cc, hc⟩, hm⟩
        · refine wpAny_loadName_local fx.O.kind hk (hs' ▸ hn₄) ?_ hq
          rw [if_neg hne]; exact hm
        · obtain ⟨oc, eoc, hdc⟩ := V.cell y cc hc
          refine wpAny_loadName_cell fx.O.kind hk hc ⟨oc, ?_, hm ▸ hdc⟩ hq
          rw [hs']
          exact (hs₄.2 cc fun z => by subst z; obtain ⟨o, es, ep, eL, hdL, _⟩ := V.ns; rw [eoc] at eL; cases eL; rw [hdc] at hdL; cases hdL).trans eoc
      refine wpAny_Compare1 (wpAny_Name (load _ _ rfl ?_) hd) hbm
      refine told_ok X ht st₄ fx.O.kind hn hnd hn₄ (by simp) ea₄ e2 e3 e4 hD₄ n1 n2 n3 (r1.tups tp₄) (r2.tups tp₄) (r3.tups tp₄) fun t h₅ tk keep rep => ?_
      have tp₅ : Tups h₄ h₅ := fun b its k q => keep _ _ q
      have hu : (fx.A.mark (some (.ref a))).units + 60 < cLine := by
        have := fx.units
        show fx.A.units + 60 < cLine
        rw [cLine9]; (first | lia | omega)
      refine W.cmp_ofEq ((rcAt_ok hveq.1 hu hveq.2 (((f3.toI hnoL).tups tp₄).tups tp₅) rep).1 _ _ _ _ ?_)
      exact fin (.bool b) (.bool b) h₅ tk keep rfl hrr (by intro us q; cases q)
end
end Mine
end
section
open PySem PySem.Calls PyProof.Rows PySem.SeqAt
namespace Mine
set_option linter.unusedVariables false

section
variable {g : Gd} {fx : Fx g} {ρ : Rho}

theorem simC_chain {pa pb pc : Expr} {pos : Pos} {whole : Sem Value} {ra rb rc : R V} (hm : behindInMarks .LtE pc = false) (ha : SimE fx pa ρ ra) (hb : SimE fx pb ρ rb) (hc : SimE fx pc ρ rc) :
    SimC fx (isTrue (.Compare pa [.LtE, .LtE] [pb, pc] pos) fx.env whole) ρ (R.bind ra fun x => R.bind rb fun y =>
      match x, y with
      | .int m, .int n => if m ≤ n then R.bind rc fun z => R.of ((isInt z).map fun k => .bool (decide (n ≤ k))) else some (.ok (.bool false))
      | _, _ => none) := by
  intro hr ht s hE S
  rw [arm_isTrue_Compare]
  have e1 : markedEach [.LtE, .LtE] [pb, pc] (evalEach [pb, pc] fx.env) = [eval pb fx.env, eval pc fx.env] := by
    show [eval pb fx.env, markedBehindIn .LtE pc (eval pc fx.env)] = _
    rw [markedBehindIn_of_false hm]
  rw [e1]
  refine wpAny_bind (ha.use (bind_ne_none hr) S (fun x u s₁ e st ro S₁ => ?_) fun a ev s₁ e st ex => ⟨a, ev, rfl, bind_err e, st, ex⟩)
  rw [bind_ok e] at hr ht ⊢
  show wpAny g.M fx.A (do
    let rv ← holding [u] (eval pb fx.env)
    standAt pos
    let c ← holding [u, rv] (compareOp .LtE u rv)
    release [u, rv] [c]
    if ← holding [c, rv] (truthy c) then testChain pos rv [.LtE] [eval pc fx.env] else pure false) _ _ _
  refine wpAny_bind (wpAny_holding (hb.use (bind_ne_none hr) S₁ (fun y t s₂ e' st' ro' S₂ => ?_) fun a ev s₂ e' st' ex => ⟨a, ev, rfl, bind_err e', st.trans st', ex.mono st.ext⟩))
  rw [bind_ok e'] at hr ht ⊢
  cases x <;> try exact absurd rfl hr
  cases y <;> try exact absurd rfl hr
  rename_i m n
  obtain ⟨t1, rfl⟩ : ∃ t1, u = .int m t1 := ro
  obtain ⟨t2, rfl⟩ : ∃ t2, t = .int n t2 := ro'
  dsimp only at hr ht ⊢
  refine wpAny_bind (wpAny_standAt (wpAny_bind (wpAny_holding (le_int (wpAny_bind (wpAny_release' (wpAny_bind (wpAny_holding (wpAny_truthy_bool ?_)))))))))
  by_cases hmn : m ≤ n
  · rw [if_pos hmn] at hr ht ⊢
    rw [if_pos (by simpa using hmn)]
    show wpAny g.M fx.A (do
      let rv ← holding [Value.int n t2] (eval pc fx.env)
      standAt pos
      let c ← operate [Value.int n t2, rv] (compareOp .LtE (Value.int n t2) rv)
      holding [c] (truthy c)) _ _ _
    refine wpAny_bind (wpAny_holding (hc.use (bind_ne_none hr) S₂ (fun z v s₃ e'' st'' ro'' S₃ => ?_) fun a ev s₃ e'' st'' ex => ⟨a, ev, rfl, bind_err e'', (st.trans st').trans st'', ex.mono (st.trans st').ext⟩))
    rw [bind_ok e''] at hr ht ⊢
    obtain ⟨w, hw⟩ := of_ne_none hr
    obtain ⟨k, hk, _⟩ := Option.map_eq_some_iff.mp hw
    cases isInt_ok hk
    obtain ⟨t3, rfl⟩ : ∃ t3, v = .int k t3 := ro''
    refine wpAny_bind (wpAny_standAt (wpAny_bind (wpAny_operate' (le_int (wpAny_holding (wpAny_truthy_bool ?_))))))
    exact ⟨.bool (decide (n ≤ k)), rfl, rfl, (st.trans st').trans st''⟩
  · rw [if_neg hmn] at hr ht ⊢
    rw [if_neg (by simpa using hmn)]
    exact wpAny_pure ⟨.bool false, rfl, rfl, st.trans st'⟩

theorem idxV_no {k : Nat} : ∀ {vs : List V} {ev : V}, mapR (idxV k) vs ≠ some (.error ev)
  | [], _, h => by cases h
  | v :: r, ev, h => by
    simp only [mapR] at h
    have ih := @idxV_no k r
    cases hv : idxV k v with
    | none => rw [hv] at h; cases h
    | some q =>
      cases q with
      | error e =>
        cases v <;> simp only [idxV, reduceCtorEq] at hv
        rename_i ws
        cases hw : ws[k]? <;> (rw [hw] at hv; cases hv)
      | ok y =>
        rw [hv] at h
        simp only [R.bind_ok] at h
        cases hm : mapR (idxV k) r with
        | none => rw [hm] at h; cases h
        | some q2 =>
          cases q2 with
          | error e2 => exact ih hm
          | ok ys => rw [hm] at h; cases h

theorem sim_compIdx {iter : Expr} {x : Str} {k kk : Nat} {px ap ip ep pos : Pos} {sc : Scope} {ri : R V} (hc : CompScope sc x) (hfree : ∀ y ∈ sc.names, y.2 ≠ .free)
    (hfs : ∀ y, foldedSetIterable iter fx.env y = pure y) (hi : SimE fx iter ρ ri) :
    SimE fx (.ListComp (.Subscript (.Name x ap) (.Constant (.int (k : Nat)) kk ip) ep) [⟨.Name x px, iter, [], 0⟩] sc pos) ρ (R.bind ri fun w => compIdxV k w) := by
  refine sim_compN (src := fun _ => True) hc hfree hfs hi (fun h => bind_ne_none h) (fun ev e => bind_err e) fun w e hr => ?_
  rw [bind_ok e] at hr ⊢
  unfold compIdxV at hr ⊢
  cases w <;> try exact absurd rfl hr
  rename_i o vs
  dsimp only at hr ⊢
  split at hr <;> first | exact absurd rfl hr | skip
  rename_i hsz
  rw [if_pos hsz] at ⊢
  cases hmr : mapR (idxV k) vs with
  | none => rw [hmr] at hr; exact absurd rfl hr
  | some q =>
    cases q with
    | error ev => exact absurd hmr idxV_no
    | ok xs =>
      obtain ⟨hlen, hget⟩ := mapR_ok hmr
      refine ⟨vs, xs, .inl ⟨o, rfl⟩, rfl, hlen, hsz.1, fun C hE i v z t m K Er hvi rz hns hmx St kq => ?_⟩
      obtain ⟨xi, hxi, hiv⟩ := hget i v hvi
      cases v <;> simp only [idxV, reduceCtorEq] at hiv
      rename_i ws
      cases hwk : ws[k]? with
      | none => rw [hwk] at hiv; cases hiv
      | some yy =>
        rw [hwk] at hiv; cases hiv
        have ek : (compEnvC sc [] C fx.env).scope.kind = .function := hc.kind
        obtain ⟨p, its, np, rfl, hp, rp⟩ : RepI t.heap (.tup ws) z := rz
        obtain ⟨u, hu, ru⟩ := rp.get _ _ hwk
        have hlt : k < its.size := by have := (List.getElem?_eq_some_iff.mp hu).1; simpa using this
        refine Subscript_ (wpAny_Name (wpAny_loadName_local ek (lookup_relabel_local hc.var) hns hmx (wpAny_Constant_int ?_)) hc.dbg)
        refine tail_any (isT_tup hp).typeIs slot_tuple_getitem.lookup (PyProof.Rows.getItem_tuple (isT_tup hp) (j := k) (by (first | lia | omega)) (by (first | lia | omega)) ?_ (by rw [← Array.getElem?_toList]; exact hu) (kq u _ xi hxi ru .toks)) (subscripted_of rfl _ _)
        unfold seqIndex?
        simp only [show ¬ ((k : Int) < 0) from by (first | lia | omega), if_false]
        rw [if_pos (by simp only [Bool.and_eq_true, decide_eq_true_eq]; (first | lia | omega))]
        simp

end
end Mine
end
section
open PySem PySem.Calls PyProof.Rows PySem.SeqAt
namespace Mine
set_option linter.unusedVariables false

theorem lookup_relabel_free {env : Env} (hk : env.scope.kind = .function) : ∀ {names : List (Str × NameKind)} {x : Str}, names.lookup x = some .free → env.kindOf x = some .cell →
    (names.map fun (n, k) => if (k == NameKind.free && env.scope.kind == .function && env.kindOf n == some .cell) then (n, NameKind.cell) else (n, k)).lookup x = some .cell
  | [], _, h, _ => by simp at h
  | (n, k) :: r, x, h, hc => by
    have ih := @lookup_relabel_free env hk r x
    show List.lookup x ((if (k == NameKind.free && env.scope.kind == .function && env.kindOf n == some .cell) = true then (n, NameKind.cell) else (n, k)) :: _) = _
    cases hx : x == n with
    | true =>
      simp only [List.lookup_cons, hx] at h
      cases h
      obtain rfl := eq_of_beq hx
      rw [if_pos (by rw [hk, hc]; rfl)]
      simp [List.lookup_cons]
    | false =>
      simp only [List.lookup_cons, hx] at h
      by_cases hc' : (k == NameKind.free && env.scope.kind == .function && env.kindOf n == some .cell) = true
      · rw [if_pos hc']; simp only [List.lookup_cons, hx]; exact ih h hc
      · rw [if_neg hc']; simp only [List.lookup_cons, hx]; exact ih h hc

/-- one free name alone -/
theorem closureFor_one {env : Env} {sc : Scope} {w : Str} {c : Addr} (hc : env.cells.lookup w = some c) (h : sc.names.filter (fun p => p.2 == NameKind.free) = [(w, NameKind.free)]) : closureFor sc env = pure [(w, c)] := by
  have key : ∀ (names : List (Str × NameKind)) (cs : List (Str × Addr)), (names.filter (fun p => p.2 == NameKind.free) = [] →
        (forIn names cs fun (x : Str × NameKind) (cs : List (Str × Addr)) => if (x.2 == NameKind.free) = true then (do let a ← cellOf env x.1; pure (ForInStep.yield ((x.1, a) :: cs)) : Sem (ForInStep (List (Str × Addr)))) else pure (ForInStep.yield cs)) = pure cs) ∧
      (names.filter (fun p => p.2 == NameKind.free) = [(w, NameKind.free)] →
        (forIn names cs fun (x : Str × NameKind) (cs : List (Str × Addr)) => if (x.2 == NameKind.free) = true then (do let a ← cellOf env x.1; pure (ForInStep.yield ((x.1, a) :: cs)) : Sem (ForInStep (List (Str × Addr)))) else pure (ForInStep.yield cs)) = pure ((w, c) :: cs)) := by
    intro names
    induction names with
    | nil => intro cs; exact ⟨fun _ => rfl, fun h => by cases h⟩
    | cons p r ih =>
      intro cs
      obtain ⟨n, k⟩ := p
      by_cases hk : (k == NameKind.free) = true
      · refine ⟨fun h => (by rw [List.filter_cons_of_pos (by simpa using hk)] at h; cases h), fun h => ?_⟩
        rw [List.filter_cons_of_pos (by simpa using hk)] at h
        obtain ⟨h1, h2⟩ := List.cons.inj h
        cases h1
        rw [List.forIn_cons]
        have e : cellOf env w = pure c := by unfold cellOf; rw [hc]
        simp only [e, hk, if_true, pure_bind]
        exact (ih _).1 h2
      · have hf : List.filter (fun p => p.2 == NameKind.free) ((n, k) :: r) = List.filter (fun p => p.2 == NameKind.free) r := List.filter_cons_of_neg (by simpa using hk)
        rw [hf, List.forIn_cons]
        simp only [hk, if_false, pure_bind, Bool.false_eq_true]
        exact ih cs
  have := (key sc.names []).2 h
  show (forIn sc.names [] (fun (x : Str × NameKind) (cs : List (Str × Addr)) => if (x.2 == NameKind.free) = true then (do let a ← cellOf env x.1; pure (ForInStep.yield ((x.1, a) :: cs)) : Sem (ForInStep (List (Str × Addr)))) else pure (ForInStep.yield cs)) >>= fun cs => pure cs) = _
  rw [this]
  rfl

section
variable {g : Gd} {fx : Fx g} {ρ : Rho} {cl : Nat → List V → R V}

theorem compPairV_ok {f : Nat} {y w : V} (h : compPairV cl f y w ≠ none) : ∃ o vs xs, w = .lst o vs ∧ vs.length ≤ 1000000 ∧ mapR (pairV cl f y) vs = some (.ok xs) ∧ xs.all scalar = true ∧ compPairV cl f y w = some (.ok (.lst true xs)) := by
  unfold compPairV at h ⊢
  split at h
  · split at h
    · rename_i hl
      obtain ⟨xs, e1, e2, e3⟩ := scalars_ok (r := .none) h
      exact ⟨_, _, xs, rfl, hl, e1, e2, by rw [if_pos hl]; exact e3⟩
    · exact absurd rfl h
  · exact absurd rfl h

theorem sim_compPair {iter : Expr} {f wi : Nat} {fn a b w : Str} {c : Addr} {np ap wp cp pa pb tp pos : Pos} {k : Nat} {sc : Scope} {ri : R V} (hcl : CallOk g fx.d cl) (hx : GName g f fn) (hk : sc.names.lookup fn = some .globalImplicit)
    (ha : CompScope sc a) (hb : CompScope sc b) (hab : a ≠ b) (hw : fx.names[wi]? = some w) (hwd : (w == ("__debug__" : Str)) = false) (hwf : sc.names.lookup w = some .free) (hwk : fx.env.kindOf w = some .cell) (hwc : fx.env.cells.lookup w = some c)
    (hclos : closureFor sc fx.env = pure [(w, c)]) (hfs : ∀ y, foldedSetIterable iter fx.env y = pure y) (hi : SimE fx iter ρ ri) :
    SimE fx (.ListComp (.Call (.Name fn np) [.Name a ap, .Name w wp] [] cp) [⟨.Tuple [.Name a pa, .Name b pb] k tp, iter, [], 0⟩] sc pos) ρ (R.bind ri fun x => R.bind (R.of ((get ρ wi).bind freeze)) fun y => compPairV cl f y x) := by
  intro hr s hE S
  rw [eval_ListComp]
  refine wpAny_comprehension_free (use := none) rfl hfs hclos ha.kind ha.names (hi.use (bind_ne_none hr) S (fun x u s₁ e st ro S₁ => ?_) fun a ev s₁ e st ex => ⟨a, ev, rfl, bind_err e, st, ex⟩)
  rw [bind_ok e] at hr ⊢
  obtain ⟨y, hy⟩ := of_ne_none (bind_ne_none hr)
  rw [hy] at hr ⊢
  simp only [R.of_some, R.bind_ok] at hr ⊢
  obtain ⟨y0, hg0, hfy⟩ := Option.bind_eq_some_iff.mp hy
  obtain ⟨o, vs, xs, rfl, hsz, hm, hsc, hre⟩ := compPairV_ok hr
  obtain ⟨hlen, hget⟩ := mapR_ok hm
  obtain ⟨og, fd, ho, hfd⟩ := hx.fn
  refine comp_core (cl := [(w, c)]) (xs := xs) (T := fun I C v K Er t => wpAny g.M fx.A (letOwnedTupleGo (.Tuple [.Name a pa, .Name b pb] k tp) (.ref I) v) (fun _ t₁ =>
      wpAny g.M fx.A (assign (.Tuple [.Name a pa, .Name b pb] k tp) (compEnvC sc [(w, c)] C fx.env) v) (fun _ t₂ => wpAny g.M fx.A (eval (.Call (.Name fn np) [.Name a ap, .Name w wp] [] cp) (compEnvC sc [(w, c)] C fx.env)) K Er t₂) Er t₁) Er t)
    hclos ha.cell ha.kind S₁ (.inl ⟨o, rfl⟩) ro hlen hsz (fun C D I Inv R n t hturn h0 => ?_) (fun I C i v z t m K Er hvi rz hCn hns ext sm St hit kk => ?_) fun D s' ys n hD hl rl st' => lc_end hre st D s' ys n hD hl rl st'
  · exact PyProof.Rows.LCp.codeAny_compLoop_pair Inv (fun n t hI => wpAny_mono (hturn n t hI) (fun r t₁ h₁ => by cases r <;> exact h₁) fun _ _ y => y) n h0
  · obtain ⟨xi, exi, hcv⟩ := hget i v hvi
    unfold pairV at hcv
    cases hp : pairOf v with
    | none => rw [hp] at hcv; cases hcv
    | some p =>
      rw [hp] at hcv
      obtain ⟨p1, p2⟩ := p
      have hv := pairOf_ok hp
      subst hv
      dsimp only at hcv
      obtain ⟨T, its, n, rfl, hT, rl⟩ : RepI t.heap (.tup [p1, p2]) z := rz
      have hlen2 := rl.length
      unfold RepL at rl
      obtain ⟨ua, r2, e2, ra, rl⟩ := rl
      unfold RepL at rl
      obtain ⟨ub, r3, e3, rb, rl⟩ := rl
      unfold RepL at rl
      subst rl; subst e3
      have hs2 : its.size = 2 := by simpa using hlen2
      obtain ⟨ax, jj, hli⟩ : ∃ ax j, t.heap.IsListIter I ax j := hit.resolve_right (by intro q; cases q)
      refine wpAny_letOwnedTupleGo_listiter hli (assign_Tuple_tuple fx.hh (isT_tup hT) (by rw [hs2]; rfl) rfl fun h' he => ?_)
      rw [e2]
      have hCF : C ∉ fx.F := S₁.stk.ns.fresh hCn
      have hCs : s.heap.get? C = none := st.ext.fresh hCn
      have keep1 : ∀ b o, t.heap.get? b = some o → h'.get? b = some o := fun b o eb => he b o (fun q => by subst q; exact absurd (Heap.lt_size eb) (Nat.lt_irrefl _)) eb
      have hns1 : h'.Ns C m := hns.keeps keep1
      have ekc : (compEnvC sc [(w, c)] C fx.env).scope.kind = .function := ha.kind
      have hcp : ((compEnvC sc [(w, c)] C fx.env).scope.kind == .class || ((compEnvC sc [(w, c)] C fx.env).scope.kind == .module && (compEnvC sc [(w, c)] C fx.env).locals != (compEnvC sc [(w, c)] C fx.env).globals)) = false := by rw [ekc]; rfl
      have seqC : ∀ {h : Heap} {m : Str → Option Value}, h.Ns C m → ∀ o xx n, h.get? C = some o → o.data ≠ .seq xx n := fun hn o xx n e q => by obtain ⟨oo, es, ep, eo, hd, _⟩ := hn; rw [eo] at e; cases e; rw [hd] at q; cases q
      refine assignInOrder_cons (PyProof.Rows.assign_Name (wpAny_storeName_local (lookup_relabel_local ha.var) hns1 (fun h₂ hn₂ hs₂ => ?_) hcp))
      refine assignInOrder_cons (PyProof.Rows.assign_Name (wpAny_storeName_local (lookup_relabel_local hb.var) hn₂ (fun h₃ hn₃ hs₃ => assignInOrder_nil ?_) hcp))
      have tp3 : Tups t.heap h₃ := fun b its' n' q => tups_sameBut hs₃ (seqC hn₂) _ _ _ (tups_sameBut hs₂ (seqC hns1) _ _ _ (keep1 _ _ q))
      have xb : ExtB C fx.F t.heap h₃ := (ExtB.of_ext (.of_keeps keep1)).trans ((ExtB.of_same hs₂).trans (.of_same hs₃))
      have extN : Ext fx.F s₁.heap h₃ := xb.from ext hCn
      have S₃ : fx.St hE h₃ ρ := S₁.step fx.O extN
      refine wpAny_Call_NameR (Name_function_global ekc (lookup_relabel_glob hk) (loadGlobal_global (by show h₃.Ns fx.env.globals _; rw [fx.O.glob]; exact glob_ns S₃.stk.stays) hx.name ?_) hx.dbg)
      refine callWith_function (o := og) (fd := fd) (evalArgs_plain (spliced_cons (wpAny_Name (wpAny_loadName_local ekc (lookup_relabel_local ha.var) hn₃ (v := ua) ?_ (spliced_cons (wpAny_Name ?_ hwd))) ha.dbg)))
      · rw [if_neg hab]; simp
      obtain ⟨m0, cm0, val0, V0⟩ := S₃.vars
      obtain ⟨w', f1, f2, f3, _⟩ := V0.at' wi _ hg0
      rw [hw] at f1; cases f1
      have hcm : cm0 w = some (val0 wi) := by
        rcases f2 with ⟨q, _⟩ | ⟨_, _, q⟩
        · rw [hwk] at q; cases q
        · exact q
      refine wpAny_loadName_cell (c := c) ekc (lookup_relabel_free fx.O.kind hwf hwk) (by show List.lookup w [(w, c)] = _; simp [List.lookup_cons]) (hcm ▸ V0.cell w c hwc) (spliced_nil ?_)
      refine ⟨⟨S₃.stk.stays _ _ ho, hfd⟩, ?_⟩
      refine wpAny_mono (hcl f [p1, y] fx.A (fx.env :: fx.outer) { t with heap := h₃, toks := t.toks + 1 + 1 } [ua, val0 wi] (by rw [hcv]; simp) fx.hA fx.hh fx.depth fx.units S₃.stk ⟨ua, _, rfl, (ra.tups tp3).rep, _, _, rfl, f3.freeze hfy, rfl⟩) (fun q t₄ ⟨qv, e1, st4, ro4⟩ => ?_) fun q t₄ ⟨aa, ev, _, e1, _⟩ => by rw [hcv] at e1; cases e1
      rw [hcv] at e1; cases e1
      have hsx : scalar xi = true := List.all_eq_true.mp hsc _ (List.mem_of_getElem? exi)
      exact kk q t₄ xi _ exi (ro4.noList (by cases xi <;> first | rfl | cases hsx)) (xb.trans (.of_ext st4.ext)) (st4.ext.weak.ns hn₃) (Same.trans ⟨rfl, rfl, rfl⟩ st4.same)
end
end Mine
end
section
open PySem PySem.Calls PyProof.Rows PySem.SeqAt
set_option genInjectivity false
set_option genSizeOf false
namespace Mine
set_option linter.unusedVariables false

/-- a def of the text's, as it stands on the heap, beside its mini body -/
structure FnOk (g : Gd) (cl : Nat → Nat → List V → R V) (f : Nat) (fn : Fn) where
  o : Obj
  fd : FuncData
  body : List Stmt
  names : List Str
  dv : List Value
  obj : g.base.get? (g.fa f) = some o
  dat : o.data = .func fd
  kind : fd.scope.kind = .function
  coro : fd.scope.isCoroutine = false
  gen : fd.scope.isGenerator = false
  cell : ∀ x ∈ fd.scope.names, x.2 ≠ .cell
  clos : fd.closure = []
  glob : fd.globals = mainGlobals
  bi : fd.builtins = builtinsNs
  code : g.base.CodeRec fd.code fd.qualname
  hbody : fd.body = .stmts body
  nodup : names.Nodup
  len : names.length = fn.nlocals
  par : fn.nparams ≤ fn.nlocals
  loc : ∀ x ∈ names, fd.scope.names.lookup x = some .local
  dflt : RepL g.base fn.defaults dv
  dnl : fn.defaults.all noList = true
  binds : ∀ (s : Shared), g.base.StaysIn s.heap → ∀ us : List Value, (us.length = fn.nparams → BindsTo s fd ⟨us, []⟩ (names.zip us)) ∧ (us.length + fn.defaults.length = fn.nparams → BindsTo s fd ⟨us, []⟩ (names.zip (us ++ dv)))
  sim : ∀ (d : Nat) (fx : Fx g), CallOk g d (cl d) → fx.d = d → fx.names = names → (∃ L, fx.env = callEnv fd L (g.fa f)) → ∀ ρ, SimS fx body ρ (execs (cl d) fn.body ρ)

theorem freezeAll_rep {h : Heap} : ∀ {vs ws : List V} {us : List Value}, RepA h vs us → freezeAll vs = some ws → ws.length = vs.length ∧ ∀ (i : Nat) (w : V), ws[i]? = some w → (∃ u, us[i]? = some u ∧ Rep h w u) ∧ ∀ l, w ≠ .lst true l
  | [], ws, us, _, e => by simp [freezeAll] at e; subst e; exact ⟨rfl, by simp⟩
  | v :: vs, ws, us, r, e => by
    simp only [freezeAll] at e
    obtain ⟨x, ex, e⟩ := Option.bind_eq_some_iff.mp e
    obtain ⟨xs, exs, rfl⟩ := Option.map_eq_some_iff.mp e
    obtain ⟨u, us', rfl, ru, rs⟩ := r
    obtain ⟨h1, h2⟩ := freezeAll_rep rs exs
    refine ⟨by simp [h1], fun i w hw => ?_⟩
    cases i with
    | zero =>
      simp at hw; subst hw
      refine ⟨⟨u, by simp, ru.freeze ex⟩, fun l q => ?_⟩
      subst q
      cases v <;> cases ex
    | succ i => simp at hw; simpa using h2 i w hw

theorem lookup_zip {names : List Str} (hn : names.Nodup) : ∀ (us : List Value) (i : Nat) (x : Str) (u : Value), names[i]? = some x → us[i]? = some u → (names.zip us).reverse.lookup x = some u := by
  induction names with
  | nil => intro us i x u h; simp at h
  | cons n r ih =>
    intro us i x u hx hu
    cases us with
    | nil => simp at hu
    | cons a b =>
      rw [List.zip_cons_cons, List.reverse_cons, List.lookup_append]
      obtain ⟨hnr, hr⟩ := List.nodup_cons.mp hn
      cases i with
      | zero =>
        simp at hx hu; subst hx; subst hu
        have : (r.zip b).reverse.lookup n = none := by
          rw [List.lookup_eq_none_iff]
          intro p hp
          rw [List.mem_reverse] at hp
          have : p.1 ∈ r := (List.of_mem_zip hp).1
          simp only [bne_iff_ne, ne_eq, beq_eq_false_iff_ne, Bool.not_eq_true', beq_iff_eq] at *
          intro q; exact hnr (q ▸ this)
        rw [this]; simp
      | succ i =>
        simp at hx hu
        rw [ih hr b i x u hx hu]; rfl

theorem ResOk.heap {g : Gd} {s₁ s₂ s : Shared} {v : V} {u : Value} (h : ResOk g s₁ s v u) (e : s₁.heap = s₂.heap) : ResOk g s₂ s v u := by
  cases v <;> first | exact h | skip
  · rename_i own vs
    cases own
    · exact h
    · exact ⟨h.1, fun a q => e ▸ h.2 a q⟩
  · obtain ⟨a, q, n, d⟩ := h; exact ⟨a, q, e ▸ n, d⟩
  · obtain ⟨a, q, d⟩ := h; exact ⟨a, q, e ▸ d⟩

section
variable {g : Gd} {P : Nat → Option Fn}

theorem stk_heap {base : Heap} {fs : List Env} {h h' : Heap} (S : Stk base fs h) (k : ∀ b o, h.get? b = some o → h'.get? b = some o) : Stk base fs h' := S.ext (.of_keeps k)

/-- a call, its arguments bound -/
theorem enter {d : Nat} {f : Nat} {fn : Fn} (F : FnOk g (callN P) f fn) (hd : CallOk g d (callN P d)) {A : Around} {fs : List Env} {s : Shared} {us us' : List Value} {as : List V}
    (hA : A.frames = some fs) (hh : A.handled = none) (hdep : A.depth + (d + 1) ≤ 900) (hun : A.units + 40 * (d + 1) + 200 ≤ 9000) (S : Stk g.base fs s.heap)
    (hal : as.length = fn.nparams) (hul : us'.length = fn.nparams) (hrep : ∀ (i : Nat) (w : V), as[i]? = some w → (∃ u, us'[i]? = some u ∧ Rep s.heap w u) ∧ ∀ l, w ≠ .lst true l)
    (hb : BindsTo s F.fd ⟨us, []⟩ (F.names.zip us')) (hne : endOf (execs (callN P d) fn.body (startRho fn as)) ≠ none) :
    wpAny g.M A (call (.ref (g.fa f)) us) (OkE g (fr fs) (endOf (execs (callN P d) fn.body (startRho fn as))) s) (ErrE g (fr fs) (endOf (execs (callN P d) fn.body (startRho fn as))) s) s := by
  refine wpAny_call (codeAny_call_def (fd := F.fd) (body := F.body) (binds := F.names.zip us') ?_ (S.stays _ _ F.obj) F.dat (g.nolimit.keeps S.stays) (F.code.keeps S.stays) F.hbody hb F.cell ?_ (fun h₀ hns hk => ?_) F.coro F.gen F.kind)
  · exact Nat.lt_of_le_of_lt (show A.depth ≤ 900 by (first | lia | omega)) (by decide)
  · intro x hx
    exact F.loc _ (List.of_mem_zip (show (x.1, x.2) ∈ _ from hx)).1
  have hL : s.heap.get? s.heap.objs.size = none := Heap.get?_none_of_le (Nat.le_refl _)
  have O : EnvOk (callEnv F.fd s.heap.objs.size (g.fa f)) s.heap.objs.size := ⟨F.kind, rfl, rfl, F.glob, F.bi, fun x y c d hx => by rw [show (callEnv F.fd s.heap.objs.size (g.fa f)).cells = F.fd.closure from rfl, F.clos] at hx; cases hx⟩
  let fx : Fx g := ⟨callEnv F.fd s.heap.objs.size (g.fa f), fs, F.names, s.heap.objs.size, A.deeper (callEnv F.fd s.heap.objs.size (g.fa f)), d, O, by show A.frames.map _ = _; rw [hA]; rfl, hh, F.nodup,
    (by show A.depth + 1 + d ≤ 900; (first | lia | omega)), (by show A.units + 3 + 40 * d + 200 ≤ 9000; (first | lia | omega))⟩
  have hlenρ : (startRho fn as).length = fn.nlocals := by
    unfold startRho
    rw [List.length_append, List.length_map, List.length_replicate, hal]
    have := F.par
    (first | lia | omega)
  have hget : ∀ i v, get (startRho fn as) i = some v → as[i]? = some v ∧ i < fn.nparams := fun i v hi => by
    unfold get startRho at hi
    by_cases hlt : i < as.length
    · rw [List.getElem?_append_left (by simpa using hlt)] at hi
      rw [List.getElem?_map] at hi
      cases q : as[i]? with
      | none => rw [q] at hi; cases hi
      | some w => rw [q] at hi; simp at hi; subst hi; exact ⟨rfl, hal ▸ hlt⟩
    · rw [List.getElem?_append_right (by simpa using Nat.le_of_not_lt hlt)] at hi
      rw [List.getElem?_replicate] at hi
      split at hi <;> cases hi
  have S₀ : fx.St s.heap h₀ (startRho fn as) := by
    obtain ⟨oL, esL, epL, eL, hdL, _⟩ := id hns
    have hbL : g.base.get? s.heap.objs.size = none := by
      cases q : g.base.get? s.heap.objs.size with
      | none => rfl
      | some o => have := S.stays _ _ q; rw [hL] at this; cases this
    have hF : FrNs (fr (fx.env :: fs)) h₀ := by
      rw [fr_cons (L := s.heap.objs.size) rfl]
      intro b hb
      rcases List.mem_cons.mp hb with rfl | hb
      · exact ⟨oL, esL, epL, eL, hdL⟩
      · exact (stk_heap S hk).ns b hb
    refine ⟨⟨fun b o e => hk _ _ (S.stays b o e), ⟨by rw [show fx.env.scope.kind = .function from F.kind]; decide, ⟨s.heap.objs.size, oL, rfl, hbL, eL, fun vs q => by rw [hdL] at q; cases q⟩, (stk_heap S hk).frames⟩, hF⟩,
      .of_keeps hk, fun b o e => S.stays b o e, hL, fun x c e => ?_, by rw [hlenρ]; exact F.len.symm, _, fun _ => none, fun i => us'.getD i .none, hns, fun x c e => ?_, fun i v hi => ?_, fun i j vs o ws hne hi hj => ?_⟩
    · rw [show fx.env.cells = F.fd.closure from rfl, F.clos] at e; cases e
    · rw [show fx.env.cells = F.fd.closure from rfl, F.clos] at e; cases e
    · obtain ⟨h1, h2⟩ := hget i v hi
      obtain ⟨⟨u, hu, ru⟩, hnl⟩ := hrep i v h1
      have hlt : i < F.names.length := by rw [F.len]; exact Nat.lt_of_lt_of_le h2 F.par
      have hx : F.names[i]? = some F.names[i] := List.getElem?_eq_getElem hlt
      have hd : us'.getD i .none = u := by rw [List.getD_eq_getElem?_getD, hu]; rfl
      refine ⟨F.names[i], hx, .inl ⟨F.loc _ (List.getElem_mem hlt), ?_⟩, ?_, ?_⟩
      · rw [hd]; exact lookup_zip F.nodup us' i _ u hx hu
      · rw [hd]
        exact ru.move (fun b its n e => hk _ _ e) (fun b its n e => hk _ _ e)
      · rw [hd]
        cases v <;> try trivial
        rename_i own l
        cases own
        · intro a q
          obtain ⟨a', its, n, ea, hl, _⟩ := ru
          rw [q] at ea; cases ea
          exact ⟨_, hl⟩
        · exact absurd rfl (hnl l)
    · exact absurd rfl ((hrep i _ (hget i _ hi).1).2 vs)
  have hbody := F.sim d fx hd rfl rfl ⟨_, rfl⟩ (startRho fn as)
  have hne0 : execs (callN P d) fn.body (startRho fn as) ≠ none := by intro q; rw [q] at hne; exact hne rfl
  refine wpAny_mono (hbody hne0 { s with heap := h₀, toks := s.toks + (F.names.zip us').length } s.heap S₀) (fun fl s' o => ?_) fun x s' o => ?_
  · cases fl with
    | next =>
      obtain ⟨ρ', e, S', sm⟩ := o
      rw [e]
      exact ⟨.none, rfl, ⟨S'.ext, Same.trans ⟨rfl, rfl, rfl⟩ sm⟩, rfl⟩
    | cont =>
      obtain ⟨ρ', e, S', sm⟩ := o
      rw [e] at hne; exact absurd rfl hne
    | brk => exact o.elim
    | ret u =>
      obtain ⟨v, e, k1, k2, k3, k4⟩ := o
      rw [e]
      exact ⟨v, rfl, ⟨k2, Same.trans ⟨rfl, rfl, rfl⟩ k3⟩, k4.heap rfl⟩
  · obtain ⟨a, ev, ρ', rfl, e, S', sm, ex⟩ := o
    rw [e]
    unfold leaving
    refine wpAny_bind (noteFrame_ok fx.hA fx.O.frame S'.stk (S'.extE fx.O) (fun b o e => ⟨o, S'.baseE b o e⟩) ex fun h₁ w₁ x₁ X₁ => ?_)
    have S₁ : fx.St s.heap h₁ ρ' := S'.extW fx.O w₁ x₁
    refine setFlight_ok S₁.stk.ns (S₁.extE fx.O) X₁ fun h₂ w₂ x₂ X₂ => ?_
    have S₂ : fx.St s.heap h₂ ρ' := S₁.extW fx.O w₂ x₂
    exact ⟨a, ev, rfl, rfl, ⟨S₂.ext, Same.trans ⟨rfl, rfl, rfl⟩ (sm.trans ⟨rfl, rfl, rfl⟩)⟩, X₂.any⟩

theorem callOk_succ {d : Nat} (T : ∀ f fn, P f = some fn → Nonempty (FnOk g (callN P) f fn)) (hd : CallOk g d (callN P d)) : CallOk g (d + 1) (callN P (d + 1)) := by
  intro f args A fs s us hne hA hh hdep hun S ra
  simp only [callN] at hne ⊢
  cases hP : P f with
  | none => rw [hP] at hne; exact absurd rfl hne
  | some fn =>
    rw [hP] at hne
    dsimp only at hne ⊢
    cases hfa : (freezeAll args).bind (fillArgs fn) with
    | none => rw [hfa] at hne; exact absurd rfl hne
    | some as =>
      rw [hfa] at hne
      dsimp only at hne ⊢
      obtain ⟨F⟩ := T f fn hP
      obtain ⟨ws, hws, hfill⟩ := Option.bind_eq_some_iff.mp hfa
      obtain ⟨hwl, hwr⟩ := freezeAll_rep ra hws
      have hul := ra.length
      have tb : Tups g.base s.heap := fun b its n e => S.stays _ _ e
      unfold fillArgs at hfill
      split at hfill
      · rename_i hc
        cases hfill
        refine enter F hd hA hh hdep hun S hc (by (first | lia | omega)) hwr ((F.binds s S.stays us).1 (by (first | lia | omega))) hne
      · split at hfill
        · rename_i hc
          cases hfill
          have hdl := F.dflt.length
          refine enter F hd hA hh hdep hun S (us' := us ++ F.dv) (by rw [List.length_append]; exact hc) (by rw [List.length_append]; (first | lia | omega)) (fun i w hi => ?_) ((F.binds s S.stays us).2 (by (first | lia | omega))) hne
          by_cases hlt : i < ws.length
          · rw [List.getElem?_append_left hlt] at hi
            obtain ⟨⟨u, hu, ru⟩, hnl⟩ := hwr i w hi
            exact ⟨⟨u, by rw [List.getElem?_append_left (by (first | lia | omega))]; exact hu, ru⟩, hnl⟩
          · rw [List.getElem?_append_right (by (first | lia | omega))] at hi
            obtain ⟨u, hu, ru⟩ := F.dflt.get _ _ hi
            refine ⟨⟨u, by rw [List.getElem?_append_right (by (first | lia | omega)), hul, ← hwl]; exact hu, (ru.tups tb).rep⟩, fun l q => ?_⟩
            subst q; cases ru
        · cases hfill

theorem callOk_zero : CallOk g 0 (callN P 0) := fun f args A fs s us hne => absurd rfl hne
theorem callOk_all (T : ∀ f fn, P f = some fn → Nonempty (FnOk g (callN P) f fn)) : ∀ d, CallOk g d (callN P d)
  | 0 => callOk_zero
  | d + 1 => callOk_succ T (callOk_all T d)
end
end Mine
end
section
open PySem PySem.Calls PyProof.Rows PySem.SeqAt
set_option genInjectivity false
set_option genSizeOf false
namespace Mine
set_option linter.unusedVariables false

structure CxOk {g : Gd} (fx : Fx g) (cx : Cx) : Prop where
  names : fx.names = cx.names
  kind : ∀ x, fx.env.kindOf x = cx.kinds.lookup x
  var : ∀ i x, cx.names[i]? = some x → NmOk fx i x
  cell : ∀ x, cx.kinds.lookup x = some .cell → ∃ c, fx.env.cells.lookup x = some c
  fns : ∀ x f, cx.fns.lookup x = some f → g.mg x = some (.ref (g.fa f)) ∧ ∃ o fd, g.base.get? (g.fa f) = some o ∧ o.data = .func fd
  bfree : ∀ f : B1, g.mg (b1name f) = none
  range : g.mg (Str.ofString "range") = none
  raised : g.mg (Str.ofString "Raised") = some (.ref g.C)

theorem nodbg_ok {x : Str} (h : nodbg x = true) : (x == ("__debug__" : Str)) = false := by simpa [nodbg] using h
theorem gl_ok {cx : Cx} {x : Str} (h : gl cx x = true) : cx.kinds.lookup x = some .globalImplicit ∧ (x == ("__debug__" : Str)) = false := by
  unfold gl at h
  rw [Bool.and_eq_true] at h
  exact ⟨eq_of_beq h.1, nodbg_ok h.2⟩
theorem compSc_ok {sc : Scope} {x : Str} (h : compSc sc x = true) : CompScope sc x := by
  unfold compSc at h
  simp only [Bool.and_eq_true, List.all_eq_true] at h
  obtain ⟨⟨⟨⟨h1, h2⟩, h3⟩, h4⟩, h5⟩ := h
  refine ⟨eq_of_beq h1, fun y hy q => ?_, fun y hy q => ?_, eq_of_beq h4, nodbg_ok h5⟩
  · have := h2 y hy
    rw [q] at this; cases this
  · have := h3 y hy
    rw [q] at this
    simpa using this
theorem noFree_ok {sc : Scope} (h : noFree sc = true) : ∀ y ∈ sc.names, y.2 ≠ .free := fun y hy q => by
  have := List.all_eq_true.mp h y hy
  rw [q] at this; cases this
theorem notSet_ok {e : Expr} (h : notSet e = true) (env : Env) (y : Value) : foldedSetIterable e env y = pure y := by
  cases e <;> first | rfl | cases h

section
variable {g : Gd} {fx : Fx g} {ρ : Rho} {cl : Nat → List V → R V} {cx : Cx}

theorem CxOk.gname (K : CxOk fx cx) {x : Str} {f : Nat} (h : cx.fns.lookup x = some f) (hd : (x == ("__debug__" : Str)) = false) : GName g f x := ⟨(K.fns x f h).1, (K.fns x f h).2, hd⟩
theorem CxOk.bname (K : CxOk fx cx) {f : B1} (h : gl cx (b1name f) = true) : BName fx (b1name f) (b1val f) := ⟨by rw [K.kind]; exact (gl_ok h).1, K.bfree f, b1main f, b1boot f, (gl_ok h).2⟩

theorem sim_bad {pe : Expr} : SimE fx pe ρ none := fun h => absurd rfl h
theorem simC_bad {t : Sem Bool} : SimC fx t ρ none := fun h => absurd rfl h

/-- the parts of an f-string -/
theorem cf_ok (K : CxOk fx cx) : ∀ (es : List E) (pes : List Expr), cf cx es pes = true → evalL cl ρ es ≠ none → ∃ vs, evalL cl ρ es = some (.ok vs) ∧ ∀ l, strIs vs = some l → (∀ a ∈ l, a.length ≤ sizeLine) → All2 (fun t (a : Str) => SimT fx t ρ (some (.ok (.str a)))) (evalEach pes fx.env) l
  | [], pes, h, _ => by
    cases pes with
    | nil => exact ⟨[], rfl, fun l h _ => by cases h; exact .nil⟩
    | cons _ _ => cases h
  | e :: es, pes, h, hne => by
    obtain ⟨pe, r, rfl, hq⟩ := optl_true h
    clear h
    rw [Bool.and_eq_true] at hq
    obtain ⟨hc, h⟩ := hq
    replace hne : (R.bind (evalE cl ρ e) fun x => if plain x then R.bind (evalL cl ρ es) fun xs => some (.ok (x :: xs)) else none) ≠ none := hne
    show ∃ vs, (R.bind (evalE cl ρ e) fun x => if plain x then R.bind (evalL cl ρ es) fun xs => some (.ok (x :: xs)) else none) = some (.ok vs) ∧ _
    cases e with
    | str s =>
      obtain ⟨⟨⟨c, k, q⟩, rfl⟩, hk⟩ := opt_true (o := dStr pe) hc
      have hk := eq_of_beq hk
      subst hk
      obtain ⟨vs, e1, e2⟩ := cf_ok K es r h (bind_ne_none hne)
      refine ⟨.str s :: vs, by show R.bind (evalL cl ρ es) _ = _; rw [e1]; rfl, fun l hl hs => ?_⟩
      obtain ⟨l', hl', rfl⟩ := Option.map_eq_some_iff.mp hl
      exact .cons sim_str (e2 l' hl' fun a ha => hs a (List.mem_cons_of_mem _ ha))
    | var i =>
      obtain ⟨⟨⟨x, p1, c, q⟩, rfl⟩, hk⟩ := opt_true (o := dFmt pe) hc
      simp only [Bool.and_eq_true, beq_iff_eq] at hk
      obtain ⟨⟨rfl, hx⟩, hd⟩ := hk
      replace hne : (R.bind (R.of ((get ρ i).bind freeze)) fun x => if plain x then R.bind (evalL cl ρ es) fun xs => some (.ok (x :: xs)) else none) ≠ none := hne
      show ∃ vs, (R.bind (R.of ((get ρ i).bind freeze)) fun x => if plain x then R.bind (evalL cl ρ es) fun xs => some (.ok (x :: xs)) else none) = some (.ok vs) ∧ _
      cases hv : (get ρ i).bind freeze with
      | none => rw [hv] at hne; exact absurd rfl hne
      | some v =>
        rw [hv] at hne
        simp only [R.of_some, R.bind_ok] at hne ⊢
        have hpl : plain v = true := by
          cases q : plain v with
          | true => rfl
          | false => rw [q] at hne; exact absurd rfl hne
        rw [if_pos hpl] at hne ⊢
        obtain ⟨vs, e1, e2⟩ := cf_ok K es r h (bind_ne_none hne)
        refine ⟨v :: vs, by rw [e1]; rfl, fun l hl hs => ?_⟩
        cases v with
        | str a =>
          obtain ⟨l', hl', rfl⟩ := Option.map_eq_some_iff.mp hl
          refine .cons (sim_fmt (ra := some (.ok (.str _))) (by have := sim_var (fx := fx) (ρ := ρ) (pos := p1) (show fx.names[i]? = some x by rw [K.names]; exact hx) (nodbg_ok hd); rw [hv] at this; exact this) (fun v q => ?_) (fun ev q => by cases q)) (e2 l' hl' fun a ha => hs a (List.mem_cons_of_mem _ ha))
          cases q
          exact ⟨_, rfl, hs _ (List.mem_cons_self ..)⟩
        | _ => cases hl
    | _ => cases hc
end
end Mine
end
section
open PySem PySem.Calls PyProof.Rows PySem.SeqAt
namespace Mine
set_option linter.unusedVariables false
set_option maxHeartbeats 4000000

section
variable {g : Gd} {fx : Fx g} {ρ : Rho} {cl : Nat → List V → R V} {cx : Cx}

theorem backTo_starts {pos : Pos} {pes : List Expr} {env : Env} (h : pes.all notStar = true) : (backTo pos (starEach pes env) = [] ∨ ∃ t r, backTo pos (starEach pes env) = (false, t) :: r) ∧ (backTo pos (starEach pes env)).any (·.1) = false := by
  induction pes with
  | nil => exact ⟨.inl rfl, rfl⟩
  | cons e r ih =>
    rw [List.all_cons, Bool.and_eq_true] at h
    rw [starEach_cons h.1, backTo_cons]
    exact ⟨.inr ⟨_, _, rfl⟩, by rw [List.any_cons, (ih h.2).2]; rfl⟩
theorem ceL_stars : ∀ {es : List E} {pes : List Expr}, ceL cx es pes = true → pes.all notStar = true
  | [], pes, h => by
    cases pes with
    | nil => rfl
    | cons _ _ => cases h
  | e :: es, pes, h => by
    obtain ⟨x, r, rfl, hk⟩ := optl_true h
    simp only [Bool.and_eq_true] at hk
    rw [List.all_cons, hk.1.1, ceL_stars hk.2]; rfl

theorem sum_le {n : Nat} : ∀ {l : List Str}, (l.map (·.length)).sum ≤ n → ∀ a ∈ l, a.length ≤ n
  | x :: l, h, a, ha => by
    simp only [List.map_cons, List.sum_cons] at h
    rcases List.mem_cons.mp ha with rfl | ha
    · (first | lia | omega)
    · exact sum_le (by (first | lia | omega)) a ha

theorem fstr_ok (K : CxOk fx cx) {ps : List E} {values : List Expr} {pos : Pos} (h2 : 2 ≤ values.length) (h : cf cx ps values = true) :
    SimE fx (.JoinedStr values pos) ρ (R.bind (evalL cl ρ ps) fun vs => R.of ((strIs vs).bind fun l => if (l.map (·.length)).sum ≤ 1000000 then some (.str (l.foldl (· ++ ·) Str.empty)) else none)) := by
  intro hr
  obtain ⟨vs, e1, e2⟩ := cf_ok (cl := cl) (ρ := ρ) K ps values h (bind_ne_none hr)
  rw [bind_ok e1] at hr ⊢
  cases hl : strIs vs with
  | none => rw [hl] at hr; exact absurd rfl hr
  | some l =>
    rw [hl] at hr
    simp only [Option.bind_some] at hr ⊢
    by_cases hs : (l.map (·.length)).sum ≤ 1000000
    · rw [if_pos hs]
      exact sim_fstr h2 hl hs (e2 l hl fun a ha => Nat.le_trans (sum_le hs a ha) sl_ge) (by simp [R.of])
    · rw [if_neg hs] at hr; exact absurd rfl hr

theorem isTrue_Name {x : Str} {p : Pos} {env : Env} : isTrue (.Name x p) env (eval (.Name x p) env) = (do let v ← eval (.Name x p) env; standAt (Expr.Name x p).pos; holding [v] (truthy v)) := rfl
theorem isTrue_Call {f : Expr} {a : List Expr} {k : List Keyword} {p : Pos} {env : Env} : isTrue (.Call f a k p) env (eval (.Call f a k p) env) = (do let v ← eval (.Call f a k p) env; standAt (Expr.Call f a k p).pos; holding [v] (truthy v)) := rfl

theorem var_ok (K : CxOk fx cx) {i : Nat} {x : Str} {p : Pos} (hx : cx.names[i]? = some x) (hd : nodbg x = true) : SimE fx (.Name x p) ρ (R.of ((get ρ i).bind freeze)) :=
  sim_var (by rw [K.names]; exact hx) (nodbg_ok hd)

theorem bareBase_ok {e : Expr} (h : bareBase e = true) {name : Str} : ∀ whole, attributeBase e name fx.env whole = whole := fun whole =>
  ((Bool.or_eq_true _ _).mp h).elim (fun h => attrBase_of h _ _ _) fun h => opt_c (C := fun e => attributeBase e name fx.env whole = whole) h fun t hk => attrBase_call hk _ _ _
theorem call_ok (K : CxOk fx cx) (hcl : CallOk g fx.d cl) {x : Str} {np p : Pos} {f : Nat} {args : List E} {xs : List Expr} (h0 : cx.fns.lookup x = some f) (h1 : gl cx x = true) (h2 : xs.all notStar = true)
    (h3 : SimL fx (spliced (backTo p (starEach xs fx.env))) ρ (evalL cl ρ args)) : SimE fx (.Call (.Name x np) xs [] p) ρ (R.bind (evalL cl ρ args) fun vs => cl f vs) :=
  sim_call hcl (K.gname h0 (gl_ok h1).2) (by rw [K.kind]; exact (gl_ok h1).1) (backTo_starts h2).1 h3
theorem mkExc_ok (K : CxOk fx cx) (X : ExcCls g) {np p : Pos} {args : List E} {xs : List Expr} (h1 : gl cx (Str.ofString "Raised") = true) (h2 : xs.all notStar = true)
    (h3 : SimL fx (spliced (backTo p (starEach xs fx.env))) ρ (evalL cl ρ args)) : SimE fx (.Call (.Name (Str.ofString "Raised") np) xs [] p) ρ (evalE cl ρ (.mkExc args)) := by
  have hs := backTo_starts (pos := p) (env := fx.env) h2
  exact sim_mkExc X K.raised (gl_ok h1).2 (by rw [K.kind]; exact (gl_ok h1).1) hs.1 hs.2 h3

theorem ne_nil_of {α : Type} {l : List α} (h : (!l.isEmpty) = true) : l ≠ [] := fun q => by rw [q] at h; cases h
theorem opt_e {α : Type} {mk : α → Expr} {p : Expr} {o : Option { t : α // p = mk t }} {f : { t : α // p = mk t } → Bool} {r : R V} (h : opt o f = true) (k : ∀ t : { t : α // p = mk t }, f t = true → SimE fx (mk t.1) ρ r) : SimE fx p ρ r :=
  opt_c (C := fun p => SimE fx p ρ r) h k
theorem opt_t {α : Type} {mk : α → Expr} {p : Expr} {o : Option { t : α // p = mk t }} {f : { t : α // p = mk t } → Bool} {r : R V} (h : opt o f = true) (k : ∀ t : { t : α // p = mk t }, f t = true → SimC fx (isTrue (mk t.1) fx.env (eval (mk t.1) fx.env)) ρ r) : SimC fx (isTrue p fx.env (eval p fx.env)) ρ r :=
  opt_c (C := fun p => SimC fx (isTrue p fx.env (eval p fx.env)) ρ r) h k
mutual
theorem ce_ok (K : CxOk fx cx) (X : ExcCls g) (hcl : CallOk g fx.d cl) : ∀ (e : E) (pe : Expr), ce cx e pe = true → SimE fx pe ρ (evalE cl ρ e)
  | .bad, pe, h => sim_bad
  | .chain a b c, pe, h => by cases h
  | .var i, pe, h => opt_e (o := dName pe) h fun t hk => var_ok K (eq_of_beq (bl hk)) (br hk)
  | .none, pe, h => opt_e (o := dNoneC pe) h fun t hk => sim_none
  | .bool b, pe, h => opt_e (o := dBool pe) h fun t hk => (eq_of_beq hk) ▸ sim_bool
  | .int b, pe, h => opt_e (o := dInt pe) h fun t hk => (eq_of_beq hk) ▸ sim_int
  | .str b, pe, h => opt_e (o := dStr pe) h fun t hk => (eq_of_beq hk) ▸ sim_str
  | .bin op a b, pe, h => opt_e (o := dBin pe) h fun t hk => (eq_of_beq (bl (bl hk))) ▸ sim_arith (ce_ok K X hcl a _ (br (bl hk))) (ce_ok K X hcl b _ (br hk))
  | .not a, pe, h => opt_e (o := dNot pe) h fun t hk => sim_not (ce_ok K X hcl a _ hk)
  | .neg a, pe, h => opt_e (o := dNeg pe) h fun t hk => sim_neg (ce_ok K X hcl a _ hk)
  | .inv a, pe, h => opt_e (o := dInv pe) h fun t hk => sim_inv (ce_ok K X hcl a _ hk)
  | .and es, pe, h => opt_e (o := dAnd pe) h fun t hk => sim_boolOp (ceAnd_ok K X hcl es _ hk)
  | .or es, pe, h => opt_e (o := dOr pe) h fun t hk => sim_boolOp (ceOr_ok K X hcl es _ hk)
  | .cmp op a b, pe, h => opt_e (o := dCmp pe) h fun t hk => (eq_of_beq (bl (bl (bl hk)))) ▸ sim_cmp (not_true (eq_of_beq (bl (bl (bl hk))) ▸ br (bl (bl hk)))) (ce_ok K X hcl a _ (br (bl hk))) (ce_ok K X hcl b _ (br hk))
  | .isIn neg a b, pe, h => opt_e (o := dCmp pe) h fun t hk => (eq_of_beq (bl (bl (bl hk)))) ▸ sim_in (not_true (eq_of_beq (bl (bl (bl hk))) ▸ br (bl (bl hk)))) (ce_ok K X hcl a _ (br (bl hk))) (ce_ok K X hcl b _ (br hk))
  | .isNone neg a, pe, h => opt_e (o := dIsN pe) h fun t hk => (eq_of_beq (bl hk)) ▸ sim_isNone (ce_ok K X hcl a _ (br hk))
  | .ite c a b, pe, h => opt_e (o := dIf pe) h fun t hk => sim_ite (cc_ok K X hcl c _ (bl (bl hk))) (ce_ok K X hcl a _ (br (bl hk))) (ce_ok K X hcl b _ (br hk))
  | .call f args, pe, h => opt_e (o := dCall pe) h fun t hk => call_ok K hcl (eq_of_beq (bl (bl hk))) (br (bl hk)) (ceL_stars (br hk)) (ceL_ok K X hcl args _ _ (br hk))
  | .b1 f a, pe, h => opt_e (o := dCall1 pe) h fun t hk => (eq_of_beq (bl (bl (bl hk)))) ▸ sim_b1 (br (bl hk)) (K.bname (eq_of_beq (bl (bl (bl hk))) ▸ br (bl (bl hk)))) (ce_ok K X hcl a _ (br hk))
  | .lower a, pe, h => opt_e (o := dMeth0 pe) h fun t hk => (eq_of_beq (bl (bl (bl hk)))) ▸ sim_lower (br (bl (bl hk))) (br (bl hk)) (ce_ok K X hcl a _ (br hk))
  | .starts a b, pe, h => opt_e (o := dMeth1 pe) h fun t hk => (eq_of_beq (bl (bl (bl (bl (bl hk)))))) ▸ sim_starts (br (bl (bl (bl (bl hk))))) (br (bl (bl (bl hk)))) (br (bl (bl hk))) (ce_ok K X hcl a _ (br (bl hk))) (ce_ok K X hcl b _ (br hk))
  | .join a, pe, h => opt_e (o := dJoin pe) h fun t hk => (eq_of_beq (bl (bl (bl (bl hk))))) ▸ (eq_of_beq (br (bl (bl (bl hk))))) ▸ sim_join (br (bl (bl hk))) (br (bl hk)) (ce_ok K X hcl a _ (br hk))
  | .dict ks vs, pe, h => opt_e (o := dDict pe) h fun t hk => sim_dict (bl (bl (bl (bl (bl hk))))) (eq_of_beq (br (bl (bl (bl (bl hk)))))) (ne_nil_of (br (bl (bl (bl hk))))) (of_decide_eq_true (br (bl (bl hk)))) (of_decide_eq_true (br (bl hk))) (ceD_ok K X hcl vs _ _ ks _ (bl (bl (bl (bl (bl hk))))) (eq_of_beq (br (bl (bl (bl (bl hk)))))) (br hk))
  | .dget d k, pe, h => opt_e (o := dMeth1 pe) h fun t hk => (eq_of_beq (bl (bl (bl (bl (bl hk)))))) ▸ sim_dget (bareBase_ok (br (bl (bl (bl (bl hk)))))) (br (bl (bl (bl hk)))) (br (bl (bl hk))) (ce_ok K X hcl d _ (br (bl hk))) (ce_ok K X hcl k _ (br hk))
  | .didx d k, pe, h => opt_e (o := dSub pe) h fun t hk => sim_didx (bl (bl hk)) (ce_ok K X hcl d _ (br (bl hk))) (ce_ok K X hcl k _ (br hk))
  | .idx a b, pe, h => opt_e (o := dSub pe) h fun t hk => sim_idx (bl (bl hk)) (ce_ok K X hcl a _ (br (bl hk))) (ce_ok K X hcl b _ (br hk))
  | .slTo a hi, pe, h => opt_e (o := dSlTo pe) h fun t hk => sim_slTo (ce_ok K X hcl a _ (bl hk)) (ce_ok K X hcl hi _ (br hk))
  | .slFrom a lo, pe, h => opt_e (o := dSlFrom pe) h fun t hk => sim_slFrom (ce_ok K X hcl a _ (bl hk)) (ce_ok K X hcl lo _ (br hk))
  | .slBoth a lo hi, pe, h => opt_e (o := dSlB pe) h fun t hk => sim_slBoth (ce_ok K X hcl a _ (bl (bl hk))) (ce_ok K X hcl lo _ (br (bl hk))) (ce_ok K X hcl hi _ (br hk))
  | .fstr ps, pe, h => opt_e (o := dJoined pe) h fun t hk => fstr_ok K (of_decide_eq_true (bl hk)) (br hk)
  | .tup es, pe, h => opt_e (o := dTuple pe) h fun t hk => sim_tup (ceL_ok K X hcl es _ _ hk)
  | .lst es, pe, h => opt_e (o := dList pe) h fun t hk => sim_lst (ceL_ok K X hcl es _ _ hk)
  | .mkExc es, pe, h => opt_e (o := dCall pe) h fun t hk => (eq_of_beq (bl (bl hk))) ▸ mkExc_ok K X (eq_of_beq (bl (bl hk)) ▸ br (bl hk)) (ceL_stars (br hk)) (ceL_ok K X hcl es _ _ (br hk))
  | .compCall f src, pe, h => opt_e (o := dComp1 pe) h fun t hk => (eq_of_beq (bl (bl (bl (bl (bl (bl (bl (bl hk))))))))) ▸ (eq_of_beq (br (bl (bl (bl (bl (bl (bl (bl hk))))))))) ▸ sim_compCall hcl (K.gname (eq_of_beq (br (bl (bl (bl (bl (bl (bl hk)))))))) (nodbg_ok (br (bl (bl (bl (bl (bl hk)))))))) (eq_of_beq (br (bl (bl (bl (bl hk)))))) (compSc_ok (br (bl (bl (bl hk))))) (noFree_ok (br (bl (bl hk)))) (notSet_ok (br (bl hk)) _) (ce_ok K X hcl src _ (br hk))
  | .compIdx k src, pe, h => opt_e (o := dComp2 pe) h fun t hk => (eq_of_beq (bl (bl (bl (bl (bl (bl hk))))))) ▸ (eq_of_beq (br (bl (bl (bl (bl (bl hk))))))) ▸ (eq_of_beq (br (bl (bl (bl (bl hk)))))) ▸ sim_compIdx (compSc_ok (br (bl (bl (bl hk))))) (noFree_ok (br (bl (bl hk)))) (notSet_ok (br (bl hk)) _) (ce_ok K X hcl src _ (br hk))
  | .compPair f src w, pe, h => opt_e (o := dComp3 pe) h fun t hk => (eq_of_beq (bl (bl (bl (bl (bl (bl (bl (bl (bl (bl (bl (bl (bl (bl hk))))))))))))))) ▸ (eq_of_beq (br (bl (bl (bl (bl (bl (bl (bl (bl (bl (bl (bl (bl (bl hk))))))))))))))) ▸ Exists.elim (K.cell _ (eq_of_beq (br (bl (bl (bl hk)))))) fun c hc => sim_compPair hcl (K.gname (eq_of_beq (br (bl (bl (bl (bl (bl (bl (bl (bl (bl (bl (bl (bl hk)))))))))))))) (nodbg_ok (br (bl (bl (bl (bl (bl (bl (bl (bl (bl (bl (bl hk)))))))))))))) (eq_of_beq (br (bl (bl (bl (bl (bl (bl (bl (bl (bl (bl hk)))))))))))) (compSc_ok (br (bl (bl (bl (bl (bl (bl (bl (bl (bl hk))))))))))) (compSc_ok (br (bl (bl (bl (bl (bl (bl (bl (bl hk)))))))))) (bne_iff_ne.mp (br (bl (bl (bl (bl (bl (bl (bl hk))))))))) (by rw [K.names]; exact (eq_of_beq (br (bl (bl (bl (bl (bl (bl hk))))))))) (nodbg_ok (br (bl (bl (bl (bl (bl hk))))))) (eq_of_beq (br (bl (bl (bl (bl hk)))))) (by rw [K.kind]; exact (eq_of_beq (br (bl (bl (bl hk)))))) hc (closureFor_one hc (eq_of_beq (br (bl (bl hk))))) (notSet_ok (br (bl hk)) _) (ce_ok K X hcl src _ (br hk))
theorem ceL_ok (K : CxOk fx cx) (X : ExcCls g) (hcl : CallOk g fx.d cl) : ∀ (es : List E) (pes : List Expr) (pos : Pos), ceL cx es pes = true → SimL fx (spliced (backTo pos (starEach pes fx.env))) ρ (evalL cl ρ es)
  | [], pes, _, h => by
    cases pes with
    | nil => exact simL_nil
    | cons _ _ => cases h
  | e :: es, pes, pos, h => by
    obtain ⟨p, ps, rfl, hk⟩ := optl_true h
    simp only [Bool.and_eq_true] at hk
    rw [starEach_cons hk.1.1, backTo_cons]
    exact simL_cons (ce_ok K X hcl e p hk.1.2) (ceL_ok K X hcl es ps pos hk.2)
theorem ceAnd_ok (K : CxOk fx cx) (X : ExcCls g) (hcl : CallOk g fx.d cl) : ∀ (es : List E) (pes : List Expr) {pos : Pos}, ceB cx es pes = true → SimT fx (boolOp pos .And (evalEach pes fx.env)) ρ (evalAnd cl ρ es)
  | [], pes, _, h => by cases h
  | e :: es, pes, _, h => by
    obtain ⟨p, ps, rfl, hk⟩ := optl_true h
    rw [Bool.and_eq_true] at hk
    cases es with
    | nil =>
      cases ps with
      | nil => exact sim_boolOp_one (ce_ok K X hcl e p hk.1)
      | cons _ _ => cases hk.2
    | cons e' es =>
      have ih := fun {pos} => ceAnd_ok K X hcl (e' :: es) ps (pos := pos) hk.2
      cases ps with
      | nil => cases hk.2
      | cons p' ps => exact sim_and_cons (ce_ok K X hcl e p hk.1) ih
theorem ceOr_ok (K : CxOk fx cx) (X : ExcCls g) (hcl : CallOk g fx.d cl) : ∀ (es : List E) (pes : List Expr) {pos : Pos}, ceB cx es pes = true → SimT fx (boolOp pos .Or (evalEach pes fx.env)) ρ (evalOr cl ρ es)
  | [], pes, _, h => by cases h
  | e :: es, pes, _, h => by
    obtain ⟨p, ps, rfl, hk⟩ := optl_true h
    rw [Bool.and_eq_true] at hk
    cases es with
    | nil =>
      cases ps with
      | nil => exact sim_boolOp_one (ce_ok K X hcl e p hk.1)
      | cons _ _ => cases hk.2
    | cons e' es =>
      have ih := fun {pos} => ceOr_ok K X hcl (e' :: es) ps (pos := pos) hk.2
      cases ps with
      | nil => cases hk.2
      | cons p' ps => exact sim_or_cons (ce_ok K X hcl e p hk.1) ih
theorem ceD_ok (K : CxOk fx cx) (X : ExcCls g) (hcl : CallOk g fx.d cl) : ∀ (es : List E) (pes : List Expr) (keys : List (Option Expr)) (ks : List Str) (pos : Pos), keysAre keys ks = true → keys.length = pes.length → ceD cx es pes = true → SimP fx (mkPairs fx.env pos keys pes) ks ρ (evalL cl ρ es)
  | [], pes, keys, ks, _, hk, hl, h => by
    cases pes with
    | cons _ _ => cases h
    | nil =>
      cases keys with
      | cons _ _ => cases hl
      | nil =>
        cases ks with
        | nil => exact simP_nil
        | cons _ _ => cases hk
  | e :: es, pes, keys, ks, pos, hk, hl, h => by
    obtain ⟨p, ps, rfl, hq⟩ := optl_true h
    clear h
    rw [Bool.and_eq_true] at hq
    cases keys with
    | nil => cases hl
    | cons ko keys =>
      obtain ⟨x, kk, q, xs, rfl, rfl, hk2⟩ := keysAre_cons hk
      exact simP_cons (ce_ok K X hcl e p hq.1) (ceD_ok K X hcl es ps keys xs pos hk2 (Nat.succ.inj hl) hq.2)
theorem cc_ok (K : CxOk fx cx) (X : ExcCls g) (hcl : CallOk g fx.d cl) : ∀ (e : E) (pe : Expr), cc cx e pe = true → SimC fx (isTrue pe fx.env (eval pe fx.env)) ρ (evalE cl ρ e)
  | .bad, pe, h => simC_bad
  | .var i, pe, h => opt_t (o := dName pe) h fun t hk => simC_value (var_ok K (eq_of_beq (bl hk)) (br hk)) isTrue_Name
  | .not a, pe, h => opt_t (o := dNot pe) h fun t hk => simC_not (cc_ok K X hcl a _ hk)
  | .and es, pe, h => opt_t (o := dAnd pe) h fun t hk => simC_boolOp (ccAnd_ok K X hcl es _ hk)
  | .or es, pe, h => opt_t (o := dOr pe) h fun t hk => simC_boolOp (ccOr_ok K X hcl es _ hk)
  | .cmp op a b, pe, h => opt_t (o := dCmp pe) h fun t hk => (eq_of_beq (bl (bl (bl hk)))) ▸ simC_cmp' (not_true (eq_of_beq (bl (bl (bl hk))) ▸ br (bl (bl hk)))) (ce_ok K X hcl a _ (br (bl hk))) (ce_ok K X hcl b _ (br hk))
  | .isIn neg a b, pe, h => opt_t (o := dCmp pe) h fun t hk => (eq_of_beq (bl (bl (bl hk)))) ▸ simC_in (not_true (eq_of_beq (bl (bl (bl hk))) ▸ br (bl (bl hk)))) (ce_ok K X hcl a _ (br (bl hk))) (ce_ok K X hcl b _ (br hk))
  | .isNone neg a, pe, h => opt_t (o := dIsN pe) h fun t hk => (eq_of_beq (bl hk)) ▸ simC_isNone (ce_ok K X hcl a _ (br hk))
  | .chain a b c, pe, h => opt_t (o := dChain pe) h fun t hk => simC_chain (not_true (bl (bl (bl hk)))) (ce_ok K X hcl a _ (br (bl (bl hk)))) (ce_ok K X hcl b _ (br (bl hk))) (ce_ok K X hcl c _ (br hk))
  | .call f args, pe, h => opt_t (o := dCall pe) h fun t hk => simC_value (call_ok K hcl (eq_of_beq (bl (bl hk))) (br (bl hk)) (ceL_stars (br hk)) (ceL_ok K X hcl args _ _ (br hk))) isTrue_Call
  | .b1 f a, pe, h => opt_t (o := dCall1 pe) h fun t hk => (eq_of_beq (bl (bl (bl hk)))) ▸ simC_value (sim_b1 (br (bl hk)) (K.bname (eq_of_beq (bl (bl (bl hk))) ▸ br (bl (bl hk)))) (ce_ok K X hcl a _ (br hk))) isTrue_Call
  | .starts a b, pe, h => opt_t (o := dMeth1 pe) h fun t hk => (eq_of_beq (bl (bl (bl (bl (bl hk)))))) ▸ simC_value (sim_starts (br (bl (bl (bl (bl hk))))) (br (bl (bl (bl hk)))) (br (bl (bl hk))) (ce_ok K X hcl a _ (br (bl hk))) (ce_ok K X hcl b _ (br hk))) isTrue_Call
  | .none, pe, h => by cases h
  | .bool b, pe, h => by cases h
  | .int b, pe, h => by cases h
  | .str b, pe, h => by cases h
  | .bin op a b, pe, h => by cases h
  | .neg a, pe, h => by cases h
  | .inv a, pe, h => by cases h
  | .ite c a b, pe, h => by cases h
  | .lower a, pe, h => by cases h
  | .join a, pe, h => by cases h
  | .dict ks vs, pe, h => by cases h
  | .dget d k, pe, h => by cases h
  | .didx d k, pe, h => by cases h
  | .idx a b, pe, h => by cases h
  | .slTo a hi, pe, h => by cases h
  | .slFrom a lo, pe, h => by cases h
  | .slBoth a lo hi, pe, h => by cases h
  | .fstr ps, pe, h => by cases h
  | .tup es, pe, h => by cases h
  | .lst es, pe, h => by cases h
  | .mkExc es, pe, h => by cases h
  | .compCall f src, pe, h => by cases h
  | .compIdx k src, pe, h => by cases h
  | .compPair f src w, pe, h => by cases h
theorem ccAnd_ok (K : CxOk fx cx) (X : ExcCls g) (hcl : CallOk g fx.d cl) : ∀ (es : List E) (pes : List Expr), ccB cx es pes = true → SimC fx (allTrue .And pes fx.env) ρ (evalAnd cl ρ es)
  | [], pes, h => by cases h
  | e :: es, pes, h => by
    obtain ⟨p, ps, rfl, hk⟩ := optl_true h
    rw [Bool.and_eq_true] at hk
    cases es with
    | nil =>
      cases ps with
      | nil => exact simC_and_one (cc_ok K X hcl e p hk.1)
      | cons _ _ => cases hk.2
    | cons e' es =>
      have ih := ccAnd_ok K X hcl (e' :: es) ps hk.2
      cases ps with
      | nil => cases hk.2
      | cons p' ps => exact simC_and_cons (cc_ok K X hcl e p hk.1) ih
theorem ccOr_ok (K : CxOk fx cx) (X : ExcCls g) (hcl : CallOk g fx.d cl) : ∀ (es : List E) (pes : List Expr), ccB cx es pes = true → SimC fx (allTrue .Or pes fx.env) ρ (evalOr cl ρ es)
  | [], pes, h => by cases h
  | e :: es, pes, h => by
    obtain ⟨p, ps, rfl, hk⟩ := optl_true h
    rw [Bool.and_eq_true] at hk
    cases es with
    | nil =>
      cases ps with
      | nil => exact simC_or_one (cc_ok K X hcl e p hk.1)
      | cons _ _ => cases hk.2
    | cons e' es =>
      have ih := ccOr_ok K X hcl (e' :: es) ps hk.2
      cases ps with
      | nil => cases hk.2
      | cons p' ps => exact simC_or_cons (cc_ok K X hcl e p hk.1) ih
end
end
end Mine
end
section
open PySem PySem.Calls PyProof.Rows PySem.SeqAt
namespace Mine
set_option linter.unusedVariables false
set_option maxHeartbeats 4000000

section
variable {g : Gd} {fx : Fx g} {ρ : Rho} {cl : Nat → List V → R V} {cx : Cx}

theorem pos_Name {x : Str} {p : Pos} : (Expr.Name x p).pos = p := rfl
theorem pos_Tup {l : List Expr} {k : Nat} {p : Pos} : (Expr.Tuple l k p).pos = p := rfl
theorem swapped_other {x y : Str} {px py tp : Pos} {k : Nat} {v : Expr} (h1 : isTupleE v = false) (h2 : isListE v = false) : swappedStores [.Tuple [.Name x px, .Name y py] k tp] v fx.env = pure none := by
  cases v with
  | Tuple _ _ _ => cases h1
  | List _ _ => cases h2
  | _ => rfl
noncomputable def isStar : Expr → Bool := fun e => match e with | .Starred .. => true | _ => false
noncomputable def nmF (env : Env) (px : Pos) : Expr → Option Str := fun e => match e with | .Name id pos => if (env.kindOf id == some .local && pos.line == px.line) = true then some id else none | _ => none
theorem nmF_ok {env : Env} {px q : Pos} {x : Str} (h : env.kindOf x = some .local) (e : px.line = q.line) : nmF env px (.Name x q) = some x :=
  if_pos (by rw [h, e]; exact beq_self_eq_true q.line)
theorem swap_eq {x y : Str} {px py tp p2 : Pos} {k k2 : Nat} {a b : Expr} {env : Env} : swappedStores [.Tuple [.Name x px, .Name y py] k tp] (.Tuple [a, b] k2 p2) env =
    (if (env.blockKind != .function) = true then pure none else if (isStar a || (isStar b || false)) = true then pure none else
      (fun names : List Str => if (names.length != 2 || names.eraseDups.length != names.length) = true then pure none else if (foldedForSure 8 a && (foldedForSure 8 b && true)) = true then pure none else
        if (constantsAlone 8 a && (constantsAlone 8 b && true)) = true then unsupported "assign.tuple-of-constant-expressions:order-of-the-stores" else pure (some names))
      (List.filterMap (nmF env px) [Expr.Name x px, Expr.Name y py])) := rfl
theorem not_star {e : Expr} (h : notStar e = true) : isStar e = false := by cases e <;> first | rfl | cases h
theorem csw_ok (K : CxOk fx cx) {x y : Str} {px py tp : Pos} {k : Nat} {v : Expr} (h : csw cx x px y py v = true) :
    swappedStores [.Tuple [.Name x px, .Name y py] k tp] v fx.env = pure none ∨ swappedStores [.Tuple [.Name x px, .Name y py] k tp] v fx.env = pure (some [x, y]) := by
  refine ((Bool.or_eq_true _ _).mp h).elim (fun h => .inl (swapped_other (not_true (bl h)) (not_true (br h)))) fun h => ?_
  refine opt_c (C := fun v => swappedStores [.Tuple [.Name x px, .Name y py] k tp] v fx.env = pure none ∨ swappedStores [.Tuple [.Name x px, .Name y py] k tp] v fx.env = pure (some [x, y])) h fun t hk => ?_
  have e : swappedStores [.Tuple [.Name x px, .Name y py] k tp] (.Tuple [t.1.1, t.1.2.1] t.1.2.2.1 t.1.2.2.2) fx.env = if ([x, y].length != 2 || [x, y].eraseDups.length != [x, y].length) = true then pure none else if (foldedForSure 8 t.1.1 && (foldedForSure 8 t.1.2.1 && true)) = true then pure none else
      if (constantsAlone 8 t.1.1 && (constantsAlone 8 t.1.2.1 && true)) = true then unsupported "assign.tuple-of-constant-expressions:order-of-the-stores" else pure (some [x, y]) := by
    have hb : (fx.env.blockKind != .function) = false := by unfold Env.blockKind; rw [fx.O.kind]; rfl
    rw [swap_eq, hb, not_star (br (bl (bl hk))), not_star (br (bl hk)),
      List.filterMap_cons_some (nmF_ok ((K.kind x).trans (eq_of_beq (br (bl (bl (bl (bl (bl hk)))))))) rfl),
      List.filterMap_cons_some (nmF_ok ((K.kind y).trans (eq_of_beq (br (bl (bl (bl (bl hk))))))) (eq_of_beq (bl (bl (bl (bl (bl (bl hk))))))))]
    rfl
  rw [e]
  cases ([x, y].length != 2 || [x, y].eraseDups.length != [x, y].length) with
  | true => exact .inl rfl
  | false =>
  rw [Bool.and_true, Bool.and_true]
  cases hf : (foldedForSure 8 t.1.1 && foldedForSure 8 t.1.2.1) with
  | true => exact .inl rfl
  | false =>
    have hc := ((Bool.or_eq_true _ _).mp (br hk)).resolve_left (by rw [hf]; exact Bool.false_ne_true)
    rw [not_true hc]
    exact .inr rfl
theorem toldB_ok {n : Str} {e : Expr} (h : toldB n e = true) : ToldE n e := opt_c (C := ToldE n) h fun t hk =>
  eq_of_beq (bl (bl (bl (bl (bl (bl hk)))))) ▸ (eq_of_beq (br (bl (bl (bl (bl (bl hk))))))).symm ▸ (eq_of_beq (br (bl (bl (bl (bl hk)))))).symm ▸ (eq_of_beq (br (bl (bl (bl hk))))).symm ▸ eq_of_beq (br (bl (bl hk))) ▸ eq_of_beq (br (bl hk)) ▸ eq_of_beq (br hk) ▸ .mk

theorem augOp_ok {op : AOp} (h : augOp op = true) : op = .add ∨ op = .sub := by cases op <;> first | exact .inl rfl | exact .inr rfl | cases h

theorem not_contains {n : Str} (h : (!excAttrs.contains n) = true) : n ∉ excAttrs := by
  intro q
  rw [List.contains_iff_mem.mpr q] at h
  cases h

theorem range_boot : bootBuiltins (Str.ofString "range") = some (.type "range") := by decide +kernel
theorem range_main : Str.ofString "range" ≠ "__name__" := by decide +kernel

theorem CxOk.nm (K : CxOk fx cx) {i : Nat} {x : Str} (h : (cx.names[i]? == some x) = true) : fx.names[i]? = some x := K.names ▸ eq_of_beq h
theorem CxOk.knd (K : CxOk fx cx) {x : Str} {k : NameKind} (h : (cx.kinds.lookup x == some k) = true) : fx.env.kindOf x = some k := (K.kind x).trans (eq_of_beq h)
theorem handE_ok (K : CxOk fx cx) {n : Str} {he : Expr} : ∀ {h0 : Option Nat}, tryH cx h0 n he = true → HandE fx n h0 he
  | none, h => .told (toldB_ok h)
  | some d, h => opt_c (o := dEq1 he) (C := HandE fx n (some d)) h fun t hk => .same (K.nm (br (bl (bl hk)))) (nodbg_ok (br (bl hk))) (bne_iff_ne.mp (br hk)) (toldB_ok (bl (bl (bl hk))))
theorem try_ok (K : CxOk fx cx) (X : ExcCls g) {pb : List Stmt} {x n : Str} {he : Expr} {xp rp hp pos : Pos} {rb : Option Out} (h0 : Option Nat) (hb : SimS fx pb ρ rb) (hx : x = Str.ofString "Raised") (hg : gl cx x = true) (hn : (cx.kinds.lookup n == some .local) = true) (hd : nodbg n = true)
    (hc : (!excAttrs.contains n) = true) (hh : tryH cx h0 n he = true) : Sim1 fx (.Try pb [.ExceptHandler (some (.Name x xp)) (some n) [.Return (some he) rp] hp] [] [] pos) ρ (tryOut h0 rb) :=
  sim1_try X hb (hx ▸ K.raised) (gl_ok hg).2 ((K.kind _).trans (gl_ok hg).1) (K.knd hn) (nodbg_ok hd) (handE_ok K hh) (not_contains hc)
theorem opt_s {α : Type} {mk : α → Stmt} {p : Stmt} {o : Option { t : α // p = mk t }} {f : { t : α // p = mk t } → Bool} {ρ : Rho} {r : Option Out} (h : opt o f = true) (k : ∀ t : { t : α // p = mk t }, f t = true → Sim1 fx (mk t.1) ρ r) : Sim1 fx p ρ r :=
  opt_c (C := fun p => Sim1 fx p ρ r) h k

theorem CxOk.rng (K : CxOk fx cx) (h : gl cx (Str.ofString "range") = true) : BName fx (Str.ofString "range") (.type "range") := ⟨(K.kind _).trans (gl_ok h).1, K.range, range_main, range_boot, (gl_ok h).2⟩
theorem isNoneE_ok {e : E} (h : isNoneE e = true) : e = .none := by cases e <;> first | rfl | cases h
mutual
theorem cs1_ok (K : CxOk fx cx) (X : ExcCls g) (hcl : CallOk g fx.d cl) : ∀ (s : S) (ps : Stmt), cs1 cx s ps = true → ∀ ρ, Sim1 fx ps ρ (exec cl s ρ)
  | .bad, ps, h, ρ => fun h => absurd rfl h
  | .assign i e, pe, h, ρ => opt_s (o := sAssign pe) h fun t hk => sim1_assign (K.var _ _ (eq_of_beq (bl (bl hk)))) (br (bl hk)) (ce_ok K X hcl e _ (br hk))
  | .unpack2 i j e, pe, h, ρ => opt_s (o := sAssign2 pe) h fun t hk => sim1_unpack (K.var _ _ (eq_of_beq (bl (bl (bl (bl (bl hk))))))) (K.var _ _ (eq_of_beq (br (bl (bl (bl (bl hk))))))) (bne_iff_ne.mp (br (bl (bl (bl hk))))) (br (bl (bl hk))) (csw_ok K (br (bl hk))) (ce_ok K X hcl e _ (br hk))
  | .aug i op e, pe, h, ρ => opt_s (o := sAug pe) h fun t hk => (eq_of_beq (br (bl hk))) ▸ sim1_aug (K.var _ _ (eq_of_beq (bl (bl (bl hk))))) (augOp_ok (br (bl (bl hk)))) (ce_ok K X hcl e _ (br hk))
  | .append i e, pe, h, ρ => opt_s (o := sAppend pe) h fun t hk => (eq_of_beq (bl (bl (bl (bl (bl hk)))))) ▸ sim1_append (K.nm (br (bl (bl (bl (bl hk)))))) (nodbg_ok (br (bl (bl (bl hk))))) (br (bl (bl hk))) (br (bl hk)) (ce_ok K X hcl e _ (br hk))
  | .pop i j, pe, h, ρ => opt_s (o := sPop pe) h fun t hk => (eq_of_beq (bl (bl (bl (bl hk))))) ▸ sim1_pop (K.var _ _ (eq_of_beq (br (bl (bl (bl hk)))))) (K.nm (br (bl (bl hk)))) (nodbg_ok (br (bl hk))) (br hk)
  | .expr e, pe, h, ρ => opt_s (o := sExpr pe) h fun t hk => sim1_expr (bl hk) (ce_ok K X hcl e _ (br hk))
  | .ite c a b, pe, h, ρ => opt_s (o := sIf pe) h fun t hk => sim1_if (cc_ok K X hcl c _ (bl (bl hk))) (cs_ok K X hcl a _ (br (bl hk)) ρ) (cs_ok K X hcl b _ (br hk) ρ)
  | .while c a, pe, h, ρ => opt_s (o := sWhile pe) h fun t hk => sim1_while (fun ρ => cc_ok K X hcl c _ (bl hk)) (fun ρ => cs_ok K X hcl a _ (br hk) ρ) FUEL
  | .for i e a, pe, h, ρ => opt_s (o := sFor pe) h fun t hk => sim1_for (K.var _ _ (eq_of_beq (bl (bl (bl hk))))) (notSet_ok (br (bl (bl hk))) _) (ce_ok K X hcl e _ (br (bl hk))) (fun ρ => cs_ok K X hcl a _ (br hk) ρ)
  | .forVar i k a, pe, h, ρ => opt_s (o := sForVar pe) h fun t hk => sim1_forVar (K.var _ _ (eq_of_beq (bl (bl (bl hk))))) (K.nm (br (bl (bl hk)))) (nodbg_ok (br (bl hk))) (fun ρ => cs_ok K X hcl a _ (br hk) ρ)
  | .forRange i e a, pe, h, ρ => opt_s (o := sForRange pe) h fun t hk => (eq_of_beq (br (bl (bl (bl (bl hk)))))) ▸ sim1_forRange (K.var _ _ (eq_of_beq (bl (bl (bl (bl (bl hk))))))) (br (bl (bl hk))) (K.rng (eq_of_beq (br (bl (bl (bl (bl hk))))) ▸ br (bl (bl (bl hk))))) (ce_ok K X hcl e _ (br (bl hk))) (fun ρ => cs_ok K X hcl a _ (br hk) ρ)
  | .raise e, pe, h, ρ => opt_s (o := sRaise pe) h fun t hk => sim1_raise X (ce_ok K X hcl e _ hk)
  | .ret e, ps, h, ρ => ((Bool.or_eq_true _ _).mp h).elim (fun h => opt_s (br h) fun t _ => isNoneE_ok (bl h) ▸ sim1_ret_none) fun h => opt_s h fun t hk => sim1_ret (ce_ok K X hcl e _ hk)
  | .try a i h0, ps, h, ρ => opt_s (o := sTry ps) h fun t hk => try_ok K X h0 (cs_ok K X hcl a _ (bl (bl (bl (bl (bl (bl hk)))))) ρ) (eq_of_beq (br (bl (bl (bl (bl (bl hk))))))) (br (bl (bl (bl (bl hk))))) (br (bl (bl (bl hk)))) (br (bl (bl hk))) (br (bl hk)) (br hk)
  | .cont, ps, h, ρ => opt_s (o := sCont ps) h fun t hk => sim1_cont
theorem cs_ok (K : CxOk fx cx) (X : ExcCls g) (hcl : CallOk g fx.d cl) : ∀ (ss : List S) (ps : List Stmt), cs cx ss ps = true → ∀ ρ, SimS fx ps ρ (execs cl ss ρ)
  | [], ps, h, ρ => by
    cases ps with
    | nil => exact simS_nil
    | cons _ _ => cases h
  | s :: ss, ps, h, ρ => by
    obtain ⟨p, r, rfl, hk⟩ := optl_true h
    rw [Bool.and_eq_true] at hk
    exact simS_cons (cs1_ok K X hcl s p hk.1 ρ) (fun ρ' => cs_ok K X hcl ss r hk.2 ρ')
end
end
end Mine
end
section
open PySem PySem.Calls PyProof.Rows PySem.SeqAt
set_option genInjectivity false
set_option genSizeOf false
namespace Mine
set_option linter.unusedVariables false

/-- what a whole text's facts are -/
structure GOk (g : Gd) : Prop where
  fns : ∀ x f, ids.lookup x = some f → g.mg x = some (.ref (g.fa f)) ∧ ∃ o fd, g.base.get? (g.fa f) = some o ∧ o.data = .func fd
  bfree : ∀ f : B1, g.mg (b1name f) = none
  range : g.mg (Str.ofString "range") = none
  raised : g.mg (Str.ofString "Raised") = some (.ref g.C)

theorem lookup_mem {α : Type} {l : List (Str × α)} {x : Str} {a : α} (h : l.lookup x = some a) : (x, a) ∈ l := by
  induction l with
  | nil => simp at h
  | cons p r ih =>
    obtain ⟨n, b⟩ := p
    rw [List.lookup_cons] at h
    cases hx : x == n with
    | true => rw [hx] at h; cases h; rw [eq_of_beq hx]; exact List.mem_cons_self ..
    | false => rw [hx] at h; exact List.mem_cons_of_mem _ (ih h)

theorem mkFn {g : Gd} {f : Nat} {fn : Fn} {o : Obj} {fd : FuncData} {body : List Stmt} {names : List Str} {dv : List Value} (G : GOk g) (X : ExcCls g)
    (obj : g.base.get? (g.fa f) = some o) (dat : o.data = .func fd) (hbody : fd.body = .stmts body) (code : g.base.CodeRec fd.code fd.qualname) (hok : fdOk fd body names fn = true)
    (dflt : RepL g.base fn.defaults dv)
    (binds : ∀ (s : Shared), g.base.StaysIn s.heap → ∀ us : List Value, (us.length = fn.nparams → BindsTo s fd ⟨us, []⟩ (names.zip us)) ∧ (us.length + fn.defaults.length = fn.nparams → BindsTo s fd ⟨us, []⟩ (names.zip (us ++ dv)))) :
    Nonempty (FnOk g (callN P) f fn) := by
  unfold fdOk at hok
  simp only [Bool.and_eq_true, beq_iff_eq, Bool.not_eq_true', List.all_eq_true, List.isEmpty_iff, decide_eq_true_eq] at hok
  obtain ⟨⟨⟨⟨⟨⟨⟨⟨⟨⟨⟨⟨h1, h2⟩, h3⟩, h4⟩, h5⟩, h6⟩, h7⟩, h8⟩, h9⟩, h10⟩, h11⟩, h12⟩, h13⟩ := hok
  have hcell : ∀ x ∈ fd.scope.names, x.2 ≠ .cell := fun x hx q => by have := h4 x hx; rw [q] at this; cases this
  refine ⟨⟨o, fd, body, names, dv, obj, dat, h1, h2, h3, hcell, h5, h6, h7, code, hbody, h11, h10, h9, h8, dflt, List.all_eq_true.mpr h12, binds, fun d fx hcl hd hn ⟨L, he⟩ ρ => ?_⟩⟩
  subst hd
  refine cs_ok (cx := ⟨names, fd.scope.names, ids⟩) ⟨hn, fun x => by rw [he]; rfl, fun i x hx => ⟨by rw [hn]; exact hx, .inl ?_⟩, fun x hx => ?_, G.fns, G.bfree, G.range, G.raised⟩ X hcl fn.body body h13 ρ
  · rw [he]; exact h8 x (List.mem_of_getElem? hx)
  · exact absurd rfl (hcell _ (lookup_mem hx))

theorem len1 {us : List Value} (h : us.length = 1) : ∃ a, us = [a] := List.length_eq_one_iff.mp h
theorem len2 {us : List Value} (h : us.length = 2) : ∃ a b, us = [a, b] := by
  match us, h with
  | [a, b], _ => exact ⟨a, b, rfl⟩
theorem len3 {us : List Value} (h : us.length = 3) : ∃ a b c, us = [a, b, c] := by
  match us, h with
  | [a, b, c], _ => exact ⟨a, b, c, rfl⟩
end Mine
end
section
open PySem PySem.Calls PyProof.Rows PySem.SeqAt
set_option maxRecDepth 100000
set_option maxHeartbeats 4000000
set_option linter.unusedVariables false
namespace Mine
theorem zip_some : ∀ {ns : List Str} {us : List Value}, us.length = ns.length → ∀ x ∈ ns, ((ns.zip us).lookup x).isNone = false
  | [], _, _, x, h => by cases h
  | n :: ns, [], e, _, _ => by cases e
  | n :: ns, u :: us, e, x, h => by
    rw [List.zip_cons_cons, List.lookup_cons]
    cases q : x == n with
    | true => rfl
    | false =>
      rcases List.mem_cons.mp h with rfl | h
      · rw [beq_self_eq_true] at q; cases q
      · exact zip_some (Nat.succ.inj e) x h
theorem zip_map : ∀ {ns : List Str} {us : List Value} (l : List (Str × Value)), (∀ p ∈ ns.zip us, l.lookup p.1 = some p.2) → us.length = ns.length → ns.filterMap (fun n => (l.lookup n).map (n, ·)) = ns.zip us
  | [], _, _, _, _ => rfl
  | n :: ns, [], _, _, e => by cases e
  | n :: ns, u :: us, l, h, e => by
    rw [List.zip_cons_cons, List.filterMap_cons, h (n, u) (List.mem_cons_self ..)]
    show _ :: _ = _
    rw [zip_map l (fun p hp => h p (List.mem_cons_of_mem _ hp)) (Nat.succ.inj e)]
theorem zip_self : ∀ {ns : List Str} {us : List Value}, ns.Nodup → ∀ p ∈ ns.zip us, (ns.zip us).lookup p.1 = some p.2
  | [], _, _, p, h => by cases h
  | n :: ns, [], _, p, h => by cases h
  | n :: ns, u :: us, nd, p, h => by
    rw [List.zip_cons_cons, List.lookup_cons]
    rcases List.mem_cons.mp h with rfl | h
    · rw [beq_self_eq_true]
    · have : p.1 ≠ n := fun e => (List.nodup_cons.mp nd).1 (e ▸ (List.of_mem_zip h).1)
      rw [beq_eq_false_iff_ne.mpr this]
      exact zip_self (List.nodup_cons.mp nd).2 p h

theorem ite_no {α : Type} {c : Prop} [Decidable c] {x y z : α} (h : ¬ c) (k : y = z) : (if c then x else y) = z := (if_neg h).trans k
/-- a def without defaults binds its names one by one -/
theorem bind_plain {fd : FuncData} {us : List Value} {ns : List Str} (h1 : fd.params.posonlyargs = []) (h2 : fd.params.kwonlyargs = []) (h3 : fd.params.vararg = none) (h4 : fd.params.kwarg = none)
    (h5 : fd.defaults = .none) (h6 : fd.params.args.map (·.arg) = ns) (nd : ns.Nodup) (hl : us.length = ns.length) : bindArgs fd ⟨us, []⟩ = pure (ns.zip us) := by
  have hm : ns.filter (fun n => ((ns.zip us).lookup n).isNone) = [] := List.filter_eq_nil_iff.mpr fun x hx => by rw [zip_some hl x hx]; decide
  have hz := zip_map (ns.zip us) (zip_self nd) hl
  obtain ⟨n, q, ⟨po, as, va, kwo, kwd, kwa, de⟩, b, sc, gl, cl, df, kd, dc, pm, an, cd, ct, bu⟩ := fd
  dsimp only at h1 h2 h3 h4 h5 h6
  subst h1 h2 h3 h4 h5
  refine ite_no (c := (decide (us.length > (as.map (·.arg)).length) && true) = true) ?_ ?_
  · rw [h6, hl, decide_eq_false (Nat.lt_irrefl _)]; decide
  have hD : List.drop (0 - (([] : List Str) ++ List.map Arg.arg as).length) ([] : List Value) = [] := List.drop_nil
  refine ite_no (c := (!(((([] : List Str) ++ List.map Arg.arg as).take ((([] : List Str) ++ List.map Arg.arg as).length - (List.drop (0 - (([] : List Str) ++ List.map Arg.arg as).length) ([] : List Value)).length)).filter (fun n => (((([] : List Str) ++ List.map Arg.arg as).zip us).lookup n).isNone)).isEmpty) = true) ?_ ?_
  · rw [hD, List.nil_append, show List.map Arg.arg as = ns from h6]; show ¬ ((!((ns.take ns.length).filter _).isEmpty) = true); rw [List.take_length, hm]; decide
  refine (congrArg (fun D : List Value => (forIn (m := Sem) (((([] : List Str) ++ List.map Arg.arg as).drop ((([] : List Str) ++ List.map Arg.arg as).length - D.length)).zip D) _ _ >>= _)) hD).trans ?_
  rw [List.zip_nil_right]
  exact congrArg (pure (f := Sem)) ((congrArg (List.filterMap _) (List.append_nil _)).trans (h6 ▸ hz))
theorem codeOk_ok {h : Heap} {cd : Value} {q : Str} (e : codeOk h cd q = true) : h.CodeRec cd q := by
  unfold codeOk at e
  split at e
  · split at e
    · split at e
      · have := eq_of_beq e; subst this
        exact ⟨_, _, _, _, rfl, by assumption, rfl, by assumption⟩
      · cases e
    · cases e
  · cases e
theorem isNil_ok {v : Value} (e : isNil v = true) : v = .none := by cases v <;> first | rfl | cases e

theorem zip_take {ns : List Str} {us : List Value} : (ns.take us.length).zip us = ns.zip us := by
  induction us generalizing ns with
  | nil => simp
  | cons u us ih => cases ns with
    | nil => simp
    | cons n ns => simp [ih]
theorem fdAt_ok {h : Heap} {a : Addr} {fd : FuncData} (e : fdAt h a = some fd) : ∃ o, h.get? a = some o ∧ o.data = .func fd := by
  unfold fdAt at e
  split at e
  · cases e; exact ⟨_, by assumption, rfl⟩
  · cases e
theorem fnAt_ok {g : Gd} {h : Heap} {f : Nat} {fn : Fn} {names : List Str} {p : Arguments × List Stmt × Scope} (up : ∀ b o, h.get? b = some o → g.base.get? b = some o) (G : GOk g) (X : ExcCls g) (e : (fdAt h (g.fa f)).any (fnDyn h) = true)
    (hp : (fdAt h (g.fa f)).map partsOf = some (p.1, .stmts p.2.1, p.2.2)) (hs : statF f fn names p = true) : Nonempty (FnOk g (callN P) f fn) := by
  obtain ⟨fd, ho, e⟩ := any_of e
  obtain ⟨o, ho', hd⟩ := fdAt_ok ho
  rw [ho] at hp
  obtain ⟨ep, eq⟩ := Prod.mk.inj (Option.some.inj hp)
  obtain ⟨eb, es⟩ := Prod.mk.inj eq
  obtain ⟨e, d5⟩ := Bool.and_eq_true_iff.mp e
  obtain ⟨e, d4⟩ := Bool.and_eq_true_iff.mp e
  obtain ⟨e, d3⟩ := Bool.and_eq_true_iff.mp e
  obtain ⟨d1, d2⟩ := Bool.and_eq_true_iff.mp e
  obtain ⟨hs, s9⟩ := Bool.and_eq_true_iff.mp hs
  obtain ⟨hs, s8⟩ := Bool.and_eq_true_iff.mp hs
  obtain ⟨hs, s6⟩ := Bool.and_eq_true_iff.mp hs
  obtain ⟨hs, s5⟩ := Bool.and_eq_true_iff.mp hs
  obtain ⟨hs, s4⟩ := Bool.and_eq_true_iff.mp hs
  obtain ⟨s1, s3⟩ := Bool.and_eq_true_iff.mp hs
  obtain ⟨ca, co, vs, t, k1, k2, k3, k4⟩ := codeOk_ok d4
  have e9 : fn.defaults = [] := List.isEmpty_iff.mp s9
  have e1 : fdOk fd p.2.1 names fn = true := by
    unfold fdOk
    rw [es, List.isEmpty_iff.mp d1, eq_of_beq d2, eq_of_beq d3]
    exact s1
  have hn : names.Nodup ∧ fn.nparams ≤ names.length := by
    have := e1
    unfold fdOk at this
    simp only [Bool.and_eq_true, decide_eq_true_eq, beq_iff_eq] at this
    exact ⟨this.1.1.2, this.1.1.1.2 ▸ this.1.1.1.1.2⟩
  have key : ∀ (s : Shared) (us : List Value), us.length = fn.nparams → BindsTo s fd ⟨us, []⟩ (names.zip us) := fun s us hu => by
    have hl : us.length = (names.take fn.nparams).length := by rw [List.length_take, Nat.min_eq_left hn.2, hu]
    refine .of_eq ((bind_plain (by rw [show fd.params = p.1 from ep]; exact List.isEmpty_iff.mp s3) (by rw [show fd.params = p.1 from ep]; exact List.isEmpty_iff.mp s4) (by rw [show fd.params = p.1 from ep]; exact Option.isNone_iff_eq_none.mp s5) (by rw [show fd.params = p.1 from ep]; exact Option.isNone_iff_eq_none.mp s6)
      (isNil_ok d5) (by rw [show fd.params = p.1 from ep]; exact eq_of_beq s8) (hn.1.sublist (List.take_sublist ..)) hl).trans ?_)
    rw [← hu, zip_take]
  refine mkFn (dv := []) G X (up _ _ ho') hd eb ⟨ca, co, vs, t, k1, up _ _ k2, k3, k4⟩ e1 (by rw [e9]; exact RepL.nil) fun s st us => ⟨fun hu => key s us hu, fun hu => ?_⟩
  rw [e9] at hu
  rw [List.append_nil]
  exact key s us hu
/- what the text alone tells: four looks -/
theorem stat_1 : (served.take 12).all statOk = true := by kernel_rfl
theorem stat_2 : ((served.drop 12).take 14).all statOk = true := by kernel_rfl
theorem stat_3 : ((served.drop 26).take 16).all statOk = true := by kernel_rfl
theorem stat_4 : (served.drop 42).all statOk = true := by kernel_rfl
theorem stat_all {f : Nat} (h : f ∈ served) : statOk f = true := by
  rw [← List.take_append_drop 12 served] at h
  rcases List.mem_append.mp h with h | h
  · exact List.all_eq_true.mp stat_1 f h
  rw [← List.take_append_drop 14 (served.drop 12), List.drop_drop] at h
  rcases List.mem_append.mp h with h | h
  · exact List.all_eq_true.mp stat_2 f h
  rw [← List.take_append_drop 16 (served.drop (12 + 14)), List.drop_drop] at h
  rcases List.mem_append.mp h with h | h
  · exact List.all_eq_true.mp stat_3 f h
  · exact List.all_eq_true.mp stat_4 f h

theorem noneV_ok {v : Option Value} (e : noneV v = true) : v = none := by cases v <;> first | rfl | cases e
theorem refV_ok {a : Addr} {v : Option Value} (e : refV a v = true) : v = some (.ref a) := by
  unfold refV at e
  split at e
  · rw [eq_of_beq e]
  · cases e
theorem funcAt_ok {h : Heap} {a : Addr} (e : funcAt h a = true) : ∃ o fd, h.get? a = some o ∧ o.data = .func fd := by
  unfold funcAt at e
  split at e
  · exact ⟨_, _, by assumption, rfl⟩
  · cases e

theorem globs_ok {g : Gd} {h : Heap} (up : ∀ b o, h.get? b = some o → g.base.get? b = some o) (e : globsOk h = true) (hfa : g.fa = fa) (hC : g.C = 65) : GOk g ∧ g.mg (Str.ofString "Exception") = none := by
  unfold globsOk at e
  simp only [Bool.and_eq_true, List.all_eq_true] at e
  obtain ⟨⟨⟨⟨⟨h0, h1⟩, h2⟩, h3⟩, h4⟩, h5⟩ := e
  have em : g.mg = h.nsMap mainGlobals := by
    obtain ⟨o, es, ep, ho, hd, hk, hf⟩ := Heap.Ns.of_isNs h0
    rw [g.hg.eq_nsMap]
    unfold Heap.nsMap
    rw [ho, up _ _ ho]
  refine ⟨⟨fun x f hx => ?_, fun f => ?_, ?_, ?_⟩, ?_⟩
  · obtain ⟨q1, q2⟩ := h1 _ (lookup_mem hx)
    obtain ⟨o, fd, e1, e2⟩ := funcAt_ok q2
    rw [hfa, em]
    exact ⟨refV_ok q1, o, fd, up _ _ e1, e2⟩
  · rw [em]
    exact noneV_ok (h2 f (by cases f <;> simp))
  · rw [em]; exact noneV_ok h3
  · rw [em, hC]; exact refV_ok h4
  · rw [em]; exact noneV_ok h5

end Mine
end
section
open PySem PySem.Calls PyProof.Rows PySem.SeqAt
set_option maxRecDepth 100000
set_option maxHeartbeats 4000000
set_option linter.unusedVariables false
namespace Mine
section
variable {Q : Params} {g : Gd}
theorem raised_keys (Q : Params) : StrKeys (raisedNs Q) := by
  intro e he
  have h : (raisedNs Q).toList = [_, _, _, _, _, _] := rfl
  have he : e ∈ (raisedNs Q).toList := by simpa using he
  rw [h] at he
  simp only [List.mem_cons, List.not_mem_nil, or_false] at he
  rcases he with rfl | rfl | rfl | rfl | rfl | rfl <;> exact ⟨_, _, rfl⟩

theorem excCls (hK : (frag Q).In g.base) (hcd : g.base.CodeRec (.ref 61) (Str.ofString "Raised.__init__")) (hC : g.C = 65) (hf : g.mg (Str.ofString "Exception") = none) : Nonempty (ExcCls g) :=
  ⟨{ N := 64, mN := fun x => nsFind (raisedNs Q) x, nm := _, q := _, bs := _, sn := _, sub := _, ab := _, col := _, dd := _, k0 := _, k1 := _, k2 := _, k3 := _, k5 := _
     hC := by rw [hC]; exact hK 65 _ rfl
     hN := ⟨_, raisedNs Q, _, hK 64 _ rfl, rfl, raised_keys Q, fun _ => rfl⟩
     fI := 62, oI := _, fd := initFd, body := _
     init := rfl, noSet := rfl, noGet := rfl, noHook := rfl
     quiet := by
       intro n hn
       simp only [excAttrs, List.mem_cons, List.not_mem_nil, or_false] at hn
       rcases hn with rfl | rfl | rfl | rfl | rfl | rfl | rfl | rfl | rfl <;> rfl
     hfI := hK 62 _ rfl
     hfc := rfl, hfd := rfl
     code := hcd
     hbody := rfl
     text := .mk rfl
     kind := rfl, coro := rfl, gen := rfl
     cell := by decide +kernel
     loc := by decide +kernel
     exc := rfl, glob := rfl, bi := rfl, free := hf
     binds := fun s st a b c d => ⟨_, _, .of_defaults rfl (st _ _ (hK 55 _ rfl)) rfl rfl rfl⟩ }⟩
theorem fn_0 (hK : (frag Q).In g.base) (hcd : g.base.CodeRec (.ref 76) (Str.ofString "error")) (hfa : g.fa = fa) (G : GOk g) (X : ExcCls g) : Nonempty (FnOk g (callN P) 0 F_error) :=
  mkFn (names := N_F_error) (dv := [.ref 69]) (fd := errFd) G X (by rw [hfa]; exact hK 77 _ rfl) rfl rfl hcd (by decide +kernel) (RepL.cons ⟨69, _, _, rfl, hK 69 _ rfl, RepL.cons ⟨_, rfl⟩ RepL.nil⟩ RepL.nil)
    (fun s st us => ⟨fun h => by obtain ⟨a, b, rfl⟩ := len2 h; exact .of_defaults rfl (st _ _ (hK 70 _ rfl)) rfl rfl rfl, fun h => by
      obtain ⟨a, rfl⟩ := len1 (Nat.succ.inj h); exact .of_defaults rfl (st _ _ (hK 70 _ rfl)) rfl rfl rfl⟩)
theorem P_none : ∀ n, P (n + 57) = none := fun n => rfl
theorem tbl {h0 : Heap} (up : ∀ b o, h0.get? b = some o → g.base.get? b = some o) (ok : fnsOk h0 = true) (pt : (served.map fun f => (fdAt h0 (fa f)).map partsOf) = served.map fun f => some ((partsIn f).1, .stmts (partsIn f).2.1, (partsIn f).2.2))
    (hK : (frag Q).In g.base) (hcd : g.base.CodeRec (.ref 76) (Str.ofString "error")) (hfa : g.fa = fa) (G : GOk g) (X : ExcCls g)
    (f : Nat) (fn : Fn) (hf : P f = some fn) : Nonempty (FnOk g (callN P) f fn) := by
  cases f with
  | zero => cases hf; exact fn_0 hK hcd hfa G X
  | succ f =>
    have hl : f + 1 < 57 := Nat.lt_of_not_le fun h => by
      obtain ⟨n, e⟩ := Nat.exists_eq_add_of_le h
      rw [e, Nat.add_comm 57 n, P_none] at hf
      cases hf
    have hm : f + 1 ∈ served := List.mem_filter.mpr ⟨List.mem_drop_iff_getElem.mpr ⟨f, by simp; (first | lia | omega), by simp; (first | lia | omega)⟩, by rw [hf]; rfl⟩
    have st := stat_all hm
    unfold statOk at st
    rw [hf] at st
    cases q : (fnames[f + 1]?).bind (·.2) with
    | none => rw [q] at st; cases st
    | some ns =>
      rw [q] at st
      exact fnAt_ok up G X (by rw [hfa]; exact List.all_eq_true.mp ok _ hm) (by rw [hfa]; exact List.map_inj_left.mp pt _ hm) st
end
end Mine
end
section
open PySem PySem.Calls PyProof.Rows PySem.SeqAt
set_option maxRecDepth 100000
set_option maxHeartbeats 4000000
set_option linter.unusedVariables false
namespace Mine

/-- the law's own frame, walked -/
theorem law_walk {prog : Program} {w : World} {base h₁ : Heap} {mg mb : Str → Option Value} (hK : hook.says w base) (hg : base.Ns mainGlobals mg) (hb : base.Ns builtinsNs mb) (hnl : base.NoLimit)
    (hbi : ∀ x : Str, x ≠ "__name__" → mb x = bootBuiltins x) {name : Str} {scope : Scope} {body : List Stmt} {fL : Addr} {cd : Value} {l : Addr} {items : Array Value} {n : Nat} {vs : List V} {m : Str → Option Value} {wc : Option Value} {d : Nat}
    {s : Shared} (hs : s.heap = h₁) (hd200 : d ≤ 200)
    (hns : h₁.Ns base.objs.size m) (hm : m (Str.ofString "script") = some (.ref l)) (keep : ∀ b o, base.get? b = some o → h₁.get? b = some o) (hcell : h₁.IsCell (base.objs.size + 1) wc)
    (hl : IsL base l items n) (hr : RepL base vs items.toList)
    (hkind : scope.kind = .function) (hcells : cellsFrom (base.objs.size + 1) scope.names [] = [(Str.ofString "way", base.objs.size + 1)])
    (hscript : scope.names.lookup (Str.ofString "script") = some .local) (hways : ∀ x, scope.names.lookup x = some .cell → x = Str.ofString "way")
    (hnames : ∀ x ∈ N_L_law, scope.names.lookup x = some .local ∨ scope.names.lookup x = some .cell) (hcs : cs ⟨N_L_law, scope.names, ids⟩ B_L_law body = true)
    (hrun : execs (callN P d) B_L_law (startRho L_law [.lst false vs]) = some (.ret (.bool true))) {E : Value → Shared → Prop} {Q : Flow → Shared → Prop}
    (k : ∀ s', (∀ b o, base.get? b = some o → s'.heap.get? b = some o) → Same s s' → Q (.ret (.bool true)) s') :
    wpAny (model prog w) (callerA.deeper (envOfC name scope base.objs.size fL cd)) (PySem.execs body (envOfC name scope base.objs.size fL cd)) Q E s := by
  let g : Gd := ⟨prog, w, base, 65, mg, mb, fa, hg, hb, hnl, hbi⟩
  obtain ⟨h0, ok, hK, up, pt⟩ := hK
  unfold headOk at ok
  simp only [Bool.and_eq_true] at ok
  obtain ⟨⟨⟨ok1, ok2⟩, ok3⟩, ok4⟩ := ok
  obtain ⟨G, hexc⟩ := globs_ok (g := g) up ok2 rfl rfl
  have codeUp : ∀ {cd q}, h0.CodeRec cd q → base.CodeRec cd q := fun ⟨c, o, vs, t, k1, k2, k3⟩ => ⟨c, o, vs, t, k1, up _ _ k2, k3⟩
  obtain ⟨X⟩ := excCls (g := g) hK (codeUp (codeOk_ok ok3)) rfl hexc
  have hcl : CallOk g d (callN P d) := callOk_all (tbl up ok1 pt hK (codeUp (codeOk_ok ok4)) rfl G X) d
  have hL : base.get? base.objs.size = none := Heap.get?_none_of_le (Nat.le_refl _)
  have hC : base.get? (base.objs.size + 1) = none := Heap.get?_none_of_le (Nat.le_succ _)
  have ec : (envOfC name scope base.objs.size fL cd).cells = [(Str.ofString "way", base.objs.size + 1)] := hcells
  have lc : ∀ x c, (envOfC name scope base.objs.size fL cd).cells.lookup x = some c → x = Str.ofString "way" ∧ c = base.objs.size + 1 := fun x c h => by
    rw [ec, List.lookup_cons] at h
    cases hx : x == Str.ofString "way" with
    | true => rw [hx] at h; cases h; exact ⟨eq_of_beq hx, rfl⟩
    | false => rw [hx] at h; simp at h
  have O : EnvOk (envOfC name scope base.objs.size fL cd) base.objs.size := ⟨hkind, rfl, rfl, rfl, rfl, fun x y c e hx hy hne => absurd ((lc x c hx).1.trans (lc y e hy).1.symm) hne⟩
  let fx : Fx g := ⟨envOfC name scope base.objs.size fL cd, [], N_L_law, base.objs.size, callerA.deeper (envOfC name scope base.objs.size fL cd), d, O, rfl, rfl, by decide +kernel,
    (by show 1 + claimMargin + 1 + d ≤ 900; have : claimMargin = 300 := rfl; (first | lia | omega)), (by show 4 + 3 + 40 * d + 200 ≤ 9000; (first | lia | omega))⟩
  have var : ∀ i x, N_L_law[i]? = some x → NmOk fx i x := fun i x hx => ⟨hx, by
    rcases hnames x (List.mem_of_getElem? hx) with h | h
    · exact .inl h
    · refine .inr ⟨h, base.objs.size + 1, ?_⟩
      show (envOfC name scope base.objs.size fL cd).cells.lookup x = _
      rw [ec, hways x h]
      simp [List.lookup_cons]⟩
  have K : CxOk fx ⟨N_L_law, scope.names, ids⟩ := ⟨rfl, fun x => rfl, var, fun x hx => ⟨base.objs.size + 1, by
      show (envOfC name scope base.objs.size fL cd).cells.lookup x = _
      rw [ec, hways x hx]
      simp [List.lookup_cons]⟩, G.fns, G.bfree, G.range, G.raised⟩
  have S : fx.St base s.heap (startRho L_law [.lst false vs]) := by
    rw [hs]
    obtain ⟨oL, esL, epL, eL, hdL, _⟩ := id hns
    have hF : FrNs (fr (fx.env :: [])) h₁ := by
      rw [fr_cons (L := base.objs.size) rfl]
      intro b hb
      rcases List.mem_cons.mp hb with rfl | hb
      · exact ⟨oL, esL, epL, eL, hdL⟩
      · simp [fr] at hb
    have hgets : ∀ i v, get (startRho L_law [.lst false vs]) i = some v → i = 0 ∧ v = .lst false vs := fun i v hi => by
      unfold get startRho at hi
      cases i with
      | zero => simp at hi; exact ⟨rfl, hi.symm⟩
      | succ i =>
        simp only [List.map_cons, List.map_nil, List.cons_append, List.nil_append, List.getElem?_cons_succ, List.getElem?_replicate] at hi
        split at hi <;> cases hi
    refine ⟨⟨keep, ⟨by rw [show fx.env.scope.kind = .function from hkind]; decide, ⟨base.objs.size, oL, rfl, hL, eL, fun vs q => by rw [hdL] at q; cases q⟩, trivial⟩, hF⟩,
      .of_keeps keep, fun b o e => e, hL, fun x c e => by rw [(lc x c e).2]; exact hC, by rfl, m, fun _ => wc, fun _ => .ref l, hns, fun x c e => by rw [(lc x c e).2]; exact hcell, fun i v hi => ?_, fun i j us o ws hne hi hj => ?_⟩
    · obtain ⟨rfl, rfl⟩ := hgets i v hi
      refine ⟨Str.ofString "script", rfl, .inl ⟨hscript, hm⟩, ⟨l, items, n, rfl, keep _ _ hl, hr.tups fun b its k e => keep _ _ e⟩, fun a q => by cases q; exact ⟨_, hl⟩⟩
    · have := (hgets i _ hi).2; cases this
  have hrun' : execs (callN P d) L_law.body (startRho L_law [.lst false vs]) = some (.ret (.bool true)) := hrun
  refine wpAny_mono (cs_ok K X hcl B_L_law body hcs _ (by rw [hrun]; simp) s base S) (fun f s' o => ?_) fun x s' o => ?_
  · cases f with
    | next => obtain ⟨ρ', e, _⟩ := o; rw [hrun] at e; cases e
    | cont => obtain ⟨ρ', e, _⟩ := o; rw [hrun] at e; cases e
    | brk => exact o.elim
    | ret u =>
      obtain ⟨v, e, k1, k2, k3, k4⟩ := o
      rw [hrun] at e; cases e
      have : u = .bool true := k4
      subst this
      exact k s' (fun b o eb => (k2 b o eb).2 (by show b ∉ fr ([] : List Env); simp [fr])) k3
  · obtain ⟨a, ev, ρ', _, e, _⟩ := o
    rw [hrun] at e; cases e
end Mine
end
section
open PySem
namespace Mine
set_option linter.unusedVariables false
set_option linter.unusedSectionVars false

section
variable (cl : Nat → List V → R V) (ρ : Rho)
noncomputable def kBin1 (op : AOp) (x y : V) : R V := R.of (arith op x y)
noncomputable def kBin (op : AOp) (b : E) (x : V) : R V := R.bind (evalE cl ρ b) (kBin1 op x)
noncomputable def kNot (x : V) : R V := R.of ((truth x).map fun b => .bool (!b))
noncomputable def kNeg (x : V) : R V := R.of ((isInt x).map fun n => .int (-n))
noncomputable def kInv (x : V) : R V := R.of ((isInt x).map fun n => .int (Builtin.bitNot n))
noncomputable def kCmp1 (op : COp) (x y : V) : R V := R.of ((vcmp op x y).map .bool)
noncomputable def kCmp (op : COp) (b : E) (x : V) : R V := R.bind (evalE cl ρ b) (kCmp1 op x)
noncomputable def kIn1 (n : Bool) (x y : V) : R V := R.of ((isInV x y).map fun r => .bool (r != n))
noncomputable def kIn (n : Bool) (b : E) (x : V) : R V := R.bind (evalE cl ρ b) (kIn1 n x)
noncomputable def kCh2 (n : Int) (z : V) : R V := R.of ((isInt z).map fun k => .bool (decide (n ≤ k)))
noncomputable def kCh1 (c : E) (x y : V) : R V := match x, y with
  | .int m, .int n => if m ≤ n then R.bind (evalE cl ρ c) (kCh2 n) else some (.ok (.bool false))
  | _, _ => Option.none
noncomputable def kCh (b c : E) (x : V) : R V := R.bind (evalE cl ρ b) (kCh1 cl ρ c x)
noncomputable def kIte (a b : E) (x : V) : R V := match truth x with
    | some true => evalE cl ρ a
    | some false => evalE cl ρ b
    | Option.none => Option.none
noncomputable def kB1 (f : B1) (x : V) : R V := R.of (builtin1 f x)
noncomputable def kJoin (x : V) : R V := match x with
    | .lst _ vs => R.of ((strIs vs).bind fun l => if JoinOk Str.empty l = true then some (.str (Txt.join Str.empty l)) else Option.none)
    | _ => Option.none
noncomputable def kDict (ks : List Str) (xs : List V) : R V := if ks.length = xs.length ∧ xs.all noList = true then some (.ok (.dict (ks.zip xs))) else Option.none
noncomputable def kDget1 (kvs : List (Str × V)) (y : V) : R V := match y with
      | .str s => some (.ok ((dlook kvs s).getD .none))
      | _ => Option.none
noncomputable def kDget (k : E) (x : V) : R V := match x with
    | .dict kvs => R.bind (evalE cl ρ k) (kDget1 kvs)
    | _ => Option.none
noncomputable def kDidx1 (kvs : List (Str × V)) (y : V) : R V := match y with
      | .str s => R.of (dlook kvs s)
      | _ => Option.none
noncomputable def kDidx (k : E) (x : V) : R V := match x with
    | .dict kvs => R.bind (evalE cl ρ k) (kDidx1 kvs)
    | _ => Option.none
noncomputable def kIdx1 (x y : V) : R V := R.of (vidx x y)
noncomputable def kIdx (b : E) (x : V) : R V := R.bind (evalE cl ρ b) (kIdx1 x)
noncomputable def kSlTo1 (x y : V) : R V := R.of (vslTo x y)
noncomputable def kSlTo (b : E) (x : V) : R V := R.bind (evalE cl ρ b) (kSlTo1 x)
noncomputable def kSlFrom1 (x y : V) : R V := R.of (vslFrom x y)
noncomputable def kSlFrom (b : E) (x : V) : R V := R.bind (evalE cl ρ b) (kSlFrom1 x)
noncomputable def kSlB2 (x y z : V) : R V := R.of (vslBoth x y z)
noncomputable def kSlB1 (c : E) (x y : V) : R V := R.bind (evalE cl ρ c) (kSlB2 x y)
noncomputable def kSlB (b c : E) (x : V) : R V := R.bind (evalE cl ρ b) (kSlB1 cl ρ c x)
noncomputable def kFs (vs : List V) : R V := R.of ((strIs vs).bind fun l => if (l.map (·.length)).sum ≤ 1000000 then some (.str (l.foldl (· ++ ·) Str.empty)) else Option.none)
noncomputable def kTup (vs : List V) : R V := if vs.all noList && decide (vs.length ≤ 1000) then some (.ok (.tup vs)) else Option.none
noncomputable def kLst (vs : List V) : R V := if vs.all noList && decide (vs.length ≤ 1000) then some (.ok (.lst true vs)) else Option.none
noncomputable def kExc (vs : List V) : R V := match vs with
    | [x, y, z] => if noList x && noList y && noList z then some (.ok (.exc x y z)) else Option.none
    | _ => Option.none
noncomputable def kCp1 (f : Nat) (x y : V) : R V := compPairV cl f y x
noncomputable def kCp (f w : Nat) (x : V) : R V := R.bind (R.of ((get ρ w).bind freeze)) (kCp1 cl f x)
noncomputable def kL1 (x : V) (xs : List V) : R (List V) := some (.ok (x :: xs))
noncomputable def kL (r : List E) (x : V) : R (List V) := if plain x then R.bind (evalL cl ρ r) (kL1 x) else Option.none
noncomputable def kAnd (r : List E) (x : V) : R V := match truth x with
    | some true => evalAnd cl ρ r
    | some false => some (.ok x)
    | Option.none => Option.none
noncomputable def kOr (r : List E) (x : V) : R V := match truth x with
    | some true => some (.ok x)
    | some false => evalOr cl ρ r
    | Option.none => Option.none
noncomputable def thenX (o : Option Out) (k : Rho → Option Out) : Option Out := match o with
    | some (.next ρ') => k ρ'
    | o => o
noncomputable def kAs (i : Nat) (v : V) : Option Out := if storable v then some (.next (put ρ i v)) else Option.none
noncomputable def kUn (i j : Nat) (v : V) : Option Out := match pairOf v with
    | some (x, y) => some (.next (put (put ρ i x) j y))
    | Option.none => Option.none
noncomputable def kAug1 (i : Nat) (op : AOp) (a : Int) (v : V) : Option Out := (augV op a v).map fun z => .next (put ρ i z)
noncomputable def kAug (i : Nat) (op : AOp) (e : E) (g : Option V) : Option Out := match g with
    | some (.int a) => onE ρ (evalE cl ρ e) (kAug1 ρ i op a)
    | _ => Option.none
noncomputable def kAp1 (i : Nat) (g : Option V) (v : V) : Option Out := match g with
      | some (.lst true vs) => if noList v && decide (vs.length ≤ 1000000) then some (.next (put ρ i (.lst true (vs ++ [v])))) else Option.none
      | _ => Option.none
noncomputable def kAp (i : Nat) (e : E) (g : Option V) : Option Out := match g with
    | some (.lst true _) => onE ρ (evalE cl ρ e) (kAp1 ρ i (get ρ i))
    | _ => Option.none
noncomputable def kPop (i j : Nat) (g : Option V) : Option Out := match g with
    | some (.lst true vs) => match vs.getLast? with
      | some v => if i ≠ j ∧ vs.length ≤ 1000000 then some (.next (put (put ρ j (.lst true vs.dropLast)) i v)) else Option.none
      | Option.none => Option.none
    | _ => Option.none
noncomputable def kFv (i : Nat) (body : List S) (g : Option V) : Option Out := match g with
    | some (.lst false vs) => if vs.length ≤ 1000000 then forL i (fun ρ => execs cl body ρ) vs ρ else Option.none
    | _ => Option.none
noncomputable def kEx (v : V) : Option Out := match v with
    | .none => some (.next ρ)
    | _ => Option.none
noncomputable def kSi (a b : List S) (x : V) : Option Out := match truth x with
    | some true => execs cl a ρ
    | some false => execs cl b ρ
    | Option.none => Option.none
noncomputable def kRet (v : V) : Option Out := some (.ret v)
noncomputable def kRa (v : V) : Option Out := match v with
    | .exc .. => some (.exc v ρ)
    | _ => Option.none
end

/-- an answer stays -/
noncomputable def Le {α : Type} (x y : Option α) : Prop := ∀ r, x = some r → y = some r
theorem Le.refl {α : Type} (x : Option α) : Le x x := fun _ h => h
theorem Le.none {α : Type} (y : Option α) : Le (Option.none) y := fun _ h => by cases h
theorem Le.bind {α β : Type} {x y : R α} {f g : α → R β} (h : Le x y) (k : ∀ a, Le (f a) (g a)) : Le (R.bind x f) (R.bind y g) := by
  intro r e
  match x, h, e with
  | some (.error v), h, e => rw [h _ rfl]; exact e
  | some (.ok a), h, e => rw [h _ rfl]; exact k a r e
theorem Le.bind1 {α β : Type} {x y : R α} {f : α → R β} (h : Le x y) : Le (R.bind x f) (R.bind y f) := h.bind fun _ => .refl _
theorem Le.onE {ρ : Rho} {x y : R V} {f g : V → Option Out} (h : Le x y) (k : ∀ a, Le (f a) (g a)) : Le (onE ρ x f) (onE ρ y g) := by
  intro r e
  match x, h, e with
  | some (.error v), h, e => rw [h _ rfl]; exact e
  | some (.ok a), h, e => rw [h _ rfl]; exact k a r e
theorem Le.ite {α : Type} {c : Prop} [Decidable c] {x y z : Option α} (h : Le x y) : Le (if c then x else z) (if c then y else z) := by
  by_cases q : c
  · rw [if_pos q, if_pos q]; exact h
  · rw [if_neg q, if_neg q]; exact .refl _
theorem Le.strict {α β : Type} {x y : Option α} {f : Option α → Option β} (n : f Option.none = Option.none) (h : Le x y) : Le (f x) (f y) := by
  cases x with
  | none => rw [n]; exact .none _
  | some a => rw [h a rfl]; exact .refl _
theorem Le.then {x y : Option Out} {f g : Rho → Option Out} (h : Le x y) (k : ∀ ρ, Le (f ρ) (g ρ)) : Le (thenX x f) (thenX y g) := by
  cases x with
  | none => exact .none _
  | some a => rw [h a rfl]; cases a <;> first | exact k _ | exact .refl _
/-- a loop's step -/
noncomputable def goX (o : Option Out) (k : Rho → Option Out) : Option Out := match o with
  | some (.next ρ') => k ρ'
  | some (.cont ρ') => k ρ'
  | o => o
theorem Le.go {x y : Option Out} {f g : Rho → Option Out} (h : Le x y) (k : ∀ ρ, Le (f ρ) (g ρ)) : Le (goX x f) (goX y g) := by
  cases x with
  | none => exact .none _
  | some a => rw [h a rfl]; cases a <;> first | exact k _ | exact .refl _
theorem Le.onE1 {ρ : Rho} {x y : R V} {f : V → Option Out} (h : Le x y) : Le (Mine.onE ρ x f) (Mine.onE ρ y f) := h.onE fun _ => .refl _

section
variable {c1 c2 : Nat → List V → R V} (h : ∀ f vs, Le (c1 f vs) (c2 f vs))
include h
theorem mapR_le {f g : V → R V} (k : ∀ v, Le (f v) (g v)) : ∀ vs, Le (mapR f vs) (mapR g vs)
  | [] => .refl _
  | v :: r => (k v).bind fun _ => (mapR_le k r).bind1
theorem scalars_le {x y : R (List V)} (k : Le x y) : Le (scalars x) (scalars y) := by
  intro r e
  match x, k, e with
  | some (.ok xs), k, e => rw [k _ rfl]; exact e
theorem compCallV_le (f : Nat) (v : V) : Le (compCallV c1 f v) (compCallV c2 f v) := by
  cases v <;> try exact .refl _
  all_goals
    unfold compCallV
    dsimp only
    split
    · exact scalars_le h (mapR_le h (fun v => h f _) _)
    · exact .refl _
theorem compPairV_le (f : Nat) (y v : V) : Le (compPairV c1 f y v) (compPairV c2 f y v) := by
  cases v <;> try exact .refl _
  unfold compPairV
  dsimp only
  split
  · refine scalars_le h (mapR_le h (fun v => ?_) _)
    unfold pairV
    split
    · exact h f _
    · exact .refl _
  · exact .refl _
mutual
theorem evalE_le (ρ : Rho) : ∀ e : E, Le (evalE c1 ρ e) (evalE c2 ρ e)
  | .bad | .var _ | .none | .bool _ | .int _ | .str _ => .refl _
  | .bin op a b => (evalE_le ρ a).bind fun _ => (evalE_le ρ b).bind1
  | .not a => (evalE_le ρ a).bind1
  | .neg a => (evalE_le ρ a).bind1
  | .inv a => (evalE_le ρ a).bind1
  | .and es => evalAnd_le ρ es
  | .or es => evalOr_le ρ es
  | .cmp op a b => (evalE_le ρ a).bind fun _ => (evalE_le ρ b).bind1
  | .isIn neg a b => (evalE_le ρ a).bind fun _ => (evalE_le ρ b).bind1
  | .isNone neg a => (evalE_le ρ a).bind1
  | .chain a b c => (evalE_le ρ a).bind fun x => (evalE_le ρ b).bind fun y => by
      cases x <;> try exact .refl _
      cases y <;> try exact .refl _
      dsimp only
      split
      · exact (evalE_le ρ c).bind1
      · exact .refl _
  | .ite c a b => (evalE_le ρ c).bind fun x => by
      cases truth x with
      | none => exact .refl _
      | some b => cases b <;> exact evalE_le ρ _
  | .call f args => (evalL_le ρ args).bind fun _ => h f _
  | .b1 f a => (evalE_le ρ a).bind1
  | .lower a => (evalE_le ρ a).bind1
  | .starts a b => (evalE_le ρ a).bind fun x => by
      cases x <;> try exact .refl _
      exact (evalE_le ρ b).bind1
  | .join a => (evalE_le ρ a).bind1
  | .dict ks vs => (evalL_le ρ vs).bind1
  | .dget d k => (evalE_le ρ d).bind fun x => by
      cases x <;> try exact .refl _
      exact (evalE_le ρ k).bind1
  | .didx d k => (evalE_le ρ d).bind fun x => by
      cases x <;> try exact .refl _
      exact (evalE_le ρ k).bind1
  | .idx a b => (evalE_le ρ a).bind fun _ => (evalE_le ρ b).bind1
  | .slTo a b => (evalE_le ρ a).bind fun _ => (evalE_le ρ b).bind1
  | .slFrom a b => (evalE_le ρ a).bind fun _ => (evalE_le ρ b).bind1
  | .slBoth a b c => (evalE_le ρ a).bind fun _ => (evalE_le ρ b).bind fun _ => (evalE_le ρ c).bind1
  | .fstr ps => (evalL_le ρ ps).bind1
  | .tup es => (evalL_le ρ es).bind1
  | .lst es => (evalL_le ρ es).bind1
  | .mkExc es => (evalL_le ρ es).bind1
  | .compCall f src => (evalE_le ρ src).bind fun _ => compCallV_le h f _
  | .compIdx k src => (evalE_le ρ src).bind1
  | .compPair f src w => (evalE_le ρ src).bind fun _ => (Le.refl _).bind fun _ => compPairV_le h f _ _
theorem evalL_le (ρ : Rho) : ∀ es : List E, Le (evalL c1 ρ es) (evalL c2 ρ es)
  | [] => .refl _
  | e :: r => (evalE_le ρ e).bind fun x => by
      split
      · exact (evalL_le ρ r).bind1
      · exact .refl _
theorem evalAnd_le (ρ : Rho) : ∀ es : List E, Le (evalAnd c1 ρ es) (evalAnd c2 ρ es)
  | [] => .refl _
  | [e] => evalE_le ρ e
  | e :: e2 :: r => (evalE_le ρ e).bind fun x => by
      cases truth x with
      | none => exact .refl _
      | some b =>
        cases b
        · exact .refl _
        · exact evalAnd_le ρ (e2 :: r)
theorem evalOr_le (ρ : Rho) : ∀ es : List E, Le (evalOr c1 ρ es) (evalOr c2 ρ es)
  | [] => .refl _
  | [e] => evalE_le ρ e
  | e :: e2 :: r => (evalE_le ρ e).bind fun x => by
      cases truth x with
      | none => exact .refl _
      | some b =>
        cases b
        · exact evalOr_le ρ (e2 :: r)
        · exact .refl _
end
theorem loopN_le {t1 t2 : Rho → R V} {b1 b2 : Rho → Option Out} (ht : ∀ ρ, Le (t1 ρ) (t2 ρ)) (hb : ∀ ρ, Le (b1 ρ) (b2 ρ)) : ∀ n ρ, Le (loopN t1 b1 n ρ) (loopN t2 b2 n ρ)
  | 0, _ => .refl _
  | n + 1, ρ => (ht ρ).onE fun x => by
      cases truth x with
      | none => exact .refl _
      | some b =>
        cases b
        · exact .refl _
        · exact Le.go (hb ρ) (loopN_le ht hb n)
theorem forL_le (i : Nat) {b1 b2 : Rho → Option Out} (hb : ∀ ρ, Le (b1 ρ) (b2 ρ)) : ∀ vs ρ, Le (forL i b1 vs ρ) (forL i b2 vs ρ)
  | [], _ => .refl _
  | v :: vs, ρ => Le.go (hb _) (forL_le i hb vs)
mutual
theorem exec_le : ∀ (s : S) (ρ : Rho), Le (exec c1 s ρ) (exec c2 s ρ)
  | .bad, _ | .pop _ _, _ | .cont, _ => .refl _
  | .assign i e, ρ => (evalE_le h ρ e).onE1
  | .unpack2 i j e, ρ => (evalE_le h ρ e).onE1
  | .aug i op e, ρ => by
      show Le (kAug c1 ρ i op e (get ρ i)) (kAug c2 ρ i op e (get ρ i))
      generalize get ρ i = x
      cases x with
      | none => exact .refl _
      | some v => cases v <;> first | exact .refl _ | exact (evalE_le h ρ e).onE1
  | .append i e, ρ => by
      show Le (kAp c1 ρ i e (get ρ i)) (kAp c2 ρ i e (get ρ i))
      generalize q : get ρ i = x
      cases x with
      | none => exact .refl _
      | some v => cases v <;> first | exact .refl _ | (rename_i o l; cases o <;> first | exact .refl _ | exact (evalE_le h ρ e).onE1)
  | .expr e, ρ => (evalE_le h ρ e).onE1
  | .ite c a b, ρ => (evalE_le h ρ c).onE fun x => by
      cases truth x with
      | none => exact .refl _
      | some b => cases b <;> exact execs_le _ _
  | .while c body, ρ => loopN_le h (fun ρ => evalE_le h ρ c) (fun ρ => execs_le body ρ) _ _
  | .for i e body, ρ => (evalE_le h ρ e).onE fun x => by
      cases itemsOf x with
      | none => exact .refl _
      | some l => exact Le.ite (forL_le h i (fun ρ => execs_le body ρ) _ _)
  | .forVar i k body, ρ => by
      show Le (kFv c1 ρ i body (get ρ k)) (kFv c2 ρ i body (get ρ k))
      generalize get ρ k = x
      cases x with
      | none => exact .refl _
      | some v =>
        cases v <;> first
          | exact .refl _
          | (rename_i o l; cases o
             · exact Le.ite (forL_le h i (fun ρ => execs_le body ρ) _ _)
             · exact .refl _)
  | .forRange i e body, ρ => (evalE_le h ρ e).onE fun x => by
      cases x <;> first | exact .refl _ | exact Le.ite (forL_le h i (fun ρ => execs_le body ρ) _ _)
  | .ret e, ρ => (evalE_le h ρ e).onE1
  | .raise e, ρ => (evalE_le h ρ e).onE1
  | .try body i hd, ρ => by
      have q := execs_le body ρ
      show Le (tryOut hd (execs c1 body ρ)) (tryOut hd (execs c2 body ρ))
      exact Le.strict rfl q
theorem execs_le : ∀ (ss : List S) (ρ : Rho), Le (execs c1 ss ρ) (execs c2 ss ρ)
  | [], _ => .refl _
  | s :: r, ρ => Le.then (exec_le s ρ) (execs_le r)
end
end

theorem endOf_le {x y : Option Out} (h : Le x y) : Le (endOf x) (endOf y) := by
  intro r e
  cases x with
  | none => cases e
  | some o => rw [h _ rfl]; exact e

theorem callN_succ_le (P : Nat → Option Fn) : ∀ d f args, Le (callN P d f args) (callN P (d + 1) f args)
  | 0, _, _ => .none _
  | d + 1, f, args => by
      intro r e
      unfold callN at e ⊢
      split at e <;> rename_i hp
      · cases e
      · split at e <;> rename_i ha
        · cases e
        · exact endOf_le (execs_le (callN_succ_le P d) _ _) r e

theorem callN_le (P : Nat → Option Fn) {d d' : Nat} (h : d ≤ d') (f : Nat) (args : List V) : Le (callN P d f args) (callN P d' f args) := by
  induction h with
  | refl => exact .refl _
  | step _ ih => exact fun r e => callN_succ_le P _ f args r (ih r e)
theorem mx {a b c d : Nat} (h1 : a ≤ b) (h2 : c ≤ d) : max a c ≤ max b d := Nat.max_le.mpr ⟨Nat.le_trans h1 (Nat.le_max_left _ _), Nat.le_trans h2 (Nat.le_max_right _ _)⟩
theorem le_1 {a b n : Nat} (h : max a b + 1 ≤ n + 1) : a ≤ n := Nat.le_trans (Nat.le_max_left _ _) (Nat.le_of_succ_le_succ h)
theorem le_2 {a b n : Nat} (h : max a b + 1 ≤ n + 1) : b ≤ n := Nat.le_trans (Nat.le_max_right _ _) (Nat.le_of_succ_le_succ h)
theorem le_3 {a b c n : Nat} (h : max a (max b c) + 1 ≤ n + 1) : b ≤ n := Nat.le_trans (Nat.le_max_left _ _) (Nat.le_trans (Nat.le_max_right _ _) (Nat.le_of_succ_le_succ h))
theorem le_4 {a b c n : Nat} (h : max a (max b c) + 1 ≤ n + 1) : c ≤ n := Nat.le_trans (Nat.le_max_right _ _) (Nat.le_trans (Nat.le_max_right _ _) (Nat.le_of_succ_le_succ h))
end Mine
end
section
open PySem
set_option genInjectivity false
set_option genSizeOf false
namespace Mine
set_option linter.unusedVariables false
set_option linter.unusedSimpArgs false

theorem call_of {d f : Nat} {fn : Fn} {args : List V} {ρ : Rho} {body : List S} (h : P f = some fn) (hρ : ((freezeAll args).bind (fillArgs fn)).map (startRho fn) = some ρ) (hb : fn.body = body) : callN P (d + 1) f args = endOf (execs (callN P d) body ρ) := by
  subst hb
  show (match P f with | Option.none => Option.none | some fn => match (freezeAll args).bind (fillArgs fn) with | Option.none => Option.none | some as => endOf (execs (callN P d) fn.body (startRho fn as))) = _
  rw [h]
  dsimp only
  cases hq : (freezeAll args).bind (fillArgs fn) with
  | none => rw [hq] at hρ; cases hρ
  | some as =>
    rw [hq] at hρ
    simp only [Option.map_some, Option.some.injEq] at hρ
    dsimp only
    rw [hρ]

/-- values that a tuple may bear, told by looks at constructors -/
@[reducible] noncomputable def okV (v : V) (a : Bool) : Bool := V.casesOn v a (fun _ => a) (fun _ => a) (fun _ => a) (fun _ => a) (fun _ _ => false) (fun _ => false) (fun _ _ _ => false)
@[reducible] noncomputable def okT (l : List V) : List Unit → Bool := List.rec (fun _ => true) (fun v _ ih f => List.casesOn f false fun _ f => okV v (ih f)) l
theorem okV_ok {v : V} {a : Bool} (h : okV v a = true) : noList v = true ∧ a = true := by cases v <;> first | exact ⟨rfl, h⟩ | cases h
@[simp] theorem okT_nil {f : List Unit} : okT [] f = true := rfl
@[simp] theorem okT_none {r : List V} {u : Unit} {f : List Unit} : okT (.none :: r) (u :: f) = okT r f := rfl
@[simp] theorem okT_bool {b : Bool} {r : List V} {u : Unit} {f : List Unit} : okT (.bool b :: r) (u :: f) = okT r f := rfl
@[simp] theorem okT_int {b : Int} {r : List V} {u : Unit} {f : List Unit} : okT (.int b :: r) (u :: f) = okT r f := rfl
@[simp] theorem okT_str {b : Str} {r : List V} {u : Unit} {f : List Unit} : okT (.str b :: r) (u :: f) = okT r f := rfl
@[simp] theorem okT_tup {b : List V} {r : List V} {u : Unit} {f : List Unit} : okT (.tup b :: r) (u :: f) = okT r f := rfl
theorem okT_ok : ∀ {l : List V} {f : List Unit}, okT l f = true → l.all noList = true ∧ l.length ≤ f.length
  | [], _, _ => ⟨rfl, Nat.zero_le _⟩
  | v :: r, [], h => nomatch h
  | v :: r, u :: f, h => by
    have h' := okV_ok h
    have ih := okT_ok h'.2
    exact ⟨by rw [List.all_cons, h'.1, ih.1]; rfl, Nat.succ_le_succ ih.2⟩
theorem okT_if {α : Type} {l : List V} {a b : α} (h : okT l [(), (), (), (), (), (), (), (), (), ()] = true) : (if (l.all noList && decide (l.length ≤ 1000)) = true then a else b) = a :=
  if_pos (by rw [(okT_ok h).1, decide_eq_true (Nat.le_trans (okT_ok h).2 (by decide))]; rfl)
section
variable {cl : Nat → List V → R V} {ρ : Rho}
@[simp] theorem k_tup_of {vs : List V} (h : okT vs [(), (), (), (), (), (), (), (), (), ()] = true) : kTup vs = some (.ok (.tup vs)) := okT_if h
@[simp] theorem k_lst_of {vs : List V} (h : okT vs [(), (), (), (), (), (), (), (), (), ()] = true) : kLst vs = some (.ok (.lst true vs)) := okT_if h
@[simp] theorem ev_bad : evalE cl ρ .bad = Option.none := rfl
@[simp] theorem ev_var {i : Nat} : evalE cl ρ (.var i) = R.of ((get ρ i).bind freeze) := rfl
@[simp] theorem ev_none : evalE cl ρ .none = some (.ok .none) := rfl
@[simp] theorem ev_bool {b : Bool} : evalE cl ρ (.bool b) = some (.ok (.bool b)) := rfl
@[simp] theorem ev_int {b : Int} : evalE cl ρ (.int b) = some (.ok (.int b)) := rfl
@[simp] theorem ev_str {b : Str} : evalE cl ρ (.str b) = some (.ok (.str b)) := rfl
@[simp] theorem ev_bin {op : AOp} {a b : E} : evalE cl ρ (.bin op a b) = R.bind (evalE cl ρ a) (kBin cl ρ op b) := rfl
@[simp] theorem k_bin {op : AOp} {b : E} {x : V} : kBin cl ρ op b x = R.bind (evalE cl ρ b) (kBin1 op x) := rfl
@[simp] theorem k_bin1 {op : AOp} {x y : V} : kBin1 op x y = R.of (arith op x y) := rfl
@[simp] theorem ev_not {a : E} : evalE cl ρ (.not a) = R.bind (evalE cl ρ a) kNot := rfl
@[simp] theorem k_not {b : Bool} : kNot (.bool b) = some (.ok (.bool (!b))) := rfl
@[simp] theorem ev_neg {a : E} : evalE cl ρ (.neg a) = R.bind (evalE cl ρ a) kNeg := rfl
@[simp] theorem k_neg {b : Int} : kNeg (.int b) = some (.ok (.int (-b))) := rfl
@[simp] theorem ev_inv {a : E} : evalE cl ρ (.inv a) = R.bind (evalE cl ρ a) kInv := rfl
@[simp] theorem k_inv {b : Int} : kInv (.int b) = some (.ok (.int (Builtin.bitNot b))) := rfl
@[simp] theorem ev_and {es : List E} : evalE cl ρ (.and es) = evalAnd cl ρ es := rfl
@[simp] theorem ev_or {es : List E} : evalE cl ρ (.or es) = evalOr cl ρ es := rfl
@[simp] theorem ev_cmp {op : COp} {a b : E} : evalE cl ρ (.cmp op a b) = R.bind (evalE cl ρ a) (kCmp cl ρ op b) := rfl
@[simp] theorem k_cmp {op : COp} {b : E} {x : V} : kCmp cl ρ op b x = R.bind (evalE cl ρ b) (kCmp1 op x) := rfl
@[simp] theorem k_cmp1 {op : COp} {x y : V} : kCmp1 op x y = R.of ((vcmp op x y).map .bool) := rfl
@[simp] theorem ev_isIn {n : Bool} {a b : E} : evalE cl ρ (.isIn n a b) = R.bind (evalE cl ρ a) (kIn cl ρ n b) := rfl
@[simp] theorem k_in {n : Bool} {b : E} {x : V} : kIn cl ρ n b x = R.bind (evalE cl ρ b) (kIn1 n x) := rfl
theorem k_in1 {n : Bool} {x y : V} : kIn1 n x y = R.of ((isInV x y).map fun r => .bool (r != n)) := rfl
@[simp] theorem k_in1f {x y : V} : kIn1 false x y = R.of ((isInV x y).map .bool) := by
  rw [k_in1]
  cases isInV x y with
  | none => rfl
  | some b => cases b <;> rfl
@[simp] theorem k_in1t {x y : V} : kIn1 true x y = R.of ((isInV x y).map fun b => .bool (!b)) := by
  rw [k_in1]
  cases isInV x y with
  | none => rfl
  | some b => cases b <;> rfl
@[simp] theorem ev_isNone {n : Bool} {a : E} : evalE cl ρ (.isNone n a) = R.bind (evalE cl ρ a) (isNoneV n) := rfl
@[simp] theorem ev_chain {a b c : E} : evalE cl ρ (.chain a b c) = R.bind (evalE cl ρ a) (kCh cl ρ b c) := rfl
@[simp] theorem k_ch {b c : E} {x : V} : kCh cl ρ b c x = R.bind (evalE cl ρ b) (kCh1 cl ρ c x) := rfl
@[simp] theorem k_ch1 {c : E} {m n : Int} : kCh1 cl ρ c (.int m) (.int n) = if m ≤ n then R.bind (evalE cl ρ c) (kCh2 n) else some (.ok (.bool false)) := rfl
@[simp] theorem k_ch2 {n k : Int} : kCh2 n (.int k) = some (.ok (.bool (decide (n ≤ k)))) := rfl
@[simp] theorem ev_ite {c a b : E} : evalE cl ρ (.ite c a b) = R.bind (evalE cl ρ c) (kIte cl ρ a b) := rfl
@[simp] theorem k_ite_t {a b : E} : kIte cl ρ a b (.bool true) = evalE cl ρ a := rfl
@[simp] theorem k_ite_f {a b : E} : kIte cl ρ a b (.bool false) = evalE cl ρ b := rfl
@[simp] theorem ev_call {f : Nat} {args : List E} : evalE cl ρ (.call f args) = R.bind (evalL cl ρ args) (cl f) := rfl
@[simp] theorem ev_b1 {f : B1} {a : E} : evalE cl ρ (.b1 f a) = R.bind (evalE cl ρ a) (kB1 f) := rfl
@[simp] theorem k_b1 {f : B1} {x : V} : kB1 f x = R.of (builtin1 f x) := rfl
@[simp] theorem ev_join {a : E} : evalE cl ρ (.join a) = R.bind (evalE cl ρ a) kJoin := rfl
@[simp] theorem k_join {o : Bool} {vs : List V} : kJoin (.lst o vs) = R.of ((strIs vs).bind fun l => if JoinOk Str.empty l = true then some (.str (Txt.join Str.empty l)) else Option.none) := rfl
@[simp] theorem ev_dict {ks : List Str} {vs : List E} : evalE cl ρ (.dict ks vs) = R.bind (evalL cl ρ vs) (kDict ks) := rfl
@[simp] theorem k_dict {ks : List Str} {xs : List V} : kDict ks xs = if ks.length = xs.length ∧ xs.all noList = true then some (.ok (.dict (ks.zip xs))) else Option.none := rfl
@[simp] theorem ev_dget {d k : E} : evalE cl ρ (.dget d k) = R.bind (evalE cl ρ d) (kDget cl ρ k) := rfl
@[simp] theorem k_dget {k : E} {kvs : List (Str × V)} : kDget cl ρ k (.dict kvs) = R.bind (evalE cl ρ k) (kDget1 kvs) := rfl
@[simp] theorem k_dget1 {kvs : List (Str × V)} {s : Str} : kDget1 kvs (.str s) = some (.ok ((dlook kvs s).getD .none)) := rfl
@[simp] theorem ev_didx {d k : E} : evalE cl ρ (.didx d k) = R.bind (evalE cl ρ d) (kDidx cl ρ k) := rfl
@[simp] theorem k_didx {k : E} {kvs : List (Str × V)} : kDidx cl ρ k (.dict kvs) = R.bind (evalE cl ρ k) (kDidx1 kvs) := rfl
@[simp] theorem k_didx1 {kvs : List (Str × V)} {s : Str} : kDidx1 kvs (.str s) = R.of (dlook kvs s) := rfl
@[simp] theorem ev_idx {a b : E} : evalE cl ρ (.idx a b) = R.bind (evalE cl ρ a) (kIdx cl ρ b) := rfl
@[simp] theorem k_idx {b : E} {x : V} : kIdx cl ρ b x = R.bind (evalE cl ρ b) (kIdx1 x) := rfl
@[simp] theorem k_idx1 {x y : V} : kIdx1 x y = R.of (vidx x y) := rfl
@[simp] theorem ev_slTo {a b : E} : evalE cl ρ (.slTo a b) = R.bind (evalE cl ρ a) (kSlTo cl ρ b) := rfl
@[simp] theorem k_slTo {b : E} {x : V} : kSlTo cl ρ b x = R.bind (evalE cl ρ b) (kSlTo1 x) := rfl
@[simp] theorem k_slTo1 {x y : V} : kSlTo1 x y = R.of (vslTo x y) := rfl
@[simp] theorem ev_slFrom {a b : E} : evalE cl ρ (.slFrom a b) = R.bind (evalE cl ρ a) (kSlFrom cl ρ b) := rfl
@[simp] theorem k_slFrom {b : E} {x : V} : kSlFrom cl ρ b x = R.bind (evalE cl ρ b) (kSlFrom1 x) := rfl
@[simp] theorem k_slFrom1 {x y : V} : kSlFrom1 x y = R.of (vslFrom x y) := rfl
@[simp] theorem ev_slBoth {a b c : E} : evalE cl ρ (.slBoth a b c) = R.bind (evalE cl ρ a) (kSlB cl ρ b c) := rfl
@[simp] theorem k_slB {b c : E} {x : V} : kSlB cl ρ b c x = R.bind (evalE cl ρ b) (kSlB1 cl ρ c x) := rfl
@[simp] theorem k_slB1 {c : E} {x y : V} : kSlB1 cl ρ c x y = R.bind (evalE cl ρ c) (kSlB2 x y) := rfl
@[simp] theorem k_slB2 {x y z : V} : kSlB2 x y z = R.of (vslBoth x y z) := rfl
@[simp] theorem ev_fstr {es : List E} : evalE cl ρ (.fstr es) = R.bind (evalL cl ρ es) kFs := rfl
@[simp] theorem k_fs {vs : List V} : kFs vs = R.of ((strIs vs).bind fun l => if (l.map (·.length)).sum ≤ 1000000 then some (.str (l.foldl (· ++ ·) Str.empty)) else Option.none) := rfl
@[simp] theorem ev_tup {es : List E} : evalE cl ρ (.tup es) = R.bind (evalL cl ρ es) kTup := rfl
@[simp low] theorem k_tup {vs : List V} : kTup vs = if vs.all noList && decide (vs.length ≤ 1000) then some (.ok (.tup vs)) else Option.none := rfl
@[simp] theorem ev_lst {es : List E} : evalE cl ρ (.lst es) = R.bind (evalL cl ρ es) kLst := rfl
@[simp low] theorem k_lst {vs : List V} : kLst vs = if vs.all noList && decide (vs.length ≤ 1000) then some (.ok (.lst true vs)) else Option.none := rfl
@[simp] theorem k_lst0 : kLst [] = some (.ok (.lst true [])) := rfl
@[simp] theorem ev_mkExc {es : List E} : evalE cl ρ (.mkExc es) = R.bind (evalL cl ρ es) kExc := rfl
@[simp] theorem k_exc {x y z : V} : kExc [x, y, z] = if noList x && noList y && noList z then some (.ok (.exc x y z)) else Option.none := rfl
@[simp] theorem ev_compCall {f : Nat} {a : E} : evalE cl ρ (.compCall f a) = R.bind (evalE cl ρ a) (compCallV cl f) := rfl
@[simp] theorem ev_compIdx {f : Nat} {a : E} : evalE cl ρ (.compIdx f a) = R.bind (evalE cl ρ a) (compIdxV f) := rfl
@[simp] theorem ev_compPair {f w : Nat} {a : E} : evalE cl ρ (.compPair f a w) = R.bind (evalE cl ρ a) (kCp cl ρ f w) := rfl
@[simp] theorem k_cp {f w : Nat} {x : V} : kCp cl ρ f w x = R.bind (R.of ((get ρ w).bind freeze)) (kCp1 cl f x) := rfl
@[simp] theorem k_cp1 {f : Nat} {x y : V} : kCp1 cl f x y = compPairV cl f y x := rfl
@[simp] theorem evl_nil : evalL cl ρ [] = some (.ok []) := rfl
@[simp] theorem evl_cons {e : E} {r : List E} : evalL cl ρ (e :: r) = R.bind (evalE cl ρ e) (kL cl ρ r) := rfl
@[simp] theorem k_l_none {r : List E} : kL cl ρ r .none = R.bind (evalL cl ρ r) (kL1 .none) := rfl
@[simp] theorem k_l_bool {r : List E} {b : Bool} : kL cl ρ r (.bool b) = R.bind (evalL cl ρ r) (kL1 (.bool b)) := rfl
@[simp] theorem k_l_int {r : List E} {b : Int} : kL cl ρ r (.int b) = R.bind (evalL cl ρ r) (kL1 (.int b)) := rfl
@[simp] theorem k_l_str {r : List E} {b : Str} : kL cl ρ r (.str b) = R.bind (evalL cl ρ r) (kL1 (.str b)) := rfl
@[simp] theorem k_l_tup {r : List E} {b : List V} : kL cl ρ r (.tup b) = R.bind (evalL cl ρ r) (kL1 (.tup b)) := rfl
@[simp] theorem k_l_lst {r : List E} {o : Bool} {b : List V} : kL cl ρ r (.lst o b) = R.bind (evalL cl ρ r) (kL1 (.lst o b)) := rfl
theorem mapR_cons {f : V → R V} {v : V} {r : List V} : mapR f (v :: r) = R.bind (f v) fun x => R.bind (mapR f r) fun xs => some (.ok (x :: xs)) := rfl
@[simp] theorem k_l1 {x : V} {xs : List V} : kL1 x xs = some (.ok (x :: xs)) := rfl
@[simp] theorem eva_one {e : E} : evalAnd cl ρ [e] = evalE cl ρ e := rfl
@[simp] theorem eva_cons {e e2 : E} {r : List E} : evalAnd cl ρ (e :: e2 :: r) = R.bind (evalE cl ρ e) (kAnd cl ρ (e2 :: r)) := rfl
@[simp] theorem k_and_t {r : List E} : kAnd cl ρ r (.bool true) = evalAnd cl ρ r := rfl
@[simp] theorem k_and_f {r : List E} : kAnd cl ρ r (.bool false) = some (.ok (.bool false)) := rfl
@[simp] theorem evo_one {e : E} : evalOr cl ρ [e] = evalE cl ρ e := rfl
@[simp] theorem evo_cons {e e2 : E} {r : List E} : evalOr cl ρ (e :: e2 :: r) = R.bind (evalE cl ρ e) (kOr cl ρ (e2 :: r)) := rfl
@[simp] theorem k_or_t {r : List E} : kOr cl ρ r (.bool true) = some (.ok (.bool true)) := rfl
@[simp] theorem k_or_f {r : List E} : kOr cl ρ r (.bool false) = evalOr cl ρ r := rfl
@[simp] theorem exs_nil : execs cl [] ρ = some (.next ρ) := rfl
theorem exs_cons {s : S} {r : List S} : execs cl (s :: r) ρ = thenX (exec cl s ρ) (execs cl r) := rfl
theorem exs_m {s : S} {r : List S} : execs cl (s :: r) ρ = match exec cl s ρ with
    | some (.next ρ') => execs cl r ρ'
    | o => o := rfl
@[simp] theorem thenX_next {k : Rho → Option Out} : thenX (some (.next ρ)) k = k ρ := rfl
@[simp] theorem thenX_ret {k : Rho → Option Out} {v : V} : thenX (some (.ret v)) k = some (.ret v) := rfl
@[simp] theorem thenX_exc {k : Rho → Option Out} {v : V} : thenX (some (.exc v ρ)) k = some (.exc v ρ) := rfl
@[simp] theorem thenX_cont {k : Rho → Option Out} : thenX (some (.cont ρ)) k = some (.cont ρ) := rfl
@[simp] theorem thenX_none {k : Rho → Option Out} : thenX Option.none k = Option.none := rfl
@[simp] theorem ex_assign {i : Nat} {e : E} : exec cl (.assign i e) ρ = onE ρ (evalE cl ρ e) (kAs ρ i) := rfl
@[simp] theorem k_as_none {i : Nat} : kAs ρ i .none = some (.next (put ρ i .none)) := rfl
@[simp] theorem k_as_bool {i : Nat} {b : Bool} : kAs ρ i (.bool b) = some (.next (put ρ i (.bool b))) := rfl
@[simp] theorem k_as_int {i : Nat} {b : Int} : kAs ρ i (.int b) = some (.next (put ρ i (.int b))) := rfl
@[simp] theorem k_as_str {i : Nat} {b : Str} : kAs ρ i (.str b) = some (.next (put ρ i (.str b))) := rfl
@[simp] theorem k_as_tup {i : Nat} {b : List V} : kAs ρ i (.tup b) = some (.next (put ρ i (.tup b))) := rfl
@[simp] theorem k_as_lst {i : Nat} {b : List V} : kAs ρ i (.lst true b) = some (.next (put ρ i (.lst true b))) := rfl
theorem k_as {i : Nat} {v : V} (h : storable v = true) : kAs ρ i v = some (.next (put ρ i v)) := by unfold kAs; rw [if_pos h]
@[simp] theorem ex_unpack2 {i j : Nat} {e : E} : exec cl (.unpack2 i j e) ρ = onE ρ (evalE cl ρ e) (kUn ρ i j) := rfl
@[simp] theorem k_un {i j : Nat} {x y : V} : kUn ρ i j (.tup [x, y]) = some (.next (put (put ρ i x) j y)) := rfl
@[simp] theorem ex_aug {i : Nat} {op : AOp} {e : E} : exec cl (.aug i op e) ρ = kAug cl ρ i op e (get ρ i) := rfl
@[simp] theorem k_aug {i : Nat} {op : AOp} {e : E} {a : Int} : kAug cl ρ i op e (some (.int a)) = onE ρ (evalE cl ρ e) (kAug1 ρ i op a) := rfl
@[simp] theorem k_aug_add {i : Nat} {a b : Int} : kAug1 ρ i .add a (.int b) = some (.next (put ρ i (.int (a + b)))) := rfl
@[simp] theorem k_aug_sub {i : Nat} {a b : Int} : kAug1 ρ i .sub a (.int b) = some (.next (put ρ i (.int (a - b)))) := rfl
@[simp] theorem ex_append {i : Nat} {e : E} : exec cl (.append i e) ρ = kAp cl ρ i e (get ρ i) := rfl
@[simp] theorem k_ap {i : Nat} {e : E} {vs : List V} : kAp cl ρ i e (some (.lst true vs)) = onE ρ (evalE cl ρ e) (kAp1 ρ i (get ρ i)) := rfl
@[simp] theorem k_ap1 {i : Nat} {vs : List V} {v : V} : kAp1 ρ i (some (.lst true vs)) v = if noList v && decide (vs.length ≤ 1000000) then some (.next (put ρ i (.lst true (vs ++ [v])))) else Option.none := rfl
@[simp] theorem ex_pop {i j : Nat} : exec cl (.pop i j) ρ = kPop ρ i j (get ρ j) := rfl
@[simp] theorem k_pop {i j : Nat} {vs : List V} : kPop ρ i j (some (.lst true vs)) = match vs.getLast? with
      | some v => if i ≠ j ∧ vs.length ≤ 1000000 then some (.next (put (put ρ j (.lst true vs.dropLast)) i v)) else Option.none
      | Option.none => Option.none := rfl
@[simp] theorem ex_expr {e : E} : exec cl (.expr e) ρ = onE ρ (evalE cl ρ e) (kEx ρ) := rfl
@[simp] theorem k_ex : kEx ρ .none = some (.next ρ) := rfl
@[simp] theorem ex_ite {c : E} {a b : List S} : exec cl (.ite c a b) ρ = onE ρ (evalE cl ρ c) (kSi cl ρ a b) := rfl
@[simp] theorem k_si_t {a b : List S} : kSi cl ρ a b (.bool true) = execs cl a ρ := rfl
@[simp] theorem k_si_f {a b : List S} : kSi cl ρ a b (.bool false) = execs cl b ρ := rfl
theorem ex_while {c : E} {body : List S} : exec cl (.while c body) ρ = loopN (fun ρ => evalE cl ρ c) (fun ρ => execs cl body ρ) FUEL ρ := rfl
theorem ex_for {i : Nat} {e : E} {body : List S} : exec cl (.for i e body) ρ = onE ρ (evalE cl ρ e) fun v => match itemsOf v with
    | some vs => if vs.length ≤ 1000000 then forL i (fun ρ => execs cl body ρ) vs ρ else Option.none
    | Option.none => Option.none := rfl
theorem ex_forVar {i k : Nat} {body : List S} : exec cl (.forVar i k body) ρ = match get ρ k with
    | some (.lst false vs) => if vs.length ≤ 1000000 then forL i (fun ρ => execs cl body ρ) vs ρ else Option.none
    | _ => Option.none := rfl
theorem ex_forRange {i : Nat} {e : E} {body : List S} : exec cl (.forRange i e body) ρ = onE ρ (evalE cl ρ e) fun v => match v with
    | .int n => if 0 ≤ n ∧ n ≤ 1000000 then forL i (fun ρ => execs cl body ρ) ((List.range n.toNat).map fun k => V.int (k : Nat)) ρ else Option.none
    | _ => Option.none := rfl
@[simp] theorem ex_ret {e : E} : exec cl (.ret e) ρ = onE ρ (evalE cl ρ e) kRet := rfl
@[simp] theorem k_ret {v : V} : kRet v = some (.ret v) := rfl
@[simp] theorem ex_raise {e : E} : exec cl (.raise e) ρ = onE ρ (evalE cl ρ e) (kRa ρ) := rfl
@[simp] theorem k_ra {a b c : V} : kRa ρ (.exc a b c) = some (.exc (.exc a b c) ρ) := rfl
@[simp] theorem ex_try {body : List S} {i : Nat} {h : Option Nat} : exec cl (.try body i h) ρ = tryOut h (execs cl body ρ) := rfl
@[simp] theorem ex_cont : exec cl .cont ρ = some (.cont ρ) := rfl
end
@[simp] theorem end_none : endOf Option.none = Option.none := rfl
@[simp] theorem end_next {ρ : Rho} : endOf (some (.next ρ)) = some (.ok .none) := rfl
@[simp] theorem end_ret {v : V} : endOf (some (.ret v)) = some (.ok v) := rfl
@[simp] theorem end_exc {v : V} {ρ : Rho} : endOf (some (.exc v ρ)) = some (.error v) := rfl
@[simp] theorem get_zero {x : Option V} {r : Rho} : get (x :: r) 0 = x := rfl
@[simp] theorem get_succ {x : Option V} {r : Rho} {i : Nat} : get (x :: r) (i + 1) = get r i := rfl
@[simp] theorem put_zero {x : Option V} {r : Rho} {v : V} : put (x :: r) 0 v = some v :: r := rfl
@[simp] theorem put_succ {x : Option V} {r : Rho} {i : Nat} {v : V} : put (x :: r) (i + 1) v = x :: put r i v := rfl
@[simp] theorem fr_none : freeze .none = some .none := rfl
@[simp] theorem fr_bool {b : Bool} : freeze (.bool b) = some (.bool b) := rfl
@[simp] theorem fr_int {b : Int} : freeze (.int b) = some (.int b) := rfl
@[simp] theorem fr_str {b : Str} : freeze (.str b) = some (.str b) := rfl
@[simp] theorem fr_tup {b : List V} : freeze (.tup b) = some (.tup b) := rfl
@[simp] theorem fr_lst {o : Bool} {b : List V} : freeze (.lst o b) = some (.lst false b) := rfl
@[simp] theorem tr_bool {b : Bool} : truth (.bool b) = some b := rfl
@[simp] theorem pl_none : plain .none = true := rfl
@[simp] theorem pl_bool {b : Bool} : plain (.bool b) = true := rfl
@[simp] theorem pl_int {b : Int} : plain (.int b) = true := rfl
@[simp] theorem pl_str {b : Str} : plain (.str b) = true := rfl
@[simp] theorem pl_tup {b : List V} : plain (.tup b) = true := rfl
@[simp] theorem pl_lst {o : Bool} {b : List V} : plain (.lst o b) = true := rfl
@[simp] theorem nl_none : noList .none = true := rfl
@[simp] theorem nl_bool {b : Bool} : noList (.bool b) = true := rfl
@[simp] theorem nl_int {b : Int} : noList (.int b) = true := rfl
@[simp] theorem nl_str {b : Str} : noList (.str b) = true := rfl
@[simp] theorem nl_tup {b : List V} : noList (.tup b) = true := rfl
@[simp] theorem st_none : storable .none = true := rfl
@[simp] theorem st_bool {b : Bool} : storable (.bool b) = true := rfl
@[simp] theorem st_int {b : Int} : storable (.int b) = true := rfl
@[simp] theorem st_str {b : Str} : storable (.str b) = true := rfl
@[simp] theorem st_tup {b : List V} : storable (.tup b) = true := rfl
@[simp] theorem st_lst {o : Bool} {b : List V} : storable (.lst o b) = o := rfl
@[simp] theorem isInt_int {b : Int} : isInt (.int b) = some b := rfl
@[simp] theorem isNone_none {n : Bool} : isNoneV n .none = some (.ok (.bool (!n))) := rfl
@[simp] theorem isNone_int {n : Bool} {k : Int} : isNoneV n (.int k) = some (.ok (.bool n)) := rfl
@[simp] theorem isNone_bool {n : Bool} {k : Bool} : isNoneV n (.bool k) = some (.ok (.bool n)) := rfl
@[simp] theorem isNone_str {n : Bool} {k : Str} : isNoneV n (.str k) = some (.ok (.bool n)) := rfl
@[simp] theorem isNone_tup {n : Bool} {k : List V} : isNoneV n (.tup k) = some (.ok (.bool n)) := rfl
@[simp] theorem aug_add {a b : Int} : augV .add a (.int b) = some (.int (a + b)) := rfl
@[simp] theorem aug_sub {a b : Int} : augV .sub a (.int b) = some (.int (a - b)) := rfl
@[simp] theorem pairOf_two {a b : V} : pairOf (.tup [a, b]) = some (a, b) := rfl
theorem arU_mul {a b : Int} : arith .mul (.int a) (.int b) = if small a && small b then some (.int (a * b)) else Option.none := rfl
theorem arU_fdiv {a b : Int} : arith .fdiv (.int a) (.int b) = if b = 0 ∨ Builtin.divisionGoesByPylong a b = true then Option.none else some (.int (Int.fdiv a b)) := rfl
theorem arU_mod {a b : Int} : arith .mod (.int a) (.int b) = if b = 0 then Option.none else some (.int (Int.fmod a b)) := rfl
theorem arU_pow {a b : Int} : arith .pow (.int a) (.int b) = if 0 ≤ b ∧ b ≤ 1000 ∧ small a = true then some (.int (a ^ b.toNat)) else Option.none := rfl
theorem arU_shl {a b : Int} : arith .shl (.int a) (.int b) = if 0 ≤ b ∧ b ≤ 1000 ∧ small a = true then some (.int (a * 2 ^ b.toNat)) else Option.none := rfl
theorem arU_shr {a b : Int} : arith .shr (.int a) (.int b) = if 0 ≤ b then some (.int (Int.fdiv a (2 ^ b.toNat))) else Option.none := rfl
@[simp] theorem ar_add {a b : Int} : arith .add (.int a) (.int b) = some (.int (a + b)) := rfl
@[simp] theorem ar_sub {a b : Int} : arith .sub (.int a) (.int b) = some (.int (a - b)) := rfl
theorem ar_adds {a b : Str} (h : (a ++ b).length ≤ sizeLine) : arith .add (.str a) (.str b) = some (.str (a ++ b)) := if_pos h
@[simp] theorem ar_band {a b : Int} : arith .band (.int a) (.int b) = some (.int (Builtin.bitAnd a b)) := rfl
@[simp] theorem ar_bor {a b : Int} : arith .bor (.int a) (.int b) = some (.int (Builtin.bitOr a b)) := rfl
@[simp] theorem ar_bxor {a b : Int} : arith .bxor (.int a) (.int b) = some (.int (Builtin.bitXor a b)) := rfl
@[simp] theorem cmp_eqi {a b : Int} : vcmp .eq (.int a) (.int b) = some (a == b) := rfl
@[simp] theorem cmp_nei {a b : Int} : vcmp .ne (.int a) (.int b) = some (a != b) := rfl
@[simp] theorem cmp_lti {a b : Int} : vcmp .lt (.int a) (.int b) = some (decide (a < b)) := rfl
@[simp] theorem cmp_lei {a b : Int} : vcmp .le (.int a) (.int b) = some (decide (a ≤ b)) := rfl
@[simp] theorem cmp_gti {a b : Int} : vcmp .gt (.int a) (.int b) = some (decide (a > b)) := rfl
@[simp] theorem cmp_gei {a b : Int} : vcmp .ge (.int a) (.int b) = some (decide (a ≥ b)) := rfl
@[simp] theorem cmp_eqs {a b : Str} : vcmp .eq (.str a) (.str b) = some (a == b) := rfl
@[simp] theorem cmp_nes {a b : Str} : vcmp .ne (.str a) (.str b) = some (a != b) := rfl
@[simp] theorem cmp_eqb {a b : Bool} : vcmp .eq (.bool a) (.bool b) = some (a == b) := rfl
@[simp] theorem cmp_neb {a b : Bool} : vcmp .ne (.bool a) (.bool b) = some (a != b) := rfl
@[simp] theorem cmp_lts {a b : Str} : vcmp .lt (.str a) (.str b) = some (decide (a.cps.toList < b.cps.toList)) := rfl
@[simp] theorem strIs_nil : strIs [] = some [] := rfl
theorem told_exc {c x e : V} : toldOf (.exc c x e) = .tup [.str (Str.ofString "fault"), c, x, e] := rfl
theorem vd_tup {vs : List V} : vdepth (.tup vs) = vdepthL vs + 1 := rfl
theorem vd_str {s : Str} : vdepth (.str s) = 0 := rfl
theorem vd_int {s : Int} : vdepth (.int s) = 0 := rfl
theorem vd_none : vdepth .none = 0 := rfl
theorem vd_bool {s : Bool} : vdepth (.bool s) = 0 := rfl
theorem vdL_nil : vdepthL [] = 0 := rfl
theorem vdL_cons {v : V} {r : List V} : vdepthL (v :: r) = max (vdepth v) (vdepthL r) := rfl
theorem veq_str {a b : Str} : veq (.str a) (.str b) = some (a == b) := rfl
theorem veq_int {a b : Int} : veq (.int a) (.int b) = some (a == b) := rfl
theorem veq_tup {a b : List V} : veq (.tup a) (.tup b) = veqL a b := rfl
theorem veq_ts {a : List V} {b : Str} : veq (.tup a) (.str b) = some false := rfl
theorem veq_st {a : List V} {b : Str} : veq (.str b) (.tup a) = some false := rfl
theorem veq_is {a : Int} {b : Str} : veq (.int a) (.str b) = some false := rfl
theorem veq_si {a : Int} {b : Str} : veq (.str b) (.int a) = some false := rfl
theorem veqL_nil : veqL [] [] = some true := rfl
theorem veqL_nc {a : V} {r : List V} : veqL [] (a :: r) = some false := rfl
theorem veqL_cn {a : V} {r : List V} : veqL (a :: r) [] = some false := rfl
theorem veqL_cons {a b : V} {r q : List V} : veqL (a :: r) (b :: q) = (veq a b).bind fun x => (veqL r q).map fun y => x && y := rfl
@[simp] theorem strIs_cons {s : Str} {r : List V} : strIs (.str s :: r) = (strIs r).map (s :: ·) := rfl
@[simp] theorem strIs_map : ∀ {l : List Str}, strIs (l.map .str) = some l
  | [] => rfl
  | s :: r => by simp [strIs_map (l := r)]
@[simp] theorem intIs_map : ∀ {l : List Int}, intIs (l.map .int) = some l
  | [] => rfl
  | s :: r => by rw [List.map_cons]; show (intIs _).map _ = _; rw [intIs_map (l := r)]; rfl
@[simp] theorem isIn_tup {a : Str} {vs : List V} : isInV (.str a) (.tup vs) = (strIs vs).map fun l => l.any (· == a) := rfl
@[simp] theorem isIn_lst {a : Str} {o : Bool} {vs : List V} : isInV (.str a) (.lst o vs) = (strIs vs).map fun l => l.any (· == a) := rfl

theorem ofString_inj {a b : String} : Str.ofString a = Str.ofString b ↔ a = b := by
  constructor
  · intro h
    rw [Str.ofString_eq_toList, Str.ofString_eq_toList] at h
    injection h with h
    have h2 := congrArg Array.toList h
    simp only at h2
    have inj : ∀ (l m : List Char), l.map Char.toNat = m.map Char.toNat → l = m := by
      intro l
      induction l with
      | nil => intro m hm; cases m <;> simp_all
      | cons c r ih =>
        intro m hm
        cases m with
        | nil => simp at hm
        | cons c2 r2 =>
          simp only [List.map_cons, List.cons.injEq] at hm
          rw [ih r2 hm.2]
          congr 1
          exact Char.toNat_inj.mp hm.1
    exact String.ext (inj _ _ h2)
  · rintro rfl; rfl
@[simp] theorem ofString_eq {a b : String} : (Str.ofString a = Str.ofString b) = (a = b) := propext ofString_inj
@[simp] theorem ofString_beq {a b : String} : (Str.ofString a == Str.ofString b) = (a == b) := by
  by_cases h : a = b
  · subst h; simp
  · have h2 : ¬ Str.ofString a = Str.ofString b := fun e => h (ofString_inj.mp e)
    rw [beq_eq_false_iff_ne.mpr h2, beq_eq_false_iff_ne.mpr h]
theorem str_beq {a b : Str} : (a == b) = decide (a = b) := by
  by_cases h : a = b <;> simp [h]

/- steps, one a statement -/
section
variable {cl : Nat → List V → R V} {ρ : Rho} {c e : E} {a b r : List S} {v : V} {i f : Nat} {args : List E} {vs : List V} {x : R V}
theorem st_no (h : evalE cl ρ c = some (.ok (.bool false))) : execs cl (.ite c a b :: r) ρ = thenX (execs cl b ρ) (execs cl r) := by rw [exs_cons, ex_ite, h]; rfl
theorem st_no' (h : evalE cl ρ c = some (.ok (.bool false))) : execs cl (.ite c a [] :: r) ρ = execs cl r ρ := st_no h
theorem st_yes (h : evalE cl ρ c = some (.ok (.bool true))) : execs cl (.ite c a b :: r) ρ = thenX (execs cl a ρ) (execs cl r) := by rw [exs_cons, ex_ite, h]; rfl
theorem st_err (h : evalE cl ρ c = some (.error v)) : endOf (execs cl (.ite c a b :: r) ρ) = some (.error v) := by rw [exs_cons, ex_ite, h]; rfl
theorem st_ret : endOf (execs cl (.ret e :: r) ρ) = evalE cl ρ e := by
  rw [exs_cons, ex_ret]
  match evalE cl ρ e with
  | Option.none => rfl
  | some (.ok _) => rfl
  | some (.error _) => rfl
theorem st_yes_ret (h : evalE cl ρ c = some (.ok (.bool true))) : endOf (execs cl (.ite c (.ret e :: a) b :: r) ρ) = evalE cl ρ e := by
  rw [st_yes h, exs_cons, ex_ret]
  match evalE cl ρ e with
  | Option.none => rfl
  | some (.ok _) => rfl
  | some (.error _) => rfl
theorem end_thenX_ret {e : E} {a : List S} {k : Rho → Option Out} : endOf (thenX (execs cl (.ret e :: a) ρ) k) = evalE cl ρ e := by
  rw [exs_cons, ex_ret]
  match evalE cl ρ e with
  | Option.none => rfl
  | some (.ok _) => rfl
  | some (.error _) => rfl
theorem st_yes_do {d : E} (h : evalE cl ρ c = some (.ok (.bool true))) (h2 : evalE cl ρ d = some (.ok .none)) (h3 : evalE cl ρ e = x) : endOf (execs cl (.ite c (.expr d :: .ret e :: a) b :: r) ρ) = x := by
  rw [st_yes h, exs_cons, ex_expr, h2]; exact end_thenX_ret.trans h3
theorem st_yes_do_err {d : E} (h : evalE cl ρ c = some (.ok (.bool true))) (h2 : evalE cl ρ d = some (.error v)) : endOf (execs cl (.ite c (.expr d :: a) b :: r) ρ) = some (.error v) := by
  rw [st_yes h, exs_cons, ex_expr, h2]; rfl
theorem st_yes_as_ret {d : E} (h : evalE cl ρ c = some (.ok (.bool true))) (h2 : evalE cl ρ d = some (.ok v)) (hs : storable v = true) (h3 : evalE cl (put ρ i v) e = x) : endOf (execs cl (.ite c (.assign i d :: .ret e :: a) b :: r) ρ) = x := by
  rw [st_yes h, exs_cons, ex_assign, h2, onE_ok, k_as hs]; exact end_thenX_ret.trans h3
theorem st_yes_as_err {d : E} (h : evalE cl ρ c = some (.ok (.bool true))) (h2 : evalE cl ρ d = some (.error v)) : endOf (execs cl (.ite c (.assign i d :: a) b :: r) ρ) = some (.error v) := by
  rw [st_yes h, exs_cons, ex_assign, h2]; rfl
theorem evl_one (h : evalE cl ρ e = some (.ok v)) (hp : plain v = true) : evalL cl ρ [e] = some (.ok [v]) := by
  rw [evl_cons, h]; exact if_pos hp
theorem evl_two {d : E} {w : V} (h : evalE cl ρ e = some (.ok v)) (hp : plain v = true) (h' : evalE cl ρ d = some (.ok w)) (hp' : plain w = true) : evalL cl ρ [e, d] = some (.ok [v, w]) := by
  rw [evl_cons, h, R.bind_ok]; exact (if_pos hp).trans (by rw [evl_one h' hp']; rfl)
theorem evl_err (h : evalE cl ρ e = some (.error v)) {es : List E} : evalL cl ρ (e :: es) = some (.error v) := by rw [evl_cons, h]; rfl
theorem ev_call_err (h : evalL cl ρ args = some (.error v)) : evalE cl ρ (.call f args) = some (.error v) := by rw [ev_call, h]; rfl
theorem ev_in_err {n : Bool} {d : E} {w : V} (h : evalE cl ρ e = some (.ok w)) (h2 : evalE cl ρ d = some (.error v)) : evalE cl ρ (.isIn n e d) = some (.error v) := by rw [ev_isIn, h, R.bind_ok, k_in, h2]; rfl
theorem st_as (h : evalE cl ρ e = some (.ok v)) (hs : storable v = true) : execs cl (.assign i e :: r) ρ = execs cl r (put ρ i v) := by rw [exs_cons, ex_assign, h, onE_ok, k_as hs]; rfl
theorem st_as_err (h : evalE cl ρ e = some (.error v)) : endOf (execs cl (.assign i e :: r) ρ) = some (.error v) := by rw [exs_cons, ex_assign, h]; rfl
theorem ev_call_of (ha : evalL cl ρ args = some (.ok vs)) (h : cl f vs = x) : evalE cl ρ (.call f args) = x := by rw [ev_call, ha]; exact h
theorem ev_b1_of {o : B1} {y : Option V} (ha : evalE cl ρ e = some (.ok v)) (h : builtin1 o v = y) : evalE cl ρ (.b1 o e) = R.of y := by rw [ev_b1, ha]; exact congrArg R.of h
theorem ev_b1_err {o : B1} (ha : evalE cl ρ e = some (.error v)) : evalE cl ρ (.b1 o e) = some (.error v) := by rw [ev_b1, ha]; rfl
theorem ev_in_of {n q : Bool} {x y : V} {d : E} (ha : evalE cl ρ e = some (.ok x)) (hb : evalE cl ρ d = some (.ok y)) (h : isInV x y = some q) : evalE cl ρ (.isIn n e d) = some (.ok (.bool (q != n))) := by rw [ev_isIn, ha, R.bind_ok, k_in, hb, R.bind_ok, k_in1, h]; rfl
theorem ev_var_of {w : V} (h : get ρ i = some v) (hf : freeze v = some w) : evalE cl ρ (.var i) = some (.ok w) := by rw [ev_var, h]; exact congrArg R.of hf
theorem ev_tup_of {es : List E} (h : evalL cl ρ es = some (.ok vs)) (ha : vs.all noList = true) (hl : vs.length ≤ 1000) : evalE cl ρ (.tup es) = some (.ok (.tup vs)) := by
  rw [ev_tup, h]; exact if_pos (by rw [ha, decide_eq_true hl]; rfl)
theorem nl_cons (h : noList v = true) (h' : vs.all noList = true) : (v :: vs).all noList = true := by rw [List.all_cons, h, h']; rfl
theorem st_yes_end (h : evalE cl ρ c = some (.ok (.bool true))) (h2 : execs cl a ρ = some (.ret v)) : endOf (execs cl (.ite c a b :: r) ρ) = some (.ok v) := by rw [st_yes h, h2]; rfl
theorem st_yes_as1 {d : E} (h : evalE cl ρ c = some (.ok (.bool true))) (h2 : evalE cl ρ d = some (.ok v)) (hs : storable v = true) : execs cl (.ite c [.assign i d] b :: r) ρ = execs cl r (put ρ i v) := by rw [st_yes h, st_as h2 hs]; rfl
theorem st_ret' (h : evalE cl ρ e = some (.ok v)) : execs cl (.ret e :: r) ρ = some (.ret v) := by rw [exs_cons, ex_ret, h]; rfl
theorem ev_compCall_of {y : R V} (ha : evalE cl ρ e = some (.ok v)) (h : compCallV cl f v = y) : evalE cl ρ (.compCall f e) = y := by rw [ev_compCall, ha]; exact h
theorem eq_t {m n : Int} (h : m = n) : vcmp .eq (.int m) (.int n) = some true := congrArg some (beq_iff_eq.mpr h)
theorem eq_f {m n : Int} (h : ¬ m = n) : vcmp .eq (.int m) (.int n) = some false := congrArg some (beq_eq_false_iff_ne.mpr h)
theorem eqs_of {m n : String} : vcmp .eq (.str (Str.ofString m)) (.str (Str.ofString n)) = some (m == n) := congrArg some ofString_beq
theorem eqs_t {m n : String} (h : m = n) : vcmp .eq (.str (Str.ofString m)) (.str (Str.ofString n)) = some true := congrArg some (ofString_beq.trans (beq_iff_eq.mpr h))
theorem eqs_f {m n : String} (h : ¬ m = n) : vcmp .eq (.str (Str.ofString m)) (.str (Str.ofString n)) = some false := congrArg some (ofString_beq.trans (beq_eq_false_iff_ne.mpr h))
theorem ev_bin_err {o : AOp} {d : E} (h : evalE cl ρ e = some (.error v)) : evalE cl ρ (.bin o e d) = some (.error v) := by rw [ev_bin, h]; rfl
theorem ev_bin_err2 {o : AOp} {d : E} {w : V} (h : evalE cl ρ e = some (.ok w)) (h2 : evalE cl ρ d = some (.error v)) : evalE cl ρ (.bin o e d) = some (.error v) := by rw [ev_bin, h, R.bind_ok, k_bin, h2]; rfl
theorem ev_tup_err {es : List E} (h : evalL cl ρ es = some (.error v)) : evalE cl ρ (.tup es) = some (.error v) := by rw [ev_tup, h]; rfl
theorem evl_err2 {es : List E} {w : V} (h : evalE cl ρ e = some (.ok w)) (hp : plain w = true) {d : E} (h2 : evalE cl ρ d = some (.error v)) : evalL cl ρ (e :: d :: es) = some (.error v) := by rw [evl_cons, h]; exact (if_pos hp).trans (by rw [evl_err h2]; rfl)
theorem end_ok {o : Option Out} {k : Rho → Option Out} (h : endOf o = some (.ok v)) (hv : v ≠ .none) : endOf (thenX o k) = some (.ok v) :=
  match o, h with
  | some (.ret _), h => h
  | some (.next _), h => absurd (Except.ok.inj (Option.some.inj h)).symm hv
theorem end_bad {o : Option Out} {k : Rho → Option Out} (h : endOf o = some (.error v)) : endOf (thenX o k) = some (.error v) :=
  match o, h with
  | some (.exc _ _), h => h
theorem st_yes_ok (h : evalE cl ρ c = some (.ok (.bool true))) (h2 : endOf (execs cl a ρ) = some (.ok v)) (hv : v ≠ .none) : endOf (execs cl (.ite c a b :: r) ρ) = some (.ok v) := by rw [st_yes h]; exact end_ok h2 hv
theorem st_yes_bad (h : evalE cl ρ c = some (.ok (.bool true))) (h2 : endOf (execs cl a ρ) = some (.error v)) : endOf (execs cl (.ite c a b :: r) ρ) = some (.error v) := by rw [st_yes h]; exact end_bad h2
theorem st_yes_ret' (h : evalE cl ρ c = some (.ok (.bool true))) (h2 : evalE cl ρ e = some (.ok v)) : execs cl (.ite c (.ret e :: a) b :: r) ρ = some (.ret v) := by rw [st_yes h, st_ret' h2]; rfl
theorem st_yes_exc' (h : evalE cl ρ c = some (.ok (.bool true))) (h2 : evalE cl ρ e = some (.error v)) : execs cl (.ite c (.ret e :: a) b :: r) ρ = some (.exc v ρ) := by rw [st_yes h, exs_cons, ex_ret, h2]; rfl
theorem evl_err3 {es : List E} {w w' : V} {d d' : E} (h : evalE cl ρ e = some (.ok w)) (hp : plain w = true) (h2 : evalE cl ρ d = some (.ok w')) (hp2 : plain w' = true) (h3 : evalE cl ρ d' = some (.error v)) : evalL cl ρ (e :: d :: d' :: es) = some (.error v) := by rw [evl_cons, h]; exact (if_pos hp).trans (by rw [evl_err2 h2 hp2 h3]; rfl)
theorem st_in_ret {s : S} (h : exec cl s ρ = some (.ret v)) : execs cl (s :: r) ρ = some (.ret v) := by rw [exs_cons, h]; rfl
theorem st_in_exc {s : S} {ρ' : Rho} (h : exec cl s ρ = some (.exc v ρ')) : execs cl (s :: r) ρ = some (.exc v ρ') := by rw [exs_cons, h]; rfl
theorem st_in_next {s : S} {ρ' : Rho} (h : exec cl s ρ = some (.next ρ')) : execs cl (s :: r) ρ = execs cl r ρ' := by rw [exs_cons, h]; rfl
theorem ex_fr {n : Nat} {body : List S} (h : evalE cl ρ e = some (.ok (.int n))) (hn : n ≤ 1000000) : exec cl (.forRange i e body) ρ = forL i (fun ρ => execs cl body ρ) ((List.range' 0 n).map fun k => V.int (k : Nat)) ρ := by
  rw [ex_forRange, h, ← List.range_eq_range']; exact if_pos ⟨Int.natCast_nonneg _, Int.ofNat_le.mpr hn⟩
theorem st_ret_exc (h : evalE cl ρ e = some (.error v)) : execs cl (.ret e :: r) ρ = some (.exc v ρ) := by rw [exs_cons, ex_ret, h]; rfl
theorem ev_or_fc {d : E} {es : List E} (h : evalE cl ρ c = some (.ok (.bool false))) (h2 : evalOr cl ρ (d :: es) = x) : evalE cl ρ (.or (c :: d :: es)) = x := by rw [ev_or, evo_cons, h]; exact h2
theorem ev_o_fc {d : E} {es : List E} (h : evalE cl ρ c = some (.ok (.bool false))) (h2 : evalOr cl ρ (d :: es) = x) : evalOr cl ρ (c :: d :: es) = x := by rw [evo_cons, h]; exact h2
theorem ev_o_tc {d : E} {es : List E} (h : evalE cl ρ c = some (.ok (.bool true))) : evalOr cl ρ (c :: d :: es) = some (.ok (.bool true)) := by rw [evo_cons, h]; rfl
theorem ev_dict_of {ks : List Str} {es : List E} (h : evalL cl ρ es = some (.ok vs)) (hk : ks.length = vs.length ∧ vs.all noList = true) : evalE cl ρ (.dict ks es) = some (.ok (.dict (ks.zip vs))) := by rw [ev_dict, h]; exact if_pos hk
theorem ev_didx_of {kvs : List (Str × V)} {s : Str} {d : E} (h : evalE cl ρ e = some (.ok (.dict kvs))) (h2 : evalE cl ρ d = some (.ok (.str s))) (h3 : dlook kvs s = some v) : evalE cl ρ (.didx e d) = some (.ok v) := by rw [ev_didx, h, R.bind_ok, k_didx, h2, R.bind_ok, k_didx1, h3]; rfl
theorem st_app_exc (hg : get ρ i = some (.lst true vs)) (h : evalE cl ρ e = some (.error v)) : execs cl (.append i e :: r) ρ = some (.exc v ρ) := by rw [exs_cons, ex_append, hg, k_ap, h]; rfl
theorem st_yes_as_exc {d : E} (h : evalE cl ρ c = some (.ok (.bool true))) (h2 : evalE cl ρ d = some (.error v)) : execs cl (.ite c (.assign i d :: a) b :: r) ρ = some (.exc v ρ) := by rw [st_yes h, exs_cons, ex_assign, h2]; rfl
theorem st_no_as_exc {d : E} (h : evalE cl ρ c = some (.ok (.bool false))) (h2 : evalE cl ρ d = some (.error v)) : execs cl (.ite c a (.assign i d :: b) :: r) ρ = some (.exc v ρ) := by rw [st_no h, exs_cons, ex_assign, h2]; rfl
theorem st_no_as1 {d : E} (h : evalE cl ρ c = some (.ok (.bool false))) (h2 : evalE cl ρ d = some (.ok v)) (hs : storable v = true) : execs cl (.ite c a [.assign i d] :: r) ρ = execs cl r (put ρ i v) := by rw [st_no h, st_as h2 hs]; rfl
theorem st_pop {j : Nat} (hg : get ρ j = some (.lst true (vs ++ [v]))) (hij : i ≠ j) (hl : (vs ++ [v]).length ≤ 1000000) : execs cl (.pop i j :: r) ρ = execs cl r (put (put ρ j (.lst true vs)) i v) := by
  rw [exs_cons, ex_pop, hg, k_pop, List.getLast?_concat, List.dropLast_concat]
  exact congrArg (fun o => thenX o (execs cl r)) (if_pos ⟨hij, hl⟩)
theorem end_thenX2_ret {k k' : Rho → Option Out} : endOf (thenX (thenX (execs cl (.ret e :: a) ρ) k) k') = evalE cl ρ e := by
  rw [exs_cons, ex_ret]
  match evalE cl ρ e with
  | Option.none => rfl
  | some (.ok _) => rfl
  | some (.error _) => rfl
theorem lt_t {a b : Int} (h : a < b) : vcmp .lt (.int a) (.int b) = some true := congrArg some (decide_eq_true h)
theorem lt_f {a b : Int} (h : ¬ a < b) : vcmp .lt (.int a) (.int b) = some false := congrArg some (decide_eq_false h)
theorem gt_t {a b : Int} (h : b < a) : vcmp .gt (.int a) (.int b) = some true := congrArg some (decide_eq_true h)
theorem gt_f {a b : Int} (h : ¬ b < a) : vcmp .gt (.int a) (.int b) = some false := congrArg some (decide_eq_false h)
theorem ge_t {a b : Int} (h : b ≤ a) : vcmp .ge (.int a) (.int b) = some true := congrArg some (decide_eq_true h)
theorem ge_f {a b : Int} (h : ¬ b ≤ a) : vcmp .ge (.int a) (.int b) = some false := congrArg some (decide_eq_false h)
theorem st_raise {x y z : V} (h : evalE cl ρ e = some (.ok (.exc x y z))) : endOf (execs cl (.raise e :: r) ρ) = some (.error (.exc x y z)) := by rw [exs_cons, ex_raise, h]; rfl
theorem st_raise_err (h : evalE cl ρ e = some (.error v)) : endOf (execs cl (.raise e :: r) ρ) = some (.error v) := by rw [exs_cons, ex_raise, h]; rfl
theorem ev_dget_of {kvs : List (Str × V)} {s : Str} {d : E} {o : Option V} (h : evalE cl ρ e = some (.ok (.dict kvs))) (h2 : evalE cl ρ d = some (.ok (.str s))) (h3 : dlook kvs s = o) : evalE cl ρ (.dget e d) = some (.ok (o.getD .none)) := by rw [ev_dget, h, R.bind_ok, k_dget, h2, R.bind_ok, k_dget1, h3]
theorem ex_fv {k : Nat} {body : List S} (hg : get ρ k = some (.lst false vs)) (hl : vs.length ≤ 1000000) : exec cl (.forVar i k body) ρ = forL i (fun ρ => execs cl body ρ) vs ρ := by rw [ex_forVar, hg]; exact if_pos hl
theorem st_as_exc (h : evalE cl ρ e = some (.error v)) : execs cl (.assign i e :: r) ρ = some (.exc v ρ) := by rw [exs_cons, ex_assign, h]; rfl
theorem ev_inv_of {q : Int} (ha : evalE cl ρ e = some (.ok (.int q))) : evalE cl ρ (.inv e) = some (.ok (.int (Builtin.bitNot q))) := by rw [ev_inv, ha]; rfl
theorem st_do (h : evalE cl ρ e = some (.ok .none)) : execs cl (.expr e :: r) ρ = execs cl r ρ := by rw [exs_cons, ex_expr, h]; rfl
theorem st_do_err (h : evalE cl ρ e = some (.error v)) : endOf (execs cl (.expr e :: r) ρ) = some (.error v) := by rw [exs_cons, ex_expr, h]; rfl
theorem ev_join_of {o : Bool} {l : List Str} (h : evalE cl ρ e = some (.ok (.lst o (l.map .str)))) (hj : JoinOk Str.empty l = true) : evalE cl ρ (.join e) = some (.ok (.str (Txt.join Str.empty l))) := by rw [ev_join, h, R.bind_ok, k_join, strIs_map]; exact congrArg R.of (if_pos hj)
theorem ev_bin_of {o : AOp} {x y z : V} {d : E} (ha : evalE cl ρ e = some (.ok x)) (hb : evalE cl ρ d = some (.ok y)) (h : arith o x y = some z) : evalE cl ρ (.bin o e d) = some (.ok z) := by rw [ev_bin, ha, R.bind_ok, k_bin, hb, R.bind_ok, k_bin1, h]; rfl
theorem ev_cmp_of {o : COp} {q : Bool} {x y : V} {d : E} (ha : evalE cl ρ e = some (.ok x)) (hb : evalE cl ρ d = some (.ok y)) (h : vcmp o x y = some q) : evalE cl ρ (.cmp o e d) = some (.ok (.bool q)) := by rw [ev_cmp, ha, R.bind_ok, k_cmp, hb, R.bind_ok, k_cmp1, h]; rfl
theorem ev_idx_of {x y z : V} {d : E} (ha : evalE cl ρ e = some (.ok x)) (hb : evalE cl ρ d = some (.ok y)) (h : vidx x y = some z) : evalE cl ρ (.idx e d) = some (.ok z) := by rw [ev_idx, ha, R.bind_ok, k_idx, hb, R.bind_ok, k_idx1, h]; rfl
theorem ev_slTo_of {x y z : V} {d : E} (ha : evalE cl ρ e = some (.ok x)) (hb : evalE cl ρ d = some (.ok y)) (h : vslTo x y = some z) : evalE cl ρ (.slTo e d) = some (.ok z) := by rw [ev_slTo, ha, R.bind_ok, k_slTo, hb, R.bind_ok, k_slTo1, h]; rfl
theorem ev_slFrom_of {x y z : V} {d : E} (ha : evalE cl ρ e = some (.ok x)) (hb : evalE cl ρ d = some (.ok y)) (h : vslFrom x y = some z) : evalE cl ρ (.slFrom e d) = some (.ok z) := by rw [ev_slFrom, ha, R.bind_ok, k_slFrom, hb, R.bind_ok, k_slFrom1, h]; rfl
theorem ev_compIdx_of {y : V} {k : Nat} (ha : evalE cl ρ e = some (.ok v)) (h : compIdxV k v = some (.ok y)) : evalE cl ρ (.compIdx k e) = some (.ok y) := by rw [ev_compIdx, ha]; exact h
theorem ev_neg_of {q : Int} (ha : evalE cl ρ e = some (.ok (.int q))) : evalE cl ρ (.neg e) = some (.ok (.int (-q))) := by rw [ev_neg, ha]; rfl
theorem ev_not_of {q : Bool} (ha : evalE cl ρ e = some (.ok (.bool q))) : evalE cl ρ (.not e) = some (.ok (.bool (!q))) := by rw [ev_not, ha]; rfl
theorem ev_ite_t {d d' : E} (h : evalE cl ρ c = some (.ok (.bool true))) (h2 : evalE cl ρ d = x) : evalE cl ρ (.ite c d d') = x := by rw [ev_ite, h]; exact h2
theorem ev_ite_f {d d' : E} (h : evalE cl ρ c = some (.ok (.bool false))) (h2 : evalE cl ρ d' = x) : evalE cl ρ (.ite c d d') = x := by rw [ev_ite, h]; exact h2
theorem ev_or_t {d : E} {es : List E} (h : evalE cl ρ c = some (.ok (.bool true))) : evalE cl ρ (.or (c :: d :: es)) = some (.ok (.bool true)) := by rw [ev_or, evo_cons, h]; rfl
theorem ev_or_f {d : E} (h : evalE cl ρ c = some (.ok (.bool false))) (h2 : evalE cl ρ d = x) : evalE cl ρ (.or [c, d]) = x := by rw [ev_or, evo_cons, h]; exact h2
theorem ev_and_f {d : E} {es : List E} (h : evalE cl ρ c = some (.ok (.bool false))) : evalE cl ρ (.and (c :: d :: es)) = some (.ok (.bool false)) := by rw [ev_and, eva_cons, h]; rfl
theorem ev_and_t {d : E} (h : evalE cl ρ c = some (.ok (.bool true))) (h2 : evalE cl ρ d = x) : evalE cl ρ (.and [c, d]) = x := by rw [ev_and, eva_cons, h]; exact h2
theorem plainN {v : V} (h : noList v = true) : plain v = true := by cases v <;> first | rfl | cases h
theorem ev_tup2 {d : E} {w : V} (h : evalE cl ρ e = some (.ok v)) (hp : plain v = true) (hn : noList v = true) (h' : evalE cl ρ d = some (.ok w)) (hp' : plain w = true) (hn' : noList w = true) : evalE cl ρ (.tup [e, d]) = some (.ok (.tup [v, w])) := by
  rw [ev_tup, evl_two h hp h' hp']; exact if_pos (by rw [List.all_cons, List.all_cons, hn, hn']; rfl)
theorem evl_cons_of {es : List E} (h : evalE cl ρ e = some (.ok v)) (hp : plain v = true) (h' : evalL cl ρ es = some (.ok vs)) : evalL cl ρ (e :: es) = some (.ok (v :: vs)) := by
  rw [evl_cons, h]; exact (if_pos hp).trans (by rw [h']; rfl)
theorem evl_three {d d' : E} {w w' : V} (h : evalE cl ρ e = some (.ok v)) (hp : plain v = true) (h' : evalE cl ρ d = some (.ok w)) (hp' : plain w = true) (h'' : evalE cl ρ d' = some (.ok w')) (hp'' : plain w' = true) : evalL cl ρ [e, d, d'] = some (.ok [v, w, w']) :=
  evl_cons_of h hp (evl_two h' hp' h'' hp'')
theorem st_un2 {j : Nat} {y z : V} (h : evalE cl ρ e = some (.ok (.tup [y, z]))) : execs cl (.unpack2 i j e :: r) ρ = execs cl r (put (put ρ i y) j z) := by rw [exs_cons, ex_unpack2, h]; rfl
theorem st_app (hg : get ρ i = some (.lst true vs)) (h : evalE cl ρ e = some (.ok v)) (hn : noList v = true) (hl : vs.length ≤ 1000000) : execs cl (.append i e :: r) ρ = execs cl r (put ρ i (.lst true (vs ++ [v]))) := by
  rw [exs_cons, ex_append, hg, k_ap, h, onE_ok, hg]
  exact congrArg (fun o => thenX o (execs cl r)) (if_pos (by rw [hn, decide_eq_true hl]; rfl))
end

theorem FUEL_eq : FUEL = 2 ^ 100 := by unfold FUEL; rfl

/-- the rule of a while -/
inductive Turn (t : Rho → R V) (b : Rho → Option Out) (ρ : Rho) (G : Rho → Prop) (Q : Out → Prop) : Prop
  | stop : t ρ = some (.ok (.bool false)) → Q (.next ρ) → Turn t b ρ G Q
  | err {e : V} : t ρ = some (.error e) → Q (.exc e ρ) → Turn t b ρ G Q
  | go {ρ' : Rho} : t ρ = some (.ok (.bool true)) → b ρ = some (.next ρ') → G ρ' → Turn t b ρ G Q
  | ret {v : V} : t ρ = some (.ok (.bool true)) → b ρ = some (.ret v) → Q (.ret v) → Turn t b ρ G Q
  | exc {v : V} {ρ' : Rho} : t ρ = some (.ok (.bool true)) → b ρ = some (.exc v ρ') → Q (.exc v ρ') → Turn t b ρ G Q
theorem loop_rule {t : Rho → R V} {b : Rho → Option Out} {Q : Out → Prop} (I : Nat → Rho → Prop) (step : ∀ k ρ, I k ρ → Turn t b ρ (fun ρ' => ∃ k', k' < k ∧ I k' ρ') Q) :
    ∀ n k ρ, k < n → I k ρ → ∃ o, loopN t b n ρ = some o ∧ Q o
  | 0, _, _, h, _ => absurd h (Nat.not_lt_zero _)
  | n + 1, k, ρ, h, hi => by
    unfold loopN
    cases step k ρ hi with
    | stop h1 h2 => exact ⟨_, by rw [h1]; rfl, h2⟩
    | err h1 h2 => exact ⟨_, by rw [h1]; rfl, h2⟩
    | go h1 h2 h3 =>
      obtain ⟨k', hk, hi'⟩ := h3
      obtain ⟨o, e, q⟩ := loop_rule I step n k' _ (by (first | lia | omega)) hi'
      exact ⟨o, by rw [h1]; simp only [onE_ok, tr_bool, h2]; exact e, q⟩
    | ret h1 h2 h3 => exact ⟨_, by rw [h1]; simp only [onE_ok, tr_bool, h2], h3⟩
    | exc h1 h2 h3 => exact ⟨_, by rw [h1]; simp only [onE_ok, tr_bool, h2], h3⟩
theorem loop_stop {t : Rho → R V} {b : Rho → Option Out} {ρ : Rho} (h : t ρ = some (.ok (.bool false))) : loopN t b FUEL ρ = some (.next ρ) := by
  rw [FUEL_eq, show (2 ^ 100 : Nat) = (2 ^ 100 - 1) + 1 from rfl]
  unfold loopN
  rw [h]
  rfl
end Mine
end
section
open PySem
namespace Mine
set_option linter.unusedVariables false
set_option linter.unusedSimpArgs false

@[simp] theorem c_error (d : Nat) (t : Str) (ts : List V) : callN P (d + 1) 0 [.str t, .tup ts] = some (.ok (.exc (.int 1) (.str t) (.tup ts))) := by
  rw [call_of (fn := F_error) (body := B_F_error) (ρ := [some (.str t), some (.tup ts)]) rfl rfl rfl]
  simp [B_F_error, exs_cons]
@[simp] theorem c_error1 (d : Nat) (t : Str) : callN P (d + 1) 0 [.str t] = some (.ok (.exc (.int 1) (.str t) (.tup [.str (Str.ofString "NONE")]))) := by
  rw [call_of (fn := F_error) (body := B_F_error) (ρ := [some (.str t), some (.tup [.str (Str.ofString "NONE")])]) rfl rfl rfl]
  simp [B_F_error, exs_cons]

noncomputable def blankC (c : Nat) : Bool := 32 == c || (9 == c || (10 == c || (11 == c || (12 == c || 13 == c))))
theorem chr_eq {s : String} {k : Nat} (h : Str.ofString s = ⟨#[k]⟩) (c : Nat) : (Str.ofString s == (⟨#[c]⟩ : Str)) = (k == c) := by
  rw [h]
  by_cases e : k = c
  · subst e; simp
  · have : ¬ (⟨#[k]⟩ : Str) = ⟨#[c]⟩ := fun q => by simp at q; exact e q
    rw [beq_eq_false_iff_ne.mpr this, beq_eq_false_iff_ne.mpr e]
theorem chr_eq' {s : String} {k : Nat} (h : Str.ofString s = ⟨#[k]⟩) (c : Nat) : ((⟨#[c]⟩ : Str) == Str.ofString s) = (c == k) := by
  rw [h]
  by_cases e : c = k
  · subst e; simp
  · have : ¬ (⟨#[c]⟩ : Str) = ⟨#[k]⟩ := fun q => by simp at q; exact e q
    rw [beq_eq_false_iff_ne.mpr this, beq_eq_false_iff_ne.mpr e]
theorem o_sp : Str.ofString " " = ⟨#[32]⟩ := by decide +kernel
theorem o_tab : Str.ofString "\t" = ⟨#[9]⟩ := by decide +kernel
theorem o_nl : Str.ofString "\n" = ⟨#[10]⟩ := by decide +kernel
theorem o_vt : Str.ofString "\x0b" = ⟨#[11]⟩ := by decide +kernel
theorem o_ff : Str.ofString "\x0c" = ⟨#[12]⟩ := by decide +kernel
theorem o_cr : Str.ofString "\r" = ⟨#[13]⟩ := by decide +kernel
theorem o_plus : Str.ofString "+" = ⟨#[43]⟩ := by decide +kernel
theorem o_minus : Str.ofString "-" = ⟨#[45]⟩ := by decide +kernel
theorem o_0 : Str.ofString "0" = ⟨#[48]⟩ := by decide +kernel
theorem o_x : Str.ofString "x" = ⟨#[120]⟩ := by decide +kernel
theorem o_X : Str.ofString "X" = ⟨#[88]⟩ := by decide +kernel
theorem o_o : Str.ofString "o" = ⟨#[111]⟩ := by decide +kernel
theorem o_O : Str.ofString "O" = ⟨#[79]⟩ := by decide +kernel
theorem o_b : Str.ofString "b" = ⟨#[98]⟩ := by decide +kernel
theorem o_B : Str.ofString "B" = ⟨#[66]⟩ := by decide +kernel
theorem o_d : Str.ofString "d" = ⟨#[100]⟩ := by decide +kernel
theorem o_D : Str.ofString "D" = ⟨#[68]⟩ := by decide +kernel
theorem o_bs : Str.ofString "\\" = ⟨#[92]⟩ := by decide +kernel
theorem o_br : Str.ofString "{" = ⟨#[123]⟩ := by decide +kernel
theorem o_q : Str.ofString "\"" = ⟨#[34]⟩ := by decide +kernel

@[simp] theorem c_is_blank (d : Nat) (c : Nat) : callN P (d + 1) 1 [.str ⟨#[c]⟩] = some (.ok (.bool (blankC c))) := by
  rw [call_of (fn := F_is_blank) (body := B_F_is_blank) (ρ := [some (.str ⟨#[c]⟩)]) rfl rfl rfl]
  simp [B_F_is_blank, exs_cons, blankC, chr_eq o_sp, chr_eq o_tab, chr_eq o_nl, chr_eq o_vt, chr_eq o_ff, chr_eq o_cr]

noncomputable def dig (c : Nat) : Int := if 48 ≤ c ∧ c ≤ 57 then c - 48 else if 97 ≤ c ∧ c ≤ 122 then c - 87 else if 65 ≤ c ∧ c ≤ 90 then c - 55 else -1
theorem len_one (c : Nat) : (⟨#[c]⟩ : Str).length = 1 := rfl
@[simp] theorem b_len_one (c : Nat) : builtin1 .len (.str ⟨#[c]⟩) = some (.int 1) := rfl
@[simp] theorem b_ord_one (c : Nat) : builtin1 .ord (.str ⟨#[c]⟩) = some (.int c) := rfl
theorem c_digit (d : Nat) (c : Nat) (h1 : 48 ≤ c) (h2 : c ≤ 57) : callN P (d + 1) 2 [.str ⟨#[c]⟩] = some (.ok (.int (c - 48 : Nat))) := by
  rw [call_of (fn := F_digit) (body := B_F_digit) (ρ := [some (.str ⟨#[c]⟩), none]) rfl rfl rfl]
  have e1 : (48 : Int) ≤ c := by (first | lia | omega)
  have e2 : (c : Int) ≤ 57 := by (first | lia | omega)
  simp [B_F_digit, exs_cons, e1, e2]
  (first | lia | omega)

noncomputable def digs (ds : List Nat) : Prop := ∀ c ∈ ds, 48 ≤ c ∧ c ≤ 57
noncomputable def valD (v : Nat) (ds : List Nat) : Nat := ds.foldl (fun v c => v * 10 + (c - 48)) v
theorem small_of {v : Nat} {k : Nat} (h : v < 10 ^ k) (hk : k ≤ 1000) : small (v : Int) = true := by
  unfold small
  simp only [Int.natAbs_natCast, decide_eq_true_eq]
  have h1 : (10 : Nat) ^ k ≤ 10 ^ 1000 := Nat.pow_le_pow_right (by decide) hk
  have h2 : (10 : Nat) ^ 1000 < 2 ^ 4096 := by decide +kernel
  exact Nat.lt_trans (Nat.lt_of_lt_of_le h h1) h2
theorem small_ten : small 10 = true := by
  unfold small; decide +kernel
theorem forL_next {i : Nat} {b : Rho → Option Out} {v : V} {r : List V} {ρ ρ' : Rho} (h : b (put ρ i v) = some (.next ρ')) : forL i b (v :: r) ρ = forL i b r ρ' := by
  rw [forL, h]
theorem forL_cont {i : Nat} {b : Rho → Option Out} {v : V} {r : List V} {ρ ρ' : Rho} (h : b (put ρ i v) = some (.cont ρ')) : forL i b (v :: r) ρ = forL i b r ρ' := by
  rw [forL, h]
theorem forL_ret {i : Nat} {b : Rho → Option Out} {v u : V} {r : List V} {ρ : Rho} (h : b (put ρ i v) = some (.ret u)) : forL i b (v :: r) ρ = some (.ret u) := by
  rw [forL, h]
theorem forL_exc {i : Nat} {b : Rho → Option Out} {v u : V} {r : List V} {ρ ρ' : Rho} (h : b (put ρ i v) = some (.exc u ρ')) : forL i b (v :: r) ρ = some (.exc u ρ') := by
  rw [forL, h]
noncomputable def dvBody : List S := [.assign 4 (.call 2 [(.var 3)]),
    .ite (.or [(.cmp .lt (.var 4) (.int 0)), (.cmp .ge (.var 4) (.var 1))]) [.ret .none] [],
    .assign 2 (.bin .add (.bin .mul (.var 2) (.var 1)) (.var 4))]
theorem dv_num {v c : Nat} {k : Nat} (hv : v < 10 ^ k) (h1 : 48 ≤ c) (h2 : c ≤ 57) : v * 10 + (c - 48) < 10 ^ (k + 1) ∧ ¬ ((c - 48 : Nat) : Int) < 0 ∧ ¬ (10 : Int) ≤ ((c - 48 : Nat) : Int) := by rw [Nat.pow_succ]; exact ⟨by (first | lia | omega), by (first | lia | omega), by (first | lia | omega)⟩
theorem ar_mul {a b : Int} (ha : small a = true) (hb : small b = true) : arith .mul (.int a) (.int b) = some (.int (a * b)) := if_pos (by rw [ha, hb]; rfl)
theorem dv_loop (d : Nat) (tx : V) : ∀ (cs : List Nat) (v k : Nat) (x y : Option V), digs cs → v < 10 ^ k → k + cs.length ≤ 1000 →
    ∃ x' y', forL 3 (fun ρ => execs (callN P (d + 1)) dvBody ρ) (cs.map fun c => V.str ⟨#[c]⟩) [some tx, some (.int 10), some (.int v), x, y] = some (.next [some tx, some (.int 10), some (.int (valD v cs : Nat)), x', y']) := by
  intro cs
  induction cs with
  | nil => intro v k x y _ _ _; exact ⟨x, y, rfl⟩
  | cons c cs ih =>
    intro v k x y hd hv hk
    obtain ⟨h1, h2⟩ := hd c (List.mem_cons_self ..)
    obtain ⟨e0, e1, e2⟩ := dv_num hv h1 h2
    obtain ⟨x', y', ih⟩ := ih (v * 10 + (c - 48)) (k + 1) (some (.str ⟨#[c]⟩)) (some (.int (c - 48 : Nat))) (fun c hc => hd c (List.mem_cons_of_mem _ hc)) e0 (Nat.le_trans (Nat.le_of_eq (Nat.add_right_comm ..)) hk)
    exact ⟨x', y', (forL_next ((st_as (ev_call_of (evl_one rfl rfl) (c_digit d c h1 h2)) rfl).trans ((st_no' (ev_or_f (ev_cmp_of rfl rfl (lt_f e1)) (ev_cmp_of rfl rfl (ge_f e2)))).trans (st_as (ev_bin_of (ev_bin_of rfl rfl (ar_mul (small_of hv (Nat.le_trans (Nat.le_add_right ..) hk)) small_ten)) rfl rfl) rfl)))).trans ih⟩
theorem str_ne_empty {ds : List Nat} (h : ds ≠ []) : ((⟨ds.toArray⟩ : Str) == Str.ofString "") = false := by
  rw [beq_eq_false_iff_ne, show Str.ofString "" = ⟨#[]⟩ from by decide +kernel]
  intro e
  simp at e
  exact h e
theorem eq_str {a b : Str} {q : Bool} (h : (a == b) = q) : vcmp .eq (.str a) (.str b) = some q := congrArg some h
theorem len_str {l : List Nat} : (⟨l.toArray⟩ : Str).length = l.length := List.size_toArray ..
theorem c_digits (d : Nat) (ds : List Nat) (hne : ds ≠ []) (hd : digs ds) (hl : ds.length ≤ 1000) : callN P (d + 2) 3 [.str ⟨ds.toArray⟩, .int 10] = some (.ok (.int (valD 0 ds : Nat))) := by
  obtain ⟨x', y', hf⟩ := dv_loop d (.str ⟨ds.toArray⟩) ds 0 0 none none hd (by decide) (Nat.le_trans (Nat.le_of_eq (Nat.zero_add _)) hl)
  have e : exec (callN P (d + 1)) (.for 3 (.var 0) dvBody) [some (.str ⟨ds.toArray⟩), some (.int 10), some (.int 0), none, none] = some (.next [some (.str ⟨ds.toArray⟩), some (.int 10), some (.int (valD 0 ds : Nat)), x', y']) :=
    (if_pos (Nat.le_trans (Nat.le_of_eq (List.length_map ..)) (Nat.le_trans hl (Nat.le_of_ble_eq_true rfl)))).trans hf
  exact (call_of (fn := F_digits_value) (body := B_F_digits_value) (ρ := [some (.str ⟨ds.toArray⟩), some (.int 10), none, none, none]) rfl rfl rfl).trans ((congrArg endOf ((st_no' (ev_cmp_of rfl rfl (eq_str (str_ne_empty hne)))).trans ((st_as rfl rfl).trans (st_in_next e)))).trans st_ret)

theorem c_base_of (d : Nat) (c : Nat) (h1 : 48 ≤ c) (h2 : c ≤ 57) : callN P (d + 1) 4 [.str ⟨#[c]⟩] = some (.ok (.int 0)) := by
  rw [call_of (fn := F_base_of) (body := B_F_base_of) (ρ := [some (.str ⟨#[c]⟩)]) rfl rfl rfl]
  have g : ∀ k : Nat, 57 < k → (k == c) = false := fun k hk => by rw [beq_eq_false_iff_ne]; (first | lia | omega)
  simp [B_F_base_of, exs_cons, chr_eq o_x, chr_eq o_X, chr_eq o_o, chr_eq o_O, chr_eq o_b, chr_eq o_B, chr_eq o_d, chr_eq o_D, g]

theorem vidx_chr {l : List Nat} {i : Int} {k c : Nat} (hi : i = k) (hk : k ≤ 1000000000) (h : l[k]? = some c) : vidx (.str ⟨l.toArray⟩) (.int i) = some (.str ⟨#[c]⟩) := by
  subst hi
  show (if (0 : Int) ≤ k ∧ (k : Int) ≤ 1000000000 then _ else _) = _
  rw [if_pos (by (first | lia | omega))]
  simp [h]
theorem b_len_str {l : List Nat} (h : l.length ≤ 1000000000) : builtin1 .len (.str ⟨l.toArray⟩) = some (.int l.length) := by
  have : (⟨l.toArray⟩ : Str).length = l.length := by simp [Str.length]
  show (if (⟨l.toArray⟩ : Str).length ≤ 1000000000 then some (V.int (⟨l.toArray⟩ : Str).length) else _) = _
  rw [this, if_pos h]
theorem slice_is {l : List Nat} {i j : Nat} (h : i ≤ j) (h2 : j ≤ l.length) (h3 : l.length ≤ sizeLine) : vslBoth (.str ⟨l.toArray⟩) (.int i) (.int j) = some (.str ⟨((l.drop i).take (j - i)).toArray⟩) := by
  have hl : (⟨l.toArray⟩ : Str).length = l.length := by simp [Str.length]
  show (if (⟨l.toArray⟩ : Str).length ≤ sizeLine then some (V.str (Txt.slice ⟨l.toArray⟩ (some i) (some j))) else _) = _
  rw [hl, if_pos h3]
  have := PyProof.Rows.slice_closes (x := ⟨l.toArray⟩) (i := i) (j := j) ⟨by (first | lia | omega), by (first | lia | omega), by simp; (first | lia | omega)⟩
  rw [eq_of_beq this]
  simp [show ((j : Int) - i).toNat = j - i by (first | lia | omega)]

theorem dig_not_blank {c : Nat} (h : 48 ≤ c) : blankC c = false := by
  unfold blankC
  simp only [Bool.or_eq_false_iff, beq_eq_false_iff_ne]
  (first | lia | omega)
theorem while_stop {cl : Nat → List V → R V} {ρ : Rho} {c : E} {body : List S} (h : evalE cl ρ c = some (.ok (.bool false))) : exec cl (.while c body) ρ = some (.next ρ) := loop_stop h
theorem ev_slB_of {cl : Nat → List V → R V} {ρ : Rho} {a b c : E} {x y z w : V} (ha : evalE cl ρ a = some (.ok x)) (hb : evalE cl ρ b = some (.ok y)) (hc : evalE cl ρ c = some (.ok z)) (h : vslBoth x y z = some w) : evalE cl ρ (.slBoth a b c) = some (.ok w) := by
  rw [ev_slBoth, ha, R.bind_ok, k_slB, hb, R.bind_ok, k_slB1, hc, R.bind_ok, k_slB2, h]; rfl
@[reducible] noncomputable def RW (l : List Nat) (p n : Nat) (s b x : Option V) : Rho := [some (.str ⟨l.toArray⟩), some (.int p), some (.int n), s, b, x]
theorem sub_gt {a b : Nat} : (2 : Int) < (a : Int) - (b : Nat) ↔ 2 < a - b := by (first | lia | omega)
/-- behind the sign -/
theorem whole_tail (d : Nat) {l ds : List Nat} {p : Nat} (hp : l.drop p = ds) (hne : ds ≠ []) (hd : digs ds) (hl : l.length ≤ 1001) (hpl : p + ds.length = l.length) (hp1 : ds.length ≤ 1000) (neg : Bool) :
    endOf (execs (callN P (d + 2)) (B_F_whole_of.drop 5) (RW l p l.length (some (.bool neg)) none none)) = some (.ok (.int (if neg = true then -(valD 0 ds : Nat) else (valD 0 ds : Nat)))) := by
  have gt : ∀ i : Nat, i < ds.length → ∃ c, l[p + i]? = some c ∧ 48 ≤ c ∧ c ≤ 57 := fun i hi => by
    obtain ⟨c, hc⟩ : ∃ c, ds[i]? = some c := ⟨_, List.getElem?_eq_getElem hi⟩
    exact ⟨c, by rw [← List.getElem?_drop, hp, hc], hd c (List.mem_of_getElem? hc)⟩
  have hp9 : p + 1 ≤ 1000000000 := Nat.le_trans (Nat.succ_le_succ (Nat.le_trans (Nat.le_add_right ..) (Nat.le_trans (Nat.le_of_eq hpl) hl))) (Nat.le_of_ble_eq_true rfl)
  obtain ⟨c0, h0, d0⟩ := gt 0 (List.length_pos_iff.mpr hne)
  have i0 : ∀ cl, evalE cl (RW l p l.length (some (.bool neg)) (some (.int 0)) none) (.idx (.var 0) (.var 1)) = some (.ok (.str ⟨#[c0]⟩)) := fun cl => ev_idx_of rfl rfl (vidx_chr rfl (Nat.le_of_succ_le hp9) h0)
  have c6 : ∀ b cl, decide ((2 : Int) < (l.length : Int) - p) = b → evalE cl (RW l p l.length (some (.bool neg)) (some (.int 0)) none) (.cmp .gt (.bin .sub (.var 2) (.var 1)) (.int 2)) = some (.ok (.bool b)) := fun b cl h => ev_cmp_of (ev_bin_of rfl rfl rfl) rfl (congrArg some h)
  have s6 : execs (callN P (d + 2)) (B_F_whole_of.drop 6) (RW l p l.length (some (.bool neg)) (some (.int 0)) none) = execs (callN P (d + 2)) (B_F_whole_of.drop 7) (RW l p l.length (some (.bool neg)) (some (.int 0)) none) := by
    cases h2 : decide ((2 : Int) < (l.length : Int) - p) with
    | false => exact st_no' (ev_and_f (c6 false _ h2))
    | true =>
      have h3 : 2 < ds.length := by have := sub_gt.mp (of_decide_eq_true h2); rw [← hpl, Nat.add_sub_cancel_left] at this; exact this
      obtain ⟨c2, h3, d2⟩ := gt 1 (Nat.lt_of_succ_lt h3)
      have e : evalE (callN P (d + 2)) (RW l p l.length (some (.bool neg)) (some (.int 0)) none) (.cmp .eq (.idx (.var 0) (.var 1)) (.str (Str.ofString "0"))) = some (.ok (.bool (c0 == 48))) := ev_cmp_of (i0 _) rfl (eq_str (chr_eq' o_0 c0))
      cases hz : (c0 == 48) with
      | false => rw [hz] at e; exact st_no' (ev_and_t (c6 true _ h2) e)
      | true => rw [hz] at e; exact st_yes_as1 (ev_and_t (c6 true _ h2) e) (ev_call_of (evl_one (ev_idx_of rfl (ev_bin_of rfl rfl rfl) (vidx_chr (k := p + 1) rfl hp9 h3)) rfl) (c_base_of (d + 1) c2 d2.1 d2.2)) rfl
  have sl := slice_is (l := l) (i := p) (j := l.length) (hpl ▸ Nat.le_add_right ..) (Nat.le_refl _) (Nat.le_trans hl (Nat.le_of_ble_eq_true rfl))
  rw [hp, List.take_of_length_le (by rw [← hpl, Nat.add_sub_cancel_left]; exact Nat.le_refl _)] at sl
  refine (congrArg endOf ((st_as rfl rfl).trans (s6.trans ((st_no_as1 (ev_cmp_of rfl rfl rfl) (ev_call_of (evl_two (ev_slB_of rfl rfl rfl sl) rfl rfl rfl) (c_digits d ds hne hd hp1)) rfl).trans (st_no' rfl))))).trans (st_ret.trans ?_)
  cases neg
  · exact ev_ite_f rfl rfl
  · exact ev_ite_t rfl (ev_neg_of rfl)
/-- ahead of the sign: nothing is blank -/
theorem whole_head (d : Nat) {l : List Nat} {a z : Nat} (h0 : l[0]? = some a) (h1 : l[l.length - 1]? = some z) (ha : blankC a = false) (hz : blankC z = false) (hl : l.length ≤ 1001) :
    callN P (d + 3) 5 [.str ⟨l.toArray⟩] = endOf (execs (callN P (d + 2)) (B_F_whole_of.drop 4) (RW l 0 l.length (some (.bool false)) none none)) ∧ 0 < l.length := by
  have hpos : 0 < l.length := by
    cases l with
    | nil => cases h0
    | cons _ _ => exact Nat.succ_pos _
  have lt : ∀ cl, evalE cl (RW l 0 l.length none none none) (.cmp .lt (.var 1) (.var 2)) = some (.ok (.bool true)) := fun cl => ev_cmp_of rfl rfl (lt_t (Int.ofNat_lt.mpr hpos))
  have w1 : exec (callN P (d + 2)) (.while (.and [(.cmp .lt (.var 1) (.var 2)), (.call 1 [(.idx (.var 0) (.var 1))])]) [.aug 1 .add (.int 1)]) (RW l 0 l.length none none none) = some (.next (RW l 0 l.length none none none)) :=
    while_stop (ev_and_t (lt _) (ev_call_of (evl_one (ev_idx_of rfl rfl (vidx_chr rfl (Nat.zero_le _) h0)) rfl) ((c_is_blank (d + 1) a).trans (by rw [ha]))))
  have w2 : exec (callN P (d + 2)) (.while (.and [(.cmp .lt (.var 1) (.var 2)), (.call 1 [(.idx (.var 0) (.bin .sub (.var 2) (.int 1)))])]) [.aug 2 .sub (.int 1)]) (RW l 0 l.length none none none) = some (.next (RW l 0 l.length none none none)) :=
    while_stop (ev_and_t (lt _) (ev_call_of (evl_one (ev_idx_of rfl (ev_bin_of rfl rfl rfl) (vidx_chr (k := l.length - 1) (Int.ofNat_sub hpos).symm (Nat.le_trans (Nat.sub_le ..) (Nat.le_trans hl (Nat.le_of_ble_eq_true rfl))) h1)) rfl) ((c_is_blank (d + 1) z).trans (by rw [hz]))))
  exact ⟨(call_of (fn := F_whole_of) (body := B_F_whole_of) (ρ := [some (.str ⟨l.toArray⟩), none, none, none, none, none]) rfl rfl rfl).trans (congrArg endOf ((st_un2 (ev_tup2 rfl rfl rfl (ev_b1_of rfl (b_len_str (Nat.le_trans hl (Nat.le_of_ble_eq_true rfl)))) rfl rfl)).trans
    ((st_in_next w1).trans ((st_in_next w2).trans (st_as rfl rfl))))), hpos⟩
theorem sign_in (c : Nat) : isInV (.str ⟨#[c]⟩) (.tup [.str (Str.ofString "+"), .str (Str.ofString "-")]) = some (43 == c || (45 == c || false)) :=
  congrArg some (by show ((Str.ofString "+" == (⟨#[c]⟩ : Str)) || ((Str.ofString "-" == (⟨#[c]⟩ : Str)) || false)) = _; rw [chr_eq o_plus, chr_eq o_minus])
theorem dig_sign {c : Nat} (h : 48 ≤ c) : (43 == c || (45 == c || false)) = false := by
  rw [beq_eq_false_iff_ne.mpr (Nat.ne_of_lt (Nat.lt_of_lt_of_le (by decide) h)), beq_eq_false_iff_ne.mpr (Nat.ne_of_lt (Nat.lt_of_lt_of_le (by decide) h))]; rfl
theorem c_whole_nonneg (d : Nat) (ds : List Nat) (hne : ds ≠ []) (hd : digs ds) (hl : ds.length ≤ 1000) : callN P (d + 3) 5 [.str ⟨ds.toArray⟩] = some (.ok (.int (valD 0 ds : Nat))) := by
  have hpos : 0 < ds.length := List.length_pos_iff.mpr hne
  obtain ⟨c0, h0⟩ : ∃ c, ds[0]? = some c := ⟨_, List.getElem?_eq_getElem hpos⟩
  obtain ⟨c1, h1⟩ : ∃ c, ds[ds.length - 1]? = some c := ⟨_, List.getElem?_eq_getElem (Nat.sub_lt hpos Nat.zero_lt_one)⟩
  have d0 := hd c0 (List.mem_of_getElem? h0)
  obtain ⟨e, _⟩ := whole_head d h0 h1 (dig_not_blank d0.1) (dig_not_blank (hd c1 (List.mem_of_getElem? h1)).1) (Nat.le_succ_of_le hl)
  exact e.trans ((congrArg endOf (st_no' (ev_and_t (ev_cmp_of rfl rfl (lt_t (Int.ofNat_lt.mpr hpos))) (ev_in_of (ev_idx_of rfl rfl (vidx_chr rfl (Nat.zero_le _) h0)) rfl ((sign_in c0).trans (congrArg some (dig_sign d0.1))))))).trans
    (whole_tail d (p := 0) (l := ds) rfl hne hd (Nat.le_succ_of_le hl) (Nat.zero_add _) hl false))
theorem c_whole_neg (d : Nat) (ds : List Nat) (hne : ds ≠ []) (hd : digs ds) (hl : ds.length ≤ 1000) : callN P (d + 3) 5 [.str ⟨(45 :: ds).toArray⟩] = some (.ok (.int (-(valD 0 ds : Nat)))) := by
  have hpos : 0 < ds.length := List.length_pos_iff.mpr hne
  obtain ⟨c1, h1⟩ : ∃ c, ds[ds.length - 1]? = some c := ⟨_, List.getElem?_eq_getElem (Nat.sub_lt hpos Nat.zero_lt_one)⟩
  obtain ⟨e, hp⟩ := whole_head d (l := 45 :: ds) (a := 45) (z := c1) rfl (by rw [List.length_cons, Nat.add_sub_cancel, ← Nat.sub_add_cancel hpos]; exact h1) rfl (dig_not_blank (hd c1 (List.mem_of_getElem? h1)).1) (Nat.succ_le_succ hl)
  have i0 : evalE (callN P (d + 2)) (RW (45 :: ds) 0 (45 :: ds).length (some (.bool false)) none none) (.idx (.var 0) (.var 1)) = some (.ok (.str ⟨#[45]⟩)) := ev_idx_of rfl rfl (vidx_chr (k := 0) rfl (Nat.zero_le _) rfl)
  have sg : execs (callN P (d + 2)) [.assign 3 (.cmp .eq (.idx (.var 0) (.var 1)) (.str (Str.ofString "-"))), .aug 1 .add (.int 1)] (RW (45 :: ds) 0 (45 :: ds).length (some (.bool false)) none none) = some (.next (RW (45 :: ds) 1 (45 :: ds).length (some (.bool true)) none none)) :=
    (st_as (v := .bool true) (ev_cmp_of i0 rfl (eq_str (chr_eq' o_minus 45))) rfl).trans rfl
  exact e.trans ((congrArg endOf ((st_yes (ev_and_t (ev_cmp_of rfl rfl (lt_t (Int.ofNat_lt.mpr hp))) (ev_in_of i0 rfl (sign_in 45)))).trans (congrArg (fun o => thenX o _) sg))).trans
    (whole_tail d (p := 1) (l := 45 :: ds) rfl hne hd (Nat.succ_le_succ hl) (Nat.add_comm ..) hl true))
end Mine
end
section
open PySem
set_option genInjectivity false
set_option genSizeOf false
namespace Mine
set_option linter.unusedVariables false
set_option linter.unusedSimpArgs false
set_option exponentiation.threshold 5000

noncomputable def itoa (n : Int) : Str := Str.ofString (toString n)
noncomputable def LIM : Nat := 1850
noncomputable def Bd (k : Nat) (n : Int) : Prop := -(2 ^ k : Int) ≤ n ∧ n < 2 ^ k
noncomputable def texts : List Str := ["abc", "0x1F", " 7\t", "010", "tRu", "of", "", "7 abc 10", "{", "-0", "1_0", "-0b101", "o", "No", "10 {7 7} -5", "0x", "\"x", "{a}b"].map Str.ofString
inductive VOk : Str → Prop
  | txt {s : Str} : s ∈ texts → VOk s
  | num {n : Int} : Bd LIM n → VOk (itoa n)

theorem fold_eq (cs : List Char) : ∀ v : Nat, valD v (cs.map Char.toNat) = Nat.ofDigitChars 10 cs v := by
  induction cs with
  | nil => intro v; simp [valD]
  | cons c r ih =>
    intro v
    rw [Nat.ofDigitChars_cons, ← ih]
    simp only [valD, List.map_cons, List.foldl_cons]
    rw [Nat.mul_comm]
    rfl
theorem digs_toDigits (n : Nat) : digs ((Nat.toDigits 10 n).map Char.toNat) := by
  intro c hc
  obtain ⟨ch, h1, rfl⟩ := List.mem_map.mp hc
  have := Nat.isDigit_of_mem_toDigits (by decide) (by decide) h1
  simp only [Char.isDigit, Bool.and_eq_true, decide_eq_true_eq, ge_iff_le] at this
  obtain ⟨a, b⟩ := this
  exact ⟨UInt32.le_iff_toNat_le.mp a, UInt32.le_iff_toNat_le.mp b⟩
theorem itoa_form (n : Int) : ∃ ds, digs ds ∧ ds ≠ [] ∧ valD 0 ds = n.natAbs ∧ itoa n = ⟨(if n < 0 then 45 :: ds else ds).toArray⟩ ∧ (Bd LIM n → ds.length ≤ 1000) := by
  refine ⟨(Nat.toDigits 10 n.natAbs).map Char.toNat, digs_toDigits _, ?_, ?_, ?_, ?_⟩
  · intro h
    exact Nat.toDigits_ne_nil (List.map_eq_nil_iff.mp h)
  · rw [fold_eq, Nat.ofDigitChars_ten_toDigits]
  · unfold itoa
    by_cases h : n < 0
    · rw [if_pos h, PyProof.Rows.toString_neg h, Str.ofString_eq_toList]
      have e : (toString (0 - n)) = (Nat.repr n.natAbs) := by
        have : (0 - n) = Int.ofNat n.natAbs := by
          show 0 - n = ((n.natAbs : Nat) : Int)
          (first | lia | omega)
        rw [this]; rfl
      rw [e, String.toList_append, Nat.toList_repr]
      rfl
    · rw [if_neg h]
      have : n = Int.ofNat n.natAbs := by show n = ((n.natAbs : Nat) : Int); (first | lia | omega)
      rw [this, PyProof.Rows.text_ofNat]
      rfl
  · intro hb
    rw [List.length_map, Nat.length_toDigits_le_iff (by decide) (by decide)]
    have h1 : n.natAbs ≤ 2 ^ LIM := by
      have := hb.1; have := hb.2
      have e : ((2 ^ LIM : Nat) : Int) = (2 : Int) ^ LIM := by push_cast; rfl
      (first | lia | omega)
    have h2 : (2 : Nat) ^ LIM < 10 ^ 1000 := by decide +kernel
    exact Nat.lt_of_le_of_lt h1 h2
noncomputable def optV : Option Int → V
  | none => .none
  | some n => .int n
/-- a result, looked at -/
noncomputable def theOk (r : R V) : Option V := Option.casesOn r none fun x => Except.casesOn x (fun _ => none) some
theorem theOk_of {r : R V} {v : V} (h : theOk r = some v) : r = some (.ok v) := by
  cases r with
  | none => cases h
  | some x => cases x <;> cases h; rfl
noncomputable def isNo (v : V) : Bool := v.ctorIdx == 0
theorem isNo_of {v : V} (h : isNo v = true) : v = .none := by cases v <;> first | rfl | cases h
noncomputable def W (s : Str) : Option Int := (theOk (callN P 3 5 [.str s])).bind theInt
noncomputable def okW (s : Str) : Bool := (theOk (callN P 3 5 [.str s])).any fun v => isNo v || (theInt v).isSome
theorem texts_okW : texts.all okW = true := by decide +kernel
theorem c_whole_itoa (d : Nat) {n : Int} (h : Bd LIM n) : callN P (d + 3) 5 [.str (itoa n)] = some (.ok (.int n)) := by
  obtain ⟨ds, h1, h2, h3, h4, h5⟩ := itoa_form n
  rw [h4]
  by_cases hn : n < 0
  · rw [if_pos hn, c_whole_neg d ds h2 h1 (h5 h), h3]
    congr 3; (first | lia | omega)
  · rw [if_neg hn, c_whole_nonneg d ds h2 h1 (h5 h), h3]
    congr 3; (first | lia | omega)
theorem W_itoa {n : Int} (h : Bd LIM n) : W (itoa n) = some n := congrArg (fun r => (theOk r).bind theInt) (c_whole_itoa 0 h)
theorem c_whole (d : Nat) {s : Str} (h : VOk s) : callN P (d + 3) 5 [.str s] = some (.ok (optV (W s))) := by
  cases h with
  | num hb => rw [c_whole_itoa d hb, W_itoa hb]; rfl
  | txt hm =>
    have ok := List.all_eq_true.mp texts_okW _ hm
    refine callN_le P (Nat.le_add_left 3 d) _ _ _ ?_
    obtain ⟨v, e, ok⟩ := any_of ok
    have e := theOk_of e
    have hw : W s = Option.bind (theOk (callN P 3 5 [.str s])) theInt := rfl
    rw [hw, e]
    rcases (Bool.or_eq_true _ _).mp ok with h | h
    · rw [isNo_of h]; rfl
    · obtain ⟨n, h⟩ := Option.isSome_iff_exists.mp h
      rw [theInt_of h]; rfl
end Mine
end
section
open PySem
set_option genInjectivity false
set_option genSizeOf false
namespace Mine
set_option linter.unusedVariables false
set_option linter.unusedSimpArgs false
set_option exponentiation.threshold 5000

theorem Bd.mono {a b : Nat} {n : Int} (h : Bd a n) (hab : a ≤ b) : Bd b n := by
  have h1 : (2 : Nat) ^ a ≤ 2 ^ b := Nat.pow_le_pow_right (by decide) hab
  have e : ∀ k : Nat, ((2 ^ k : Nat) : Int) = (2 : Int) ^ k := fun k => by push_cast; rfl
  have e1 := e a
  have e2 := e b
  obtain ⟨x, y⟩ := h
  exact ⟨by (first | lia | omega), by (first | lia | omega)⟩
theorem Bd.nat {k : Nat} {n : Int} (h : Bd k n) : n.natAbs ≤ 2 ^ k := by
  have e : ((2 ^ k : Nat) : Int) = (2 : Int) ^ k := by push_cast; rfl
  obtain ⟨x, y⟩ := h
  (first | lia | omega)
noncomputable def WB (k : Nat) (s : Str) : Prop := ∀ n, W s = some n → Bd k n
/-- a fault's value -/
noncomputable def IsF (e : V) : Prop := ∃ (m : Str) (ts : List Str), e = .exc (.int 1) (.str m) (.tup (ts.map .str)) ∧ ts.length ≤ 10
/-- a text within b bits, or a fault -/
inductive Res (b : Nat) : R V → Prop
  | ok {s : Str} : VOk s → WB b s → Res b (some (.ok (.str s)))
  | err {e : V} : IsF e → Res b (some (.error e))
theorem WB.mono {a b : Nat} {s : Str} (h : WB a s) (hab : a ≤ b) : WB b s := fun n e => (h n e).mono hab
theorem Res.mono {a b : Nat} {r : R V} (h : Res a r) (hab : a ≤ b) : Res b r := by
  cases h with
  | ok h1 h2 => exact .ok h1 (h2.mono hab)
  | err h => exact .err h
theorem WB_itoa {k : Nat} {n : Int} (h : Bd k n) (hk : k ≤ LIM) : WB k (itoa n) := fun m e => by
  rw [W_itoa (h.mono hk)] at e
  cases e; exact h
theorem Res.int {k : Nat} {n : Int} (h : Bd k n) (hk : k ≤ LIM) : Res k (some (.ok (.str (itoa n)))) := .ok (.num (h.mono hk)) (WB_itoa h hk)
theorem one_eq : Str.ofString "1" = itoa 1 := by decide +kernel
theorem zero_eq : Str.ofString "0" = itoa 0 := by decide +kernel
theorem Bd_one : Bd 1 1 := by unfold Bd; decide
theorem Bd_zero (k : Nat) : Bd k 0 := by
  have e : ((2 ^ k : Nat) : Int) = (2 : Int) ^ k := by push_cast; rfl
  have : 0 < 2 ^ k := Nat.pow_pos (by decide)
  unfold Bd; (first | lia | omega)
noncomputable def bit (b : Bool) : Str := if b then Str.ofString "1" else Str.ofString "0"
theorem VOk.bit (b : Bool) : VOk (bit b) := by
  unfold Mine.bit
  cases b
  · rw [if_neg (by simp), zero_eq]; exact .num (Bd_zero _)
  · rw [if_pos rfl, one_eq]; exact .num (Bd_one.mono (by decide))
theorem W_bit (b : Bool) : W (bit b) = some (if b then 1 else 0) := by
  unfold bit
  cases b
  · rw [if_neg (by simp), zero_eq, W_itoa (Bd_zero _)]; rfl
  · rw [if_pos rfl, one_eq, W_itoa (Bd_one.mono (by decide))]; rfl
theorem WB.bit (b : Bool) : WB 1 (bit b) := fun n e => by
  rw [W_bit] at e
  cases b <;> cases e
  · exact Bd_zero _
  · exact Bd_one
theorem Res.bit (b : Bool) {k : Nat} (hk : 1 ≤ k) : Res k (some (.ok (.str (bit b)))) := (Res.ok (VOk.bit b) (WB.bit b)).mono hk

theorem len_append (a b : Str) : (a ++ b).length = a.length + b.length := by
  show (a.cps ++ b.cps).size = a.cps.size + b.cps.size
  simp
theorem texts_len : texts.all (fun s => decide (s.length ≤ 1001)) = true := by decide +kernel
theorem VOk.len {s : Str} (h : VOk s) : s.length ≤ 1001 := by
  cases h with
  | txt hm => simpa using List.all_eq_true.mp texts_len _ hm
  | @num n hb =>
    obtain ⟨ds, h1, h2, h3, h4, h5⟩ := itoa_form n
    rw [h4]
    have := h5 hb
    split <;> simp [Str.length] <;> (first | lia | omega)
theorem b_str {n : Int} (h : Bd LIM n) : builtin1 .str (.int n) = some (.str (itoa n)) := by
  show (if n.natAbs.log2 < 1920 then some (V.str (itoa n)) else none) = _
  rw [if_pos]
  by_cases h0 : n.natAbs = 0
  · rw [h0]; decide
  · rw [Nat.log2_lt h0]
    exact Nat.lt_of_le_of_lt h.nat (by decide +kernel)

noncomputable def optB : Option Bool → V
  | none => .none
  | some b => .bool b
noncomputable def Bo (s : Str) : Option Bool := (theOk (callN P 4 6 [.str s])).bind theBool
noncomputable def okB (s : Str) : Bool := (theOk (callN P 4 6 [.str s])).any fun v => isNo v || (theBool v).isSome
theorem texts_okB : texts.all okB = true := by decide +kernel
theorem c_bool_itoa (d : Nat) {n : Int} (h : Bd LIM n) : callN P (d + 4) 6 [.str (itoa n)] = some (.ok (.bool (n != 0))) := by
  rw [call_of (fn := F_bool_of) (body := B_F_bool_of) (ρ := [some (.str (itoa n)), none, none, none]) rfl rfl rfl]
  simp [B_F_bool_of, exs_cons, c_whole_itoa d h]
theorem c_bool (d : Nat) {s : Str} (h : VOk s) : callN P (d + 4) 6 [.str s] = some (.ok (optB (Bo s))) := by
  cases h with
  | num hb => rw [c_bool_itoa d hb]; unfold Bo; rw [c_bool_itoa 0 hb]; rfl
  | txt hm =>
    have ok := List.all_eq_true.mp texts_okB _ hm
    refine callN_le P (Nat.le_add_left 4 d) _ _ _ ?_
    obtain ⟨v, e, ok⟩ := any_of ok
    have e := theOk_of e
    have hw : Bo s = Option.bind (theOk (callN P 4 6 [.str s])) theBool := rfl
    rw [hw, e]
    rcases (Bool.or_eq_true _ _).mp ok with h | h
    · rw [isNo_of h]; rfl
    · obtain ⟨n, h⟩ := Option.isSome_iff_exists.mp h
      rw [theBool_of h]; rfl
@[simp] theorem c_bit (d : Nat) (b : Bool) : callN P (d + 1) 8 [.bool b] = some (.ok (.str (bit b))) := by
  rw [call_of (fn := F_text_of_numbers) (body := B_F_text_of_numbers) (ρ := [some (.bool b)]) rfl rfl rfl]
  cases b <;> simp [B_F_text_of_numbers, exs_cons, bit]
theorem c_need_bool {s : Str} (h : VOk s) : (∃ b, ∀ d, callN P (d + 5) 7 [.str s] = some (.ok (.bool b))) ∨ ∃ e, IsF e ∧ ∀ d, callN P (d + 5) 7 [.str s] = some (.error e) := by
  have hl := h.len
  have e : ∀ d, callN P (d + 5) 7 [.str s] = endOf (execs (callN P (d + 4)) B_F_need_bool [some (.str s), none]) := fun d => call_of (fn := F_need_bool) (body := B_F_need_bool) (ρ := [some (.str s), none]) rfl rfl rfl
  cases hb : Bo s with
  | some b =>
    refine .inl ⟨b, fun d => ?_⟩
    rw [e]
    simp [B_F_need_bool, exs_cons, c_bool d h, hb, optB]
  | none =>
    refine .inr ⟨.exc (.int 1) (.str (Str.ofString "expected boolean value but got \"" ++ s ++ Str.ofString "\"")) (.tup ([Str.ofString "TCL", Str.ofString "VALUE", Str.ofString "BOOLEAN"].map .str)), ⟨_, _, rfl, by simp⟩, fun d => ?_⟩
    rw [e]
    have a1 := ar_adds (a := Str.ofString "expected boolean value but got \"") (b := s) (by rw [len_append, PyProof.Rows.ofString_length]; simp; unfold sizeLine; (first | lia | omega))
    have a2 := ar_adds (a := Str.ofString "expected boolean value but got \"" ++ s) (b := Str.ofString "\"") (by rw [len_append, len_append, PyProof.Rows.ofString_length, PyProof.Rows.ofString_length]; simp; unfold sizeLine; (first | lia | omega))
    simp [B_F_need_bool, exs_cons, c_bool d h, hb, optB, a1, a2]
end Mine
end
section
open PySem
namespace Mine
set_option linter.unusedVariables false
set_option linter.unusedSimpArgs false
set_option exponentiation.threshold 5000

theorem pow_cast (k : Nat) : ((2 ^ k : Nat) : Int) = (2 : Int) ^ k := by push_cast; rfl
theorem pow_pos2 (k : Nat) : 0 < 2 ^ k := Nat.pow_pos (by decide)
theorem Bd.of_nat {k : Nat} {n : Int} (h : n.natAbs < 2 ^ k) : Bd k n := by
  have := pow_cast k
  unfold Bd
  (first | lia | omega)
theorem Bd.of_le {k : Nat} {n : Int} (h : n.natAbs ≤ 2 ^ k) : Bd (k + 1) n := .of_nat (by rw [Nat.pow_succ]; have := pow_pos2 k; (first | lia | omega))
theorem pow_sum (a b : Nat) : 2 ^ a + 2 ^ b ≤ 2 ^ (a + b + 1) := by
  have h1 : 2 ^ a ≤ 2 ^ (a + b) := Nat.pow_le_pow_right (by decide) (by (first | lia | omega))
  have h2 : 2 ^ b ≤ 2 ^ (a + b) := Nat.pow_le_pow_right (by decide) (by (first | lia | omega))
  rw [Nat.pow_succ]; (first | lia | omega)
theorem Bd.add {a b : Nat} {x y : Int} (hx : Bd a x) (hy : Bd b y) : Bd (a + b + 1) (x + y) := by
  have := pow_sum a b
  have := pow_cast a; have := pow_cast b; have := pow_cast (a + b + 1)
  unfold Bd at *
  (first | lia | omega)
theorem Bd.neg {a : Nat} {x : Int} (hx : Bd a x) : Bd (a + 1) (-x) := by
  have := hx.nat
  exact .of_le (by (first | lia | omega))
theorem Bd.sub {a b : Nat} {x y : Int} (hx : Bd a x) (hy : Bd b y) : Bd (a + b + 1) (x - y) := by
  have := pow_sum a b
  have := hx.nat; have := hy.nat
  have := pow_cast a; have := pow_cast b; have := pow_cast (a + b + 1)
  unfold Bd at *
  (first | lia | omega)
theorem Bd.mul {a b : Nat} {x y : Int} (hx : Bd a x) (hy : Bd b y) : Bd (a + b + 1) (x * y) := by
  refine .of_le ?_
  rw [Int.natAbs_mul, Nat.pow_add]
  exact Nat.mul_le_mul hx.nat hy.nat
theorem Bd.not {a : Nat} {x : Int} (hx : Bd a x) : Bd a (Builtin.bitNot x) := by
  unfold Bd Builtin.bitNot at *
  (first | lia | omega)
theorem Bd.band {k : Nat} {x y : Int} (hx : Bd k x) (hy : Bd k y) : Bd k (Builtin.bitAnd x y) := by
  have hc := pow_cast k
  by_cases px : 0 ≤ x <;> by_cases py : 0 ≤ y
  · rw [PyProof.Rows.bitAnd_pp px py]
    have := Nat.and_le_left (n := x.toNat) (m := y.toNat)
    unfold Bd at *; (first | lia | omega)
  · rw [PyProof.Rows.bitAnd_pn px py]
    have := Nat.and_le_left (n := x.toNat) (m := (Builtin.bitNot y).toNat)
    unfold Bd at *; (first | lia | omega)
  · rw [PyProof.Rows.bitAnd_np px py]
    have := Nat.and_le_left (n := y.toNat) (m := (Builtin.bitNot x).toNat)
    unfold Bd at *; (first | lia | omega)
  · rw [PyProof.Rows.bitAnd_nn px py]
    have := Nat.or_lt_two_pow (n := k) (x := (Builtin.bitNot x).toNat) (y := (Builtin.bitNot y).toNat) (by unfold Bd Builtin.bitNot at *; (first | lia | omega)) (by unfold Bd Builtin.bitNot at *; (first | lia | omega))
    unfold Bd Builtin.bitNot at *; (first | lia | omega)
theorem Bd.bor {k : Nat} {x y : Int} (hx : Bd k x) (hy : Bd k y) : Bd k (Builtin.bitOr x y) := (hx.not.band hy.not).not
theorem Bd.bxor {k : Nat} {x y : Int} (hx : Bd k x) (hy : Bd k y) : Bd (k + 1) (Builtin.bitXor x y) := by
  have h1 := hx.band hy
  have h2 := hx.bor hy
  have := pow_cast k; have := pow_cast (k + 1)
  have : 2 ^ (k + 1) = 2 ^ k * 2 := Nat.pow_succ ..
  unfold Builtin.bitXor
  unfold Bd at *
  (first | lia | omega)
theorem fdiv_le (x y : Int) (hy : y ≠ 0) : (Int.fdiv x y).natAbs ≤ x.natAbs := by
  rcases Int.lt_or_gt_of_ne hy with h | h
  · have e : Int.fdiv x y = Int.fdiv (-x) (-y) := (Int.neg_fdiv_neg x y).symm
    rw [e, Int.fdiv_eq_ediv_of_nonneg _ (by (first | lia | omega))]
    have := Int.natAbs_ediv_le_natAbs (-x) (-y)
    (first | lia | omega)
  · rw [Int.fdiv_eq_ediv_of_nonneg _ (by (first | lia | omega))]
    exact Int.natAbs_ediv_le_natAbs x y
theorem fmod_lt (x y : Int) (hy : y ≠ 0) : (Int.fmod x y).natAbs < y.natAbs := by
  rcases Int.lt_or_gt_of_ne hy with h | h
  · have e : Int.fmod x y = -(Int.fmod (-x) (-y)) := by rw [Int.neg_fmod_neg]; (first | lia | omega)
    rw [e, Int.fmod_eq_emod_of_nonneg _ (by (first | lia | omega))]
    have := Int.emod_nonneg (-x) (b := -y) (by (first | lia | omega))
    have := Int.emod_lt_of_pos (-x) (b := -y) (by (first | lia | omega))
    (first | lia | omega)
  · rw [Int.fmod_eq_emod_of_nonneg _ (by (first | lia | omega))]
    have := Int.emod_nonneg x (b := y) (by (first | lia | omega))
    have := Int.emod_lt_of_pos x (b := y) h
    (first | lia | omega)
theorem Bd.fdiv {a : Nat} {x y : Int} (hx : Bd a x) (hy : y ≠ 0) : Bd (a + 1) (Int.fdiv x y) := .of_le (Nat.le_trans (fdiv_le x y hy) hx.nat)
theorem Bd.fmod {b : Nat} {x y : Int} (h : Bd b y) (hy : y ≠ 0) : Bd b (Int.fmod x y) := .of_nat (Nat.lt_of_lt_of_le (fmod_lt x y hy) h.nat)
theorem no_pylong {x y : Int} {b : Nat} (h : Bd b y) (hb : b ≤ 2000) : Builtin.divisionGoesByPylong x y = false := by
  unfold Builtin.divisionGoesByPylong
  dsimp only
  have : (if (y == 0) = true then 0 else y.natAbs.log2 / 30 + 1) ≤ 300 := by
    split
    · (first | lia | omega)
    · rename_i h0
      have h1 : y.natAbs ≠ 0 := fun e => h0 (by simp; (first | lia | omega))
      have : y.natAbs.log2 < 2001 := (Nat.log2_lt h1).mpr (Nat.lt_of_le_of_lt h.nat (Nat.lt_of_le_of_lt (Nat.pow_le_pow_right (by decide) hb) (by decide +kernel)))
      (first | lia | omega)
  simp only [Bool.and_eq_false_iff, decide_eq_false_iff_not]
  left; (first | lia | omega)
theorem small_bd {x : Int} {a : Nat} (h : Bd a x) (ha : a ≤ 2000) : small x = true := by
  unfold small
  rw [decide_eq_true_eq]
  exact Nat.lt_of_le_of_lt h.nat (Nat.lt_of_le_of_lt (Nat.pow_le_pow_right (by decide) ha) (by decide +kernel))
end Mine
end
section
open PySem
namespace Mine
set_option linter.unusedVariables false
set_option linter.unusedSimpArgs false
set_option exponentiation.threshold 5000

theorem olen (s : String) : (Str.ofString s).length = s.toList.length := PyProof.Rows.ofString_length s
theorem c_ofault {op s : Str} (ho : op.length ≤ 100) (hs : s.length ≤ 1001) : ∃ (m : Str) (ts : List Str), ts.length ≤ 10 ∧ ∀ d, callN P (d + 2) 19 [.str op, .str s] = some (.ok (.exc (.int 1) (.str m) (.tup (ts.map .str)))) := by
  have e : ∀ d, callN P (d + 2) 19 [.str op, .str s] = endOf (execs (callN P (d + 1)) B_F_operand_fault [some (.str op), some (.str s), none, none]) := fun d => call_of (fn := F_operand_fault) (body := B_F_operand_fault) (ρ := [some (.str op), some (.str s), none, none]) rfl rfl rfl
  cases hq : (s == Str.ofString "") with
  | true =>
    refine ⟨Str.empty ++ Str.ofString "can't use " ++ Str.ofString "empty string" ++ Str.ofString " as operand of \"" ++ op ++ Str.ofString "\"", [Str.ofString "ARITH", Str.ofString "DOMAIN", Str.ofString "empty string"], by simp, fun d => ?_⟩
    rw [e]
    simp [B_F_operand_fault, exs_cons, hq, olen, show 20 + (s.length + 1) ≤ 1000000 by (first | lia | omega), show 10 + (12 + (16 + (op.length + 1))) ≤ 1000000 by (first | lia | omega)]
  | false =>
    refine ⟨Str.empty ++ Str.ofString "can't use " ++ (Str.empty ++ Str.ofString "non-numeric string \"" ++ s ++ Str.ofString "\"") ++ Str.ofString " as operand of \"" ++ op ++ Str.ofString "\"", [Str.ofString "ARITH", Str.ofString "DOMAIN", Str.ofString "non-numeric string"], by simp, fun d => ?_⟩
    rw [e]
    simp [B_F_operand_fault, exs_cons, hq, olen, show 20 + (s.length + 1) ≤ 1000000 by (first | lia | omega), len_append, show Str.empty.length = 0 from rfl, show 10 + (20 + s.length + 1 + (16 + (op.length + 1))) ≤ 1000000 by (first | lia | omega)]
theorem c_operand {op s : Str} (ho : op.length ≤ 100) (hs : VOk s) : match W s with
    | some n => ∀ d, callN P (d + 4) 20 [.str op, .str s] = some (.ok (.int n))
    | none => ∃ e, IsF e ∧ ∀ d, callN P (d + 4) 20 [.str op, .str s] = some (.error e) := by
  have e : ∀ d, callN P (d + 4) 20 [.str op, .str s] = endOf (execs (callN P (d + 3)) B_F_operand [some (.str op), some (.str s), none]) := fun d => call_of (fn := F_operand) (body := B_F_operand) (ρ := [some (.str op), some (.str s), none]) rfl rfl rfl
  cases hw : W s with
  | some n =>
    intro d
    rw [e]
    simp [B_F_operand, exs_cons, c_whole d hs, hw, optV]
  | none =>
    obtain ⟨m, ts, h1, h2⟩ := c_ofault ho hs.len
    refine ⟨_, ⟨m, ts, rfl, h1⟩, fun d => ?_⟩
    rw [e]
    simp [B_F_operand, exs_cons, c_whole d hs, hw, optV, h2 (d + 1)]
noncomputable def unOps : List String := ["-", "+", "~", "!"]
theorem c_bang {s : Str} (hs : VOk s) : (∃ b, ∀ d, callN P (d + 5) 21 [.str (Str.ofString "!"), .str s] = some (.ok (.str (bit b)))) ∨ ∃ e, IsF e ∧ ∀ d, callN P (d + 5) 21 [.str (Str.ofString "!"), .str s] = some (.error e) := by
  have e : ∀ d, callN P (d + 5) 21 [.str (Str.ofString "!"), .str s] = endOf (execs (callN P (d + 4)) B_F_unary [some (.str (Str.ofString "!")), some (.str s), none, none]) := fun d => call_of (fn := F_unary) (body := B_F_unary) (ρ := [some (.str (Str.ofString "!")), some (.str s), none, none]) rfl rfl rfl
  have cy : ∀ d, evalE (callN P (d + 4)) [some (.str (Str.ofString "!")), some (.str s), none, none] (.cmp .eq (.var 0) (.str (Str.ofString "!"))) = some (.ok (.bool true)) := fun d => ev_cmp_of rfl rfl (eqs_t rfl)
  cases hq : Bo s with
  | some b => exact .inl ⟨!b, fun d => (e d).trans (st_yes_ok (cy d) ((congrArg endOf ((st_as (v := .bool b) (ev_call_of (evl_one rfl rfl) ((c_bool d hs).trans (by rw [hq]; rfl))) rfl).trans (st_no' rfl))).trans (st_ret.trans (ev_call_of (evl_one (ev_not_of rfl) rfl) (c_bit (d + 3) (!b))))) (fun h => nomatch h))⟩
  | none =>
    obtain ⟨m, ts, h1, h2⟩ := c_ofault (op := Str.ofString "!") (s := s) (by decide +kernel) hs.len
    exact .inr ⟨_, ⟨m, ts, rfl, h1⟩, fun d => (e d).trans (st_yes_bad (cy d) ((congrArg endOf (st_as (v := .none) (ev_call_of (evl_one rfl rfl) ((c_bool d hs).trans (by rw [hq]; rfl))) rfl)).trans (st_yes_bad rfl (st_raise (ev_call_of (evl_two rfl rfl rfl rfl) (h2 (d + 2)))))))⟩
theorem un_cases {op : String} (ho : op ∈ unOps) (h1 : ¬ op = "!") : op = "-" ∨ op = "+" ∨ op = "~" := by
  rcases List.mem_cons.mp ho with h | ho
  · exact .inl h
  rcases List.mem_cons.mp ho with h | ho
  · exact .inr (.inl h)
  rcases List.mem_cons.mp ho with h | ho
  · exact .inr (.inr h)
  · exact absurd (List.mem_singleton.mp ho) h1
theorem c_unary {op : String} (ho : op ∈ unOps) {s : Str} (hs : VOk s) {k : Nat} (hb : WB k s) (hk : k + 1 ≤ LIM) : ∃ r, Res (k + 1) r ∧ ∀ d, callN P (d + 5) 21 [.str (Str.ofString op), .str s] = r := by
  by_cases h1 : op = "!"
  · subst h1
    exact (c_bang hs).elim (fun ⟨b, h⟩ => ⟨_, .bit b (Nat.succ_le_succ (Nat.zero_le _)), h⟩) fun ⟨e, h, h'⟩ => ⟨_, .err h, h'⟩
  have h2 := un_cases ho h1
  have e : ∀ d, callN P (d + 5) 21 [.str (Str.ofString op), .str s] = endOf (execs (callN P (d + 4)) (B_F_unary.drop 1) [some (.str (Str.ofString op)), some (.str s), none, none]) := fun d => (call_of (fn := F_unary) (body := B_F_unary) (ρ := [some (.str (Str.ofString op)), some (.str s), none, none]) rfl rfl rfl).trans (congrArg endOf (st_no' (ev_cmp_of rfl rfl (eqs_f h1))))
  have h3 := c_operand (op := Str.ofString op) (by rcases h2 with rfl | rfl | rfl <;> decide +kernel) hs
  cases hw : W s with
  | none =>
    rw [hw] at h3
    obtain ⟨v, h4, h5⟩ := h3
    exact ⟨_, .err h4, fun d => (e d).trans (st_as_err (ev_call_of (evl_two rfl rfl rfl rfl) (h5 d)))⟩
  | some n =>
    rw [hw] at h3
    have hn := hb n hw
    have e2 : ∀ d, callN P (d + 5) 21 [.str (Str.ofString op), .str s] = endOf (execs (callN P (d + 4)) (B_F_unary.drop 2) [some (.str (Str.ofString op)), some (.str s), none, some (.int n)]) := fun d => (e d).trans (congrArg endOf (st_as (ev_call_of (evl_two rfl rfl rfl rfl) (h3 d)) rfl))
    have c : ∀ d (k : String), evalE (callN P (d + 4)) [some (.str (Str.ofString op)), some (.str s), none, some (.int n)] (.cmp .eq (.var 0) (.str (Str.ofString k))) = some (.ok (.bool (op == k))) := fun d k => ev_cmp_of rfl rfl eqs_of
    rcases h2 with rfl | rfl | rfl
    · exact ⟨_, .int hn.neg hk, fun d => (e2 d).trans ((st_yes_ret (c d "-")).trans (ev_b1_of (ev_neg_of rfl) (b_str (hn.neg.mono hk))))⟩
    · exact ⟨_, .int (hn.mono (Nat.le_succ k)) hk, fun d => (e2 d).trans ((congrArg endOf ((st_no' (c d "-")).trans (st_no' (c d "~")))).trans ((st_yes_ret (c d "+")).trans (ev_b1_of rfl (b_str ((hn.mono (Nat.le_succ k)).mono hk)))))⟩
    · exact ⟨_, .int (hn.not.mono (Nat.le_succ k)) hk, fun d => (e2 d).trans ((congrArg endOf (st_no' (c d "-"))).trans ((st_yes_ret (c d "~")).trans (ev_b1_of (ev_inv_of rfl) (b_str ((hn.not.mono (Nat.le_succ k)).mono hk)))))⟩
end Mine
end
section
open PySem
set_option genInjectivity false
set_option genSizeOf false
namespace Mine
set_option linter.unusedVariables false
set_option linter.unusedSimpArgs false
set_option exponentiation.threshold 5000

inductive ArRes (k : Nat) : R V → Prop
  | ok {z : Int} : Bd k z → ArRes k (some (.ok (.int z)))
  | err {e : V} : IsF e → ArRes k (some (.error e))
theorem ArRes.mono {a b : Nat} {r : R V} (h : ArRes a r) (hab : a ≤ b) : ArRes b r := by
  cases h with
  | ok h1 => exact .ok (h1.mono hab)
  | err h => exact .err h
theorem small_two : small 2 = true := by unfold small; decide +kernel
theorem pow28 : arith .pow (.int 2) (.int 28) = some (.int 268435456) := by
  show (if _ then _ else _) = _
  rw [if_pos ⟨by decide, by decide, small_two⟩]; rfl
theorem pow31 : arith .pow (.int 2) (.int 31) = some (.int 2147483648) := by
  show (if _ then _ else _) = _
  rw [if_pos ⟨by decide, by decide, small_two⟩]; rfl
theorem isF (m : Str) (ts : List Str) (h : ts.length ≤ 10 := by simp) : IsF (.exc (.int 1) (.str m) (.tup (ts.map .str))) := ⟨m, ts, rfl, h⟩

theorem c_need_div0 (d : Nat) : callN P (d + 2) 22 [.int 0] = some (.error (.exc (.int 1) (.str (Str.ofString "divide by zero")) (.tup ([Str.ofString "ARITH", Str.ofString "DIVZERO", Str.ofString "divide by zero"].map .str)))) := by
  rw [call_of (fn := F_need_divisor) (body := B_F_need_divisor) (ρ := [some (.int 0)]) rfl rfl rfl]
  simp [B_F_need_divisor, exs_cons]
theorem c_need_div (d : Nat) {y : Int} (h : y ≠ 0) : callN P (d + 2) 22 [.int y] = some (.ok .none) := by
  rw [call_of (fn := F_need_divisor) (body := B_F_need_divisor) (ρ := [some (.int y)]) rfl rfl rfl]
  simp [B_F_need_divisor, exs_cons, beq_eq_false_iff_ne.mpr h]
theorem c_need_count0 (d : Nat) {y : Int} (h : y < 0) : callN P (d + 2) 24 [.int y] = some (.error (.exc (.int 1) (.str (Str.ofString "negative shift argument")) (.tup ([Str.ofString "ARITH", Str.ofString "DOMAIN", Str.ofString "domain error: argument not in valid range"].map .str)))) := by
  rw [call_of (fn := F_need_count) (body := B_F_need_count) (ρ := [some (.int y)]) rfl rfl rfl]
  simp [B_F_need_count, exs_cons, h]
theorem c_need_count (d : Nat) {y : Int} (h : ¬ y < 0) : callN P (d + 2) 24 [.int y] = some (.ok .none) := by
  rw [call_of (fn := F_need_count) (body := B_F_need_count) (ρ := [some (.int y)]) rfl rfl rfl]
  simp [B_F_need_count, exs_cons, h]
theorem Bd.pow {a k : Nat} {x : Int} (h : Bd a x) (hk : k ≤ 3) : Bd (3 * a + 1) (x ^ k) := by
  refine .of_le ?_
  rw [Int.natAbs_pow]
  refine Nat.le_trans (Nat.pow_le_pow_left h.nat k) ?_
  rw [← Nat.pow_mul]
  exact Nat.pow_le_pow_right (by decide) (by rw [Nat.mul_comm]; exact Nat.mul_le_mul_right a hk)
theorem bnf {a b : Int} (h : a ≠ b) : (a == b) = false := beq_eq_false_iff_ne.mpr h
theorem Bd_neg_one (k : Nat) : Bd k (-1) := by
  have := pow_cast k; have := pow_pos2 k
  unfold Bd; (first | lia | omega)
theorem mod2 (y : Int) : arith .mod (.int y) (.int 2) = some (.int (Int.fmod y 2)) := rfl
theorem pow_hi {y : Int} (h5 : ¬ y < 0) (hy : y ≤ 3) : 0 ≤ y ∧ y ≤ 1000 ∧ y.toNat ≤ 3 := by exact ⟨by (first | lia | omega), by (first | lia | omega), by (first | lia | omega)⟩
theorem c_power {a : Nat} {x y : Int} (hx : Bd a x) (ha : a ≤ 1000) (hy : y ≤ 3 ∨ 268435456 ≤ y) : ∃ r, ArRes (3 * a + 1) r ∧ ∀ d, callN P (d + 2) 23 [.int x, .int y] = r := by
  have e : ∀ d, callN P (d + 2) 23 [.int x, .int y] = endOf (execs (callN P (d + 1)) B_F_power [some (.int x), some (.int y), none]) := fun d => call_of (fn := F_power) (body := B_F_power) (ρ := [some (.int x), some (.int y), none]) rfl rfl rfl
  have one : Bd (3 * a + 1) 1 := Bd_one.mono (Nat.succ_le_succ (Nat.zero_le _))
  by_cases h0 : y = 0
  · exact ⟨_, .ok one, fun d => (e d).trans (st_yes_ret (ev_cmp_of rfl rfl (eq_t h0)))⟩
  have e1 : ∀ d, callN P (d + 2) 23 [.int x, .int y] = endOf (execs (callN P (d + 1)) (B_F_power.drop 1) [some (.int x), some (.int y), none]) := fun d => (e d).trans (congrArg endOf (st_no' (ev_cmp_of rfl rfl (eq_f h0))))
  by_cases h1 : x = 0
  · by_cases h2 : y < 0
    · exact ⟨_, .err (isF (Str.ofString "exponentiation of zero by negative power") [Str.ofString "ARITH", Str.ofString "DOMAIN", Str.ofString "exponentiation of zero by negative power"]), fun d => (e1 d).trans (st_yes_bad (ev_and_t (ev_cmp_of rfl rfl (eq_t h1)) (ev_cmp_of rfl rfl (lt_t h2))) ((congrArg endOf (st_as rfl rfl)).trans (st_raise (ev_call_of (evl_two rfl rfl rfl rfl) (c_error d _ _)))))⟩
    · exact ⟨_, .ok (h1 ▸ Bd_zero _), fun d => (e1 d).trans ((congrArg endOf (st_no' (ev_and_t (ev_cmp_of rfl rfl (eq_t h1)) (ev_cmp_of rfl rfl (lt_f h2))))).trans (st_yes_ret (ev_or_t (ev_cmp_of rfl rfl (eq_t h1)))))⟩
  have e2 : ∀ d, callN P (d + 2) 23 [.int x, .int y] = endOf (execs (callN P (d + 1)) (B_F_power.drop 2) [some (.int x), some (.int y), none]) := fun d => (e1 d).trans (congrArg endOf (st_no' (ev_and_f (ev_cmp_of rfl rfl (eq_f h1)))))
  by_cases h3 : x = 1
  · exact ⟨_, .ok (h3 ▸ one), fun d => (e2 d).trans (st_yes_ret (ev_or_f (ev_cmp_of rfl rfl (eq_f h1)) (ev_cmp_of rfl rfl (eq_t h3))))⟩
  have e3 : ∀ d, callN P (d + 2) 23 [.int x, .int y] = endOf (execs (callN P (d + 1)) (B_F_power.drop 3) [some (.int x), some (.int y), none]) := fun d => (e2 d).trans (congrArg endOf (st_no' (ev_or_f (ev_cmp_of rfl rfl (eq_f h1)) (ev_cmp_of rfl rfl (eq_f h3)))))
  by_cases h4 : x = -1
  · have c : ∀ d, evalE (callN P (d + 1)) [some (.int x), some (.int y), none] (.cmp .eq (.bin .mod (.var 1) (.int 2)) (.int 0)) = some (.ok (.bool (Int.fmod y 2 == 0))) := fun d => ev_cmp_of (ev_bin_of rfl rfl (mod2 y)) rfl rfl
    cases h5 : (Int.fmod y 2 == 0) with
    | true => rw [h5] at c; exact ⟨_, .ok one, fun d => (e3 d).trans ((st_yes_ret (ev_cmp_of rfl rfl (eq_t h4))).trans (ev_ite_t (c d) rfl))⟩
    | false => rw [h5] at c; exact ⟨_, .ok (Bd_neg_one _), fun d => (e3 d).trans ((st_yes_ret (ev_cmp_of rfl rfl (eq_t h4))).trans (ev_ite_f (c d) rfl))⟩
  have e4 : ∀ d, callN P (d + 2) 23 [.int x, .int y] = endOf (execs (callN P (d + 1)) (B_F_power.drop 4) [some (.int x), some (.int y), none]) := fun d => (e3 d).trans (congrArg endOf (st_no' (ev_cmp_of rfl rfl (eq_f h4))))
  by_cases h5 : y < 0
  · exact ⟨_, .ok (Bd_zero _), fun d => (e4 d).trans (st_yes_ret (ev_cmp_of rfl rfl (lt_t h5)))⟩
  have e5 : ∀ d, callN P (d + 2) 23 [.int x, .int y] = endOf (execs (callN P (d + 1)) (B_F_power.drop 5) [some (.int x), some (.int y), none]) := fun d => (e4 d).trans (congrArg endOf (st_no' (ev_cmp_of rfl rfl (lt_f h5))))
  by_cases h6 : 268435456 ≤ y
  · exact ⟨_, .err (isF (Str.ofString "exponent too large") [Str.ofString "NONE"]), fun d => (e5 d).trans (st_yes_bad (ev_cmp_of rfl (ev_bin_of rfl rfl pow28) (ge_t h6)) (st_raise (ev_call_of (evl_one rfl rfl) (c_error1 d _))))⟩
  · obtain ⟨p1, p2, p3⟩ := pow_hi h5 (hy.resolve_right h6)
    exact ⟨_, .ok (hx.pow p3), fun d => (e5 d).trans ((congrArg endOf (st_no' (ev_cmp_of rfl (ev_bin_of rfl rfl pow28) (ge_f h6)))).trans (st_ret.trans (ev_bin_of rfl rfl (if_pos ⟨p1, p2, small_bd hx (Nat.le_trans ha (Nat.le_of_ble_eq_true rfl))⟩))))⟩
theorem shl_hi {y : Int} (h5 : ¬ y < 0) (hy : y ≤ 64) : 0 ≤ y ∧ y ≤ 1000 ∧ y.toNat ≤ 64 := by exact ⟨by (first | lia | omega), by (first | lia | omega), by (first | lia | omega)⟩
theorem c_shl {a : Nat} {x y : Int} (hx : Bd a x) (ha : a ≤ 1900) (hy : y ≤ 64 ∨ 2147483648 ≤ y) : ∃ r, ArRes (a + 65) r ∧ ∀ d, callN P (d + 3) 25 [.int x, .int y] = r := by
  have e : ∀ d, callN P (d + 3) 25 [.int x, .int y] = endOf (execs (callN P (d + 2)) B_F_shifted_left [some (.int x), some (.int y), none]) := fun d => call_of (fn := F_shifted_left) (body := B_F_shifted_left) (ρ := [some (.int x), some (.int y), none]) rfl rfl rfl
  by_cases h0 : y < 0
  · exact ⟨_, .err (isF (Str.ofString "negative shift argument") [Str.ofString "ARITH", Str.ofString "DOMAIN", Str.ofString "domain error: argument not in valid range"]), fun d => (e d).trans (st_do_err (ev_call_of (evl_one rfl rfl) (c_need_count0 d h0)))⟩
  have e1 : ∀ d, callN P (d + 3) 25 [.int x, .int y] = endOf (execs (callN P (d + 2)) (B_F_shifted_left.drop 1) [some (.int x), some (.int y), none]) := fun d => (e d).trans (congrArg endOf (st_do (ev_call_of (evl_one rfl rfl) (c_need_count d h0))))
  by_cases h1 : x = 0
  · exact ⟨_, .ok (Bd_zero _), fun d => (e1 d).trans (st_yes_ret (ev_cmp_of rfl rfl (eq_t h1)))⟩
  have e2 : ∀ d, callN P (d + 3) 25 [.int x, .int y] = endOf (execs (callN P (d + 2)) (B_F_shifted_left.drop 2) [some (.int x), some (.int y), none]) := fun d => (e1 d).trans (congrArg endOf (st_no' (ev_cmp_of rfl rfl (eq_f h1))))
  by_cases h2 : 2147483648 ≤ y
  · exact ⟨_, .err (isF (Str.ofString "integer value too large to represent") [Str.ofString "ARITH", Str.ofString "IOVERFLOW", Str.ofString "integer value too large to represent"]), fun d => (e2 d).trans (st_yes_bad (ev_cmp_of rfl (ev_bin_of rfl rfl pow31) (ge_t h2)) ((congrArg endOf (st_as rfl rfl)).trans (st_raise (ev_call_of (evl_two rfl rfl rfl rfl) (c_error (d + 1) _ _)))))⟩
  · obtain ⟨p1, p2, p3⟩ := shl_hi h0 (hy.resolve_right h2)
    refine ⟨_, .ok (Bd.of_le (k := a + 64) (n := x * 2 ^ y.toNat) ?_), fun d => (e2 d).trans ((congrArg endOf (st_no' (ev_cmp_of rfl (ev_bin_of rfl rfl pow31) (ge_f h2)))).trans (st_ret.trans (ev_bin_of rfl rfl (if_pos ⟨p1, p2, small_bd hx (Nat.le_trans ha (Nat.le_of_ble_eq_true rfl))⟩))))⟩
    rw [Int.natAbs_mul, Int.natAbs_pow, Nat.pow_add]
    exact Nat.mul_le_mul hx.nat (Nat.pow_le_pow_right (by decide) p3)
theorem c_shr {a : Nat} {x y : Int} (hx : Bd a x) : ∃ r, ArRes (a + 1) r ∧ ∀ d, callN P (d + 3) 26 [.int x, .int y] = r := by
  have e : ∀ d, callN P (d + 3) 26 [.int x, .int y] = endOf (execs (callN P (d + 2)) B_F_shifted_right [some (.int x), some (.int y)]) := fun d => call_of (fn := F_shifted_right) (body := B_F_shifted_right) (ρ := [some (.int x), some (.int y)]) rfl rfl rfl
  by_cases h0 : y < 0
  · exact ⟨_, .err (isF (Str.ofString "negative shift argument") [Str.ofString "ARITH", Str.ofString "DOMAIN", Str.ofString "domain error: argument not in valid range"]), fun d => (e d).trans (st_do_err (ev_call_of (evl_one rfl rfl) (c_need_count0 d h0)))⟩
  have e1 : ∀ d, callN P (d + 3) 26 [.int x, .int y] = endOf (execs (callN P (d + 2)) (B_F_shifted_right.drop 1) [some (.int x), some (.int y)]) := fun d => (e d).trans (congrArg endOf (st_do (ev_call_of (evl_one rfl rfl) (c_need_count d h0))))
  by_cases h2 : 2147483648 ≤ y
  · have cy : ∀ d, evalE (callN P (d + 2)) [some (.int x), some (.int y)] (.cmp .ge (.var 1) (.bin .pow (.int 2) (.int 31))) = some (.ok (.bool true)) := fun d => ev_cmp_of rfl (ev_bin_of rfl rfl pow31) (ge_t h2)
    by_cases h3 : x < 0
    · exact ⟨_, .ok (Bd_neg_one _), fun d => (e1 d).trans ((st_yes_ret (cy d)).trans (ev_ite_t (ev_cmp_of rfl rfl (lt_t h3)) rfl))⟩
    · exact ⟨_, .ok (Bd_zero _), fun d => (e1 d).trans ((st_yes_ret (cy d)).trans (ev_ite_f (ev_cmp_of rfl rfl (lt_f h3)) rfl))⟩
  · exact ⟨_, .ok (hx.fdiv (y := 2 ^ y.toNat) (fun h => absurd (pow_cast y.toNat) (by rw [h]; have := pow_pos2 y.toNat; (first | lia | omega)))), fun d => (e1 d).trans ((congrArg endOf (st_no' (ev_cmp_of rfl (ev_bin_of rfl rfl pow31) (ge_f h2)))).trans (st_ret.trans (ev_bin_of rfl rfl (if_pos (Int.not_lt.mp h0)))))⟩
end Mine
end
section
open PySem
namespace Mine
set_option linter.unusedVariables false
set_option linter.unusedSimpArgs false
set_option exponentiation.threshold 5000

noncomputable def arOps : List String := ["+", "-", "*", "/", "%", "**", "<<", ">>", "&", "|", "^"]
noncomputable def bitsOf (op : String) (a b : Nat) : Nat := if op = "**" then 3 * a + 1 else if op = "<<" then a + 65 else a + b + 1
noncomputable def Fits (op : String) (y : Int) : Prop := (op = "**" → y ≤ 3 ∨ 268435456 ≤ y) ∧ (op = "<<" → y ≤ 64 ∨ 2147483648 ≤ y)
theorem c_arith {op : String} (ho : op ∈ arOps) {a b : Nat} {x y : Int} (hx : Bd a x) (hy : Bd b y) (ha : a ≤ LIM) (hb : b ≤ LIM) (hp : op = "**" → a ≤ 1000) (hf : Fits op y) :
    ∃ r, ArRes (bitsOf op a b) r ∧ ∀ d, callN P (d + 4) 27 [.str (Str.ofString op), .int x, .int y] = r := by
  have e : ∀ d, callN P (d + 4) 27 [.str (Str.ofString op), .int x, .int y] = endOf (execs (callN P (d + 3)) B_F_arithmetic [some (.str (Str.ofString op)), some (.int x), some (.int y)]) := fun d => call_of (fn := F_arithmetic) (body := B_F_arithmetic) (ρ := [some (.str (Str.ofString op)), some (.int x), some (.int y)]) rfl rfl rfl
  have hl : LIM = 1850 := rfl
  have sk : ∀ (k : Nat) {d : Nat} {r : R V}, execs (callN P (d + 3)) B_F_arithmetic [some (.str (Str.ofString op)), some (.int x), some (.int y)] = execs (callN P (d + 3)) (B_F_arithmetic.drop k) [some (.str (Str.ofString op)), some (.int x), some (.int y)] →
      endOf (execs (callN P (d + 3)) (B_F_arithmetic.drop k) [some (.str (Str.ofString op)), some (.int x), some (.int y)]) = r → callN P (d + 4) 27 [.str (Str.ofString op), .int x, .int y] = r := fun k d r h1 h2 => (e d).trans ((congrArg endOf h1).trans h2)
  have ho : op = "+" ∨ op = "-" ∨ op = "*" ∨ op = "/" ∨ op = "%" ∨ op = "**" ∨ op = "<<" ∨ op = ">>" ∨ op = "&" ∨ op = "|" ∨ op = "^" := by simpa only [arOps, List.mem_cons, List.not_mem_nil, or_false] using ho
  rcases ho with rfl | rfl | rfl | rfl | rfl | rfl | rfl | rfl | rfl | rfl | rfl
  · exact ⟨_, .ok (hx.add hy), fun d => (e d).trans (by kernel_rfl)⟩
  · exact ⟨_, .ok (hx.sub hy), fun d => (e d).trans (by kernel_rfl)⟩
  · exact ⟨_, .ok (hx.mul hy), fun d => sk 2 (by kernel_rfl) ((st_yes_ret (by kernel_rfl)).trans (congrArg R.of (if_pos (by rw [small_bd hx (by (first | lia | omega)), small_bd hy (by (first | lia | omega))]; rfl))))⟩
  · by_cases h0 : y = 0
    · subst h0
      exact ⟨_, .err (isF (Str.ofString "divide by zero") [Str.ofString "ARITH", Str.ofString "DIVZERO", Str.ofString "divide by zero"]), fun d => sk 3 (by kernel_rfl) (st_yes_do_err (by kernel_rfl) (ev_call_of rfl (c_need_div0 _)))⟩
    · exact ⟨_, .ok ((hx.fdiv h0).mono (show a + 1 ≤ a + b + 1 by (first | lia | omega))), fun d => sk 3 (by kernel_rfl) (st_yes_do (by kernel_rfl) (ev_call_of rfl (c_need_div (d + 1) h0)) (congrArg R.of (if_neg (by rw [no_pylong (x := x) hy (by (first | lia | omega))]; simp [h0]))))⟩
  · by_cases h0 : y = 0
    · subst h0
      exact ⟨_, .err (isF (Str.ofString "divide by zero") [Str.ofString "ARITH", Str.ofString "DIVZERO", Str.ofString "divide by zero"]), fun d => sk 4 (by kernel_rfl) (st_yes_do_err (by kernel_rfl) (ev_call_of rfl (c_need_div0 _)))⟩
    · exact ⟨_, .ok ((hy.fmod (x := x) h0).mono (show b ≤ a + b + 1 by (first | lia | omega))), fun d => sk 4 (by kernel_rfl) (st_yes_do (by kernel_rfl) (ev_call_of rfl (c_need_div (d + 1) h0)) (congrArg R.of (if_neg h0)))⟩
  · obtain ⟨r, h1, h2⟩ := c_power hx (hp rfl) (hf.1 rfl)
    exact ⟨r, h1, fun d => sk 5 (by kernel_rfl) ((st_yes_ret (by kernel_rfl)).trans (ev_call_of rfl (h2 (d + 1))))⟩
  · obtain ⟨r, h1, h2⟩ := c_shl hx (by (first | lia | omega)) (hf.2 rfl)
    exact ⟨r, h1, fun d => sk 6 (by kernel_rfl) ((st_yes_ret (by kernel_rfl)).trans (ev_call_of rfl (h2 d)))⟩
  · obtain ⟨r, h1, h2⟩ := c_shr (y := y) hx
    exact ⟨r, h1.mono (show a + 1 ≤ a + b + 1 by (first | lia | omega)), fun d => sk 7 (by kernel_rfl) ((st_yes_ret (by kernel_rfl)).trans (ev_call_of rfl (h2 d)))⟩
  · exact ⟨_, .ok (((hx.mono (Nat.le_add_right a b)).band (hy.mono (Nat.le_add_left b a))).mono (Nat.le_succ _)), fun d => (e d).trans (by kernel_rfl)⟩
  · exact ⟨_, .ok (((hx.mono (Nat.le_add_right a b)).bor (hy.mono (Nat.le_add_left b a))).mono (Nat.le_succ _)), fun d => (e d).trans (by kernel_rfl)⟩
  · exact ⟨_, .ok ((hx.mono (Nat.le_add_right a b)).bxor (hy.mono (Nat.le_add_left b a))), fun d => (e d).trans (by kernel_rfl)⟩

theorem c_torder (a b : Str) : ∃ z : Int, ∀ d, callN P (d + 1) 28 [.str a, .str b] = some (.ok (.int z)) := by
  have e : ∀ d, callN P (d + 1) 28 [.str a, .str b] = endOf (execs (callN P d) B_F_text_order [some (.str a), some (.str b)]) := fun d => call_of (fn := F_text_order) (body := B_F_text_order) (ρ := [some (.str a), some (.str b)]) rfl rfl rfl
  cases h1 : (a == b) with
  | true => exact ⟨0, fun d => by rw [e]; simp [B_F_text_order, exs_cons, h1]⟩
  | false =>
    by_cases h2 : a.cps.toList < b.cps.toList
    · exact ⟨-1, fun d => by rw [e]; simp [B_F_text_order, exs_cons, h1, h2]⟩
    · exact ⟨1, fun d => by rw [e]; simp [B_F_text_order, exs_cons, h1, h2]⟩
theorem c_order {a b : Str} (ha : VOk a) (hb : VOk b) : ∃ z : Int, ∀ d, callN P (d + 4) 29 [.str a, .str b] = some (.ok (.int z)) := by
  have e : ∀ d, callN P (d + 4) 29 [.str a, .str b] = endOf (execs (callN P (d + 3)) B_F_order_of [some (.str a), some (.str b), none, none]) := fun d => call_of (fn := F_order_of) (body := B_F_order_of) (ρ := [some (.str a), some (.str b), none, none]) rfl rfl rfl
  obtain ⟨z, hz⟩ := c_torder a b
  cases h1 : W a with
  | none => exact ⟨z, fun d => by rw [e]; simp [B_F_order_of, exs_cons, c_whole d ha, c_whole d hb, h1, optV, hz]; cases W b <;> simp [exs_cons, hz]⟩
  | some x =>
    cases h2 : W b with
    | none => exact ⟨z, fun d => by rw [e]; simp [B_F_order_of, exs_cons, c_whole d ha, c_whole d hb, h1, h2, optV, hz]⟩
    | some y => exact ⟨x - y, fun d => by rw [e]; simp [B_F_order_of, exs_cons, c_whole d ha, c_whole d hb, h1, h2, optV, hz]⟩
noncomputable def relA : List String := ["==", "!=", "<", "<=", ">", ">="]
noncomputable def relB : List String := ["eq", "ne", "lt", "le", "gt", "ge"]
theorem rel_step {x y : E} {e : E} {r : List S} {ρ : Rho} {p q v : Bool} (h1 : ∀ cl : Nat → List V → R V, evalE cl ρ x = some (.ok (.bool p))) (h1' : ∀ cl : Nat → List V → R V, evalE cl ρ y = some (.ok (.bool q))) (h2 : ∀ cl : Nat → List V → R V, evalE cl ρ e = some (.ok (.bool v)))
    (h : ∃ b, ∀ cl : Nat → List V → R V, endOf (execs cl r ρ) = some (.ok (.bool b))) : ∃ b, ∀ cl : Nat → List V → R V, endOf (execs cl (.ite (.or [x, y]) [.ret e] [] :: r) ρ) = some (.ok (.bool b)) := by
  have g : ∀ cl : Nat → List V → R V, evalE cl ρ (.or [x, y]) = some (.ok (.bool (p || q))) := fun cl => by
    rw [ev_or, evo_cons, h1, R.bind_ok]
    cases p with
    | true => rfl
    | false => exact h1' cl
  cases hq : (p || q) with
  | true => exact ⟨v, fun cl => (st_yes_ret ((g cl).trans (by rw [hq]))).trans (h2 cl)⟩
  | false => exact h.imp fun b hb cl => (congrArg endOf (st_no' ((g cl).trans (by rw [hq])))).trans (hb cl)
theorem c_rel {op : String} (ho : op ∈ relA ++ relB) (z : Int) : ∃ b : Bool, ∀ d, callN P (d + 1) 30 [.str (Str.ofString op), .int z] = some (.ok (.bool b)) := by
  have e : ∀ d, callN P (d + 1) 30 [.str (Str.ofString op), .int z] = endOf (execs (callN P d) B_F_relation [some (.str (Str.ofString op)), some (.int z)]) := fun d => call_of (fn := F_relation) (body := B_F_relation) (ρ := [some (.str (Str.ofString op)), some (.int z)]) rfl rfl rfl
  have h : ∃ b, ∀ cl : Nat → List V → R V, endOf (execs cl B_F_relation [some (.str (Str.ofString op)), some (.int z)]) = some (.ok (.bool b)) :=
    rel_step (fun _ => rfl) (fun _ => rfl) (fun _ => rfl) (rel_step (fun _ => rfl) (fun _ => rfl) (fun _ => rfl) (rel_step (fun _ => rfl) (fun _ => rfl) (fun _ => rfl) (rel_step (fun _ => rfl) (fun _ => rfl) (fun _ => rfl) (rel_step (fun _ => rfl) (fun _ => rfl) (fun _ => rfl) ⟨decide (z ≥ 0), fun cl => rfl⟩))))
  exact h.imp fun b hb d => (e d).trans (hb _)
end Mine
end
section
open PySem
set_option genInjectivity false
set_option genSizeOf false
namespace Mine
set_option linter.unusedVariables false
set_option linter.unusedSimpArgs false
set_option exponentiation.threshold 5000

theorem strIs_some : ∀ {vs : List V} {l : List Str}, strIs vs = some l → vs = l.map .str
  | [], l, h => by rw [isL_nil h]; rfl
  | v :: r, l, h => by
    obtain ⟨s, m, h0, h1, rfl⟩ := isL_cons h
    rw [theStr_of h0, strIs_some h1]; rfl
inductive LRes : R V → Prop
  | ok {l : List Str} : LRes (some (.ok (.lst false (l.map .str))))
  | err {e : V} : IsF e → LRes (some (.error e))
noncomputable def theFrz (v : V) : Option (List V) := V.casesOn v none (fun _ => none) (fun _ => none) (fun _ => none) (fun _ => none) (fun o vs => if o then none else some vs) (fun _ => none) fun _ _ _ => none
theorem theFrz_of {v : V} {s : List V} (h : theFrz v = some s) : v = .lst false s := by
  cases v with
  | lst o vs => cases o <;> cases h; rfl
  | _ => cases h
noncomputable def theExc (v : V) : Option (V × V × V) := V.casesOn v none (fun _ => none) (fun _ => none) (fun _ => none) (fun _ => none) (fun _ _ => none) (fun _ => none) fun a b c => some (a, b, c)
theorem theExc_of {v : V} {s : V × V × V} (h : theExc v = some s) : v = .exc s.1 s.2.1 s.2.2 := by cases v <;> cases h; rfl
noncomputable def theErr (r : R V) : Option V := Option.casesOn r none fun x => Except.casesOn x some fun _ => none
theorem theErr_of {r : R V} {v : V} (h : theErr r = some v) : r = some (.error v) := by
  cases r with
  | none => cases h
  | some x => cases x <;> cases h; rfl
noncomputable def okF (e : V) : Bool := (theExc e).any fun t => (theInt t.1).any (· == 1) && ((theStr t.2.1).isSome && (theTup t.2.2).any fun ts => (strIs ts).isSome && decide (ts.length ≤ 10))
theorem okF_of {e : V} (h : okF e = true) : IsF e := by
  obtain ⟨t, h1, h⟩ := any_of h
  obtain ⟨h2, h⟩ := Bool.and_eq_true_iff.mp h
  obtain ⟨h3, h⟩ := Bool.and_eq_true_iff.mp h
  obtain ⟨k, h4, h5⟩ := any_of h2
  obtain ⟨m, h6⟩ := Option.isSome_iff_exists.mp h3
  obtain ⟨ts, h7, h⟩ := any_of h
  obtain ⟨h8, h9⟩ := Bool.and_eq_true_iff.mp h
  obtain ⟨l, h10⟩ := Option.isSome_iff_exists.mp h8
  refine ⟨m, l, ?_, by have := of_decide_eq_true h9; rwa [strIs_some h10, List.length_map] at this⟩
  rw [theExc_of h1, theInt_of h4, theStr_of h6, theTup_of h7, eq_of_beq h5, strIs_some h10]
noncomputable def okL (s : Str) : Bool := (theOk (callN P 5 18 [.str s])).any (fun v => (theFrz v).any fun vs => (strIs vs).isSome) || (theErr (callN P 5 18 [.str s])).any okF
theorem texts_okL : texts.all okL = true := by decide +kernel

theorem while_go1 {cl : Nat → List V → R V} {ρ ρ' : Rho} {c : E} {body : List S} (h1 : evalE cl ρ c = some (.ok (.bool true))) (h2 : execs cl body ρ = some (.next ρ')) (h3 : evalE cl ρ' c = some (.ok (.bool false))) : exec cl (.while c body) ρ = some (.next ρ') := by
  rw [ex_while, FUEL_eq, show (2 ^ 100 : Nat) = (2 ^ 100 - 2) + 1 + 1 from rfl]
  unfold loopN
  rw [h1]
  simp only [onE_ok, tr_bool, h2]
  unfold loopN
  rw [h3]
  rfl
theorem while_rule {cl : Nat → List V → R V} {ρ : Rho} {c : E} {body : List S} {Q : Out → Prop} (I : Nat → Rho → Prop) (step : ∀ k ρ, I k ρ → Turn (fun ρ => evalE cl ρ c) (fun ρ => execs cl body ρ) ρ (fun ρ' => ∃ k', k' < k ∧ I k' ρ') Q)
    {k : Nat} (hk : k < 2 ^ 100) (h : I k ρ) : ∃ o, exec cl (.while c body) ρ = some o ∧ Q o := by
  obtain ⟨o, h1, h2⟩ := loop_rule I step FUEL k ρ (by rw [FUEL_eq]; exact hk) h
  exact ⟨o, by rw [ex_while]; exact h1, h2⟩

noncomputable def chr (c : Nat) : Str := ⟨#[c]⟩
/-- a word's characters -/
noncomputable def Wrd (l : List Nat) : Prop := l ≠ [] ∧ l.length ≤ 1001 ∧ ∀ c ∈ l, blankC c = false ∧ c ≠ 92 ∧ c ≠ 123 ∧ c ≠ 34
theorem joinOk_chars (l : List Nat) (h : l.length ≤ 1001) : JoinOk Str.empty (l.map chr) = true := by
  refine PyProof.Rows.joinOk_of_weight ?_ (by decide)
  rw [List.map_map, List.length_map]
  have : (l.map ((fun x => x.length) ∘ chr)).sum = l.length := by
    clear h
    induction l with
    | nil => rfl
    | cons c r ih => rw [List.map_cons, List.sum_cons, ih]; show 1 + r.length = _; simp; (first | lia | omega)
  (first | lia | omega)
/-- a word's turns -/
@[reducible] noncomputable def RB (l : List Nat) (i : Nat) (x : Option V) : Rho := [some (.str ⟨l.toArray⟩), some (.int i), some (.lst true ((l.take i).map fun c => V.str (chr c))), x]
theorem bare_run (d : Nat) {l : List Nat} (h : Wrd l) : ∃ o, exec (callN P (d + 1)) (.while (.and [(.cmp .lt (.var 1) (.b1 .len (.var 0))), (.not (.call 1 [(.idx (.var 0) (.var 1))]))]) [.assign 3 (.idx (.var 0) (.var 1)), .ite (.cmp .eq (.var 3) (.str (Str.ofString "\\"))) [.unpack2 3 1 (.call 12 [(.var 0), (.var 1)])] [.aug 1 .add (.int 1)], .append 2 (.var 3)]) (RB l 0 none) = some o ∧ ∃ x, o = .next (RB l l.length x) := by
  obtain ⟨hne, hl, hc⟩ := h
  have hb := b_len_str (l := l) (Nat.le_trans hl (Nat.le_of_ble_eq_true rfl))
  refine while_rule (fun k ρ => ∃ i x, i + k = l.length ∧ ρ = RB l i x) ?_ (k := l.length) (Nat.lt_of_le_of_lt hl (by decide)) ⟨0, none, Nat.zero_add _, rfl⟩
  rintro k ρ ⟨i, x, hi, rfl⟩
  cases k with
  | zero =>
    cases (show i = l.length from hi)
    exact .stop (ev_and_f (ev_cmp_of rfl (ev_b1_of rfl hb) (lt_f (Int.lt_irrefl _)))) ⟨x, rfl⟩
  | succ k =>
    have hlt : i < l.length := hi ▸ Nat.lt_add_of_pos_right (Nat.succ_pos k)
    obtain ⟨c, h0⟩ : ∃ c, l[i]? = some c := ⟨_, List.getElem?_eq_getElem hlt⟩
    obtain ⟨c1, c2, _, _⟩ := hc c (List.mem_of_getElem? h0)
    have hx : ∀ x, evalE (callN P (d + 1)) (RB l i x) (.idx (.var 0) (.var 1)) = some (.ok (.str (chr c))) := fun x => ev_idx_of rfl rfl (vidx_chr rfl (Nat.le_trans (Nat.le_of_lt hlt) (Nat.le_trans hl (Nat.le_of_ble_eq_true rfl))) h0)
    have ht : (l.take i).map (fun c => V.str (chr c)) ++ [.str (chr c)] = (l.take (i + 1)).map fun c => V.str (chr c) := by rw [List.take_add_one, h0, List.map_append]; rfl
    refine .go (ρ' := RB l (i + 1) (some (.str (chr c)))) (ev_and_t (ev_cmp_of rfl (ev_b1_of rfl hb) (lt_t (Int.ofNat_lt.mpr hlt))) (ev_not_of (ev_call_of (evl_one (hx _) rfl) ((c_is_blank d c).trans (by rw [c1]))))) ?_ ⟨k, Nat.lt_succ_self _, i + 1, _, (Nat.add_right_comm ..).trans hi, rfl⟩
    have ag : execs (callN P (d + 1)) [.aug 1 .add (.int 1)] (RB l i (some (.str (chr c)))) = some (.next [some (.str ⟨l.toArray⟩), some (.int ((i + 1 : Nat) : Int)), some (.lst true ((l.take i).map fun c => V.str (chr c))), some (.str (chr c))]) := rfl
    exact (st_as (hx _) rfl).trans ((st_no (ev_cmp_of rfl rfl (eq_str (chr_eq' o_bs c |>.trans (beq_eq_false_iff_ne.mpr c2))))).trans ((congrArg (fun o => thenX o _) ag).trans
      ((st_app (vs := (l.take i).map fun c => V.str (chr c)) rfl rfl rfl (Nat.le_trans (Nat.le_of_eq (List.length_map ..)) (Nat.le_trans (List.length_take_le ..) (Nat.le_trans (Nat.le_of_lt hlt) (Nat.le_trans hl (Nat.le_of_ble_eq_true rfl)))))).trans (congrArg (fun v => some (Out.next [some (.str ⟨l.toArray⟩), some (.int ((i + 1 : Nat) : Int)), some (.lst true v), some (.str (chr c))])) ht))))
theorem c_bare (d : Nat) {l : List Nat} (h : Wrd l) : ∃ j : Str, ∀ d, callN P (d + 2) 16 [.str ⟨l.toArray⟩, .int 0] = some (.ok (.tup [.str j, .int l.length])) := by
  refine ⟨Txt.join Str.empty (l.map chr), fun d => ?_⟩
  obtain ⟨o, h1, x, rfl⟩ := bare_run d h
  have hj : (l.take l.length).map (fun c => V.str (chr c)) = (l.map chr).map V.str := by rw [List.take_length, List.map_map]; rfl
  have j2 : evalE (callN P (d + 1)) (RB l l.length x) (.var 2) = some (.ok (.lst false ((l.map chr).map V.str))) := congrArg (fun v => some (Except.ok (V.lst false v))) hj
  exact (call_of (fn := F_bare_element) (body := B_F_bare_element) (ρ := [some (.str ⟨l.toArray⟩), some (.int 0), none, none]) rfl rfl rfl).trans ((congrArg endOf ((st_as (v := .lst true []) rfl rfl).trans (st_in_next h1))).trans
    (st_ret.trans (ev_tup2 (ev_join_of (o := false) j2 (joinOk_chars l h.2.1)) rfl rfl rfl rfl rfl)))
theorem c_find0 {l : List Nat} (h : Wrd l) : ∃ j : Str, ∀ d, callN P (d + 3) 17 [.str ⟨l.toArray⟩, .int 0] = some (.ok (.tup [.str j, .int l.length])) := by
  obtain ⟨j, hj⟩ := c_bare 0 h
  obtain ⟨hne, hl, hc⟩ := h
  refine ⟨j, fun d => ?_⟩
  rw [call_of (fn := F_find_element) (body := B_F_find_element) (ρ := [some (.str ⟨l.toArray⟩), some (.int 0)]) rfl rfl rfl]
  have hb := b_len_str (l := l) (by (first | lia | omega))
  have hpos : 0 < l.length := List.length_pos_iff.mpr hne
  obtain ⟨c, h0⟩ : ∃ c, l[0]? = some c := ⟨_, List.getElem?_eq_getElem hpos⟩
  obtain ⟨c1, c2, c3, c4⟩ := hc c (List.mem_of_getElem? h0)
  have hx := vidx_chr (l := l) (i := 0) rfl (by decide) h0
  have c3' : (c == 123) = false := beq_eq_false_iff_ne.mpr c3
  have c4' : (c == 34) = false := beq_eq_false_iff_ne.mpr c4
  have hpos' : ¬ (l.length : Int) ≤ 0 := by (first | lia | omega)
  simp [B_F_find_element, exs_cons, while_stop, hb, hpos, hx, c1, chr_eq' o_br, chr_eq' o_q, c3', c4', hj, hne]
theorem c_find1 (d : Nat) {l : List Nat} (h : Wrd l) : callN P (d + 3) 17 [.str ⟨l.toArray⟩, .int l.length] = some (.ok .none) := by
  rw [call_of (fn := F_find_element) (body := B_F_find_element) (ρ := [some (.str ⟨l.toArray⟩), some (.int l.length)]) rfl rfl rfl]
  have hb := b_len_str (l := l) (by have := h.2.1; (first | lia | omega))
  simp [B_F_find_element, exs_cons, while_stop, hb]
theorem vidx_t0 {a b : V} : vidx (.tup [a, b]) (.int 0) = some a := rfl
theorem vidx_t1 {a b : V} : vidx (.tup [a, b]) (.int 1) = some b := rfl
theorem c_split_word {l : List Nat} (h : Wrd l) : ∃ j : Str, ∀ d, callN P (d + 4) 18 [.str ⟨l.toArray⟩] = some (.ok (.lst false [.str j])) := by
  obtain ⟨j, hj⟩ := c_find0 h
  refine ⟨j, fun d => ?_⟩
  rw [call_of (fn := F_split_list) (body := B_F_split_list) (ρ := [some (.str ⟨l.toArray⟩), none, none]) rfl rfl rfl]
  have hf := c_find1 d h
  have w := while_go1 (cl := callN P (d + 3)) (c := .isNone true (.var 2)) (body := [.append 1 (.idx (.var 2) (.int 0)), .assign 2 (.call 17 [(.var 0), (.idx (.var 2) (.int 1))])])
    (ρ := [some (.str ⟨l.toArray⟩), some (.lst true []), some (.tup [.str j, .int l.length])]) (ρ' := [some (.str ⟨l.toArray⟩), some (.lst true [.str j]), some .none])
    (by simp) (by simp [exs_cons, vidx_t0, vidx_t1, hf]) (by simp)
  simp only [B_F_split_list, exs_cons, ex_assign, ev_lst, evl_nil, R.bind_ok]
  simp [exs_cons, hj d, w]
theorem wrd_itoa {n : Int} (h : Bd LIM n) : ∃ l, Wrd l ∧ itoa n = ⟨l.toArray⟩ := by
  obtain ⟨ds, h1, h2, h3, h4, h5⟩ := itoa_form n
  have hl := h5 h
  have hd : ∀ c ∈ ds, blankC c = false ∧ c ≠ 92 ∧ c ≠ 123 ∧ c ≠ 34 := fun c hc => by
    have := h1 c hc
    exact ⟨dig_not_blank this.1, by (first | lia | omega), by (first | lia | omega), by (first | lia | omega)⟩
  refine ⟨_, ?_, h4⟩
  split
  · refine ⟨by simp, by simp; (first | lia | omega), fun c hc => ?_⟩
    rcases List.mem_cons.mp hc with rfl | hc
    · exact ⟨rfl, by decide, by decide, by decide⟩
    · exact hd c hc
  · exact ⟨h2, by (first | lia | omega), hd⟩
theorem c_split {s : Str} (h : VOk s) : ∃ r, LRes r ∧ ∀ d, callN P (d + 5) 18 [.str s] = r := by
  cases h with
  | num hb =>
    obtain ⟨l, h1, h2⟩ := wrd_itoa hb
    obtain ⟨j, hj⟩ := c_split_word h1
    rw [h2]
    exact ⟨_, LRes.ok (l := [j]), fun d => hj (d + 1)⟩
  | txt hm =>
    have ok := List.all_eq_true.mp texts_okL _ hm
    have key : ∃ r, LRes (some r) ∧ callN P 5 18 [.str s] = some r := by
      rcases (Bool.or_eq_true _ _).mp ok with h | h
      · obtain ⟨v, e, h⟩ := any_of h
        obtain ⟨vs, h1, h⟩ := any_of h
        obtain ⟨l, hl⟩ := Option.isSome_iff_exists.mp h
        rw [theFrz_of h1, strIs_some hl] at e
        exact ⟨_, .ok, theOk_of e⟩
      · obtain ⟨v, e, h⟩ := any_of h
        exact ⟨_, .err (okF_of h), theErr_of e⟩
    obtain ⟨r, h1, h2⟩ := key
    exact ⟨_, h1, fun d => callN_le P (Nat.le_add_left 5 d) _ _ _ h2⟩

noncomputable def binOps : List String := arOps ++ relA ++ relB ++ ["in", "ni"]
theorem isin_of {op : String} {l : List String} {vs : List V} {b : Bool} (h : l.all (fun o => isInV (.str (Str.ofString o)) (.tup vs) == some b) = true) (m : op ∈ l) : isInV (.str (Str.ofString op)) (.tup vs) = some b := eq_of_beq (List.all_eq_true.mp h op m)
noncomputable def mA : List V := [.str (Str.ofString "=="), .str (Str.ofString "!="), .str (Str.ofString "<"), .str (Str.ofString "<="), .str (Str.ofString ">"), .str (Str.ofString ">=")]
noncomputable def mB : List V := [.str (Str.ofString "eq"), .str (Str.ofString "ne"), .str (Str.ofString "lt"), .str (Str.ofString "le"), .str (Str.ofString "gt"), .str (Str.ofString "ge")]
noncomputable def mC : List V := [.str (Str.ofString "in"), .str (Str.ofString "ni")]
section
variable {op : String}
theorem a_a (m : op ∈ relA) : isInV (.str (Str.ofString op)) (.tup mA) = some true := isin_of (by decide +kernel) m
theorem a_b (m : op ∈ relB) : isInV (.str (Str.ofString op)) (.tup mA) = some false := isin_of (by decide +kernel) m
theorem b_b (m : op ∈ relB) : isInV (.str (Str.ofString op)) (.tup mB) = some true := isin_of (by decide +kernel) m
theorem a_c (m : op ∈ ["in", "ni"]) : isInV (.str (Str.ofString op)) (.tup mA) = some false := isin_of (by decide +kernel) m
theorem b_c (m : op ∈ ["in", "ni"]) : isInV (.str (Str.ofString op)) (.tup mB) = some false := isin_of (by decide +kernel) m
theorem m_c (m : op ∈ ["in", "ni"]) : isInV (.str (Str.ofString op)) (.tup mC) = some true := isin_of (by decide +kernel) m
theorem a_r (m : op ∈ arOps) : isInV (.str (Str.ofString op)) (.tup mA) = some false := isin_of (by decide +kernel) m
theorem b_r (m : op ∈ arOps) : isInV (.str (Str.ofString op)) (.tup mB) = some false := isin_of (by decide +kernel) m
theorem c_r (m : op ∈ arOps) : isInV (.str (Str.ofString op)) (.tup mC) = some false := isin_of (by decide +kernel) m
end
theorem bin_eq (op : String) (s t : Str) (d : Nat) : callN P (d + 6) 31 [.str (Str.ofString op), .str s, .str t] = endOf (execs (callN P (d + 5)) B_F_binary [some (.str (Str.ofString op)), some (.str s), some (.str t), none, none, none]) :=
  call_of (fn := F_binary) (body := B_F_binary) (ρ := [some (.str (Str.ofString op)), some (.str s), some (.str t), none, none, none]) rfl rfl rfl
theorem c_binary_rel {op : String} (ho : op ∈ relA ++ relB ++ ["in", "ni"]) {s t : Str} (hs : VOk s) (ht : VOk t) : ∃ r, Res 1 r ∧ ∀ d, callN P (d + 6) 31 [.str (Str.ofString op), .str s, .str t] = r := by
  rcases List.mem_append.mp ho with ho | hC
  · rcases List.mem_append.mp ho with hA | hB
    · obtain ⟨z, hz⟩ := c_order hs ht
      obtain ⟨b, hb⟩ := c_rel ho z
      exact ⟨_, .bit b (Nat.le_refl 1), fun d => (bin_eq op s t d).trans ((st_yes_ret (ev_in_of rfl rfl (a_a hA))).trans
        (ev_call_of (evl_one (ev_call_of (evl_two rfl rfl (ev_call_of rfl (hz (d + 1))) rfl) (hb (d + 4))) rfl) (c_bit _ _)))⟩
    · obtain ⟨z, hz⟩ := c_torder s t
      obtain ⟨b, hb⟩ := c_rel ho z
      exact ⟨_, .bit b (Nat.le_refl 1), fun d => (bin_eq op s t d).trans ((congrArg endOf (st_no' (ev_in_of rfl rfl (a_b hB)))).trans ((st_yes_ret (ev_in_of rfl rfl (b_b hB))).trans
        (ev_call_of (evl_one (ev_call_of (evl_two rfl rfl (ev_call_of rfl (hz (d + 4))) rfl) (hb (d + 4))) rfl) (c_bit _ _))))⟩
  · have pre : ∀ cl, execs cl B_F_binary [some (.str (Str.ofString op)), some (.str s), some (.str t), none, none, none] = _ := fun cl =>
      (st_no' (ev_in_of rfl rfl (a_c hC))).trans (st_no' (ev_in_of rfl rfl (b_c hC)))
    obtain ⟨r, h1, h2⟩ := c_split ht
    cases h1 with
    | @ok l =>
      exact ⟨_, .bit ((l.any (· == s) != false) == (Str.ofString op == Str.ofString "in")) (Nat.le_refl 1), fun d => (bin_eq op s t d).trans ((congrArg endOf (pre _)).trans
        (st_yes_as_ret (ev_in_of rfl rfl (m_c hC)) (ev_in_of rfl (ev_call_of rfl (h2 d)) (isIn_lst.trans (congrArg _ strIs_map))) rfl (ev_call_of rfl (c_bit _ _))))⟩
    | err he =>
      exact ⟨_, .err he, fun d => (bin_eq op s t d).trans ((congrArg endOf (pre _)).trans
        (st_yes_as_err (ev_in_of rfl rfl (m_c hC)) (ev_in_err rfl (ev_call_of rfl (h2 d)))))⟩
theorem c_binary_ar {op : String} (ho : op ∈ arOps) {s t : Str} (hs : VOk s) (ht : VOk t) {a b : Nat} (ha : WB a s) (hb : WB b t) (la : a ≤ LIM) (lb : b ≤ LIM) (hp : op = "**" → a ≤ 1000) (hf : ∀ y, W t = some y → Fits op y) (hk : bitsOf op a b ≤ LIM) :
    ∃ r, Res (bitsOf op a b) r ∧ ∀ d, callN P (d + 6) 31 [.str (Str.ofString op), .str s, .str t] = r := by
  have pre : ∀ cl, execs cl B_F_binary [some (.str (Str.ofString op)), some (.str s), some (.str t), none, none, none] = _ := fun cl =>
    (st_no' (ev_in_of rfl rfl (a_r ho))).trans ((st_no' (ev_in_of rfl rfl (b_r ho))).trans (st_no' (ev_in_of rfl rfl (c_r ho))))
  have go : ∀ {d : Nat} {r : R V}, _ = r → callN P (d + 6) 31 [.str (Str.ofString op), .str s, .str t] = r := fun {d r} h => (bin_eq op s t d).trans ((congrArg endOf (pre _)).trans h)
  have hol : (Str.ofString op).length ≤ 100 := of_decide_eq_true (List.all_eq_true.mp (show arOps.all (fun op => decide ((Str.ofString op).length ≤ 100)) = true by decide +kernel) op ho)
  have f1 := c_operand hol hs
  have f2 := c_operand hol ht
  cases h1 : W s with
  | none =>
    rw [h1] at f1
    obtain ⟨v, g1, g2⟩ := f1
    exact ⟨_, .err g1, fun d => go (st_as_err (ev_call_of rfl (g2 (d + 1))))⟩
  | some x =>
    rw [h1] at f1
    cases h2 : W t with
    | none =>
      rw [h2] at f2
      obtain ⟨v, g1, g2⟩ := f2
      exact ⟨_, .err g1, fun d => go ((congrArg endOf (st_as (ev_call_of rfl (f1 (d + 1))) rfl)).trans (st_as_err (ev_call_of rfl (g2 (d + 1)))))⟩
    | some y =>
      rw [h2] at f2
      obtain ⟨r, g1, g2⟩ := c_arith ho (ha x h1) (hb y h2) la lb hp (hf y h2)
      have go2 : ∀ {d : Nat} {r : R V}, _ = r → callN P (d + 6) 31 [.str (Str.ofString op), .str s, .str t] = r := fun {d r} h => go ((congrArg endOf (st_as (ev_call_of rfl (f1 (d + 1))) rfl)).trans ((congrArg endOf (st_as (ev_call_of rfl (f2 (d + 1))) rfl)).trans (st_ret.trans h)))
      cases g1 with
      | @ok z hz => exact ⟨_, .int hz hk, fun d => go2 (ev_b1_of (ev_call_of rfl (g2 (d + 1))) (b_str (hz.mono hk)))⟩
      | err he => exact ⟨_, .err he, fun d => go2 (ev_b1_err (ev_call_of rfl (g2 (d + 1))))⟩
end Mine
end
section
open PySem
namespace Mine
set_option linter.unusedVariables false
set_option linter.unusedSimpArgs false
set_option exponentiation.threshold 5000

theorem c_cfault (s n : Str) (h1 : s.length ≤ 100) (h2 : n.length ≤ 100) : ∃ (m : Str) (ts : List Str), ts.length ≤ 10 ∧ ∀ d, callN P (d + 2) 36 [.str s, .str n] = some (.ok (.exc (.int 1) (.str m) (.tup (ts.map .str)))) := by
  refine ⟨Str.empty ++ Str.ofString "too " ++ s ++ Str.ofString " arguments for math function \"" ++ n ++ Str.ofString "\"", [Str.ofString "TCL", Str.ofString "WRONGARGS"], by simp, fun d => ?_⟩
  rw [call_of (fn := F_count_fault) (body := B_F_count_fault) (ρ := [some (.str s), some (.str n)]) rfl rfl rfl]
  simp [B_F_count_fault, exs_cons, olen, show 4 + (s.length + (30 + (n.length + 1))) ≤ 1000000 by (first | lia | omega)]
theorem c_neednum {s : Str} (h : VOk s) : match W s with
    | some n => ∀ d, callN P (d + 4) 33 [.str s] = some (.ok (.int n))
    | none => ∃ e, IsF e ∧ ∀ d, callN P (d + 4) 33 [.str s] = some (.error e) := by
  have e : ∀ d, callN P (d + 4) 33 [.str s] = endOf (execs (callN P (d + 3)) B_F_need_number [some (.str s), none]) := fun d => call_of (fn := F_need_number) (body := B_F_need_number) (ρ := [some (.str s), none]) rfl rfl rfl
  have hl := h.len
  cases hw : W s with
  | some n => intro d; rw [e]; simp [B_F_need_number, exs_cons, c_whole d h, hw, optV]
  | none =>
    refine ⟨_, isF (Str.empty ++ Str.ofString "expected number but got \"" ++ s ++ Str.ofString "\"") [Str.ofString "TCL", Str.ofString "VALUE", Str.ofString "NUMBER"], fun d => ?_⟩
    rw [e]
    simp [B_F_need_number, exs_cons, c_whole d h, hw, optV, olen, show 25 + (s.length + 1) ≤ 1000000 by (first | lia | omega)]
theorem small_one : small 1 = true := by unfold small; decide +kernel
theorem shl64 : arith .shl (.int 1) (.int 64) = some (.int 18446744073709551616) := by
  show (if _ then _ else _) = _
  rw [if_pos ⟨by decide, by decide, small_one⟩]; rfl
theorem shr63 (x : Int) : arith .shr (.int x) (.int 63) = some (.int (Int.fdiv x 9223372036854775808)) := by
  show (if (0 : Int) ≤ 63 then some (V.int (Int.fdiv x (2 ^ (63 : Int).toNat))) else none) = _
  rw [if_pos (by decide)]; rfl
theorem and64 (n : Int) : 0 ≤ Builtin.bitAnd n 18446744073709551615 ∧ Builtin.bitAnd n 18446744073709551615 ≤ 18446744073709551615 := by
  by_cases px : 0 ≤ n
  · rw [PyProof.Rows.bitAnd_pp px (by decide)]
    have := Nat.and_le_right (n := n.toNat) (m := (18446744073709551615 : Int).toNat)
    (first | lia | omega)
  · rw [PyProof.Rows.bitAnd_np px (by decide)]
    have := Nat.and_le_left (n := (18446744073709551615 : Int).toNat) (m := (Builtin.bitNot n).toNat)
    (first | lia | omega)
theorem bd64 {z : Int} (h : 0 ≤ z ∧ z ≤ 18446744073709551615) : Bd 64 z ∧ Bd 64 (z - 18446744073709551616) := by unfold Bd; (first | lia | omega)
theorem c_wide (n : Int) : ∃ z, Bd 64 z ∧ ∀ d, callN P (d + 1) 9 [.int n] = some (.ok (.int z)) := by
  have e : ∀ d, callN P (d + 1) 9 [.int n] = endOf (execs (callN P d) B_F_wide [some (.int n), none]) := fun d => call_of (fn := F_wide) (body := B_F_wide) (ρ := [some (.int n), none]) rfl rfl rfl
  have hr := and64 n
  have s1 : ∀ cl, evalE cl [some (.int n), none] (.bin .band (.var 0) (.bin .sub (.bin .shl (.int 1) (.int 64)) (.int 1))) = some (.ok (.int (Builtin.bitAnd n 18446744073709551615))) := fun cl => ev_bin_of rfl (ev_bin_of (ev_bin_of rfl rfl shl64) rfl rfl) rfl
  generalize Builtin.bitAnd n 18446744073709551615 = z at hr s1
  obtain ⟨b1, b2⟩ := bd64 hr
  have c : ∀ cl, evalE cl [some (.int n), some (.int z)] (.cmp .eq (.bin .shr (.var 1) (.int 63)) (.int 1)) = some (.ok (.bool (Int.fdiv z 9223372036854775808 == 1))) := fun cl => ev_cmp_of (ev_bin_of rfl rfl (shr63 z)) rfl rfl
  cases h : (Int.fdiv z 9223372036854775808 == 1) with
  | true => rw [h] at c; exact ⟨_, b2, fun d => (e d).trans ((congrArg endOf (st_as (s1 _) rfl)).trans ((st_yes_ret (c _)).trans (ev_bin_of rfl (ev_bin_of rfl rfl shl64) rfl)))⟩
  | false => rw [h] at c; exact ⟨_, b1, fun d => (e d).trans ((congrArg endOf ((st_as (s1 _) rfl).trans (st_no' (c _)))).trans st_ret)⟩
theorem ar_fdiv {x y : Int} (h : y ≠ 0) (hp : Builtin.divisionGoesByPylong x y = false) : arith .fdiv (.int x) (.int y) = some (.int (Int.fdiv x y)) := by
  show (if _ then _ else _) = _
  rw [if_neg (by simp [h, hp])]
theorem rootStep {n b : Int} (h : 1 ≤ b) (hb : b ≤ n) : 1 ≤ Int.fdiv (b + Int.fdiv n b) 2 := by
  rw [Int.fdiv_eq_ediv_of_nonneg n (by (first | lia | omega)), Int.fdiv_eq_ediv_of_nonneg _ (by decide)]
  have : 1 ≤ n / b := (Int.le_ediv_iff_mul_le (by (first | lia | omega))).mpr (by (first | lia | omega))
  (first | lia | omega)
theorem Bd.under {a : Nat} {n z : Int} (h : Bd a n) (h1 : 1 ≤ z) (h2 : z ≤ n) : Bd a z := by
  have := h.2
  have := pow_cast a; have := pow_pos2 a
  unfold Bd; (first | lia | omega)
theorem half1 {n : Int} (h : ¬ n < 2) : 1 ≤ Int.fdiv n 2 := by rw [Int.fdiv_eq_ediv_of_nonneg n (by decide)]; (first | lia | omega)
theorem tn_lt {b r : Int} (h : b < r) (hb : 1 ≤ b) : b.toNat < r.toNat := by (first | lia | omega)
theorem root_run {n : Int} (h1 : ¬ n < 2) (hn : n < 2 ^ 96) (np : ∀ x y : Int, 1 ≤ y → y ≤ n → arith .fdiv (.int x) (.int y) = some (.int (Int.fdiv x y))) (d : Nat) :
    ∃ o, exec (callN P (d + 1)) (.while (.cmp .lt (.var 3) (.var 2)) [.assign 2 (.var 3), .assign 3 (.bin .fdiv (.bin .add (.var 2) (.bin .fdiv (.var 0) (.var 2))) (.int 2))]) [some (.int n), none, some (.int n), some (.int (Int.fdiv n 2))] = some o ∧ ∃ z x, (1 : Int) ≤ z ∧ z ≤ n ∧ o = .next [some (.int n), none, some (.int z), x] := by
  have n2 : 2 ≤ n := Int.not_lt.mp h1
  refine while_rule (k := n.toNat) (fun k ρ => ∃ r b : Int, r.toNat = k ∧ 1 ≤ r ∧ r ≤ n ∧ 1 ≤ b ∧ ρ = [some (.int n), none, some (.int r), some (.int b)]) ?_ (by clear np; (first | lia | omega)) ⟨n, _, rfl, Int.le_trans (by decide) n2, Int.le_refl _, half1 h1, rfl⟩
  rintro k ρ ⟨r, b, rfl, r1, r2, b1, rfl⟩
  by_cases hlt : b < r
  · have hb := Int.le_of_lt (Int.lt_of_lt_of_le hlt r2)
    exact .go (ρ' := [some (.int n), none, some (.int b), some (.int (Int.fdiv (b + Int.fdiv n b) 2))]) (ev_cmp_of rfl rfl (lt_t hlt)) ((st_as rfl rfl).trans (st_as (ev_bin_of (ev_bin_of rfl (ev_bin_of rfl rfl (np n b b1 hb)) rfl) rfl (np _ 2 (by decide) n2)) rfl)) ⟨b.toNat, tn_lt hlt b1, b, _, rfl, b1, hb, rootStep b1 hb, rfl⟩
  · exact .stop (ev_cmp_of rfl rfl (lt_f hlt)) ⟨r, _, r1, r2, rfl⟩
theorem c_root {a : Nat} {n : Int} (h : Bd a n) (ha : a ≤ 96) : ∃ r, ArRes a r ∧ ∀ d, callN P (d + 2) 34 [.int n] = r := by
  have e : ∀ d, callN P (d + 2) 34 [.int n] = endOf (execs (callN P (d + 1)) B_F_root_of [some (.int n), none, none, none]) := fun d => call_of (fn := F_root_of) (body := B_F_root_of) (ρ := [some (.int n), none, none, none]) rfl rfl rfl
  by_cases h0 : n < 0
  · exact ⟨_, .err (isF (Str.ofString "square root of negative argument") [Str.ofString "ARITH", Str.ofString "DOMAIN", Str.ofString "domain error: argument not in valid range"]), fun d => (e d).trans (st_yes_bad (ev_cmp_of rfl rfl (lt_t h0)) ((congrArg endOf (st_as rfl rfl)).trans (st_raise (ev_call_of (evl_two rfl rfl rfl rfl) (c_error d _ _)))))⟩
  by_cases h1 : n < 2
  · exact ⟨_, .ok h, fun d => (e d).trans ((congrArg endOf (st_no' (ev_cmp_of rfl rfl (lt_f h0)))).trans (st_yes_ret (ev_cmp_of rfl rfl (lt_t h1))))⟩
  have np : ∀ x y : Int, 1 ≤ y → y ≤ n → arith .fdiv (.int x) (.int y) = some (.int (Int.fdiv x y)) := fun x y p q => ar_fdiv (fun z => by subst z; exact absurd p (by decide)) (no_pylong (b := 96) ((h.mono ha).under p q) (by decide))
  obtain ⟨o, h2, z, x, z1, z2, rfl⟩ := root_run h1 (h.mono ha).2 np 0
  exact ⟨_, .ok (h.under z1 z2), fun d => (e d).trans ((congrArg endOf ((st_no' (ev_cmp_of rfl rfl (lt_f h0))).trans ((st_no' (ev_cmp_of rfl rfl (lt_f h1))).trans ((st_as rfl rfl).trans ((st_as (ev_bin_of rfl rfl (np n 2 (by decide) (Int.not_lt.mp h1))) rfl).trans
    (st_in_next (exec_le (callN_le P (Nat.succ_le_succ (Nat.zero_le d))) _ _ _ h2))))))).trans st_ret)⟩
theorem foldl_mem {f : Int → Int → Int} (hf : ∀ m x, f m x = m ∨ f m x = x) : ∀ (l : List Int) (a : Int), l.foldl f a = a ∨ l.foldl f a ∈ l
  | [], a => .inl rfl
  | x :: r, a => by
    rw [List.foldl_cons]
    rcases foldl_mem hf r (f a x) with h | h
    · rw [h]
      rcases hf a x with q | q
      · exact .inl q
      · rw [q]; exact .inr (List.mem_cons_self ..)
    · exact .inr (List.mem_cons_of_mem _ h)
theorem maxL_mem {l : List Int} (h : l ≠ []) : ∃ m, maxL l = some m ∧ m ∈ l := by
  cases l with
  | nil => exact absurd rfl h
  | cons a r =>
    refine ⟨_, rfl, ?_⟩
    rcases foldl_mem (f := fun m x => if m < x then x else m) (fun m x => by split <;> simp) r a with q | q
    · rw [q]; exact List.mem_cons_self ..
    · exact List.mem_cons_of_mem _ q
theorem minL_mem {l : List Int} (h : l ≠ []) : ∃ m, minL l = some m ∧ m ∈ l := by
  cases l with
  | nil => exact absurd rfl h
  | cons a r =>
    refine ⟨_, rfl, ?_⟩
    rcases foldl_mem (f := fun m x => if x < m then x else m) (fun m x => by split <;> simp) r a with q | q
    · rw [q]; exact List.mem_cons_self ..
    · exact List.mem_cons_of_mem _ q
end Mine
end
section
open PySem
namespace Mine
set_option linter.unusedVariables false
set_option linter.unusedSimpArgs false
set_option exponentiation.threshold 5000

noncomputable def fnNames : List String := ["abs", "bool", "entier", "int", "isqrt", "wide", "max", "min"]
theorem vidx_l0 {o : Bool} {a : V} {r : List V} : vidx (.lst o (a :: r)) (.int 0) = some a := rfl
theorem b_max {o : Bool} {l : List Int} {m : Int} (h : maxL l = some m) : builtin1 .max (.lst o (l.map .int)) = some (.int m) := by
  show (intIs (l.map V.int)).bind _ = _
  rw [intIs_map]; simp [h]
theorem b_min {o : Bool} {l : List Int} {m : Int} (h : minL l = some m) : builtin1 .min (.lst o (l.map .int)) = some (.int m) := by
  show (intIs (l.map V.int)).bind _ = _
  rw [intIs_map]; simp [h]
theorem b_abs {n : Int} : builtin1 .abs (.int n) = some (.int n.natAbs) := rfl
theorem Bd.abs {k : Nat} {n : Int} (h : Bd k n) : Bd (k + 1) n.natAbs := .of_le (by have := h.nat; (first | lia | omega))
theorem c_fval {f : String} (hf : f ∈ fnNames) {l : List Int} (hne : l ≠ []) {k : Nat} (hb : ∀ n ∈ l, Bd k n) (hq : f = "isqrt" → k ≤ 96) :
    ∃ r, ArRes (max (k + 1) 64) r ∧ ∀ d, callN P (d + 3) 35 [.str (Str.ofString f), .lst false (l.map .int)] = r := by
  have e : ∀ d, callN P (d + 3) 35 [.str (Str.ofString f), .lst false (l.map .int)] = endOf (execs (callN P (d + 2)) B_F_function_value [some (.str (Str.ofString f)), some (.lst false (l.map .int))]) := fun d => call_of (fn := F_function_value) (body := B_F_function_value) (ρ := [some (.str (Str.ofString f)), some (.lst false (l.map .int))]) rfl rfl rfl
  have k1 : k ≤ max (k + 1) 64 := Nat.le_trans (Nat.le_succ k) (Nat.le_max_left ..)
  have no : ∀ {d : Nat} (k : String), ¬ f = k → evalE (callN P (d + 2)) [some (.str (Str.ofString f)), some (.lst false (l.map .int))] (.cmp .eq (.var 0) (.str (Str.ofString k))) = some (.ok (.bool false)) := fun k h => ev_cmp_of rfl rfl (eqs_f h)
  have yes : ∀ {d : Nat} (k : String), f = k → evalE (callN P (d + 2)) [some (.str (Str.ofString f)), some (.lst false (l.map .int))] (.cmp .eq (.var 0) (.str (Str.ofString k))) = some (.ok (.bool true)) := fun k h => ev_cmp_of rfl rfl (eqs_t h)
  by_cases fx : f = "max"
  · obtain ⟨mx, x1, x2⟩ := maxL_mem hne
    exact ⟨_, .ok ((hb _ x2).mono k1), fun d => (e d).trans ((st_yes_ret (yes _ fx)).trans (ev_b1_of rfl (b_max x1)))⟩
  by_cases fn : f = "min"
  · obtain ⟨mn, y1, y2⟩ := minL_mem hne
    exact ⟨_, .ok ((hb _ y2).mono k1), fun d => (e d).trans ((congrArg endOf (st_no' (no _ fx))).trans ((st_yes_ret (yes _ fn)).trans (ev_b1_of rfl (b_min y1))))⟩
  have e2 : ∀ d, callN P (d + 3) 35 [.str (Str.ofString f), .lst false (l.map .int)] = endOf (execs (callN P (d + 2)) (B_F_function_value.drop 2) [some (.str (Str.ofString f)), some (.lst false (l.map .int))]) := fun d => (e d).trans (congrArg endOf ((st_no' (no _ fx)).trans (st_no' (no _ fn))))
  obtain ⟨a, r, rfl⟩ := List.exists_cons_of_ne_nil hne
  have ha := hb a (List.mem_cons_self ..)
  by_cases fa : f = "abs"
  · exact ⟨_, .ok (ha.abs.mono (Nat.le_max_left ..)), fun d => (e2 d).trans ((st_yes_ret (yes _ fa)).trans (ev_b1_of (ev_idx_of rfl rfl vidx_l0) b_abs))⟩
  by_cases fq : f = "isqrt"
  · obtain ⟨q, h1, h2⟩ := c_root ha (hq fq)
    exact ⟨q, h1.mono k1, fun d => (e2 d).trans ((congrArg endOf (st_no' (no _ fa))).trans ((st_yes_ret (yes _ fq)).trans (ev_call_of (evl_one (ev_idx_of rfl rfl vidx_l0) rfl) (h2 d))))⟩
  by_cases fw : f = "wide"
  · obtain ⟨z, h1, h2⟩ := c_wide a
    exact ⟨_, .ok (h1.mono (Nat.le_max_right ..)), fun d => (e2 d).trans ((congrArg endOf ((st_no' (no _ fa)).trans (st_no' (no _ fq)))).trans ((st_yes_ret (yes _ fw)).trans (ev_call_of (evl_one (ev_idx_of rfl rfl vidx_l0) rfl) (h2 (d + 1)))))⟩
  exact ⟨_, .ok (ha.mono k1), fun d => (e2 d).trans ((congrArg endOf ((st_no' (no _ fa)).trans ((st_no' (no _ fq)).trans (st_no' (no _ fw))))).trans (st_ret.trans (ev_idx_of rfl rfl vidx_l0)))⟩

noncomputable def mapW : List Str → Option (List Int) := isL W
theorem mapW_mem {l : List Str} : ∀ {ns : List Int}, mapW l = some ns → ∀ n ∈ ns, ∃ s ∈ l, W s = some n := by
  induction l with
  | nil => intro ns h n hn; cases isL_nil h; cases hn
  | cons s r ih =>
    intro ns h n hn
    obtain ⟨x, m, h1, h2, rfl⟩ := isL_cons h
    rcases List.mem_cons.mp hn with rfl | hn
    · exact ⟨s, List.mem_cons_self .., h1⟩
    · obtain ⟨t, t1, t2⟩ := ih h2 n hn
      exact ⟨t, List.mem_cons_of_mem _ t1, t2⟩
theorem mapW_ne {l : List Str} {ns : List Int} (h : mapW l = some ns) (hne : l ≠ []) : ns ≠ [] := by
  cases l with
  | nil => exact absurd rfl hne
  | cons s r =>
    obtain ⟨x, m, _, _, rfl⟩ := isL_cons h
    exact List.cons_ne_nil _ _
noncomputable def cfBody : List S := [.append 5 (.call 33 [(.var 6)])]
/-- how the loop over the arguments ends -/
noncomputable def CfEnd (A B C D E : Option V) (done : List Int) (o : Nat → Option Out) (m : Option (List Int)) : Prop := Option.casesOn m (∃ e ρ', IsF e ∧ ∀ d, o d = some (.exc e ρ')) fun ns => ∃ x', ∀ d, o d = some (.next [A, B, C, D, E, some (.lst true ((done ++ ns).map .int)), x'])
theorem cf_loop (A B C D E : Option V) : ∀ (args : List Str) (done : List Int) (x : Option V), (∀ s ∈ args, VOk s) → done.length + args.length ≤ 1000 →
    CfEnd A B C D E done (fun d => forL 6 (fun ρ => execs (callN P (d + 4)) cfBody ρ) (args.map .str) [A, B, C, D, E, some (.lst true (done.map .int)), x]) (mapW args) := by
  intro args
  induction args with
  | nil => intro done x _ _; exact ⟨x, fun d => by rw [List.append_nil]; rfl⟩
  | cons s r ih =>
    intro done x hok hl
    have h1 := c_neednum (hok s (List.mem_cons_self ..))
    show CfEnd A B C D E done _ ((W s).bind fun n => (mapW r).map (n :: ·))
    cases hw : W s with
    | none =>
      rw [hw] at h1
      obtain ⟨e, e1, e2⟩ := h1
      exact ⟨e, [A, B, C, D, E, some (.lst true (done.map .int)), some (.str s)], e1, fun d => forL_exc (st_app_exc rfl (ev_call_of (evl_one rfl rfl) (e2 d)))⟩
    | some n =>
      rw [hw] at h1
      have ih := ih (done ++ [n]) (some (.str s)) (fun t ht => hok t (List.mem_cons_of_mem _ ht)) (by rw [List.length_append]; exact Nat.le_trans (Nat.le_of_eq (Nat.add_right_comm ..)) hl)
      rw [List.map_append] at ih
      have step : ∀ d, forL 6 (fun ρ => execs (callN P (d + 4)) cfBody ρ) ((s :: r).map .str) [A, B, C, D, E, some (.lst true (done.map .int)), x] = forL 6 (fun ρ => execs (callN P (d + 4)) cfBody ρ) (r.map .str) [A, B, C, D, E, some (.lst true (done.map .int ++ [.int n])), some (.str s)] := fun d =>
        forL_next (st_app rfl (ev_call_of (evl_one rfl rfl) (h1 d)) rfl (Nat.le_trans (Nat.le_of_eq (List.length_map ..)) (Nat.le_trans (Nat.le_trans (Nat.le_add_right ..) hl) (Nat.le_of_ble_eq_true rfl))))
      show CfEnd A B C D E done _ ((mapW r).map (n :: ·))
      cases hm : mapW r with
      | none =>
        rw [hm] at ih
        obtain ⟨e, ρ', i1, i2⟩ := ih
        exact ⟨e, ρ', i1, fun d => (step d).trans (i2 d)⟩
      | some ns =>
        rw [hm] at ih
        obtain ⟨x', i2⟩ := ih
        exact ⟨x', fun d => (step d).trans ((i2 d).trans (by rw [List.append_assoc]; rfl))⟩
theorem b_len_lst {o : Bool} {vs : List V} (h : vs.length ≤ 1000000000) : builtin1 .len (.lst o vs) = some (.int vs.length) := by
  show (if vs.length ≤ 1000000000 then some (V.int vs.length) else none) = _
  rw [if_pos h]
end Mine
end
section
open PySem
namespace Mine
set_option linter.unusedVariables false
set_option linter.unusedSimpArgs false
set_option exponentiation.threshold 5000

noncomputable def mostOf (f : String) : Int := if f = "max" ∨ f = "min" then -1 else 1
noncomputable def rowsK : List (Str × V) := ["abs", "bool", "entier", "int", "isqrt", "max", "min", "wide"].map fun f => (Str.ofString f, .tup [.int 1, .int (mostOf f)])
theorem c_rows (d : Nat) : callN P (d + 1) 32 [] = some (.ok (.dict rowsK)) := by
  rw [call_of (fn := F_function_rows) (body := B_F_function_rows) (ρ := []) rfl rfl rfl]
  simp [B_F_function_rows, exs_cons, rowsK, mostOf]
theorem dlook_rows {f : String} (hf : f ∈ fnNames) : dlook rowsK (Str.ofString f) = some (.tup [.int 1, .int (mostOf f)]) := by
  have key : fnNames.all (fun f => ((dlook rowsK (Str.ofString f)).bind theTup).any fun l => ((l[0]?).bind theInt).any (· == 1) && (((l[1]?).bind theInt).any (· == mostOf f) && Nat.beq l.length 2)) = true := by decide +kernel
  obtain ⟨l, h1, h⟩ := any_of (List.all_eq_true.mp key f hf)
  obtain ⟨v, h1, h2⟩ := Option.bind_eq_some_iff.mp h1
  rw [h1, theTup_of h2]
  obtain ⟨h3, h⟩ := Bool.and_eq_true_iff.mp h
  obtain ⟨h4, h5⟩ := Bool.and_eq_true_iff.mp h
  obtain ⟨a, h6, h8⟩ := any_of h3
  obtain ⟨b, h7, h9⟩ := any_of h4
  match l, Nat.eq_of_beq_eq_true h5, h6, h7 with
  | [x, y], _, h6, h7 => rw [theInt_of h6, theInt_of h7, eq_of_beq h8, eq_of_beq h9]
@[reducible] noncomputable def RF (f : String) (args : List Str) (x4 x5 x6 : Option V) : Rho := [some (.str (Str.ofString f)), some (.lst false (args.map .str)), some (.tup [.int 1, .int (mostOf f)]), some (.int 1), x4, x5, x6]
theorem fn_len {f : String} (hf : f ∈ fnNames) : (Str.ofString f).length ≤ 100 :=
  Nat.le_of_ble_eq_true (List.all_eq_true.mp (show fnNames.all (fun f => Nat.ble (Str.ofString f).length 100) = true by decide +kernel) f hf)
theorem cf_pre {f : String} (hf : f ∈ fnNames) {args : List Str} (d : Nat) : callN P (d + 6) 37 [.str (Str.ofString f), .lst false (args.map .str)] = endOf (execs (callN P (d + 5)) (B_F_call_function.drop 3) (RF f args (some (.int (mostOf f))) none none)) :=
  (call_of (fn := F_call_function) (body := B_F_call_function) (ρ := [some (.str (Str.ofString f)), some (.lst false (args.map .str)), none, none, none, none, none]) rfl rfl rfl).trans
    (congrArg endOf ((st_as (v := .tup [.int 1, .int (mostOf f)]) (ev_dget_of (ev_call_of rfl (c_rows (d + 4))) rfl (dlook_rows hf)) rfl).trans ((st_no' rfl).trans (st_un2 rfl))))
theorem c_callf {f : String} (hf : f ∈ fnNames) {args : List Str} (hok : ∀ s ∈ args, VOk s) (hl : args.length ≤ 3) {k : Nat} (hb : ∀ s ∈ args, WB k s) (hk : k + 1 ≤ LIM) (hq : f = "isqrt" → k ≤ 96) :
    ∃ r, Res (max (k + 1) 64) r ∧ ∀ d, callN P (d + 6) 37 [.str (Str.ofString f), .lst false (args.map .str)] = r := by
  have e := cf_pre hf (args := args)
  have hol := fn_len hf
  have lm : (args.map V.str).length = args.length := List.length_map ..
  have len : ∀ (d : Nat) (x4 x5 x6 : Option V), evalE (callN P (d + 5)) (RF f args x4 x5 x6) (.b1 .len (.var 1)) = some (.ok (.int args.length)) := fun d _ _ _ => (ev_b1_of rfl (b_len_lst (Nat.le_trans (Nat.le_of_eq lm) (Nat.le_trans hl (Nat.le_of_ble_eq_true rfl))))).trans (congrArg (fun n : Nat => some (Except.ok (V.int n))) lm)
  by_cases h0 : args.length < 1
  · obtain ⟨m1, t1, u1, w1⟩ := c_cfault (Str.ofString "few") (Str.ofString f) (by decide +kernel) hol
    exact ⟨_, .err ⟨m1, t1, rfl, u1⟩, fun d => (e d).trans (st_yes_bad (ev_cmp_of (len d _ _ _) rfl (lt_t (Int.ofNat_lt.mpr h0))) (st_raise (ev_call_of (evl_two rfl rfl rfl rfl) (w1 (d + 3)))))⟩
  have hne : args ≠ [] := fun q => h0 (by rw [q]; exact Nat.zero_lt_one)
  have c3 : ∀ d, endOf (execs (callN P (d + 5)) (B_F_call_function.drop 3) (RF f args (some (.int (mostOf f))) none none)) = endOf (execs (callN P (d + 5)) (B_F_call_function.drop 4) (RF f args (some (.int (mostOf f))) none none)) := fun d => congrArg endOf (st_no' (ev_cmp_of (len d _ _ _) rfl (lt_f fun h => h0 (Int.ofNat_lt.mp h))))
  by_cases hm : 0 ≤ mostOf f ∧ mostOf f < args.length
  · obtain ⟨m2, t2, u2, w2⟩ := c_cfault (Str.ofString "many") (Str.ofString f) (by decide +kernel) hol
    exact ⟨_, .err ⟨m2, t2, rfl, u2⟩, fun d => (e d).trans ((c3 d).trans (st_yes_bad (ev_and_t (ev_cmp_of rfl rfl (ge_t hm.1)) (ev_cmp_of (len d _ _ _) rfl (gt_t hm.2))) (st_raise (ev_call_of (evl_two rfl rfl rfl rfl) (w2 (d + 3))))))⟩
  have fin : ∀ d, callN P (d + 6) 37 [.str (Str.ofString f), .lst false (args.map .str)] = endOf (execs (callN P (d + 5)) (B_F_call_function.drop 5) (RF f args (some (.int (mostOf f))) none none)) := fun d => (e d).trans ((c3 d).trans (congrArg endOf (st_no' (by
    by_cases hp : 0 ≤ mostOf f
    · exact ev_and_t (ev_cmp_of rfl rfl (ge_t hp)) (ev_cmp_of (len d _ _ _) rfl (gt_f fun q => hm ⟨hp, q⟩))
    · exact ev_and_f (ev_cmp_of rfl rfl (ge_f hp))))))
  by_cases hbool : f = "bool"
  · obtain ⟨a, r, rfl⟩ := List.exists_cons_of_ne_nil hne
    have cy : ∀ d, evalE (callN P (d + 5)) (RF f (a :: r) (some (.int (mostOf f))) none none) (.cmp .eq (.var 0) (.str (Str.ofString "bool"))) = some (.ok (.bool true)) := fun d => ev_cmp_of rfl rfl (eqs_t hbool)
    rcases c_need_bool (hok a (List.mem_cons_self ..)) with ⟨b, hb⟩ | ⟨v, v1, v2⟩
    · exact ⟨_, .bit b (Nat.le_trans (Nat.le_of_ble_eq_true rfl) (Nat.le_max_right ..)), fun d => (fin d).trans ((st_yes_ret (cy d)).trans (ev_call_of (evl_one (ev_call_of (evl_one (ev_idx_of rfl rfl vidx_l0) rfl) (hb d)) rfl) (c_bit (d + 4) b)))⟩
    · exact ⟨_, .err v1, fun d => (fin d).trans ((st_yes_ret (cy d)).trans (ev_call_err (evl_err (ev_call_of (evl_one (ev_idx_of rfl rfl vidx_l0) rfl) (v2 d)))))⟩
  have fin2 : ∀ d, callN P (d + 6) 37 [.str (Str.ofString f), .lst false (args.map .str)] = endOf (execs (callN P (d + 5)) (B_F_call_function.drop 7) (RF f args (some (.int (mostOf f))) (some (.lst true [])) none)) := fun d => (fin d).trans (congrArg endOf ((st_no' (ev_cmp_of rfl rfl (eqs_f hbool))).trans (st_as rfl rfl)))
  have lp := cf_loop (some (.str (Str.ofString f))) (some (.lst false (args.map .str))) (some (.tup [.int 1, .int (mostOf f)])) (some (.int 1)) (some (.int (mostOf f))) args [] none hok (by rw [List.length_nil, Nat.zero_add]; exact Nat.le_trans hl (Nat.le_of_ble_eq_true rfl))
  have fv : ∀ d, exec (callN P (d + 5)) (.forVar 6 1 cfBody) (RF f args (some (.int (mostOf f))) (some (.lst true [])) none) = forL 6 (fun ρ => execs (callN P (d + 5)) cfBody ρ) (args.map .str) (RF f args (some (.int (mostOf f))) (some (.lst true [])) none) := fun d => ex_fv rfl (Nat.le_trans (Nat.le_of_eq lm) (Nat.le_trans hl (Nat.le_of_ble_eq_true rfl)))
  cases hmw : mapW args with
  | none =>
    rw [hmw] at lp
    obtain ⟨v, ρ', v1, v2⟩ := lp
    exact ⟨_, .err v1, fun d => (fin2 d).trans (congrArg endOf (st_in_exc ((fv d).trans (v2 (d + 1)))))⟩
  | some ns =>
    rw [hmw] at lp
    obtain ⟨x', v2⟩ := lp
    have fin3 : ∀ d, callN P (d + 6) 37 [.str (Str.ofString f), .lst false (args.map .str)] = evalE (callN P (d + 5)) (RF f args (some (.int (mostOf f))) (some (.lst true (ns.map .int))) x') (.b1 .str (.call 35 [(.var 0), (.var 5)])) := fun d => (fin2 d).trans ((congrArg endOf (st_in_next ((fv d).trans (v2 (d + 1))))).trans st_ret)
    obtain ⟨r, r1, r2⟩ := c_fval hf (mapW_ne hmw hne) (k := k) (fun n hn => by obtain ⟨s, s1, s2⟩ := mapW_mem hmw n hn; exact hb s s1 n s2) hq
    have c35 : ∀ d, evalE (callN P (d + 5)) (RF f args (some (.int (mostOf f))) (some (.lst true (ns.map .int))) x') (.call 35 [(.var 0), (.var 5)]) = r := fun d => ev_call_of (evl_two rfl rfl rfl rfl) (r2 (d + 2))
    cases r1 with
    | @ok z hz =>
      have hm : max (k + 1) 64 ≤ LIM := Nat.max_le.mpr ⟨hk, by decide⟩
      exact ⟨_, .int hz hm, fun d => (fin3 d).trans (ev_b1_of (c35 d) (b_str (hz.mono hm)))⟩
    | err he => exact ⟨_, .err he, fun d => (fin3 d).trans (ev_b1_err (c35 d))⟩
end Mine
end
section
open PySem
set_option genInjectivity false
set_option genSizeOf false
namespace Mine
set_option linter.unusedVariables false
set_option linter.unusedSimpArgs false

/-- the law's trees -/
inductive T where
  | num (n : Int)
  | txt (s : Str)
  | un (op : Str) (a : T)
  | bin (op : Str) (a b : T)
  | call (f : Str) (args : List T)
  | log (o : Bool) (a b : T)
  | ite (c a b : T)
noncomputable def logN (o : Bool) : String := if o then "or" else "and"
mutual
noncomputable def tv : T → V
  | .num n => .tup [.str (Str.ofString "num"), .int n]
  | .txt s => .tup [.str (Str.ofString "text"), .str s]
  | .un op a => .tup [.str (Str.ofString "un"), .str op, tv a]
  | .bin op a b => .tup [.str (Str.ofString "bin"), .str op, tv a, tv b]
  | .call f args => .tup [.str (Str.ofString "call"), .str f, .tup (tvL args)]
  | .log o a b => .tup [.str (Str.ofString (logN o)), tv a, tv b]
  | .ite c a b => .tup [.str (Str.ofString "if"), tv c, tv a, tv b]
noncomputable def tvL : List T → List V
  | [] => []
  | a :: r => tv a :: tvL r
end
theorem tvL_map : ∀ l : List T, tvL l = l.map tv
  | [] => rfl
  | a :: r => by rw [tvL, tvL_map r]; rfl
mutual
noncomputable def ht : T → Nat
  | .num _ => 0
  | .txt _ => 0
  | .un _ a => ht a + 1
  | .bin _ a b => max (ht a) (ht b) + 1
  | .call _ args => htL args + 1
  | .log _ a b => max (ht a) (ht b) + 1
  | .ite c a b => max (ht c) (max (ht a) (ht b)) + 1
noncomputable def htL : List T → Nat
  | [] => 0
  | a :: r => max (ht a) (htL r)
end
theorem ht_mem : ∀ {l : List T} {t : T}, t ∈ l → ht t ≤ htL l
  | [], _, h => by cases h
  | a :: r, t, h => by
    rw [htL]
    rcases List.mem_cons.mp h with rfl | h
    · (first | lia | omega)
    · have := ht_mem h; (first | lia | omega)
@[simp] theorem tv_tup (t : T) : ∃ l, tv t = .tup l := by cases t <;> exact ⟨_, rfl⟩
@[simp] theorem fr_tv (t : T) : freeze (tv t) = some (tv t) := by cases t <;> rfl
theorem fr1 (t : T) : freezeAll [tv t] = some [tv t] := by show (freeze (tv t)).bind _ = _; rw [fr_tv]; rfl
theorem fz1 (t : T) {n : Nat} {b : List S} : ((freezeAll [tv t]).bind (fillArgs ⟨1, n + 1, [], b⟩)).map (startRho ⟨1, n + 1, [], b⟩) = some (some (tv t) :: List.replicate n none) := by rw [fr1]; rfl
theorem fr2 (t : T) (w : Int) : freezeAll [tv t, .int w] = some [tv t, .int w] := by show (freeze (tv t)).bind _ = _; rw [fr_tv]; rfl
theorem fz2 (t : T) (w : Int) {n : Nat} {b : List S} : ((freezeAll [tv t, .int w]).bind (fillArgs ⟨2, n + 2, [], b⟩)).map (startRho ⟨2, n + 2, [], b⟩) = some (some (tv t) :: some (.int w) :: List.replicate n none) := by rw [fr2]; rfl
theorem tv_nn (t : T) : tv t ≠ .none := by cases t <;> exact fun h => nomatch h
@[simp] theorem pl_tv (t : T) : plain (tv t) = true := by cases t <;> rfl
@[simp] theorem nl_tv (t : T) : noList (tv t) = true := by cases t <;> rfl
@[simp] theorem st_tv (t : T) : storable (tv t) = true := by cases t <;> rfl
@[simp] theorem k_l_tv {cl : Nat → List V → R V} {ρ : Rho} {r : List E} (t : T) : kL cl ρ r (tv t) = R.bind (evalL cl ρ r) (kL1 (tv t)) := by cases t <;> rfl
@[simp] theorem k_as_tv {ρ : Rho} {i : Nat} (t : T) : kAs ρ i (tv t) = some (.next (put ρ i (tv t))) := by cases t <;> rfl

noncomputable def strV : V → R V
  | .str s => some (.ok (.str s))
  | _ => none
noncomputable def boolV : V → R Bool
  | .bool b => some (.ok b)
  | _ => none
noncomputable def nb (x : V) : R Bool := R.bind (callN P 10 7 [x]) boolV
noncomputable def logV (o : Bool) (x : V) (y : R V) : R V := R.bind (nb x) fun p => R.bind (if p != o then R.bind y nb else some (.ok p)) fun q => some (.ok (.str (bit q)))
mutual
noncomputable def den : T → R V
  | .num n => R.of (builtin1 .str (.int n))
  | .txt s => some (.ok (.str s))
  | .un op a => R.bind (den a) fun x => R.bind (callN P 10 21 [.str op, x]) strV
  | .bin op a b => R.bind (den a) fun x => R.bind (den b) fun y => R.bind (callN P 10 31 [.str op, x, y]) strV
  | .call f args => if args.length ≤ 1000 then R.bind (denL args) fun xs => R.bind (callN P 10 37 [.str f, .lst false xs]) strV else none
  | .log o a b => R.bind (den a) fun x => logV o x (den b)
  | .ite c a b => R.bind (den c) fun x => R.bind (nb x) fun p => if p then den a else den b
noncomputable def denL : List T → R (List V)
  | [] => some (.ok [])
  | a :: r => R.bind (den a) fun x => R.bind (denL r) fun xs => some (.ok (x :: xs))
end
theorem R.bind_some {α β : Type} {x : R α} {f : α → R β} {r : Except V β} (h : R.bind x f = some r) : (∃ e, x = some (.error e) ∧ r = .error e) ∨ ∃ a, x = some (.ok a) ∧ f a = some r := by
  match x, h with
  | some (.error e), h => exact .inl ⟨e, rfl, by cases h; rfl⟩
  | some (.ok a), h => exact .inr ⟨a, rfl, h⟩
theorem strV_ok {v w : V} (h : strV v = some (.ok w)) : ∃ s, v = .str s ∧ w = .str s := by
  cases v <;> cases h; exact ⟨_, rfl, rfl⟩
theorem strV_err {v e : V} (h : strV v = some (.error e)) : False := by
  cases v <;> cases h
theorem den_str : ∀ {t : T} {v : V}, den t = some (.ok v) → ∃ s, v = .str s
  | .num n, v, h => by
    rw [den] at h
    cases q : builtin1 B1.str (V.int n) with
    | none => rw [q] at h; cases h
    | some w =>
      rw [q] at h; cases h
      obtain ⟨_, rfl⟩ := ite_some q
      exact ⟨_, rfl⟩
  | .txt s, v, h => by rw [den] at h; cases h; exact ⟨_, rfl⟩
  | .un op a, v, h => by
    rw [den] at h
    rcases R.bind_some h with ⟨e, _, q⟩ | ⟨x, _, h⟩
    · cases q
    rcases R.bind_some h with ⟨e, _, q⟩ | ⟨y, _, h⟩
    · cases q
    obtain ⟨s, _, q⟩ := strV_ok h; exact ⟨s, q⟩
  | .bin op a b, v, h => by
    rw [den] at h
    rcases R.bind_some h with ⟨e, _, q⟩ | ⟨x, _, h⟩
    · cases q
    rcases R.bind_some h with ⟨e, _, q⟩ | ⟨y, _, h⟩
    · cases q
    rcases R.bind_some h with ⟨e, _, q⟩ | ⟨y, _, h⟩
    · cases q
    obtain ⟨s, _, q⟩ := strV_ok h; exact ⟨s, q⟩
  | .call f args, v, h => by
    rw [den] at h
    split at h
    case isFalse => cases h
    rcases R.bind_some h with ⟨e, _, q⟩ | ⟨x, _, h⟩
    · cases q
    rcases R.bind_some h with ⟨e, _, q⟩ | ⟨y, _, h⟩
    · cases q
    obtain ⟨s, _, q⟩ := strV_ok h; exact ⟨s, q⟩
  | .log o a b, v, h => by
    rw [den] at h
    rcases R.bind_some h with ⟨e, _, q⟩ | ⟨x, _, h⟩
    · cases q
    unfold logV at h
    rcases R.bind_some h with ⟨e, _, q⟩ | ⟨y, _, h⟩
    · cases q
    rcases R.bind_some h with ⟨e, _, q⟩ | ⟨y, _, h⟩
    · cases q
    cases h; exact ⟨_, rfl⟩
  | .ite c a b, v, h => by
    rw [den] at h
    rcases R.bind_some h with ⟨e, _, q⟩ | ⟨x, _, h⟩
    · cases q
    rcases R.bind_some h with ⟨e, _, q⟩ | ⟨y, _, h⟩
    · cases q
    split at h
    · exact den_str h
    · exact den_str h
theorem denL_str : ∀ {l : List T} {vs : List V}, denL l = some (.ok vs) → ∃ ss : List Str, vs = ss.map .str ∧ ss.length = l.length
  | [], vs, h => by rw [denL] at h; cases h; exact ⟨[], rfl, rfl⟩
  | a :: r, vs, h => by
    rw [denL] at h
    rcases R.bind_some h with ⟨e, _, q⟩ | ⟨x, h1, h⟩
    · cases q
    rcases R.bind_some h with ⟨e, _, q⟩ | ⟨xs, h2, h⟩
    · cases q
    cases h
    obtain ⟨s, rfl⟩ := den_str h1
    obtain ⟨ss, rfl, e⟩ := denL_str h2
    exact ⟨s :: ss, rfl, by simp [e]⟩

/-- a spine's node: its left child -/
structure SpV (t a : T) : Prop where
  kd : ∃ s : Str, vidx (tv t) (.int 0) = some (.str s) ∧ isInV (.str s) (.tup [.str (Str.ofString "bin"), .str (Str.ofString "and"), .str (Str.ofString "or")]) = some true
  nxt : ∀ (cl : Nat → List V → R V) ρ, get ρ 1 = some (tv t) → evalE cl ρ (.ite (.cmp .eq (.idx (.var 1) (.int 0)) (.str (Str.ofString "bin"))) (.idx (.var 1) (.int 2)) (.idx (.var 1) (.int 1))) = some (.ok (tv a))
  lt : ht a < ht t
  den : ∀ r, den t = some r → (∃ e, den a = some (.error e) ∧ r = .error e) ∨ ∃ s, den a = some (.ok (.str s))
/-- a tree, its spine, its leftmost -/
inductive Spine : T → List T → T → Prop
  | stop {t : T} {s : Str} (h : vidx (tv t) (.int 0) = some (.str s)) (n : isInV (.str s) (.tup [.str (Str.ofString "bin"), .str (Str.ofString "and"), .str (Str.ofString "or")]) = some false) : Spine t [] t
  | bin {op : Str} {a b u : T} {l : List T} (h : Spine a l u) : Spine (.bin op a b) (.bin op a b :: l) u
  | log {o : Bool} {a b u : T} {l : List T} (h : Spine a l u) : Spine (.log o a b) (.log o a b :: l) u
theorem spine : ∀ t : T, ∃ l u, Spine t l u
  | .bin _ a _ => (spine a).elim fun _ h => h.elim fun _ h => ⟨_, _, .bin h⟩
  | .log _ a _ => (spine a).elim fun _ h => h.elim fun _ h => ⟨_, _, .log h⟩
  | .num _ => ⟨_, _, .stop (s := Str.ofString "num") rfl (by kernel_rfl)⟩
  | .txt _ => ⟨_, _, .stop (s := Str.ofString "text") rfl (by kernel_rfl)⟩
  | .un _ _ => ⟨_, _, .stop (s := Str.ofString "un") rfl (by kernel_rfl)⟩
  | .call _ _ => ⟨_, _, .stop (s := Str.ofString "call") rfl (by kernel_rfl)⟩
  | .ite _ _ _ => ⟨_, _, .stop (s := Str.ofString "if") rfl (by kernel_rfl)⟩
theorem mx_l (a b : Nat) : a < max a b + 1 := Nat.lt_succ_of_le (Nat.le_max_left ..)
theorem den_first {α : Type} {a : T} {f : V → R α} {r : Except V α} (h : R.bind (den a) f = some r) : (∃ e, den a = some (.error e) ∧ r = .error e) ∨ ∃ s, den a = some (.ok (.str s)) :=
  (R.bind_some h).imp id fun ⟨v, h1, _⟩ => let ⟨s, e⟩ := den_str h1; ⟨s, e ▸ h1⟩
theorem spv_bin {op : Str} {a b : T} : SpV (.bin op a b) a :=
  ⟨⟨Str.ofString "bin", rfl, by kernel_rfl⟩, fun cl ρ h => ev_ite_t (ev_cmp_of (ev_idx_of (ev_var_of h (fr_tv (.bin op a b))) rfl rfl) rfl (eqs_t rfl)) (ev_idx_of (ev_var_of h (fr_tv (.bin op a b))) rfl rfl), mx_l _ _, fun r h => by rw [den] at h; exact den_first h⟩
theorem spv_log {o : Bool} {a b : T} : SpV (.log o a b) a :=
  ⟨⟨Str.ofString (logN o), rfl, by cases o <;> kernel_rfl⟩, fun cl ρ h => ev_ite_f (ev_cmp_of (ev_idx_of (ev_var_of h (fr_tv (.log o a b))) rfl rfl) rfl (eqs_f (by cases o <;> decide))) (ev_idx_of (ev_var_of h (fr_tv (.log o a b))) rfl rfl), mx_l _ _, fun r h => by rw [den] at h; exact den_first h⟩
/-- by the spine -/
theorem Spine.by {m : T → List T → T → Prop} (stop : ∀ t s, vidx (tv t) (.int 0) = some (.str s) → isInV (.str s) (.tup [.str (Str.ofString "bin"), .str (Str.ofString "and"), .str (Str.ofString "or")]) = some false → m t [] t) (more : ∀ t a l u, SpV t a → (∃ op b, t = .bin op a b) ∨ (∃ o b, t = .log o a b) → m a l u → m t (t :: l) u) {t : T} {l : List T} {u : T} (h : Spine t l u) : m t l u := by
  induction h with
  | stop h n => exact stop _ _ h n
  | bin _ ih => exact more _ _ _ _ spv_bin (.inl ⟨_, _, rfl⟩) ih
  | log _ ih => exact more _ _ _ _ spv_log (.inr ⟨_, _, rfl⟩) ih
theorem Spine.len {t u : T} {l : List T} (h : Spine t l u) : l.length ≤ ht t ∧ ht u ≤ ht t :=
  h.by (m := fun t l u => l.length ≤ ht t ∧ ht u ≤ ht t) (fun _ _ _ _ => ⟨Nat.zero_le _, Nat.le_refl _⟩) fun _ _ _ _ v _ ih => ⟨Nat.succ_le_of_lt (Nat.lt_of_le_of_lt ih.1 v.lt), Nat.le_trans ih.2 (Nat.le_of_lt v.lt)⟩

theorem vidx_t2 {a b c : V} {r : List V} : vidx (.tup (a :: b :: c :: r)) (.int 2) = some c := rfl
theorem vidx_t3 {a b c d : V} {r : List V} : vidx (.tup (a :: b :: c :: d :: r)) (.int 3) = some d := rfl
theorem vidx_0 {a : V} {r : List V} : vidx (.tup (a :: r)) (.int 0) = some a := rfl
theorem vidx_1 {a b : V} {r : List V} : vidx (.tup (a :: b :: r)) (.int 1) = some b := rfl
theorem vidx_2 {a b c : V} {r : List V} : vidx (.tup (a :: b :: c :: r)) (.int 2) = some c := rfl
theorem vidx_4 {a b c d e : V} {r : List V} : vidx (.tup (a :: b :: c :: d :: e :: r)) (.int 4) = some e := rfl
theorem vidx_5 {a b c d e f : V} {r : List V} : vidx (.tup (a :: b :: c :: d :: e :: f :: r)) (.int 5) = some f := rfl
theorem vidx_6 {a b c d e f g : V} {r : List V} : vidx (.tup (a :: b :: c :: d :: e :: f :: g :: r)) (.int 6) = some g := rfl
theorem vidx_7 {a b c d e f g h : V} {r : List V} : vidx (.tup (a :: b :: c :: d :: e :: f :: g :: h :: r)) (.int 7) = some h := rfl
theorem vidx_3 {a b c d : V} {r : List V} : vidx (.tup (a :: b :: c :: d :: r)) (.int 3) = some d := rfl

noncomputable def rt1 : E := .isIn false (.idx (.var 1) (.int 0)) (.tup [(.str (Str.ofString "bin")), (.str (Str.ofString "and")), (.str (Str.ofString "or"))])
noncomputable def rb1 : List S := [.append 2 (.var 1), .assign 1 (.ite (.cmp .eq (.idx (.var 1) (.int 0)) (.str (Str.ofString "bin"))) (.idx (.var 1) (.int 2)) (.idx (.var 1) (.int 1)))]
noncomputable def rb2 : List S := [.pop 4 2, .ite (.cmp .eq (.idx (.var 4) (.int 0)) (.str (Str.ofString "bin"))) [.assign 3 (.call 31 [(.idx (.var 4) (.int 1)), (.var 3), (.call 42 [(.var 0), (.idx (.var 4) (.int 3))])])] [.assign 3 (.call 41 [(.var 0), (.var 4), (.var 3)])]]
theorem reckon_body : B_F_reckon = [.assign 2 (.lst []), .while rt1 rb1, .assign 3 (.call 40 [(.var 0), (.var 1)]), .while (.var 2) rb2, .ret (.var 3)] := rfl

theorem loop_go {t : Rho → R V} {b : Rho → Option Out} {ρ ρ' : Rho} {n : Nat} (h1 : t ρ = some (.ok (.bool true))) (h2 : b ρ = some (.next ρ')) : loopN t b (n + 1) ρ = loopN t b n ρ' := by
  rw [loopN, h1]; simp only [onE_ok, tr_bool, h2]
theorem loop_end {t : Rho → R V} {b : Rho → Option Out} {ρ : Rho} {n : Nat} (h1 : t ρ = some (.ok (.bool false))) : loopN t b (n + 1) ρ = some (.next ρ) := by
  rw [loopN, h1]; rfl
theorem kindOf_logN (o : Bool) : (Str.ofString "bin" == Str.ofString (logN o)) = false ∧ (Str.ofString (logN o) == Str.ofString "bin") = false := by cases o <;> decide +kernel
theorem Spine.loop1 {cl : Nat → List V → R V} {h : V} {t u : T} {l : List T} (S : Spine t l u) : ∀ (n : Nat) (s : List V) (x y : Option V), s.length + l.length ≤ 1000 →
    loopN (fun ρ => evalE cl ρ rt1) (fun ρ => execs cl rb1 ρ) (n + 1 + l.length) [some h, some (tv t), some (.lst true s), x, y] = some (.next [some h, some (tv u), some (.lst true (s ++ l.map tv)), x, y]) := by
  refine S.by (m := fun t l u => ∀ (n : Nat) (s : List V) (x y : Option V), s.length + l.length ≤ 1000 →
    loopN (fun ρ => evalE cl ρ rt1) (fun ρ => execs cl rb1 ρ) (n + 1 + l.length) [some h, some (tv t), some (.lst true s), x, y] = some (.next [some h, some (tv u), some (.lst true (s ++ l.map tv)), x, y])) ?_ ?_
  · intro t k h1 h2 n s x y _
    rw [List.map_nil, List.append_nil]
    exact loop_end (ev_in_of (ev_idx_of (ev_var_of rfl (fr_tv t)) rfl h1) rfl h2)
  · intro t a l u v _ ih n s x y hl
    obtain ⟨k, k1, k2⟩ := v.kd
    have ih := ih n (s ++ [tv t]) x y (by rw [List.length_append]; exact Nat.le_trans (Nat.le_of_eq (Nat.add_right_comm ..)) hl)
    rw [List.append_assoc] at ih
    exact (loop_go (ev_in_of (ev_idx_of (ev_var_of rfl (fr_tv t)) rfl k1) rfl k2) ((st_app rfl (ev_var_of rfl (fr_tv t)) (nl_tv t) (Nat.le_trans (Nat.le_trans (Nat.le_add_right ..) hl) (Nat.le_of_ble_eq_true rfl))).trans (st_as (v.nxt _ _ rfl) (st_tv a)))).trans ih
end Mine
end
section
open PySem
namespace Mine
set_option linter.unusedVariables false
set_option linter.unusedSimpArgs false

noncomputable def RK (d : Nat) (t : T) : Prop := ∀ r, den t = some r → callN P d 42 [.none, tv t] = some r
theorem RK.up {d d' : Nat} {t : T} (h : RK d t) (hd : d ≤ d') : RK d' t := fun r e => callN_le P hd _ _ _ (h r e)
theorem up10 {d f : Nat} {args : List V} {r : Except V V} (hd : 10 ≤ d) (h : callN P 10 f args = some r) : callN P d f args = some r := callN_le P hd _ _ _ h
theorem nb_some {x : V} {r : Except V Bool} (h : nb x = some r) : (∃ e, r = .error e ∧ callN P 10 7 [x] = some (.error e)) ∨ ∃ b, r = .ok b ∧ callN P 10 7 [x] = some (.ok (.bool b)) := by
  unfold nb at h
  rcases R.bind_some h with ⟨e, h1, h2⟩ | ⟨v, h1, h2⟩
  · exact .inl ⟨e, h2, h1⟩
  · cases v <;> cases h2
    exact .inr ⟨_, rfl, h1⟩
/-- a leaf value's start -/
theorem lv_pre {d : Nat} {t : T} {kd : String} {r : R V} (h0 : vidx (tv t) (.int 0) = some (.str (Str.ofString kd))) (h : endOf (execs (callN P d) (B_F_leaf_value.drop 1) [some .none, some (tv t), some (.str (Str.ofString kd))]) = r) : callN P (d + 1) 40 [.none, tv t] = r :=
  (call_of (fn := F_leaf_value) (body := B_F_leaf_value) (ρ := [some .none, some (tv t), none]) rfl (by rw [show freezeAll [.none, tv t] = some [.none, tv t] from by show Option.map _ ((freeze (tv t)).bind _) = _; rw [fr_tv]; rfl]; rfl) rfl).trans ((congrArg endOf (st_as (ev_idx_of (ev_var_of rfl (fr_tv t)) rfl h0) rfl)).trans h)
theorem lv_is {cl : Nat → List V → R V} {x y : Option V} {kd k : String} (h : ¬ kd = k) : evalE cl [x, y, some (.str (Str.ofString kd))] (.cmp .eq (.var 2) (.str (Str.ofString k))) = some (.ok (.bool false)) := ev_cmp_of rfl rfl (eqs_f h)
theorem lv_yes {cl : Nat → List V → R V} {x y : Option V} {kd : String} : evalE cl [x, y, some (.str (Str.ofString kd))] (.cmp .eq (.var 2) (.str (Str.ofString kd))) = some (.ok (.bool true)) := ev_cmp_of rfl rfl (eqs_t rfl)
theorem lv_pre3 {d : Nat} {t : T} {kd : String} {r : R V} (h0 : vidx (tv t) (.int 0) = some (.str (Str.ofString kd))) (n : ¬ kd = "num" ∧ ¬ kd = "text" ∧ ¬ kd = "parts") (h : endOf (execs (callN P d) (B_F_leaf_value.drop 4) [some .none, some (tv t), some (.str (Str.ofString kd))]) = r) : callN P (d + 1) 40 [.none, tv t] = r :=
  lv_pre h0 ((congrArg endOf ((st_no' (lv_is n.1)).trans ((st_no' (lv_is n.2.1)).trans (st_no' (lv_is n.2.2))))).trans h)
theorem ev_1 {cl : Nat → List V → R V} {t : T} {ρ : Rho} {i : Int} {v : V} (hg : get ρ 1 = some (tv t)) (h : vidx (tv t) (.int i) = some v) : evalE cl ρ (.idx (.var 1) (.int i)) = some (.ok v) := ev_idx_of (ev_var_of hg (fr_tv t)) rfl h
theorem ev_rk {d : Nat} {t a : T} {ρ : Rho} {i : Int} {r : Except V V} (ha : RK d a) (h0 : get ρ 0 = some .none) (hg : get ρ 1 = some (tv t)) (h : vidx (tv t) (.int i) = some (tv a)) (hr : den a = some r) : evalE (callN P d) ρ (.call 42 [(.var 0), (.idx (.var 1) (.int i))]) = some r :=
  ev_call_of (evl_two (ev_var_of h0 rfl) rfl (ev_1 hg h) (pl_tv a)) (ha r hr)
theorem leaf_num (d : Nat) {n : Int} {r : Except V V} (h : den (.num n) = some r) : callN P (d + 1) 40 [.none, tv (.num n)] = some r :=
  lv_pre (kd := "num") rfl ((st_yes_ret lv_yes).trans ((ev_b1_of (ev_1 rfl rfl) rfl).trans h))
theorem leaf_txt (d : Nat) {s : Str} {r : Except V V} (h : den (.txt s) = some r) : callN P (d + 1) 40 [.none, tv (.txt s)] = some r :=
  lv_pre (kd := "text") rfl ((congrArg endOf (st_no' (lv_is (by decide)))).trans ((st_yes_ret lv_yes).trans ((ev_1 rfl rfl).trans h)))
/-- a call behind an argument -/
theorem then_str {X : R V} {r : Except V V} (h : R.bind X strV = some r) : X = some r := by
  rcases R.bind_some h with ⟨e, h1, rfl⟩ | ⟨v, h1, h2⟩
  · exact h1
  · cases r with
    | error e => exact (strV_err h2).elim
    | ok w => obtain ⟨s, rfl, rfl⟩ := strV_ok h2; exact h1
theorem leaf_un {d : Nat} (hd : 10 ≤ d) {op : Str} {a : T} (ha : RK d a) {r : Except V V} (h : den (.un op a) = some r) : callN P (d + 1) 40 [.none, tv (.un op a)] = some r := by
  rw [den] at h
  refine lv_pre3 (kd := "un") rfl (by decide) ((st_yes_ret lv_yes).trans ?_)
  rcases R.bind_some h with ⟨e, h1, rfl⟩ | ⟨x, h1, h⟩
  · exact ev_call_err (evl_err2 (ev_1 (t := .un op a) rfl rfl) rfl (ev_rk (t := .un op a) ha rfl rfl rfl h1))
  · obtain ⟨s, rfl⟩ := den_str h1
    exact ev_call_of (evl_two (ev_1 (t := .un op a) rfl rfl) rfl (ev_rk (t := .un op a) ha rfl rfl rfl h1) rfl) (up10 hd (then_str h))
theorem nb_ok' {d : Nat} (hd : 10 ≤ d) {x : V} {p : Bool} (h : nb x = some (.ok p)) : callN P d 7 [x] = some (.ok (.bool p)) := (nb_some h).elim (fun ⟨_, q, _⟩ => nomatch q) fun ⟨_, q, h3⟩ => up10 hd (Except.ok.inj q ▸ h3)
theorem nb_err' {d : Nat} (hd : 10 ≤ d) {x e : V} (h : nb x = some (.error e)) : callN P d 7 [x] = some (.error e) := (nb_some h).elim (fun ⟨_, q, h3⟩ => up10 hd (Except.error.inj q ▸ h3)) fun ⟨_, q, _⟩ => nomatch q
theorem ret_any {cl : Nat → List V → R V} {ρ : Rho} {e : E} {a : List S} {r : Except V V} {k : Rho → Option Out} (h : evalE cl ρ e = some r) : endOf (thenX (execs cl (.ret e :: a) ρ) k) = some r := end_thenX_ret.trans h
theorem leaf_ite {d : Nat} (hd : 10 ≤ d) {c a b : T} (hc : RK d c) (ha : RK d a) (hb : RK d b) {r : Except V V} (h : den (.ite c a b) = some r) : callN P (d + 1) 40 [.none, tv (.ite c a b)] = some r := by
  rw [den] at h
  refine lv_pre3 (kd := "if") rfl (by decide) ((congrArg endOf ((st_no' (lv_is (by decide))).trans (st_yes lv_yes))).trans ?_)
  have k1 : ∀ r, den c = some r → evalE (callN P d) [some .none, some (tv (.ite c a b)), some (.str (Str.ofString "if"))] (.call 42 [(.var 0), (.idx (.var 1) (.int 1))]) = some r := fun r => ev_rk (t := .ite c a b) hc rfl rfl rfl
  rcases R.bind_some h with ⟨e, h1, rfl⟩ | ⟨x, h1, h⟩
  · exact end_bad (st_err (ev_call_err (evl_err (k1 _ h1))))
  · obtain ⟨s, rfl⟩ := den_str h1
    rcases R.bind_some h with ⟨e, h2, rfl⟩ | ⟨p, h2, h⟩
    · exact end_bad (st_err (ev_call_of (evl_one (k1 _ h1) rfl) (nb_err' hd h2)))
    · have c7 : evalE (callN P d) [some .none, some (tv (.ite c a b)), some (.str (Str.ofString "if"))] (.call 7 [.call 42 [(.var 0), (.idx (.var 1) (.int 1))]]) = some (.ok (.bool p)) := ev_call_of (evl_one (k1 _ h1) rfl) (nb_ok' hd h2)
      cases p with
      | true => exact (congrArg (fun o => endOf (thenX o _)) (st_yes c7)).trans (end_thenX2_ret.trans (ev_rk (t := .ite c a b) ha rfl rfl rfl h))
      | false => exact (congrArg (fun o => endOf (thenX o _)) (st_no' c7)).trans (ret_any (ev_rk (t := .ite c a b) hb rfl rfl rfl h))
noncomputable def cvBody : List S := [.append 3 (.call 42 [(.var 0), (.var 4)])]
/-- how a loop of calls ends -/
noncomputable def CvEnd (A B y : Option V) (done : List V) (o : Option Out) (r : Except V (List V)) : Prop := Except.casesOn r (fun e => ∃ ρ', o = some (.exc e ρ')) fun xs => ∃ x', o = some (.next [some .none, A, B, some (.lst true (done ++ xs)), x', y])
theorem cv_loop {d : Nat} (A B y : Option V) : ∀ (args : List T) (done : List V) (x : Option V), (∀ a ∈ args, RK d a) → done.length + args.length ≤ 1000 → ∀ r, denL args = some r →
    CvEnd A B y done (forL 4 (fun ρ => execs (callN P d) cvBody ρ) (args.map tv) [some .none, A, B, some (.lst true done), x, y]) r := by
  intro args
  induction args with
  | nil =>
    intro done x _ _ r h
    rw [denL] at h
    cases h
    exact ⟨x, by rw [List.append_nil]; rfl⟩
  | cons a rest ih =>
    intro done x hk hl r h
    rw [denL] at h
    have ka : ∀ r, den a = some r → evalE (callN P d) [some .none, A, B, some (.lst true done), some (tv a), y] (.call 42 [(.var 0), (.var 4)]) = some r := fun r h => ev_call_of (evl_two rfl rfl (ev_var_of rfl (fr_tv a)) (pl_tv a)) (hk a (List.mem_cons_self ..) r h)
    rcases R.bind_some h with ⟨e, h1, rfl⟩ | ⟨v, h1, h⟩
    · exact ⟨[some .none, A, B, some (.lst true done), some (tv a), y], forL_exc (st_app_exc rfl (ka _ h1))⟩
    · obtain ⟨s, rfl⟩ := den_str h1
      have step : forL 4 (fun ρ => execs (callN P d) cvBody ρ) ((a :: rest).map tv) [some .none, A, B, some (.lst true done), x, y] = forL 4 (fun ρ => execs (callN P d) cvBody ρ) (rest.map tv) [some .none, A, B, some (.lst true (done ++ [.str s])), some (tv a), y] :=
        forL_next (st_app rfl (ka _ h1) rfl (Nat.le_trans (Nat.le_trans (Nat.le_add_right ..) hl) (Nat.le_of_ble_eq_true rfl)))
      have ih := ih (done ++ [.str s]) (some (tv a)) (fun t ht => hk t (List.mem_cons_of_mem _ ht)) (by rw [List.length_append]; exact Nat.le_trans (Nat.le_of_eq (Nat.add_right_comm ..)) hl)
      rw [step]
      rcases R.bind_some h with ⟨e, h2, rfl⟩ | ⟨xs, h2, h⟩
      · exact ih _ h2
      · cases h
        obtain ⟨x', i1⟩ := ih _ h2
        exact ⟨x', by rw [i1, List.append_assoc]; rfl⟩
theorem leaf_call {d : Nat} (hd : 10 ≤ d) {f : Str} {args : List T} (ha : ∀ a ∈ args, RK d a) {r : Except V V} (h : den (.call f args) = some r) : callN P (d + 2) 40 [.none, tv (.call f args)] = some r := by
  have h0 := h
  rw [den] at h
  obtain ⟨hl, h⟩ := ite_opt h
  have lp := cv_loop (d := d) (some (.str f)) (some (.tup (args.map tv))) none args [] none ha (by rw [List.length_nil, Nat.zero_add]; exact hl)
  have hm : (args.map tv).length ≤ 1000000 := Nat.le_trans (Nat.le_of_eq (List.length_map ..)) (Nat.le_trans hl (Nat.le_of_ble_eq_true rfl))
  have key : callN P (d + 1) 39 [.none, .str f, .tup (args.map tv)] = some r := by
    refine (call_of (fn := F_call_value) (body := B_F_call_value) (ρ := [some .none, some (.str f), some (.tup (args.map tv)), none, none, none]) rfl rfl rfl).trans ((congrArg endOf (st_as (v := .lst true []) rfl rfl)).trans ?_)
    have fr : exec (callN P d) (.for 4 (.var 2) cvBody) [some .none, some (.str f), some (.tup (args.map tv)), some (.lst true []), none, none] = forL 4 (fun ρ => execs (callN P d) cvBody ρ) (args.map tv) [some .none, some (.str f), some (.tup (args.map tv)), some (.lst true []), none, none] := if_pos hm
    rcases R.bind_some h with ⟨e, h1, rfl⟩ | ⟨xs, h1, h⟩
    · obtain ⟨ρ', i1⟩ := lp _ h1
      exact congrArg endOf (st_in_exc (fr.trans i1))
    · obtain ⟨x', i1⟩ := lp _ h1
      refine (congrArg endOf (st_in_next (fr.trans i1))).trans ?_
      have h := then_str h
      cases r with
      | error e => exact st_as_err (ev_call_of (evl_two rfl rfl rfl rfl) (up10 hd h))
      | ok w =>
        obtain ⟨s, rfl⟩ := den_str h0
        exact (congrArg endOf ((st_as (ev_call_of (evl_two rfl rfl rfl rfl) (up10 hd h)) rfl).trans (st_no' rfl))).trans st_ret
  refine lv_pre3 (kd := "call") rfl (by decide) ((congrArg endOf ((st_no' (lv_is (by decide))).trans (st_no' (lv_is (by decide))))).trans (st_ret.trans (ev_call_of (evl_three rfl rfl (ev_1 (t := .call f args) rfl rfl) rfl (ev_1 (t := .call f args) rfl (congrArg (fun x => some (V.tup x)) (tvL_map args))) rfl) key)))
theorem logic_den {d : Nat} (hd : 10 ≤ d) {o : Bool} {a b : T} {s : Str} (hb : RK d b) {r : Except V V} (h : logV o (.str s) (den b) = some r) : callN P (d + 1) 41 [.none, tv (.log o a b), .str s] = some r := by
  have ho : (logN o == "or") = o := by cases o <;> decide
  have start : ∀ {r}, endOf (execs (callN P d) (B_F_logic_value.drop 1) [some .none, some (tv (.log o a b)), some (.str s), some (.bool o), none]) = r → callN P (d + 1) 41 [.none, tv (.log o a b), .str s] = r := fun h =>
    (call_of (fn := F_logic_value) (body := B_F_logic_value) (ρ := [some .none, some (tv (.log o a b)), some (.str s), none, none]) rfl rfl rfl).trans ((congrArg endOf (st_as (v := .bool o) (ev_cmp_of (ev_1 (t := .log o a b) rfl rfl) rfl (eqs_of.trans (congrArg some ho))) rfl)).trans h)
  have fin : ∀ (q : Bool) {ρ : Rho}, get ρ 4 = some (.bool q) → endOf (execs (callN P d) (B_F_logic_value.drop 3) ρ) = some (.ok (.str (bit q))) := fun q ρ hg => st_ret.trans (by
    cases q
    · exact ev_ite_f (ev_var_of hg rfl) rfl
    · exact ev_ite_t (ev_var_of hg rfl) rfl)
  unfold logV at h
  rcases R.bind_some h with ⟨e, h1, rfl⟩ | ⟨p, h1, h⟩
  · exact start (st_as_err (ev_call_of (evl_one rfl rfl) (nb_err' hd h1)))
  · have s2 : ∀ {r}, endOf (execs (callN P d) (B_F_logic_value.drop 2) [some .none, some (tv (.log o a b)), some (.str s), some (.bool o), some (.bool p)]) = r → callN P (d + 1) 41 [.none, tv (.log o a b), .str s] = r := fun h => start ((congrArg endOf (st_as (ev_call_of (evl_one rfl rfl) (nb_ok' hd h1)) rfl)).trans h)
    have c : evalE (callN P d) [some .none, some (tv (.log o a b)), some (.str s), some (.bool o), some (.bool p)] (.cmp .ne (.var 4) (.var 3)) = some (.ok (.bool (p != o))) := ev_cmp_of rfl rfl rfl
    cases hp : (p != o) with
    | false =>
      rw [hp] at h c
      cases h
      exact s2 ((congrArg endOf (st_no' c)).trans (fin p rfl))
    | true =>
      rw [hp] at h c
      have k2 : ∀ r, den b = some r → evalE (callN P d) [some .none, some (tv (.log o a b)), some (.str s), some (.bool o), some (.bool p)] (.call 42 [(.var 0), (.idx (.var 1) (.int 2))]) = some r := fun r => ev_rk (t := .log o a b) hb rfl rfl rfl
      rcases R.bind_some h with ⟨e, h4, rfl⟩ | ⟨q, h4, h⟩
      · refine s2 (st_yes_as_err c ?_)
        rcases R.bind_some h4 with ⟨e', h5, h6⟩ | ⟨x, h5, h6⟩
        · cases h6
          exact ev_call_err (evl_err (k2 _ h5))
        · obtain ⟨s2, rfl⟩ := den_str h5
          exact ev_call_of (evl_one (k2 _ h5) rfl) (nb_err' hd h6)
      · cases h
        refine s2 ((congrArg endOf (st_yes_as1 (v := .bool q) c ?_ rfl)).trans (fin q rfl))
        rcases R.bind_some h4 with ⟨e', h5, h6⟩ | ⟨x, h5, h6⟩
        · cases h6
        · obtain ⟨s2, rfl⟩ := den_str h5
          exact ev_call_of (evl_one (k2 _ h5) rfl) (nb_ok' hd h6)
end Mine
end
section
open PySem
namespace Mine
set_option linter.unusedVariables false
set_option linter.unusedSimpArgs false

theorem loop_go' {t : Rho → R V} {b : Rho → Option Out} {ρ ρ' : Rho} {n : Nat} {x : V} (h1 : t ρ = some (.ok x)) (h0 : truth x = some true) (h2 : b ρ = some (.next ρ')) : loopN t b (n + 1) ρ = loopN t b n ρ' := by
  rw [loopN, h1]; simp only [onE_ok, h0, h2]
theorem loop_exc' {t : Rho → R V} {b : Rho → Option Out} {ρ ρ' : Rho} {n : Nat} {x e : V} (h1 : t ρ = some (.ok x)) (h0 : truth x = some true) (h2 : b ρ = some (.exc e ρ')) : loopN t b (n + 1) ρ = some (.exc e ρ') := by
  rw [loopN, h1]; simp only [onE_ok, h0, h2]
theorem loop_end' {t : Rho → R V} {b : Rho → Option Out} {ρ : Rho} {n : Nat} {x : V} (h1 : t ρ = some (.ok x)) (h0 : truth x = some false) : loopN t b (n + 1) ρ = some (.next ρ) := by
  rw [loopN, h1]; simp only [onE_ok, h0]
theorem tr_snoc {o : Bool} {s : List V} {v : V} (h : (s ++ [v]).length ≤ 1000000000) : truth (.lst o (s ++ [v])) = some true := (if_pos h).trans (by cases s <;> rfl)
theorem tr_nil {o : Bool} : truth (.lst o []) = some false := rfl
@[reducible] noncomputable def R2 (tr : Option V) (s : List V) (v : V) (y : Option V) : Rho := [some .none, tr, some (.lst true s), some v, y]
noncomputable def lp2 (d n : Nat) (ρ : Rho) : Option Out := loopN (fun ρ => evalE (callN P (d + 1)) ρ (.var 2)) (fun ρ => execs (callN P (d + 1)) rb2 ρ) n ρ
/-- a node, told from its first part's value -/
theorem tail_bin {d : Nat} (hd : 10 ≤ d) {op : Str} {a b : T} (kb : RK d b) {sa : Str} {tr : Option V} {s : List V} {r : Except V V} (h1 : den a = some (.ok (.str sa))) (h : den (.bin op a b) = some r) :
    Except.casesOn r (fun e => ∃ ρ', execs (callN P (d + 1)) (rb2.drop 1) (R2 tr s (.str sa) (some (tv (.bin op a b)))) = some (.exc e ρ')) fun w => (∃ s, w = .str s) ∧ execs (callN P (d + 1)) (rb2.drop 1) (R2 tr s (.str sa) (some (tv (.bin op a b)))) = some (.next (R2 tr s w (some (tv (.bin op a b))))) := by
  have c : evalE (callN P (d + 1)) (R2 tr s (.str sa) (some (tv (.bin op a b)))) (.cmp .eq (.idx (.var 4) (.int 0)) (.str (Str.ofString "bin"))) = some (.ok (.bool true)) := ev_cmp_of (ev_idx_of (ev_var_of rfl (fr_tv (.bin op a b))) rfl rfl) rfl (eqs_t rfl)
  have i1 : evalE (callN P (d + 1)) (R2 tr s (.str sa) (some (tv (.bin op a b)))) (.idx (.var 4) (.int 1)) = some (.ok (.str op)) := ev_idx_of (ev_var_of rfl (fr_tv (.bin op a b))) rfl rfl
  have k2 : ∀ r, den b = some r → evalE (callN P (d + 1)) (R2 tr s (.str sa) (some (tv (.bin op a b)))) (.call 42 [(.var 0), (.idx (.var 4) (.int 3))]) = some r := fun r hr => ev_call_of (evl_two rfl rfl (ev_idx_of (ev_var_of rfl (fr_tv (.bin op a b))) rfl rfl) (pl_tv b)) (kb.up (Nat.le_succ d) r hr)
  have hv := fun v (q : r = .ok v) => den_str (h.trans (congrArg some q))
  rw [den, h1, R.bind_ok] at h
  rcases R.bind_some h with ⟨e, h2, rfl⟩ | ⟨x2, h2, h⟩
  · exact ⟨_, st_yes_as_exc c (ev_call_err (evl_err3 i1 rfl rfl rfl (k2 _ h2)))⟩
  · obtain ⟨sb, rfl⟩ := den_str h2
    have h := up10 (Nat.le_succ_of_le hd) (then_str h)
    cases r with
    | error e => exact ⟨_, st_yes_as_exc c (ev_call_of (evl_three i1 rfl rfl rfl (k2 _ h2) rfl) h)⟩
    | ok w =>
      obtain ⟨s', rfl⟩ := hv w rfl
      exact ⟨⟨s', rfl⟩, st_yes_as1 c (ev_call_of (evl_three i1 rfl rfl rfl (k2 _ h2) rfl) h) rfl⟩
theorem tail_log {d : Nat} (hd : 10 ≤ d) {o : Bool} {a b : T} (kb : RK d b) {sa : Str} {tr : Option V} {s : List V} {r : Except V V} (h1 : den a = some (.ok (.str sa))) (h : den (.log o a b) = some r) :
    Except.casesOn r (fun e => ∃ ρ', execs (callN P (d + 1)) (rb2.drop 1) (R2 tr s (.str sa) (some (tv (.log o a b)))) = some (.exc e ρ')) fun w => (∃ s, w = .str s) ∧ execs (callN P (d + 1)) (rb2.drop 1) (R2 tr s (.str sa) (some (tv (.log o a b)))) = some (.next (R2 tr s w (some (tv (.log o a b))))) := by
  have c : evalE (callN P (d + 1)) (R2 tr s (.str sa) (some (tv (.log o a b)))) (.cmp .eq (.idx (.var 4) (.int 0)) (.str (Str.ofString "bin"))) = some (.ok (.bool false)) := ev_cmp_of (ev_idx_of (ev_var_of rfl (fr_tv (.log o a b))) rfl rfl) rfl (eqs_f (by cases o <;> decide))
  have hv := fun v (q : r = .ok v) => den_str (h.trans (congrArg some q))
  rw [den, h1, R.bind_ok] at h
  have k : evalE (callN P (d + 1)) (R2 tr s (.str sa) (some (tv (.log o a b)))) (.call 41 [(.var 0), (.var 4), (.var 3)]) = some r := ev_call_of (evl_three rfl rfl (ev_var_of rfl (fr_tv (.log o a b))) rfl rfl rfl) (logic_den hd kb h)
  cases r with
  | error e => exact ⟨_, st_no_as_exc c k⟩
  | ok w =>
    obtain ⟨s', rfl⟩ := hv w rfl
    exact ⟨⟨s', rfl⟩, st_no_as1 c k rfl⟩
noncomputable def L2End (d n : Nat) (tr : Option V) (s : List V) (o : Option Out) (r : Except V V) : Prop := Except.casesOn r (fun e => ∃ ρ', o = some (.exc e ρ')) fun w => ∃ y', o = lp2 d n (R2 tr s w y')
theorem Spine.loop2 {d : Nat} (hd : 10 ≤ d) {t u : T} {l : List T} (S : Spine t l u) {v : V} {tr y : Option V} (hv : den u = some (.ok v)) : ∀ (n : Nat) (s : List V), (∀ b, ht b < ht t → RK d b) → s.length + l.length ≤ 1000 → ∀ r, den t = some r → L2End d n tr s (lp2 d (n + l.length) (R2 tr (s ++ l.map tv) v y)) r := by
  revert hv
  refine S.by (m := fun t l u => den u = some (.ok v) → ∀ (n : Nat) (s : List V), (∀ b, ht b < ht t → RK d b) → s.length + l.length ≤ 1000 → ∀ r, den t = some r → L2End d n tr s (lp2 d (n + l.length) (R2 tr (s ++ l.map tv) v y)) r) ?_ ?_
  · intro t _ _ _ hv n s _ _ r h
    cases hv.symm.trans h
    rw [List.map_nil, List.append_nil]
    exact ⟨y, rfl⟩
  · intro t a l u sv sh ih hv n s hk hl r h
    have ih := ih hv (n + 1) (s ++ [tv t]) (fun b hb => hk b (Nat.lt_trans hb sv.lt)) (by rw [List.length_append]; exact Nat.le_trans (Nat.le_of_eq (Nat.add_right_comm ..)) hl)
    rw [List.append_assoc, Nat.add_right_comm] at ih
    rcases sv.den r h with ⟨e, h1, rfl⟩ | ⟨sa, h1⟩
    · exact ih _ h1
    · obtain ⟨y', i1⟩ := ih _ h1
      have hs : (s ++ [tv t]).length ≤ 1000000 := by rw [List.length_append]; exact Nat.le_trans (Nat.add_le_add_left (Nat.succ_le_succ (Nat.zero_le _)) _) (Nat.le_trans hl (Nat.le_of_ble_eq_true rfl))
      have pop : execs (callN P (d + 1)) rb2 (R2 tr (s ++ [tv t]) (.str sa) y') = execs (callN P (d + 1)) (rb2.drop 1) (R2 tr s (.str sa) (some (tv t))) := st_pop rfl (by decide) hs
      have t2 := tr_snoc (o := false) (Nat.le_trans hs (Nat.le_of_ble_eq_true rfl))
      have fin : Except.casesOn r (fun e => ∃ ρ', execs (callN P (d + 1)) (rb2.drop 1) (R2 tr s (.str sa) (some (tv t))) = some (.exc e ρ')) (fun w => (∃ s, w = .str s) ∧ execs (callN P (d + 1)) (rb2.drop 1) (R2 tr s (.str sa) (some (tv t))) = some (.next (R2 tr s w (some (tv t))))) → L2End d n tr s (lp2 d (n + 1) (R2 tr (s ++ [tv t]) (.str sa) y')) r := fun q => by
        cases r with
        | error e => obtain ⟨ρ', q⟩ := q; exact ⟨ρ', loop_exc' rfl t2 (pop.trans q)⟩
        | ok w => exact ⟨_, loop_go' rfl t2 (pop.trans q.2)⟩
      rw [List.map_cons, List.length_cons]
      refine (congrArg (fun o => L2End d n tr s o r) i1).mpr (fin ?_)
      rcases sh with ⟨op, b, rfl⟩ | ⟨o, b, rfl⟩
      · exact tail_bin hd (hk b (Nat.lt_succ_of_le (Nat.le_max_right ..))) h1 h
      · exact tail_log hd (hk b (Nat.lt_succ_of_le (Nat.le_max_right ..))) h1 h
/-- a fault of the leftmost is the tree's -/
theorem Spine.den_lm {t u : T} {l : List T} (S : Spine t l u) : ∀ r, den t = some r → ∃ q, den u = some q ∧ ∀ e, q = .error e → r = .error e :=
  S.by (m := fun t l u => ∀ r, den t = some r → ∃ q, den u = some q ∧ ∀ e, q = .error e → r = .error e) (fun t _ _ _ r h => ⟨r, h, fun e q => q⟩) fun t a l u sv _ ih r h => by
    rcases sv.den r h with ⟨e, h1, rfl⟩ | ⟨s, h1⟩
    · exact ih _ h1
    · obtain ⟨q, q1, q2⟩ := ih _ h1
      exact ⟨q, q1, fun e q => nomatch q2 e q⟩
theorem leaf_any {d : Nat} (hd : 10 ≤ d) {t u : T} {l : List T} (S : Spine t l u) (hk : ∀ b, ht b < ht t → RK d b) : ∀ {r : Except V V}, den u = some r → callN P (d + 2) 40 [.none, tv u] = some r := by
  refine S.by (m := fun t l u => (∀ b, ht b < ht t → RK d b) → ∀ {r : Except V V}, den u = some r → callN P (d + 2) 40 [.none, tv u] = some r) ?_ (fun t a l u sv _ ih hk _ h => ih (fun b hb => hk b (Nat.lt_trans hb sv.lt)) h) hk
  intro u s h1 h2 hk r h
  have one : ∀ {x : R V}, callN P (d + 1) 40 [.none, tv u] = some r → callN P (d + 2) 40 [.none, tv u] = some r := fun q => callN_le P (Nat.le_succ _) _ _ _ q
  cases u with
  | num n => exact callN_le P (Nat.le_succ _) _ _ _ (leaf_num d h)
  | txt n => exact callN_le P (Nat.le_succ _) _ _ _ (leaf_txt d h)
  | un op a => exact callN_le P (Nat.le_succ _) _ _ _ (leaf_un hd (hk a (Nat.lt_succ_self _)) h)
  | ite c a b => exact callN_le P (Nat.le_succ _) _ _ _ (leaf_ite hd (hk c (mx_l ..)) (hk a (Nat.lt_succ_of_le (Nat.le_trans (Nat.le_max_left ..) (Nat.le_max_right ..)))) (hk b (Nat.lt_succ_of_le (Nat.le_trans (Nat.le_max_right ..) (Nat.le_max_right ..)))) h)
  | call f args => exact leaf_call hd (fun a ha => hk a (Nat.lt_succ_of_le (ht_mem ha))) h
  | bin op a b => cases h1; exact nomatch (show some true = some false from (show _ = some true by kernel_rfl).symm.trans h2)
  | log o a b => cases h1; cases o <;> exact nomatch (show some true = some false from (show _ = some true by kernel_rfl).symm.trans h2)
theorem fuel1 {k : Nat} (h : k ≤ 1000) : ∃ n, FUEL = n + 1 + k := ⟨2 ^ 100 - 1 - k, by rw [FUEL_eq]; (first | lia | omega)⟩
theorem reckon_step {d : Nat} (hd : 10 ≤ d) (t : T) (hl : ht t ≤ 500) (hk : ∀ b, ht b < ht t → RK d b) : RK (d + 3) t := by
  intro r h
  obtain ⟨l, u, S⟩ := spine t
  have hs : l.length ≤ 1000 := Nat.le_trans S.len.1 (Nat.le_trans hl (Nat.le_of_ble_eq_true rfl))
  have hs' : ([] : List V).length + l.length ≤ 1000 := by rw [List.length_nil, Nat.zero_add]; exact hs
  obtain ⟨n, hn⟩ := fuel1 hs
  have l1 := S.loop1 (cl := callN P (d + 2)) (h := .none) n [] none none hs'
  rw [← hn] at l1
  obtain ⟨q, hq, hqe⟩ := S.den_lm r h
  have lf : evalE (callN P (d + 2)) [some .none, some (tv u), some (.lst true (l.map tv)), none, none] (.call 40 [(.var 0), (.var 1)]) = some q := ev_call_of (evl_two rfl rfl (ev_var_of rfl (fr_tv u)) (pl_tv u)) (leaf_any hd S hk hq)
  have s1 : execs (callN P (d + 2)) B_F_reckon [some .none, some (tv t), none, none, none] = execs (callN P (d + 2)) (B_F_reckon.drop 1) [some .none, some (tv t), some (.lst true []), none, none] := st_as rfl rfl
  have e1 : exec (callN P (d + 2)) (.while rt1 rb1) [some .none, some (tv t), some (.lst true []), none, none] = some (.next [some .none, some (tv u), some (.lst true (l.map tv)), none, none]) := l1
  refine (call_of (fn := F_reckon) (body := B_F_reckon) (ρ := [some .none, some (tv t), none, none, none]) rfl (by rw [show freezeAll [.none, tv t] = some [.none, tv t] from by show Option.map _ ((freeze (tv t)).bind _) = _; rw [fr_tv]; rfl]; rfl) rfl).trans
    ((congrArg endOf (s1.trans (st_in_next e1))).trans ?_)
  cases q with
  | error e =>
    cases hqe e rfl
    exact st_as_err lf
  | ok v =>
    obtain ⟨sv, rfl⟩ := den_str hq
    have l2 := S.loop2 (d := d + 1) (Nat.le_succ_of_le hd) (tr := some (tv u)) (y := none) hq (n + 1) [] (fun b hb => (hk b hb).up (Nat.le_succ d)) hs' r h
    rw [← hn] at l2
    refine (congrArg endOf (st_as lf rfl)).trans ?_
    cases r with
    | error e =>
      obtain ⟨ρ', l2⟩ := l2
      exact congrArg endOf (st_in_exc (s := .while (.var 2) rb2) l2)
    | ok w =>
      obtain ⟨y', l2⟩ := l2
      obtain ⟨sw, rfl⟩ := den_str h
      exact (congrArg endOf (st_in_next (s := .while (.var 2) rb2) (l2.trans (loop_end' rfl tr_nil)))).trans st_ret
theorem reckon_den : ∀ (h : Nat) (t : T), ht t ≤ h → h ≤ 500 → ∀ d, 3 * h + 13 ≤ d → RK d t := by
  intro h
  induction h with
  | zero =>
    intro t h1 h2 d hd
    obtain ⟨k, rfl⟩ : ∃ k, d = k + 3 := ⟨d - 3, by (first | lia | omega)⟩
    exact reckon_step (by (first | lia | omega)) t (by (first | lia | omega)) (fun b hb => by (first | lia | omega))
  | succ h ih =>
    intro t h1 h2 d hd
    obtain ⟨k, rfl⟩ : ∃ k, d = k + 3 := ⟨d - 3, by (first | lia | omega)⟩
    exact reckon_step (by (first | lia | omega)) t (by (first | lia | omega)) (fun b hb => ih b (by (first | lia | omega)) (by (first | lia | omega)) k (by (first | lia | omega)))
end Mine
end
section
open PySem
set_option genInjectivity false
set_option genSizeOf false
namespace Mine
set_option linter.unusedVariables false
set_option linter.unusedSimpArgs false

noncomputable def isLeaf (t : T) : Bool := T.casesOn t (fun _ => true) (fun _ => true) (fun _ _ => false) (fun _ _ _ => false) (fun _ _ => false) (fun _ _ _ => false) fun _ _ _ => false
mutual
noncomputable def Safe : T → Prop
  | .num n => Res LIM (den (.num n))
  | .txt s => VOk s
  | .un op a => Res LIM (den (.un op a)) ∧ Safe a
  | .bin op a b => Res LIM (den (.bin op a b)) ∧ Safe a ∧ Safe b
  | .call f args => Res LIM (den (.call f args)) ∧ SafeL args
  | .log o a b => Res LIM (den (.log o a b)) ∧ Safe a ∧ Safe b
  | .ite c a b => Res LIM (den (.ite c a b)) ∧ Safe c ∧ Safe a ∧ Safe b
noncomputable def SafeL : List T → Prop
  | [] => True
  | a :: r => Safe a ∧ SafeL r
end
mutual
noncomputable def sz : T → Nat
  | .num _ => 1
  | .txt _ => 1
  | .un _ a => sz a + 1
  | .bin _ a b => sz a + sz b + 1
  | .call _ args => szL args + 2
  | .log _ a b => sz a + sz b + 4
  | .ite c a b => sz c + sz a + sz b + 1
noncomputable def szL : List T → Nat
  | [] => 0
  | a :: r => sz a + szL r
end
theorem sz_pos : ∀ t : T, 1 ≤ sz t
  | .num _ | .txt _ => Nat.le_refl _
  | .un _ _ | .bin _ _ _ | .call _ _ | .log _ _ _ | .ite _ _ _ => by rw [sz]; (first | lia | omega)
theorem safeL_mem : ∀ {l : List T}, SafeL l → ∀ t ∈ l, Safe t
  | [], _, t, h => by cases h
  | a :: r, h, t, ht => by
    rw [SafeL] at h
    rcases List.mem_cons.mp ht with rfl | ht
    · exact h.1
    · exact safeL_mem h.2 t ht
theorem safeL_of : ∀ {l : List T}, (∀ t ∈ l, Safe t) → SafeL l
  | [], _ => by rw [SafeL]; trivial
  | a :: r, h => by rw [SafeL]; exact ⟨h a (List.mem_cons_self ..), safeL_of fun t ht => h t (List.mem_cons_of_mem _ ht)⟩
theorem LIM_W : texts.all (fun s => match W s with | some n => decide (-64 ≤ n ∧ n < 64) | none => true) = true := by decide +kernel
theorem VOk.wb {s : Str} (h : VOk s) : WB LIM s := by
  cases h with
  | num hb => exact WB_itoa hb (Nat.le_refl _)
  | txt hm =>
    intro n hn
    have := List.all_eq_true.mp LIM_W _ hm
    rw [hn] at this
    simp only [decide_eq_true_eq] at this
    exact Bd.mono (a := 6) (by unfold Bd; (first | lia | omega)) (by decide)
theorem Safe.res : ∀ {t : T}, Safe t → Res LIM (den t)
  | .num n, h => by rw [Safe] at h; exact h
  | .txt s, h => by rw [Safe] at h; rw [den]; exact .ok h h.wb
  | .un _ _, h => by rw [Safe] at h; exact h.1
  | .bin _ _ _, h => by rw [Safe] at h; exact h.1
  | .call _ _, h => by rw [Safe] at h; exact h.1
  | .log _ _ _, h => by rw [Safe] at h; exact h.1
  | .ite _ _ _, h => by rw [Safe] at h; exact h.1
theorem Res.is {b : Nat} {r : R V} (h : Res b r) : (∃ s, r = some (.ok (.str s)) ∧ VOk s ∧ WB b s) ∨ ∃ e, r = some (.error e) ∧ IsF e := by
  cases h with
  | ok h1 h2 => exact .inl ⟨_, rfl, h1, h2⟩
  | err h => exact .inr ⟨_, rfl, h⟩
theorem Safe.some {t : T} (h : Safe t) : ∃ r, den t = some r := by
  rcases h.res.is with ⟨_, h, _⟩ | ⟨_, h, _⟩ <;> exact ⟨_, h⟩
theorem Safe.txt_of {t : T} (h : Safe t) {s : Str} (e : den t = Option.some (.ok (.str s))) : Safe (.txt s) := by
  have := h.res
  rw [e] at this
  cases this with
  | ok a b => rw [Safe]; exact a
theorem leaf_ok {t : T} (h : isLeaf t = true) (hs : Safe t) : ∃ s, den t = some (.ok (.str s)) ∧ VOk s := by
  have := hs.res
  cases t with
  | num n =>
    rw [den] at this ⊢
    cases hb : builtin1 .str (.int n) with
    | none => rw [hb] at this; cases this
    | some v =>
      rw [hb] at this
      cases this with
      | ok a b => exact ⟨_, rfl, a⟩
  | txt s => rw [Safe] at hs; exact ⟨s, by rw [den], hs⟩
  | _ => cases h
theorem c_isleaf (d : Nat) (t : T) : callN P (d + 1) 46 [tv t] = some (.ok (.bool (isLeaf t))) := by
  rw [call_of (fn := L_is_leaf) (body := B_L_is_leaf) (ρ := [some (tv t)]) rfl (by simp [freezeAll, fillArgs, startRho, L_is_leaf]) rfl]
  cases t with
  | log o a b => cases o <;> simp [B_L_is_leaf, exs_cons, tv, vidx_0, isLeaf, logN]
  | _ => simp [B_L_is_leaf, exs_cons, tv, vidx_0, isLeaf]
theorem c_shown (d : Nat) {t : T} (hl : isLeaf t = true) {s : Str} (h : den t = some (.ok (.str s))) : callN P (d + 1) 47 [tv t] = some (.ok (.str s)) := by
  rw [call_of (fn := L_shown) (body := B_L_shown) (ρ := [some (tv t)]) rfl (by simp [freezeAll, fillArgs, startRho, L_shown]) rfl]
  cases t with
  | num n =>
    rw [den] at h
    cases hb : builtin1 .str (.int n) with
    | none => rw [hb] at h; cases h
    | some v =>
      rw [hb] at h
      simp at h
      subst h
      simp [B_L_shown, exs_cons, tv, vidx_0, vidx_1, hb]
  | txt s =>
    rw [den] at h
    cases h
    simp [B_L_shown, exs_cons, tv, vidx_0, vidx_1]
  | _ => cases hl
@[simp] theorem ar_addt {a b : List V} : arith .add (.tup a) (.tup b) = if a.length + b.length ≤ 1000000 then some (.tup (a ++ b)) else none := rfl
theorem denL_append : ∀ l r : List T, denL (l ++ r) = R.bind (denL l) fun xs => R.bind (denL r) fun ys => some (.ok (xs ++ ys))
  | [], r => by
    rw [List.nil_append, denL]
    match denL r with
    | none => rfl
    | some (.ok ys) => rfl
    | some (.error e) => rfl
  | a :: l, r => by
    rw [List.cons_append, denL, denL, denL_append l r]
    match den a with
    | none => rfl
    | some (.error e) => rfl
    | some (.ok x) =>
      match denL l with
      | none => rfl
      | some (.error e) => rfl
      | some (.ok xs) =>
        match denL r with
        | none => rfl
        | some (.error e) => rfl
        | some (.ok ys) => rfl
theorem denL_upd (pre post : List T) {a a' : T} (h : den a' = den a) : denL (pre ++ a' :: post) = denL (pre ++ a :: post) := by
  rw [denL_append, denL_append, denL, denL, h]
theorem denL_leaves : ∀ {l : List T}, (∀ t ∈ l, isLeaf t = true ∧ Safe t) → ∃ ss : List Str, denL l = some (.ok (ss.map .str)) ∧ ss.length = l.length
  | [], _ => ⟨[], by rw [denL]; rfl, rfl⟩
  | a :: r, h => by
    obtain ⟨h1, h2⟩ := h a (List.mem_cons_self ..)
    obtain ⟨s, h3, _⟩ := leaf_ok h1 h2
    obtain ⟨ss, h4, h5⟩ := denL_leaves (l := r) fun t ht => h t (List.mem_cons_of_mem _ ht)
    exact ⟨s :: ss, by rw [denL, h3, h4]; rfl, by simp [h5]⟩
theorem denL_err (pre post : List T) {a : T} {e : V} (hp : ∀ t ∈ pre, isLeaf t = true ∧ Safe t) (h : den a = some (.error e)) : denL (pre ++ a :: post) = some (.error e) := by
  obtain ⟨ss, h1, _⟩ := denL_leaves hp
  rw [denL_append, denL, h1, h]; rfl
theorem sz_upd (pre post : List T) {a a' : T} (h : sz a' < sz a) : szL (pre ++ a' :: post) < szL (pre ++ a :: post) := by
  induction pre with
  | nil => simp only [List.nil_append, szL]; (first | lia | omega)
  | cons x r ih => simp only [List.cons_append, szL]; (first | lia | omega)
theorem ht_upd (pre post : List T) {a a' : T} (h : ht a' ≤ ht a) : htL (pre ++ a' :: post) ≤ htL (pre ++ a :: post) := by
  induction pre with
  | nil => simp only [List.nil_append, htL]; (first | lia | omega)
  | cons x r ih => simp only [List.cons_append, htL]; (first | lia | omega)
/-- a tree's next form -/
structure Nx (t t' : T) : Prop where
  safe : Safe t'
  den : den t' = den t
  sz : sz t' < sz t
  ht : ht t' ≤ ht t
noncomputable def StepAt (d : Nat) (t : T) : Prop := (∃ t', callN P d 53 [tv t] = some (.ok (tv t')) ∧ Nx t t') ∨ ∃ e, callN P d 53 [tv t] = some (.error e) ∧ den t = some (.error e)
theorem Nx.un {op : Str} {a a' : T} (h : Safe (.un op a)) (n : Nx a a') : Nx (.un op a) (.un op a') := by
  have e : Mine.den (.un op a') = Mine.den (.un op a) := by rw [Mine.den, Mine.den, n.den]
  have hr := h.res
  rw [Safe] at h
  exact ⟨by rw [Safe, e]; exact ⟨hr, n.safe⟩, e, by rw [Mine.sz, Mine.sz]; have := n.sz; (first | lia | omega), by rw [Mine.ht, Mine.ht]; have := n.ht; (first | lia | omega)⟩
theorem Nx.bin1 {op : Str} {a a' b : T} (h : Safe (.bin op a b)) (n : Nx a a') : Nx (.bin op a b) (.bin op a' b) := by
  have e : Mine.den (.bin op a' b) = Mine.den (.bin op a b) := by rw [Mine.den, Mine.den, n.den]
  have hr := h.res
  rw [Safe] at h
  exact ⟨by rw [Safe, e]; exact ⟨hr, n.safe, h.2.2⟩, e, by rw [Mine.sz, Mine.sz]; have := n.sz; (first | lia | omega), by rw [Mine.ht, Mine.ht]; have := n.ht; (first | lia | omega)⟩
theorem Nx.bin2 {op : Str} {a b b' : T} (h : Safe (.bin op a b)) (n : Nx b b') : Nx (.bin op a b) (.bin op a b') := by
  have e : Mine.den (.bin op a b') = Mine.den (.bin op a b) := by rw [Mine.den, Mine.den, n.den]
  have hr := h.res
  rw [Safe] at h
  exact ⟨by rw [Safe, e]; exact ⟨hr, h.2.1, n.safe⟩, e, by rw [Mine.sz, Mine.sz]; have := n.sz; (first | lia | omega), by rw [Mine.ht, Mine.ht]; have := n.ht; (first | lia | omega)⟩
theorem Nx.log {o : Bool} {a a' b : T} (h : Safe (.log o a b)) (n : Nx a a') : Nx (.log o a b) (.log o a' b) := by
  have e : Mine.den (.log o a' b) = Mine.den (.log o a b) := by rw [Mine.den, Mine.den, n.den]
  have hr := h.res
  rw [Safe] at h
  exact ⟨by rw [Safe, e]; exact ⟨hr, n.safe, h.2.2⟩, e, by rw [Mine.sz, Mine.sz]; have := n.sz; (first | lia | omega), by rw [Mine.ht, Mine.ht]; have := n.ht; (first | lia | omega)⟩
theorem Nx.ite {c c' a b : T} (h : Safe (.ite c a b)) (n : Nx c c') : Nx (.ite c a b) (.ite c' a b) := by
  have e : Mine.den (.ite c' a b) = Mine.den (.ite c a b) := by rw [Mine.den, Mine.den, n.den]
  have hr := h.res
  rw [Safe] at h
  exact ⟨by rw [Safe, e]; exact ⟨hr, n.safe, h.2.2⟩, e, by rw [Mine.sz, Mine.sz]; have := n.sz; (first | lia | omega), by rw [Mine.ht, Mine.ht]; have := n.ht; (first | lia | omega)⟩
theorem Nx.call {f : Str} {pre post : List T} {a a' : T} (h : Safe (.call f (pre ++ a :: post))) (n : Nx a a') : Nx (.call f (pre ++ a :: post)) (.call f (pre ++ a' :: post)) := by
  have e : Mine.den (.call f (pre ++ a' :: post)) = Mine.den (.call f (pre ++ a :: post)) := by
    rw [Mine.den, Mine.den, denL_upd pre post n.den]
    simp only [List.length_append, List.length_cons]
  have hr := h.res
  rw [Safe] at h
  refine ⟨?_, e, by rw [Mine.sz, Mine.sz]; have := sz_upd pre post n.sz; (first | lia | omega), by rw [Mine.ht, Mine.ht]; have := ht_upd pre post n.ht; (first | lia | omega)⟩
  rw [Safe, e]
  refine ⟨hr, safeL_of fun t ht => ?_⟩
  rcases List.mem_append.mp ht with ht | ht
  · exact safeL_mem h.2 t (List.mem_append_left _ ht)
  · rcases List.mem_cons.mp ht with rfl | ht
    · exact n.safe
    · exact safeL_mem h.2 t (List.mem_append_right _ (List.mem_cons_of_mem _ ht))
end Mine
end
section
open PySem
namespace Mine
set_option linter.unusedVariables false
set_option linter.unusedSimpArgs false

theorem callN_own (d : Nat) (f : Nat) (x : V) (xs : List V) : callN P d f [x, .lst true xs] = callN P d f [x, .lst false xs] := by
  cases d with
  | zero => rfl
  | succ d => rfl
theorem b_len_tup {vs : List V} (h : vs.length ≤ 1000000000) : builtin1 .len (.tup vs) = some (.int vs.length) := by
  show (if vs.length ≤ 1000000000 then some (V.int vs.length) else none) = _
  rw [if_pos h]
noncomputable def stBody : List S := [.ite (.not (.call 46 [(.idx (.var 2) (.var 3))])) [.ret (.tup [(.str (Str.ofString "call")), (.idx (.var 0) (.int 1)), (.bin .add (.bin .add (.slTo (.var 2) (.var 3)) (.tup [(.call 53 [(.idx (.var 2) (.var 3))])])) (.slFrom (.var 2) (.bin .add (.var 3) (.int 1))))])] []]
theorem vidx_tup {vs : List V} {i : Int} {k : Nat} {v : V} (hi : i = k) (hk : k ≤ 1000000000) (h : vs[k]? = some v) : vidx (.tup vs) (.int i) = some v := by
  subst hi
  show (if (0 : Int) ≤ k ∧ (k : Int) ≤ 1000000000 then vs[(k : Int).toNat]? else none) = _
  rw [if_pos (by (first | lia | omega))]
  simpa using h
theorem slTo_tup {vs : List V} {k : Nat} (h : k ≤ vs.length) (hl : vs.length ≤ 1000000) : vslTo (.tup vs) (.int k) = some (.tup (vs.take k)) := by
  show (if (0 : Int) ≤ k ∧ (k : Int) ≤ vs.length ∧ vs.length ≤ 1000000 then some (V.tup (vs.take (k : Int).toNat)) else none) = _
  rw [if_pos (by (first | lia | omega))]; rfl
theorem slFrom_tup {vs : List V} {i : Int} {k : Nat} (hi : i = k) (h : k ≤ vs.length) (hl : vs.length ≤ 1000000) : vslFrom (.tup vs) (.int i) = some (.tup (vs.drop k)) := by
  subst hi
  show (if (0 : Int) ≤ k ∧ (k : Int) ≤ vs.length ∧ vs.length ≤ 1000000 then some (V.tup (vs.drop (k : Int).toNat)) else none) = _
  rw [if_pos (by (first | lia | omega))]; rfl
/-- within a call's arguments -/
@[reducible] noncomputable def RC (f : Str) (args : List T) (A x : Option V) : Rho := [some (tv (.call f args)), A, some (.tup (args.map tv)), x, none, none, none]
noncomputable def stExp : E := .tup [(.str (Str.ofString "call")), (.idx (.var 0) (.int 1)), (.bin .add (.bin .add (.slTo (.var 2) (.var 3)) (.tup [(.call 53 [(.idx (.var 2) (.var 3))])])) (.slFrom (.var 2) (.bin .add (.var 3) (.int 1))))]
theorem ar_addt_of {a b : List V} (h : a.length + b.length ≤ 1000000) : arith .add (.tup a) (.tup b) = some (.tup (a ++ b)) := if_pos h
structure InCall (d : Nat) (f : Str) (pre : List T) (a : T) (post : List T) (ρ : Rho) : Prop where
  cond : evalE (callN P (d + 1)) ρ (.not (.call 46 [(.idx (.var 2) (.var 3))])) = some (.ok (.bool (!isLeaf a)))
  go : ∀ a', callN P (d + 1) 53 [tv a] = some (.ok (tv a')) → evalE (callN P (d + 1)) ρ stExp = some (.ok (tv (.call f (pre ++ a' :: post))))
  stop : ∀ e, callN P (d + 1) 53 [tv a] = some (.error e) → evalE (callN P (d + 1)) ρ stExp = some (.error e)
theorem in_call {d : Nat} {f : Str} {pre post args : List T} {a : T} {A : Option V} (he : args = pre ++ a :: post) (hl : args.length ≤ 1000) : InCall d f pre a post (RC f args A (some (.int (pre.length : Nat)))) := by
  have hm : args.map tv = pre.map tv ++ tv a :: post.map tv := by rw [he, List.map_append, List.map_cons]
  have hp : (pre.map tv).length = pre.length := List.length_map ..
  have hl' : (args.map tv).length ≤ 1000 := Nat.le_trans (Nat.le_of_eq (List.length_map ..)) hl
  have hs : pre.length + (post.length + 1) ≤ 1000 := by rw [he, List.length_append] at hl; exact hl
  have hpl : pre.length + 1 ≤ (args.map tv).length := by rw [hm, List.length_append, hp]; exact Nat.add_le_add_left (Nat.succ_pos _) _
  have h4 : pre.length ≤ 1000 := Nat.le_trans (Nat.le_add_right _ _) hs
  have mil : ∀ {n : Nat}, n ≤ 1000 → n ≤ 1000000 := fun h => Nat.le_trans h (Nat.le_of_ble_eq_true rfl)
  have hix : vidx (.tup (args.map tv)) (.int (pre.length : Nat)) = some (tv a) := vidx_tup rfl (Nat.le_trans h4 (Nat.le_of_ble_eq_true rfl)) (by rw [hm, ← hp, List.getElem?_append_right (Nat.le_refl _), Nat.sub_self]; rfl)
  have sto : vslTo (.tup (args.map tv)) (.int (pre.length : Nat)) = some (.tup (pre.map tv)) := (slTo_tup (Nat.le_of_succ_le hpl) (mil hl')).trans (by rw [hm, List.take_left' hp])
  have sfr : vslFrom (.tup (args.map tv)) (.int (pre.length + 1)) = some (.tup (post.map tv)) := (slFrom_tup (k := pre.length + 1) rfl hpl (mil hl')).trans (by rw [hm, List.drop_append, hp, Nat.add_sub_cancel_left, List.drop_of_length_le (Nat.le_trans (Nat.le_of_eq hp) (Nat.le_succ _))]; rfl)
  have ix : evalE (callN P (d + 1)) (RC f args A (some (.int (pre.length : Nat)))) (.idx (.var 2) (.var 3)) = some (.ok (tv a)) := ev_idx_of rfl rfl hix
  refine ⟨ev_not_of (ev_call_of (evl_one ix (pl_tv a)) (c_isleaf d a)), fun a' h1 => ?_, fun e h1 => ev_tup_err (evl_err3 rfl rfl (ev_idx_of (ev_var_of rfl (fr_tv _)) rfl rfl) rfl (ev_bin_err (ev_bin_err2 (ev_slTo_of rfl rfl sto) (ev_tup_err (evl_err (ev_call_of (evl_one ix (pl_tv a)) h1))))))⟩
  refine (ev_tup_of (evl_three rfl rfl (ev_idx_of (ev_var_of rfl (fr_tv _)) rfl rfl) rfl (ev_bin_of (ev_bin_of (ev_slTo_of rfl rfl sto) (ev_tup_of (evl_one (ev_call_of (evl_one ix (pl_tv a)) h1) (pl_tv a')) (nl_cons (nl_tv a') rfl) (Nat.le_of_ble_eq_true rfl)) (ar_addt_of (mil ?_)))
    (ev_slFrom_of rfl (ev_bin_of rfl rfl rfl) sfr) (ar_addt_of (mil ?_))) rfl) rfl (Nat.le_of_ble_eq_true rfl)).trans (congrArg (fun x => some (Except.ok (V.tup [.str (Str.ofString "call"), .str f, .tup x]))) ?_)
  · rw [hp]; exact Nat.le_trans (Nat.add_le_add_left (Nat.succ_pos _) _) hs
  · rw [List.length_append, hp, List.length_map]; exact Nat.le_trans (Nat.le_of_eq ((Nat.add_assoc ..).trans (congrArg (pre.length + ·) (Nat.add_comm ..)))) hs
  · rw [tvL_map, List.map_append, List.append_assoc]; rfl
/-- the loop over the arguments -/
inductive StLoop (f : Str) (args : List T) (A : Option V) (o : Option Out) : Prop
  | all {x' : Option V} (h : ∀ a ∈ args, isLeaf a = true) (e : o = some (.next (RC f args A x')))
  | go {pre post : List T} {a a' : T} (h : args = pre ++ a :: post) (n : Nx a a') (e : o = some (.ret (tv (.call f (pre ++ a' :: post)))))
  | stop {pre post : List T} {a : T} {x : V} {ρ' : Rho} (h : args = pre ++ a :: post) (hp : ∀ t ∈ pre, isLeaf t = true) (hd : den a = some (.error x)) (e : o = some (.exc x ρ'))
theorem StLoop.of {f : Str} {args : List T} {A : Option V} {o o' : Option Out} (h : StLoop f args A o') (e : o = o') : StLoop f args A o := e ▸ h
theorem st_loop {d : Nat} {f : Str} {args : List T} (hl : args.length ≤ 1000) (hs : ∀ a ∈ args, isLeaf a = false → StepAt (d + 1) a) (A : Option V) : ∀ (rest pre : List T) (x : Option V), args = pre ++ rest → (∀ a ∈ pre, isLeaf a = true) →
    StLoop f args A (forL 3 (fun ρ => execs (callN P (d + 1)) stBody ρ) ((List.range' pre.length rest.length).map fun k => V.int (k : Nat)) (RC f args A x)) := by
  intro rest
  induction rest with
  | nil => intro pre x he hp; exact .all (by rw [he, List.append_nil]; exact hp) rfl
  | cons a rest ih =>
    intro pre x he hp
    have B := in_call (d := d) (f := f) (A := A) he hl
    have hc := B.cond
    rw [List.length_cons, List.range'_succ, List.map_cons]
    cases hla : isLeaf a with
    | true =>
      rw [hla] at hc
      have ih := ih (pre ++ [a]) (some (.int (pre.length : Nat))) (by rw [he, List.append_assoc]; rfl) fun t ht => (List.mem_append.mp ht).elim (hp t) fun m => (List.mem_singleton.mp m) ▸ hla
      rw [List.length_append] at ih
      exact ih.of (forL_next (st_no' hc))
    | false =>
      rw [hla] at hc
      exact (hs a (he ▸ List.mem_append_right _ (List.mem_cons_self ..)) hla).elim (fun ⟨a', h1, h2⟩ => .go he h2 (forL_ret (st_yes_ret' hc (B.go a' h1)))) fun ⟨e, h1, h2⟩ => .stop he hp h2 (forL_exc (st_yes_exc' hc (B.stop e h1)))
end Mine
end
section
open PySem
namespace Mine
set_option linter.unusedVariables false
set_option linter.unusedSimpArgs false

theorem bindStr_ok {X : R V} {s : Str} (h : R.bind X strV = some (.ok (.str s))) : X = some (.ok (.str s)) := by
  rcases R.bind_some h with ⟨e, _, q⟩ | ⟨v, h1, h2⟩
  · cases q
  · obtain ⟨s', rfl, q⟩ := strV_ok h2
    cases q; exact h1
theorem bindStr_err {X : R V} {e : V} (h : R.bind X strV = some (.error e)) : X = some (.error e) := by
  rcases R.bind_some h with ⟨e', h1, q⟩ | ⟨v, h1, h2⟩
  · cases q; exact h1
  · exact (strV_err h2).elim
section
variable {a b c d : V}
theorem slTo2_3 : vslTo (.tup [a, b, c]) (.int 2) = some (.tup [a, b]) := rfl
theorem slFrom3_3 : vslFrom (.tup [a, b, c]) (.int 3) = some (.tup []) := rfl
theorem slTo2_4 : vslTo (.tup [a, b, c, d]) (.int 2) = some (.tup [a, b]) := rfl
theorem slFrom3_4 : vslFrom (.tup [a, b, c, d]) (.int 3) = some (.tup [d]) := rfl
theorem slTo3_4 : vslTo (.tup [a, b, c, d]) (.int 3) = some (.tup [a, b, c]) := rfl
theorem slTo1_3 : vslTo (.tup [a, b, c]) (.int 1) = some (.tup [a]) := rfl
theorem slFrom2_3 : vslFrom (.tup [a, b, c]) (.int 2) = some (.tup [c]) := rfl
theorem slTo1_4 : vslTo (.tup [a, b, c, d]) (.int 1) = some (.tup [a]) := rfl
theorem slFrom2_4 : vslFrom (.tup [a, b, c, d]) (.int 2) = some (.tup [c, d]) := rfl
end
theorem txt_nx {t : T} {s : Str} (hs : Safe t) (hz : 1 < sz t) (h : den t = some (.ok (.str s))) : Nx t (.txt s) :=
  ⟨hs.txt_of h, by rw [h, den], by rw [sz]; exact hz, by rw [ht]; (first | lia | omega)⟩
/-- a tree's head, and its first child -/
structure Hd (t u : T) (kd : String) (n : Int) : Prop where
  h0 : vidx (tv t) (.int 0) = some (.str (Str.ofString kd))
  nc : ¬ kd = "call"
  pos : ∀ cl x, evalE cl [x, some (.str (Str.ofString kd)), none, none, none, none, none] (.ite (.isIn false (.var 1) (.tup [(.str (Str.ofString "un")), (.str (Str.ofString "bin"))])) (.int 2) (.int 1)) = some (.ok (.int n))
  hu : vidx (tv t) (.int n) = some (tv u)
@[reducible] noncomputable def RS (t : T) (kd : String) (n : Int) (x5 x6 : Option V) : Rho := [some (tv t), some (.str (Str.ofString kd)), none, none, some (.int n), x5, x6]
noncomputable def StpRun (k : Nat) (ss : List S) (ρ : Rho) : R V := endOf (execs (callN P (k + 1)) ss ρ)
theorem ev_at {cl : Nat → List V → R V} {t : T} {ρ : Rho} {i : Int} {e : E} {v : V} (hg : get ρ 0 = some (tv t)) (he : evalE cl ρ e = some (.ok (.int i))) (h : vidx (tv t) (.int i) = some v) : evalE cl ρ (.idx (.var 0) e) = some (.ok v) :=
  ev_idx_of (ev_var_of hg (fr_tv t)) he h
theorem sp_pre {k : Nat} {t u : T} {kd : String} {n : Int} (H : Hd t u kd n) : callN P (k + 2) 53 [tv t] = StpRun k (B_L_step.drop 3) (RS t kd n none none) :=
  (call_of (fn := L_step) (body := B_L_step) (ρ := [some (tv t), none, none, none, none, none, none]) rfl (by rw [show freezeAll [tv t] = some [tv t] from by show (freeze (tv t)).bind _ = _; rw [fr_tv]; rfl]; rfl) rfl).trans (congrArg endOf
    ((st_as (ev_at rfl rfl H.h0) rfl).trans ((st_no' (ev_cmp_of rfl rfl (eqs_f H.nc))).trans (st_as (H.pos _ _) rfl))))
theorem sp_cond {k : Nat} {t u : T} {ρ : Rho} {e : E} {i : Int} (hg : get ρ 0 = some (tv t)) (he : evalE (callN P (k + 1)) ρ e = some (.ok (.int i))) (hu : vidx (tv t) (.int i) = some (tv u)) : evalE (callN P (k + 1)) ρ (.not (.call 46 [.idx (.var 0) e])) = some (.ok (.bool (!isLeaf u))) :=
  ev_not_of (ev_call_of (evl_one (ev_at hg he hu) (pl_tv u)) (c_isleaf k u))
theorem sp_go {k : Nat} {t u u' t' : T} {kd : String} {n : Int} {pre post : List V} (H : Hd t u kd n) (hl : isLeaf u = false) (h1 : callN P (k + 1) 53 [tv u] = some (.ok (tv u'))) (hp : vslTo (tv t) (.int n) = some (.tup pre)) (hq : vslFrom (tv t) (.int (n + 1)) = some (.tup post))
    (hn : pre.length + 1 ≤ 1000000 ∧ (pre ++ [tv u']).length + post.length ≤ 1000000) (ht : tv t' = .tup (pre ++ [tv u'] ++ post)) : callN P (k + 2) 53 [tv t] = some (.ok (tv t')) :=
  (sp_pre H).trans ((st_yes_ret ((sp_cond rfl rfl H.hu).trans (by rw [hl]; rfl))).trans ((ev_bin_of (ev_bin_of (ev_slTo_of (ev_var_of rfl (fr_tv t)) rfl hp)
    (ev_tup_of (evl_one (ev_call_of (evl_one (ev_at rfl rfl H.hu) (pl_tv u)) h1) (pl_tv u')) (nl_cons (nl_tv u') rfl) (Nat.le_of_ble_eq_true rfl)) (ar_addt_of hn.1)) (ev_slFrom_of (ev_var_of rfl (fr_tv t)) rfl hq) (ar_addt_of hn.2)).trans (congrArg (fun x => some (Except.ok x)) ht.symm)))
theorem sp_stop {k : Nat} {t u : T} {kd : String} {n : Int} {e : V} {pre : List V} (H : Hd t u kd n) (hl : isLeaf u = false) (h1 : callN P (k + 1) 53 [tv u] = some (.error e)) (hp : vslTo (tv t) (.int n) = some (.tup pre)) : callN P (k + 2) 53 [tv t] = some (.error e) :=
  (sp_pre H).trans ((st_yes_ret ((sp_cond rfl rfl H.hu).trans (by rw [hl]; rfl))).trans (ev_bin_err (ev_bin_err2 (ev_slTo_of (ev_var_of rfl (fr_tv t)) rfl hp) (ev_tup_err (evl_err (ev_call_of (evl_one (ev_at rfl rfl H.hu) (pl_tv u)) h1))))))
theorem sp_leaf {k : Nat} {t u : T} {kd : String} {n : Int} {s : Str} (H : Hd t u kd n) (hl : isLeaf u = true) (g1 : den u = some (.ok (.str s))) : callN P (k + 2) 53 [tv t] = StpRun k (B_L_step.drop 5) (RS t kd n (some (.str s)) none) :=
  (sp_pre H).trans (congrArg endOf ((st_no' ((sp_cond rfl rfl H.hu).trans (by rw [hl]; rfl))).trans (st_as (ev_call_of (evl_one (ev_at rfl rfl H.hu) (pl_tv u)) (c_shown k hl g1)) rfl)))
theorem stepAt_of {d : Nat} {t : T} {r : Except V V} (hr : den t = some r) (ok : ∀ v, r = .ok v → ∃ t', callN P d 53 [tv t] = some (.ok (tv t')) ∧ Nx t t') (err : ∀ e, r = .error e → callN P d 53 [tv t] = some (.error e)) : StepAt d t := by
  cases r with
  | ok v => exact .inl (ok v rfl)
  | error e => exact .inr ⟨e, err e rfl, hr⟩
/-- a leaf's text, answered -/
theorem txtT {s : Str} : V.tup [.str (Str.ofString "text"), .str s] = tv (.txt s) := rfl
theorem stepAt_res {d : Nat} {t : T} (hs : Safe t) (hz : 1 < sz t) {X : R V} (e1 : den t = R.bind X strV) (e2 : ∀ q, X = some (.ok (.str q)) → callN P d 53 [tv t] = some (.ok (tv (.txt q)))) (e3 : ∀ e, X = some (.error e) → callN P d 53 [tv t] = some (.error e)) : StepAt d t := by
  rcases hs.res.is with ⟨q, h, _⟩ | ⟨e, h, _⟩
  · exact .inl ⟨.txt q, e2 q (bindStr_ok (e1.symm.trans h)), txt_nx hs hz h⟩
  · exact .inr ⟨e, e3 e (bindStr_err (e1.symm.trans h)), h⟩
theorem sz_un {a : T} {op : Str} : 1 < sz (.un op a) := Nat.lt_add_of_pos_left (sz_pos a)
theorem hd_un {op : Str} {a : T} : Hd (.un op a) a "un" 2 := ⟨rfl, by decide, fun cl x => by kernel_rfl, rfl⟩
theorem step_un {k : Nat} (hk : 10 ≤ k + 1) {op : Str} {a : T} (hs : Safe (.un op a)) (ih : isLeaf a = false → StepAt (k + 1) a) : StepAt (k + 2) (.un op a) := by
  cases hla : isLeaf a with
  | false =>
    exact (ih hla).elim (fun ⟨a', h1, h2⟩ => .inl ⟨_, sp_go hd_un hla h1 slTo2_3 slFrom3_3 ⟨Nat.le_of_ble_eq_true rfl, Nat.le_of_ble_eq_true rfl⟩ rfl, h2.un hs⟩) fun ⟨e, h1, h2⟩ => .inr ⟨e, sp_stop hd_un hla h1 slTo2_3, by rw [den, h2]; rfl⟩
  | true =>
    have hsa := hs
    rw [Safe] at hsa
    obtain ⟨s, g1, g2⟩ := leaf_ok hla hsa.2
    have cond : ∀ (x : Option V), evalE (callN P (k + 1)) (RS (.un op a) "un" 2 (some (.str s)) x) (.cmp .eq (.var 1) (.str (Str.ofString "un"))) = some (.ok (.bool true)) := fun x => ev_cmp_of rfl rfl (eqs_t rfl)
    exact stepAt_res hs sz_un (X := callN P 10 21 [.str op, .str s]) (by rw [den, g1]; rfl)
      (fun q h => (sp_leaf hd_un hla g1).trans ((st_yes_ret (cond _)).trans (ev_tup2 rfl rfl rfl (ev_call_of (evl_two (ev_at rfl rfl rfl) rfl rfl rfl) (up10 hk h)) rfl rfl)))
      fun e h => (sp_leaf hd_un hla g1).trans ((st_yes_ret (cond _)).trans (ev_tup_err (evl_err2 rfl rfl (ev_call_of (evl_two (ev_at rfl rfl rfl) rfl rfl rfl) (up10 hk h)))))
theorem hd_bin {op : Str} {a b : T} : Hd (.bin op a b) a "bin" 2 := ⟨rfl, by decide, fun cl x => by kernel_rfl, rfl⟩
theorem sz_bin {a b : T} {op : Str} : 1 < sz (.bin op a b) := Nat.lt_add_of_pos_left (Nat.add_pos_left (sz_pos a) _)
theorem step_bin {k : Nat} (hk : 10 ≤ k + 1) {op : Str} {a b : T} (hs : Safe (.bin op a b)) (iha : isLeaf a = false → StepAt (k + 1) a) (ihb : isLeaf b = false → StepAt (k + 1) b) : StepAt (k + 2) (.bin op a b) := by
  cases hla : isLeaf a with
  | false =>
    exact (iha hla).elim (fun ⟨a', h1, h2⟩ => .inl ⟨_, sp_go hd_bin hla h1 slTo2_4 slFrom3_4 ⟨Nat.le_of_ble_eq_true rfl, Nat.le_of_ble_eq_true rfl⟩ rfl, h2.bin1 hs⟩) fun ⟨e, h1, h2⟩ => .inr ⟨e, sp_stop hd_bin hla h1 slTo2_4, by rw [den, h2]; rfl⟩
  | true =>
    have hsa := hs
    rw [Safe] at hsa
    obtain ⟨s, g1, g2⟩ := leaf_ok hla hsa.2.1
    have cn : evalE (callN P (k + 1)) (RS (.bin op a b) "bin" 2 (some (.str s)) none) (.cmp .eq (.var 1) (.str (Str.ofString "un"))) = some (.ok (.bool false)) := ev_cmp_of rfl rfl (eqs_f (by decide))
    have cy : evalE (callN P (k + 1)) (RS (.bin op a b) "bin" 2 (some (.str s)) none) (.cmp .eq (.var 1) (.str (Str.ofString "bin"))) = some (.ok (.bool true)) := ev_cmp_of rfl rfl (eqs_t rfl)
    have cb : evalE (callN P (k + 1)) (RS (.bin op a b) "bin" 2 (some (.str s)) none) (.not (.call 46 [.idx (.var 0) (.int 3)])) = some (.ok (.bool (!isLeaf b))) := sp_cond rfl rfl rfl
    have start := (sp_leaf (k := k) (hd_bin (op := op) (b := b)) hla g1).trans (congrArg endOf (st_no' cn))
    cases hlb : isLeaf b with
    | false =>
      rw [hlb] at cb
      exact (ihb hlb).elim (fun ⟨b', h1, h2⟩ => .inl ⟨_, start.trans (st_yes_ok cy ((st_yes_ret cb).trans ((ev_bin_of (ev_slTo_of (ev_var_of rfl (fr_tv (.bin op a b))) rfl slTo3_4) (ev_tup_of (evl_one (ev_call_of (evl_one (ev_at rfl rfl rfl) (pl_tv b)) h1) (pl_tv b')) (nl_cons (nl_tv b') rfl) (Nat.le_of_ble_eq_true rfl)) rfl).trans
          (congrArg (fun x => some (Except.ok x)) (show _ = tv (.bin op a b') from rfl)))) (tv_nn _)), h2.bin2 hs⟩)
        fun ⟨e, h1, h2⟩ => .inr ⟨e, start.trans (st_yes_bad cy ((st_yes_ret cb).trans (ev_bin_err2 (ev_slTo_of (ev_var_of rfl (fr_tv (.bin op a b))) rfl slTo3_4) (ev_tup_err (evl_err (ev_call_of (evl_one (ev_at rfl rfl rfl) (pl_tv b)) h1)))))), by rw [den, g1, h2]; rfl⟩
    | true =>
      rw [hlb] at cb
      obtain ⟨sb, j1, j2⟩ := leaf_ok hlb hsa.2.2
      have ar : evalL (callN P (k + 1)) (RS (.bin op a b) "bin" 2 (some (.str s)) none) [(.idx (.var 0) (.int 1)), (.var 5), (.call 47 [(.idx (.var 0) (.int 3))])] = some (.ok [.str op, .str s, .str sb]) := evl_three (ev_at rfl rfl rfl) rfl rfl rfl (ev_call_of (evl_one (ev_at rfl rfl rfl) (pl_tv b)) (c_shown k hlb j1)) rfl
      exact stepAt_res hs sz_bin (X := callN P 10 31 [.str op, .str s, .str sb]) (by rw [den, g1, j1]; rfl)
        (fun q h => start.trans (st_yes_ok cy ((congrArg endOf (st_no' cb)).trans (st_ret.trans (ev_tup2 rfl rfl rfl (ev_call_of ar (up10 hk h)) rfl rfl))) (tv_nn (.txt q))))
        fun e h => start.trans (st_yes_bad cy ((congrArg endOf (st_no' cb)).trans (st_ret.trans (ev_tup_err (evl_err2 rfl rfl (ev_call_of ar (up10 hk h)))))))
theorem ok_lim {b : Bool} : Safe (.txt (bit b)) := by rw [Safe]; exact VOk.bit b
/-- behind the first child's leaf: its truth -/
theorem sp_bool {k : Nat} (hk : 10 ≤ k + 1) {t u : T} {kd : String} {n : Int} {s : Str} (H : Hd t u kd n) (hu : ¬ kd = "un") (hb : ¬ kd = "bin") (hl : isLeaf u = true) (g1 : den u = some (.ok (.str s))) :
    (∀ e, nb (.str s) = some (.error e) → callN P (k + 2) 53 [tv t] = some (.error e)) ∧ ∀ p, nb (.str s) = some (.ok p) → callN P (k + 2) 53 [tv t] = StpRun k (B_L_step.drop 8) (RS t kd n (some (.str s)) (some (.bool p))) := by
  have start : callN P (k + 2) 53 [tv t] = StpRun k (B_L_step.drop 7) (RS t kd n (some (.str s)) none) := (sp_leaf H hl g1).trans (congrArg endOf ((st_no' (ev_cmp_of rfl rfl (eqs_f hu))).trans (st_no' (ev_cmp_of rfl rfl (eqs_f hb)))))
  refine ⟨fun e h => ?_, fun p h => ?_⟩
  · rcases nb_some h with ⟨e', q, h3⟩ | ⟨b', q, h3⟩
    · cases q; exact start.trans (st_as_err (ev_call_of (evl_one rfl rfl) (up10 hk h3)))
    · cases q
  · rcases nb_some h with ⟨e', q, h3⟩ | ⟨b', q, h3⟩
    · cases q
    · cases q; exact start.trans (congrArg endOf (st_as (ev_call_of (evl_one rfl rfl) (up10 hk h3)) rfl))
theorem hd_ite {c a b : T} : Hd (.ite c a b) c "if" 1 := ⟨rfl, by decide, fun cl x => by kernel_rfl, rfl⟩
theorem step_ite {k : Nat} (hk : 10 ≤ k + 1) {c a b : T} (hs : Safe (.ite c a b)) (ih : isLeaf c = false → StepAt (k + 1) c) : StepAt (k + 2) (.ite c a b) := by
  cases hla : isLeaf c with
  | false =>
    exact (ih hla).elim (fun ⟨a', h1, h2⟩ => .inl ⟨_, sp_go hd_ite hla h1 slTo1_4 slFrom2_4 ⟨Nat.le_of_ble_eq_true rfl, Nat.le_of_ble_eq_true rfl⟩ rfl, h2.ite hs⟩) fun ⟨e, h1, h2⟩ => .inr ⟨e, sp_stop hd_ite hla h1 slTo1_4, by rw [den, h2]; rfl⟩
  | true =>
    have hsa := hs
    rw [Safe] at hsa
    obtain ⟨s, g1, g2⟩ := leaf_ok hla hsa.2.1
    obtain ⟨k1, k2⟩ := sp_bool hk hd_ite (by decide) (by decide) hla g1
    have cy : ∀ p, evalE (callN P (k + 1)) (RS (.ite c a b) "if" 1 (some (.str s)) (some (.bool p))) (.cmp .eq (.var 1) (.str (Str.ofString "if"))) = some (.ok (.bool true)) := fun p => ev_cmp_of rfl rfl (eqs_t rfl)
    have hd : den (.ite c a b) = R.bind (nb (.str s)) fun p => if p then den a else den b := by rw [den, g1]; rfl
    obtain ⟨r, hr⟩ := hs.some
    rcases R.bind_some (hd.symm.trans hr) with ⟨e, h1, rfl⟩ | ⟨p, h1, h2⟩
    · exact .inr ⟨e, k1 e h1, hr⟩
    · cases p with
      | true => exact .inl ⟨a, (k2 _ h1).trans ((st_yes_ret (cy true)).trans (ev_ite_t rfl (ev_at rfl rfl rfl))), ⟨hsa.2.2.1, by rw [hr]; exact h2, by rw [sz]; have := sz_pos c; clear hd k1 k2; (first | lia | omega), by rw [ht]; clear hd k1 k2; (first | lia | omega)⟩⟩
      | false => exact .inl ⟨b, (k2 _ h1).trans ((st_yes_ret (cy false)).trans (ev_ite_f rfl (ev_at rfl rfl rfl))), ⟨hsa.2.2.2, by rw [hr]; exact h2, by rw [sz]; have := sz_pos c; clear hd k1 k2; (first | lia | omega), by rw [ht]; clear hd k1 k2; (first | lia | omega)⟩⟩
theorem nb_bit (b : Bool) : nb (.str (bit b)) = some (.ok b) := by
  cases b
  · have : callN P 10 7 [.str (bit false)] = some (.ok (.bool false)) := by
      have h : (match callN P 10 7 [.str (bit false)] with | some (.ok (.bool b)) => b == false | _ => false) = true := by decide +kernel
      split at h
      · rename_i e; rw [e]; simp at h; rw [h]
      · cases h
    unfold nb; rw [this]; rfl
  · have : callN P 10 7 [.str (bit true)] = some (.ok (.bool true)) := by
      have h : (match callN P 10 7 [.str (bit true)] with | some (.ok (.bool b)) => b == true | _ => false) = true := by decide +kernel
      split at h
      · rename_i e; rw [e]; simp at h; rw [h]
      · cases h
    unfold nb; rw [this]; rfl
theorem den_ite10 (b : T) : den (.ite b (.txt (bit true)) (.txt (bit false))) = R.bind (R.bind (den b) nb) fun q => some (.ok (.str (bit q))) := by
  rw [den]
  match den b with
  | none => rfl
  | some (.error e) => rfl
  | some (.ok x) =>
    simp only [R.bind_ok]
    match nb x with
    | none => rfl
    | some (.error e) => rfl
    | some (.ok p) => cases p <;> simp [den]
theorem hd_log {o : Bool} {a b : T} : Hd (.log o a b) a (logN o) 1 := by cases o <;> exact ⟨rfl, by decide, fun cl x => by kernel_rfl, rfl⟩
theorem logN_ne {o : Bool} : ¬ logN o = "un" ∧ ¬ logN o = "bin" ∧ ¬ logN o = "if" ∧ (logN o == "or") = o := by cases o <;> decide
theorem sz_log {o : Bool} {a b : T} : 1 < sz (.log o a b) := by rw [sz]; (first | lia | omega)
theorem step_log {k : Nat} (hk : 10 ≤ k + 1) {o : Bool} {a b : T} (hs : Safe (.log o a b)) (ih : isLeaf a = false → StepAt (k + 1) a) : StepAt (k + 2) (.log o a b) := by
  obtain ⟨l1, l2, l3, l4⟩ := logN_ne (o := o)
  cases hla : isLeaf a with
  | false =>
    exact (ih hla).elim (fun ⟨a', h1, h2⟩ => .inl ⟨_, sp_go hd_log hla h1 slTo1_3 slFrom2_3 ⟨Nat.le_of_ble_eq_true rfl, Nat.le_of_ble_eq_true rfl⟩ rfl, h2.log hs⟩) fun ⟨e, h1, h2⟩ => .inr ⟨e, sp_stop hd_log hla h1 slTo1_3, by rw [den, h2]; rfl⟩
  | true =>
    have hsa := hs
    rw [Safe] at hsa
    obtain ⟨s, g1, g2⟩ := leaf_ok hla hsa.2.1
    obtain ⟨k1, k2⟩ := sp_bool hk hd_log l1 l2 hla g1
    have hd : den (.log o a b) = logV o (.str s) (den b) := by rw [den, g1]; rfl
    unfold logV at hd
    obtain ⟨r, hr⟩ := hs.some
    rcases R.bind_some (hd.symm.trans hr) with ⟨e, h1, rfl⟩ | ⟨p, h1, h2⟩
    · exact .inr ⟨e, k1 e h1, hr⟩
    have c6 : evalE (callN P (k + 1)) (RS (.log o a b) (logN o) 1 (some (.str s)) (some (.bool p))) (.cmp .eq (.var 6) (.cmp .eq (.var 1) (.str (Str.ofString "or")))) = some (.ok (.bool (p == o))) :=
      (ev_cmp_of (q := p == (logN o == "or")) rfl (ev_cmp_of rfl rfl eqs_of) rfl).trans (by rw [l4])
    have start := (k2 p h1).trans (congrArg endOf (st_no' (ev_cmp_of rfl rfl (eqs_f l3))))
    by_cases hp : p = o
    · subst hp
      have hd : den (.log p a b) = some (.ok (.str (bit p))) := by rw [hr, ← h2, bne_self_eq_false]; rfl
      rw [beq_self_eq_true] at c6
      refine .inl ⟨_, start.trans ((st_yes_ret c6).trans (ev_tup2 rfl rfl rfl (v := .str (Str.ofString "text")) (w := .str (bit p)) ?_ rfl rfl)), txt_nx hs sz_log hd⟩
      cases p
      · exact ev_ite_f rfl rfl
      · exact ev_ite_t rfl rfl
    · rw [beq_eq_false_iff_ne.mpr hp] at c6
      rw [show (p != o) = true from bne_iff_ne.mpr hp] at h2
      have hd : den (.ite b (.txt (bit true)) (.txt (bit false))) = den (.log o a b) := by rw [den_ite10, hr]; exact h2
      refine .inl ⟨.ite b (.txt (bit true)) (.txt (bit false)), start.trans ((congrArg endOf (st_no' c6)).trans (st_ret.trans (ev_tup_of (evl_cons_of rfl rfl (evl_three (ev_at rfl rfl rfl) (pl_tv b) rfl rfl rfl rfl)) (nl_cons rfl (nl_cons (nl_tv b) rfl)) (Nat.le_of_ble_eq_true rfl)))), ⟨?_, hd, ?_, ?_⟩⟩
      · rw [Safe, hd]; exact ⟨hsa.1, hsa.2.2, ok_lim, ok_lim⟩
      · clear hd k1 k2; rw [sz, sz, sz, sz]; have := sz_pos a; (first | lia | omega)
      · clear hd k1 k2; rw [ht, ht, ht, ht]; (first | lia | omega)
end Mine
end
section
open PySem
namespace Mine
set_option linter.unusedVariables false
set_option linter.unusedSimpArgs false

theorem tv_txt (s : Str) : tv (.txt s) = .tup [.str (Str.ofString "text"), .str s] := by rw [tv]
theorem shown_map (d : Nat) : ∀ {l : List T} {ss : List Str}, (∀ t ∈ l, isLeaf t = true ∧ Safe t) → denL l = some (.ok (ss.map .str)) → mapR (fun v => callN P (d + 1) 47 [v]) (l.map tv) = some (.ok (ss.map .str))
  | [], ss, _, h => by rw [denL] at h; cases ss <;> cases h; rfl
  | a :: r, ss, hl, h => by
    obtain ⟨h1, h2⟩ := hl a (List.mem_cons_self ..)
    obtain ⟨s, h3, _⟩ := leaf_ok h1 h2
    rw [denL, h3] at h
    simp only [R.bind_ok] at h
    rcases R.bind_some h with ⟨e, _, q⟩ | ⟨xs, h4, h⟩
    · cases q
    cases ss with
    | nil => cases h
    | cons s' ss =>
      simp at h
      obtain ⟨rfl, rfl⟩ := h
      rw [List.map_cons, mapR, c_shown d h1 h3, shown_map d (fun t ht => hl t (List.mem_cons_of_mem _ ht)) h4]
      rfl
theorem scalars_str (ss : List Str) : scalars (some (.ok (ss.map V.str))) = some (.ok (.lst true (ss.map .str))) := by
  exact if_pos (List.all_eq_true.mpr fun v h => by obtain ⟨b, _, rfl⟩ := List.mem_map.mp h; rfl)
noncomputable def stTail : List S := [.forRange 3 (.b1 .len (.var 2)) stBody, .ret (.tup [(.str (Str.ofString "text")), (.call 37 [(.idx (.var 0) (.int 1)), (.compCall 47 (.var 2))])])]
theorem step_call {k : Nat} (hk : 10 ≤ k + 1) {f : Str} {args : List T} (hs : Safe (.call f args)) (ih : ∀ a ∈ args, isLeaf a = false → StepAt (k + 1) a) : StepAt (k + 2) (.call f args) := by
  have hsa := hs
  rw [Safe] at hsa
  have hl : args.length ≤ 1000 := by
    obtain ⟨r, hr⟩ := hs.some
    rw [den] at hr
    exact (ite_opt hr).1
  have hd0 : den (.call f args) = R.bind (denL args) fun vs => R.bind (callN P 10 37 [.str f, .lst false vs]) strV := by rw [den, if_pos hl]
  have h2 : vidx (tv (.call f args)) (.int 2) = some (.tup (args.map tv)) := congrArg (fun x => some (V.tup x)) (tvL_map args)
  have lm : (args.map tv).length = args.length := List.length_map ..
  have e2 : evalE (callN P (k + 1)) (RC f args (some (.str (Str.ofString "call"))) none) (.b1 .len (.var 2)) = some (.ok (.int args.length)) := (ev_b1_of rfl (b_len_tup (Nat.le_trans (Nat.le_of_eq lm) (Nat.le_trans hl (Nat.le_of_ble_eq_true rfl))))).trans (congrArg (fun n : Nat => some (Except.ok (V.int n))) lm)
  have fr := ex_fr (cl := callN P (k + 1)) (i := 3) (body := stBody) e2 (Nat.le_trans hl (Nat.le_of_ble_eq_true rfl))
  have start : callN P (k + 2) 53 [tv (.call f args)] = endOf (execs (callN P (k + 1)) (B_L_step.drop 1) [some (tv (.call f args)), some (.str (Str.ofString "call")), none, none, none, none, none]) := (call_of (fn := L_step) (body := B_L_step) rfl rfl rfl).trans (congrArg endOf (st_as (ev_at (t := .call f args) rfl rfl rfl) rfl))
  have cy : evalE (callN P (k + 1)) [some (tv (.call f args)), some (.str (Str.ofString "call")), none, none, none, none, none] (.cmp .eq (.var 1) (.str (Str.ofString "call"))) = some (.ok (.bool true)) := ev_cmp_of rfl rfl (eqs_t rfl)
  have e3 : execs (callN P (k + 1)) (.assign 2 (.idx (.var 0) (.int 2)) :: stTail) [some (tv (.call f args)), some (.str (Str.ofString "call")), none, none, none, none, none] = execs (callN P (k + 1)) stTail (RC f args (some (.str (Str.ofString "call"))) none) := st_as (ev_at (t := .call f args) rfl rfl h2) rfl
  have ok : ∀ t, execs (callN P (k + 1)) stTail (RC f args (some (.str (Str.ofString "call"))) none) = some (.ret (tv t)) → callN P (k + 2) 53 [tv (.call f args)] = some (.ok (tv t)) := fun t h =>
    start.trans (st_yes_ok cy (congrArg endOf (e3.trans h)) (tv_nn t))
  have bad : ∀ e ρ, execs (callN P (k + 1)) stTail (RC f args (some (.str (Str.ofString "call"))) none) = some (.exc e ρ) → callN P (k + 2) 53 [tv (.call f args)] = some (.error e) := fun e ρ h =>
    start.trans (st_yes_bad cy (congrArg endOf (e3.trans h)))
  rcases st_loop (f := f) hl ih (some (.str (Str.ofString "call"))) args [] none rfl (fun a ha => nomatch ha) with ⟨g1, g2⟩ | ⟨g1, g2, g3⟩ | ⟨g1, g2, g3, g4⟩
  · have lv : ∀ t ∈ args, isLeaf t = true ∧ Safe t := fun t ht => ⟨g1 t ht, safeL_mem hsa.2 t ht⟩
    obtain ⟨ss, s1, s2⟩ := denL_leaves lv
    have cc : compCallV (callN P (k + 1)) 47 (.tup (args.map tv)) = some (.ok (.lst true (ss.map .str))) := (if_pos (Nat.le_trans (Nat.le_of_eq lm) (Nat.le_trans hl (Nat.le_of_ble_eq_true rfl)))).trans (by rw [shown_map k lv s1, scalars_str])
    have ar : ∀ x, evalL (callN P (k + 1)) (RC f args (some (.str (Str.ofString "call"))) x) [(.idx (.var 0) (.int 1)), (.compCall 47 (.var 2))] = some (.ok [.str f, .lst true (ss.map .str)]) := fun x => evl_two (ev_at (t := .call f args) rfl rfl rfl) rfl (ev_compCall_of rfl cc) rfl
    exact stepAt_res hs (by rw [sz]; exact Nat.lt_add_of_pos_left (Nat.succ_pos _)) (hd0.trans (by rw [s1]; rfl))
      (fun q h => ok _ ((st_in_next (fr.trans g2)).trans (st_ret' (ev_tup2 rfl rfl rfl (ev_call_of (ar _) ((callN_own ..).trans (up10 hk h))) rfl rfl))))
      fun e h => bad e _ ((st_in_next (fr.trans g2)).trans (st_ret_exc (ev_tup_err (evl_err2 rfl rfl (ev_call_of (ar _) ((callN_own ..).trans (up10 hk h)))))))
  · subst g1
    exact .inl ⟨_, ok _ (st_in_ret (fr.trans g3)), g2.call hs⟩
  · subst g1
    exact .inr ⟨_, bad _ _ (st_in_exc (fr.trans g4)), by rw [hd0, denL_err _ _ (fun t ht => ⟨g2 t ht, safeL_mem hsa.2 t (List.mem_append_left _ ht)⟩) g3]; rfl⟩
theorem StepAt.up {d d' : Nat} {t : T} (h : StepAt d t) (hd : d ≤ d') : StepAt d' t := by
  rcases h with ⟨t', h1, h2⟩ | ⟨e, h1, h2⟩
  · exact .inl ⟨t', callN_le P hd _ _ _ h1, h2⟩
  · exact .inr ⟨e, callN_le P hd _ _ _ h1, h2⟩
theorem step_ok : ∀ (h : Nat) (t : T), ht t ≤ h → Safe t → isLeaf t = false → StepAt (h + 11) t := by
  intro h
  induction h with
  | zero =>
    intro t h1 hs hl
    cases t with
    | num _ => cases hl
    | txt _ => cases hl
    | _ => rw [ht] at h1; (first | lia | omega)
  | succ h ih =>
    intro t h1 hs hl
    show StepAt ((h + 10) + 2) t
    have hs' := hs
    cases t with
    | num _ => cases hl
    | txt _ => cases hl
    | un op a =>
      rw [Safe] at hs'; rw [ht] at h1
      exact step_un (by (first | lia | omega)) hs fun q => ih a (by (first | lia | omega)) hs'.2 q
    | bin op a b =>
      rw [Safe] at hs'; rw [ht] at h1
      exact step_bin (by (first | lia | omega)) hs (fun q => ih a (by (first | lia | omega)) hs'.2.1 q) (fun q => ih b (by (first | lia | omega)) hs'.2.2 q)
    | call f args =>
      rw [Safe] at hs'; rw [ht] at h1
      exact step_call (by (first | lia | omega)) hs fun a ha q => ih a (by have := ht_mem ha; (first | lia | omega)) (safeL_mem hs'.2 a ha) q
    | log o a b =>
      rw [Safe] at hs'; rw [ht] at h1
      exact step_log (by (first | lia | omega)) hs fun q => ih a (by (first | lia | omega)) hs'.2.1 q
    | ite c a b =>
      rw [Safe] at hs'; rw [ht] at h1
      exact step_ite (by (first | lia | omega)) hs fun q => ih c (by (first | lia | omega)) hs'.2.1 q
end Mine
end
section
open PySem
set_option genInjectivity false
set_option genSizeOf false
namespace Mine
set_option linter.unusedVariables false
set_option linter.unusedSimpArgs false
set_option exponentiation.threshold 5000

noncomputable def toldV : Except V V → V
  | .ok v => .tup [.str (Str.ofString "value"), v]
  | .error e => toldOf e
theorem c_told {d : Nat} {t : T} (hk : RK d t) {r : Except V V} (h : den t = some r) : callN P (d + 1) 54 [tv t] = some (.ok (toldV r)) := by
  have k : evalE (callN P d) [some (tv t), none] (.call 42 [.none, (.var 0)]) = some r := ev_call_of (evl_two rfl rfl (ev_var_of rfl (fr_tv t)) (pl_tv t)) (hk r h)
  refine (call_of (fn := L_told) (body := B_L_told) (ρ := [some (tv t), none]) rfl (fz1 t) rfl).trans ?_
  cases r with
  | error e => exact congrArg endOf (congrArg (fun o => thenX (tryOut none o) _) (st_ret_exc (ev_tup_err (evl_err2 rfl rfl k))))
  | ok v =>
    obtain ⟨s, rfl⟩ := den_str h
    exact congrArg endOf (congrArg (fun o => thenX (tryOut none o) _) (st_ret' (ev_tup2 rfl rfl rfl k rfl rfl)))
theorem vL_cons {v : V} {r : List V} {n : Nat} (h : vdepth v ≤ n) (h' : vdepthL r ≤ n) : vdepthL (v :: r) ≤ n := Nat.max_le.mpr ⟨h, h'⟩
theorem vd_up {x a n : Nat} (h : x ≤ 2 * a + 1) (ha : a ≤ n) : x ≤ 2 * n + 2 := Nat.le_succ_of_le (Nat.le_trans h (Nat.succ_le_succ (Nat.mul_le_mul_left 2 ha)))
mutual
theorem vdepth_tv : ∀ t : T, vdepth (tv t) ≤ 2 * ht t + 1
  | .num _ => Nat.le_refl _
  | .txt _ => Nat.le_refl _
  | .un _ a => Nat.succ_le_succ (vL_cons (Nat.zero_le _) (vL_cons (Nat.zero_le _) (vL_cons (vd_up (vdepth_tv a) (Nat.le_refl _)) (Nat.zero_le _))))
  | .bin _ a b => Nat.succ_le_succ (vL_cons (Nat.zero_le _) (vL_cons (Nat.zero_le _) (vL_cons (vd_up (vdepth_tv a) (Nat.le_max_left ..)) (vL_cons (vd_up (vdepth_tv b) (Nat.le_max_right ..)) (Nat.zero_le _)))))
  | .call _ args => Nat.succ_le_succ (vL_cons (Nat.zero_le _) (vL_cons (Nat.zero_le _) (vL_cons (Nat.succ_le_succ (vdepth_tvL args)) (Nat.zero_le _))))
  | .log _ a b => Nat.succ_le_succ (vL_cons (Nat.zero_le _) (vL_cons (vd_up (vdepth_tv a) (Nat.le_max_left ..)) (vL_cons (vd_up (vdepth_tv b) (Nat.le_max_right ..)) (Nat.zero_le _))))
  | .ite c a b => Nat.succ_le_succ (vL_cons (Nat.zero_le _) (vL_cons (vd_up (vdepth_tv c) (Nat.le_max_left ..)) (vL_cons (vd_up (vdepth_tv a) (Nat.le_trans (Nat.le_max_left ..) (Nat.le_max_right ..))) (vL_cons (vd_up (vdepth_tv b) (Nat.le_trans (Nat.le_max_right ..) (Nat.le_max_right ..))) (Nat.zero_le _)))))
theorem vdepth_tvL : ∀ l : List T, vdepthL (tvL l) ≤ 2 * htL l + 1
  | [] => Nat.zero_le _
  | a :: r => vL_cons (Nat.le_trans (vdepth_tv a) (Nat.succ_le_succ (Nat.mul_le_mul_left 2 (Nat.le_max_left ..)))) (Nat.le_trans (vdepth_tvL r) (Nat.succ_le_succ (Nat.mul_le_mul_left 2 (Nat.le_max_right ..))))
end
theorem vd50 {x h : Nat} (hx : x ≤ 2 * h + 1) (hh : h ≤ 20) : x + 1 ≤ 50 := Nat.le_trans (Nat.succ_le_succ (Nat.le_trans hx (Nat.succ_le_succ (Nat.mul_le_mul_left 2 hh)))) (Nat.le_of_ble_eq_true rfl)
theorem cmp_nil {args : List T} (h : htL args ≤ 20) : vcmp .eq (.tup (args.map tv)) (.tup []) = some args.isEmpty :=
  (if_pos (show vdepth (.tup (args.map tv)) ≤ 50 from vd50 (tvL_map args ▸ vdepth_tvL args) h)).trans (by cases args <;> rfl)
theorem vcmp_ne (a b : V) : vcmp .ne a b = if vdepth a ≤ 50 then (veq a b).map (!·) else none := rfl
theorem vcmp_eq (a b : V) : vcmp .eq a b = if vdepth a ≤ 50 then veq a b else none := rfl
theorem head_ne {t : T} (hl : isLeaf t = false) (hc : ∀ f args, t ≠ .call f args) : ∃ k : String, vidx (tv t) (.int 0) = some (.str (Str.ofString k)) ∧ (k == "call") = false := by
  cases t with
  | num _ => cases hl
  | txt _ => cases hl
  | call f args => exact absurd rfl (hc f args)
  | un op a => exact ⟨"un", by rw [tv]; rfl, by decide⟩
  | bin op a b => exact ⟨"bin", by rw [tv]; rfl, by decide⟩
  | ite c a b => exact ⟨"if", by rw [tv]; rfl, by decide⟩
  | log o a b => exact ⟨logN o, by rw [tv]; rfl, by cases o <;> decide⟩
theorem eq_of_veq {a b : V} {q : Bool} (hd : vdepth a ≤ 50) (h : veq a b = some q) : vcmp .eq a b = some q := (vcmp_eq a b).trans ((if_pos hd).trans h)
theorem told_eq {r : Except V V} (h : Res LIM (some r)) : vcmp .eq (toldV r) (toldV r) = some true := by
  have s0 : ∀ s : Str, veq (.str s) (.str s) = some true := fun s => congrArg some (beq_self_eq_true s)
  cases h with
  | @ok s a b => exact eq_of_veq (a := .tup [.str (Str.ofString "value"), .str s]) (Nat.le_of_ble_eq_true rfl) (show veqL [.str (Str.ofString "value"), .str s] [.str (Str.ofString "value"), .str s] = some true by rw [veqL_cons, veqL_cons, s0, s0]; rfl)
  | err he =>
    obtain ⟨m, ts, rfl, hl⟩ := he
    have e1 : vdepthL (ts.map V.str) ≤ 0 := by
      clear hl
      induction ts with
      | nil => exact Nat.le_refl _
      | cons a r ih => exact vL_cons (Nat.le_refl _) ih
    have e2 : veqL (ts.map V.str) (ts.map V.str) = some true := by
      clear hl e1
      induction ts with
      | nil => rfl
      | cons a r ih => rw [List.map_cons, veqL_cons, s0, ih]; rfl
    have e3 : vdepth (toldV (.error (.exc (.int 1) (.str m) (.tup (ts.map .str))))) ≤ 50 := Nat.le_trans (Nat.succ_le_succ (vL_cons (n := 1) (Nat.zero_le _) (vL_cons (Nat.zero_le _) (vL_cons (Nat.zero_le _) (vL_cons (Nat.succ_le_succ e1) (Nat.zero_le _)))))) (Nat.le_of_ble_eq_true rfl)
    exact eq_of_veq e3 (by
      show veqL [.str (Str.ofString "fault"), .int 1, .str m, .tup (ts.map .str)] [.str (Str.ofString "fault"), .int 1, .str m, .tup (ts.map .str)] = _
      rw [veqL_cons, veqL_cons, veqL_cons, veqL_cons, s0, s0, veq_tup, e2]; rfl)
theorem told_ne {r : Except V V} (h : Res LIM (some r)) : vcmp .ne (toldV r) (toldV r) = some false := by
  obtain ⟨h1, h2⟩ := ite_opt (show (if vdepth (toldV r) ≤ 50 then veq (toldV r) (toldV r) else none) = some true from told_eq h)
  exact (if_pos h1).trans (congrArg (Option.map (!·)) h2)

/-- a form of the same value -/
structure Sm (t t' : T) : Prop where
  den : den t' = den t
  ht : ht t' ≤ ht t
noncomputable def SwapAt (d : Nat) (t : T) : Prop := ∀ way : Int, ∃ t', callN P d 55 [tv t, .int way] = some (.ok (tv t')) ∧ Sm t t'
theorem fdivw (w : Int) {k : Int} (h0 : k ≠ 0) (hk : Bd 10 k) : arith .fdiv (.int w) (.int k) = some (.int (Int.fdiv w k)) := ar_fdiv h0 (no_pylong hk (by decide))
theorem ar_mod (w : Int) {k : Int} (h0 : k ≠ 0) : arith .mod (.int w) (.int k) = some (.int (Int.fmod w k)) := by
  show (if k = 0 then none else some (V.int (Int.fmod w k))) = _
  rw [if_neg h0]
theorem fmod_range (w : Int) {k : Int} (h : 0 < k) : 0 ≤ Int.fmod w k ∧ Int.fmod w k < k := by
  rw [Int.fmod_eq_emod_of_nonneg _ (by (first | lia | omega))]
  exact ⟨Int.emod_nonneg _ (by (first | lia | omega)), Int.emod_lt_of_pos _ h⟩
theorem sw_told {r : Except V V} {t : T} (hs : Res LIM (some r)) (hr : den t = some r) : (∃ s, toldV r = .tup [.str (Str.ofString "value"), .str s] ∧ den t = some (.ok (.str s))) ∨ ∃ a b c, toldV r = .tup [.str (Str.ofString "fault"), a, b, c] := by
  cases hs with
  | ok a b => exact .inl ⟨_, rfl, hr⟩
  | err he => obtain ⟨m, ts, rfl, _⟩ := he; exact .inr ⟨_, _, _, rfl⟩
theorem Sm.refl (t : T) : Sm t t := ⟨rfl, Nat.le_refl _⟩
theorem Sm.txt {t : T} {s : Str} (h : Mine.den t = some (.ok (.str s))) : Sm t (.txt s) := ⟨by rw [h, Mine.den], by rw [Mine.ht]; (first | lia | omega)⟩
/-- the first half of swapped -/
theorem swap_pre {d : Nat} {t : T} (hs : Safe t) (hh : ht t ≤ 20) (hk : RK (d + 1) t) (way : Int)
    (rest : isLeaf t = false → (∀ f, t ≠ .call f []) → ∃ t', endOf (execs (callN P (d + 2)) (B_L_swapped.drop 2) [some (tv t), some (.int way), none, none, none]) = some (.ok (tv t')) ∧ Sm t t') :
    ∃ t', callN P (d + 3) 55 [tv t, .int way] = some (.ok (tv t')) ∧ Sm t t' := by
  have e0 : callN P (d + 3) 55 [tv t, .int way] = endOf (execs (callN P (d + 2)) B_L_swapped [some (tv t), some (.int way), none, none, none]) := call_of (fn := L_swapped) (body := B_L_swapped) rfl (fz2 t way) rfl
  have v0 : evalE (callN P (d + 2)) [some (tv t), some (.int way), none, none, none] (.var 0) = some (.ok (tv t)) := ev_var_of rfl (fr_tv t)
  have lf : evalE (callN P (d + 2)) [some (tv t), some (.int way), none, none, none] (.call 46 [(.var 0)]) = some (.ok (.bool (isLeaf t))) := ev_call_of (evl_one v0 (pl_tv t)) (c_isleaf (d + 1) t)
  cases hl : isLeaf t with
  | true =>
    rw [hl] at lf
    exact ⟨t, e0.trans ((st_yes_ret (ev_or_t lf)).trans v0), .refl t⟩
  | false =>
    rw [hl] at lf
    by_cases hc : ∃ f, t = .call f []
    · obtain ⟨f, rfl⟩ := hc
      exact ⟨_, e0.trans ((st_yes_ret (ev_or_f lf (ev_and_t (ev_cmp_of (ev_at (t := .call f []) rfl rfl rfl) rfl (eqs_t rfl)) (ev_cmp_of (ev_at (t := .call f []) rfl rfl rfl) rfl rfl)))).trans v0), .refl _⟩
    · have first : execs (callN P (d + 2)) B_L_swapped [some (tv t), some (.int way), none, none, none] = execs (callN P (d + 2)) (B_L_swapped.drop 1) [some (tv t), some (.int way), none, none, none] := by
        by_cases hcall : ∃ f args, t = .call f args
        · obtain ⟨f, args, rfl⟩ := hcall
          have h3 := cmp_nil (args := args) (Nat.le_of_succ_le hh)
          rw [show args.isEmpty = false by cases args with
            | nil => exact absurd ⟨f, rfl⟩ hc
            | cons a r => rfl] at h3
          exact st_no' (ev_or_f lf (ev_and_t (ev_cmp_of (ev_at (t := .call f args) rfl rfl rfl) rfl (eqs_t rfl)) (ev_cmp_of (ev_at (t := .call f args) rfl rfl (congrArg (fun x => some (V.tup x)) (tvL_map args))) rfl h3)))
        · obtain ⟨k, h0, h1⟩ := head_ne hl (fun f args q => hcall ⟨f, args, q⟩)
          exact st_no' (ev_or_f lf (ev_and_f (ev_cmp_of (ev_at rfl rfl h0) rfl (eqs_of.trans (congrArg some h1)))))
      have cw : evalE (callN P (d + 2)) [some (tv t), some (.int way), none, none, none] (.cmp .eq (.bin .mod (.var 1) (.int 4)) (.int 0)) = some (.ok (.bool (Int.fmod way 4 == 0))) := ev_cmp_of (ev_bin_of rfl rfl (ar_mod way (by decide))) rfl rfl
      cases hw : (Int.fmod way 4 == 0) with
      | true =>
        rw [hw] at cw
        obtain ⟨r, hr⟩ := hs.some
        have hres := hs.res
        rw [hr] at hres
        have tl : evalE (callN P (d + 2)) [some (tv t), some (.int way), none, none, none] (.call 54 [(.var 0)]) = some (.ok (toldV r)) := ev_call_of (evl_one v0 (pl_tv t)) (c_told hk hr)
        rcases sw_told hres hr with ⟨s, q1, q2⟩ | ⟨a, b, c, q1⟩
        · rw [q1] at tl
          exact ⟨.txt s, e0.trans ((congrArg endOf first).trans (st_yes_as_ret cw tl rfl (ev_ite_t (ev_cmp_of (ev_idx_of rfl rfl rfl) rfl (eqs_t rfl)) (ev_tup2 rfl rfl rfl (ev_idx_of rfl rfl rfl) rfl rfl)))), .txt q2⟩
        · rw [q1] at tl
          exact ⟨t, e0.trans ((congrArg endOf first).trans (st_yes_as_ret cw tl rfl (ev_ite_f (ev_cmp_of (ev_idx_of rfl rfl rfl) rfl (eqs_f (by decide))) (ev_var_of rfl (fr_tv t))))), .refl t⟩
      | false =>
        rw [hw] at cw
        obtain ⟨t', h1, h2⟩ := rest hl (fun f q => hc ⟨f, q⟩)
        exact ⟨t', e0.trans ((congrArg endOf (first.trans (st_no' cw))).trans h1), h2⟩
end Mine
end
section
open PySem
namespace Mine
set_option linter.unusedVariables false
set_option linter.unusedSimpArgs false

theorem b_len_tupS {vs : List V} : builtin1 .len (.tup vs) = if vs.length ≤ 1000000000 then some (.int vs.length) else none := rfl
section
variable {a b c d : V}
theorem slTo2_3' : vslTo (.tup [a, b, c]) (.int 2) = some (.tup [a, b]) := rfl
theorem slFrom3_3' : vslFrom (.tup [a, b, c]) (.int 3) = some (.tup []) := rfl
theorem slFrom4_4 : vslFrom (.tup [a, b, c, d]) (.int 4) = some (.tup []) := rfl
end
theorem fm2 {x : Int} (h : 0 ≤ x ∧ x < 2) : x = 0 ∨ x = 1 := by (first | lia | omega)
theorem fm3 {x : Int} (h : 0 ≤ x ∧ x < 3) : x = 0 ∨ x = 1 ∨ x = 2 := by (first | lia | omega)
theorem fm1 {x : Int} (h : 0 ≤ x ∧ x < 1) : x = 0 := by (first | lia | omega)
section
variable {a b c a' : T}
theorem Sm.un {op : Str} (g : Sm a a') : Sm (.un op a) (.un op a') := ⟨by rw [Mine.den, Mine.den, g.den], by rw [Mine.ht, Mine.ht]; exact Nat.succ_le_succ g.ht⟩
theorem Sm.bin1 {op : Str} (g : Sm a a') : Sm (.bin op a b) (.bin op a' b) := ⟨by rw [Mine.den, Mine.den, g.den], by rw [Mine.ht, Mine.ht]; exact Nat.succ_le_succ (mx g.ht (Nat.le_refl _))⟩
theorem Sm.bin2 {op : Str} (g : Sm a a') : Sm (.bin op b a) (.bin op b a') := ⟨by rw [Mine.den, Mine.den, g.den], by rw [Mine.ht, Mine.ht]; exact Nat.succ_le_succ (mx (Nat.le_refl _) g.ht)⟩
theorem Sm.log1 {o : Bool} (g : Sm a a') : Sm (.log o a b) (.log o a' b) := ⟨by rw [Mine.den, Mine.den, g.den], by rw [Mine.ht, Mine.ht]; exact Nat.succ_le_succ (mx g.ht (Nat.le_refl _))⟩
theorem Sm.log2 {o : Bool} (g : Sm a a') : Sm (.log o b a) (.log o b a') := ⟨by rw [Mine.den, Mine.den, g.den], by rw [Mine.ht, Mine.ht]; exact Nat.succ_le_succ (mx (Nat.le_refl _) g.ht)⟩
theorem Sm.ite1 (g : Sm a a') : Sm (.ite a b c) (.ite a' b c) := ⟨by rw [Mine.den, Mine.den, g.den], by rw [Mine.ht, Mine.ht]; exact Nat.succ_le_succ (mx g.ht (Nat.le_refl _))⟩
theorem Sm.ite2 (g : Sm a a') : Sm (.ite b a c) (.ite b a' c) := ⟨by rw [Mine.den, Mine.den, g.den], by rw [Mine.ht, Mine.ht]; exact Nat.succ_le_succ (mx (Nat.le_refl _) (mx g.ht (Nat.le_refl _)))⟩
theorem Sm.ite3 (g : Sm a a') : Sm (.ite b c a) (.ite b c a') := ⟨by rw [Mine.den, Mine.den, g.den], by rw [Mine.ht, Mine.ht]; exact Nat.succ_le_succ (mx (Nat.le_refl _) (mx (Nat.le_refl _) g.ht))⟩
end
theorem sw_mod {w k m : Int} (h : k ≠ 0) (e : Int.fmod w k = m) : arith .mod (.int w) (.int k) = some (.int m) := (ar_mod w h).trans (by rw [e])
theorem swap_gen {cl : Nat → List V → R V} {vs l1 l2 : List V} {way w v k n m : Int} {a a' : T}
    (htag : evalE cl [some (.tup vs), some (.int way), none, none, none] (.cmp .eq (.idx (.var 0) (.int 0)) (.str (Str.ofString "call"))) = some (.ok (.bool false)))
    (hsel : evalE cl [some (.tup vs), some (.int way), none, none, none] (.ite (.isIn false (.idx (.var 0) (.int 0)) (.tup [(.str (Str.ofString "un")), (.str (Str.ofString "bin"))])) (.int 2) (.int 1)) = some (.ok (.int k)))
    (hn : builtin1 .len (.tup vs) = some (.int n)) (w4 : arith .fdiv (.int way) (.int 4) = some (.int w)) (hm : arith .mod (.int w) (.int (n - k)) = some (.int m)) (hx : vidx (.tup vs) (.int (k + m)) = some (tv a)) (w16 : arith .fdiv (.int way) (.int 16) = some (.int v))
    (g1 : cl 55 [tv a, .int v] = some (.ok (tv a'))) (hto : vslTo (.tup vs) (.int (k + m)) = some (.tup l1)) (hfr : vslFrom (.tup vs) (.int (k + m + 1)) = some (.tup l2)) (hl : Nat.ble (l1.length + l2.length) 900 = true) :
    endOf (execs cl (B_L_swapped.drop 2) [some (.tup vs), some (.int way), none, none, none]) = some (.ok (.tup (l1 ++ [tv a'] ++ l2))) := by
  have hl := Nat.le_of_ble_eq_true hl
  have h1 : l1.length + 1 ≤ 1000000 := by (first | lia | omega)
  have h2 : l1.length + 1 + l2.length ≤ 1000000 := by (first | lia | omega)
  refine (congrArg endOf (st_no' htag)).trans ((congrArg endOf (st_as hsel rfl)).trans ((congrArg endOf (st_as (v := .int (k + m)) ?_ rfl)).trans (st_ret.trans ?_)))
  · simp [w4, hn, hm]
  · simp [hto, hx, w16, g1, hfr, h1, h2]
theorem swap_ok : ∀ (h : Nat) (t : T), ht t ≤ h → h ≤ 20 → Safe t → SwapAt (3 * h + 16) t := by
  intro h
  induction h with
  | zero =>
    intro t h1 h2 hs way
    refine swap_pre (d := 13) hs (by (first | lia | omega)) (reckon_den 0 t h1 (by (first | lia | omega)) _ (by (first | lia | omega))) way fun hl _ => ?_
    cases t with
    | num _ => cases hl
    | txt _ => cases hl
    | _ => rw [ht] at h1; (first | lia | omega)
  | succ h ih =>
    intro t h1 h2 hs way
    have hs' := hs
    refine swap_pre (d := 3 * h + 16) hs (by (first | lia | omega)) (reckon_den (h + 1) t h1 (by (first | lia | omega)) _ (by (first | lia | omega))) way fun hl hc => ?_
    have up : ∀ (u : T), ht u ≤ h → Safe u → ∃ u', callN P (3 * h + 18) 55 [tv u, .int (Int.fdiv way 16)] = some (.ok (tv u')) ∧ Sm u u' := fun u hu hsu => by
      obtain ⟨u', g1, g2⟩ := ih u hu (by (first | lia | omega)) hsu (Int.fdiv way 16)
      exact ⟨u', callN_le P (by (first | lia | omega)) _ _ _ g1, g2⟩
    have w4 := fdivw way (k := 4) (by decide) (by unfold Bd; decide)
    have w16 := fdivw way (k := 16) (by decide) (by unfold Bd; decide)
    generalize Int.fdiv way 4 = w at w4
    generalize Int.fdiv way 16 = v at w16 up
    cases t with
    | num _ => cases hl
    | txt _ => cases hl
    | un op a =>
      rw [Safe] at hs'; rw [ht] at h1
      obtain ⟨a', g1, g2⟩ := up a (Nat.le_of_succ_le_succ h1) hs'.2
      exact ⟨.un op a', swap_gen (l1 := [_, _]) (l2 := []) (n := 3) (by kernel_rfl) rfl rfl w4 (sw_mod (k := 1) (by decide) (fm1 (fmod_range w (k := 1) (by decide)))) rfl w16 g1 rfl rfl rfl, g2.un⟩
    | bin op a b =>
      rw [Safe] at hs'; rw [ht] at h1
      rcases fm2 (fmod_range w (k := 2) (by decide)) with m | m
      · obtain ⟨a', g1, g2⟩ := up a (le_1 h1) hs'.2.1
        exact ⟨.bin op a' b, swap_gen (l1 := [_, _]) (l2 := [_]) (n := 4) (by kernel_rfl) rfl rfl w4 (sw_mod (k := 2) (by decide) m) rfl w16 g1 rfl rfl rfl, g2.bin1⟩
      · obtain ⟨a', g1, g2⟩ := up b (le_2 h1) hs'.2.2
        exact ⟨.bin op a a', swap_gen (l1 := [_, _, _]) (l2 := []) (n := 4) (by kernel_rfl) rfl rfl w4 (sw_mod (k := 2) (by decide) m) rfl w16 g1 rfl rfl rfl, g2.bin2⟩
    | log o a b =>
      rw [Safe] at hs'; rw [ht] at h1
      rcases fm2 (fmod_range w (k := 2) (by decide)) with m | m
      · obtain ⟨a', g1, g2⟩ := up a (le_1 h1) hs'.2.1
        exact ⟨.log o a' b, swap_gen (l1 := [_]) (l2 := [_]) (k := 1) (n := 3) (by cases o <;> kernel_rfl) (by cases o <;> kernel_rfl) rfl w4 (sw_mod (k := 2) (by decide) m) rfl w16 g1 rfl rfl rfl, g2.log1⟩
      · obtain ⟨a', g1, g2⟩ := up b (le_2 h1) hs'.2.2
        exact ⟨.log o a a', swap_gen (l1 := [_, _]) (l2 := []) (k := 1) (n := 3) (by cases o <;> kernel_rfl) (by cases o <;> kernel_rfl) rfl w4 (sw_mod (k := 2) (by decide) m) rfl w16 g1 rfl rfl rfl, g2.log2⟩
    | ite c a b =>
      rw [Safe] at hs'; rw [ht] at h1
      rcases fm3 (fmod_range w (k := 3) (by decide)) with m | m | m
      · obtain ⟨a', g1, g2⟩ := up c (le_1 h1) hs'.2.1
        exact ⟨.ite a' a b, swap_gen (l1 := [_]) (l2 := [_, _]) (n := 4) (by kernel_rfl) rfl rfl w4 (sw_mod (k := 3) (by decide) m) rfl w16 g1 rfl rfl rfl, g2.ite1⟩
      · obtain ⟨a', g1, g2⟩ := up a (le_3 h1) hs'.2.2.1
        exact ⟨.ite c a' b, swap_gen (l1 := [_, _]) (l2 := [_]) (n := 4) (by kernel_rfl) rfl rfl w4 (sw_mod (k := 3) (by decide) m) rfl w16 g1 rfl rfl rfl, g2.ite2⟩
      · obtain ⟨a', g1, g2⟩ := up b (le_4 h1) hs'.2.2.2
        exact ⟨.ite c a a', swap_gen (l1 := [_, _, _]) (l2 := []) (n := 4) (by kernel_rfl) rfl rfl w4 (sw_mod (k := 3) (by decide) m) rfl w16 g1 rfl rfl rfl, g2.ite3⟩
    | call f args =>
      rw [Safe] at hs'; rw [ht] at h1
      have hne : args ≠ [] := fun q => hc f (by rw [q])
      have hpos : 0 < args.length := List.length_pos_iff.mpr hne
      obtain ⟨r, hr⟩ := hs.some
      have hll : args.length ≤ 1000 := by
        rw [den] at hr
        split at hr
        · assumption
        · cases hr
      obtain ⟨m1, m2⟩ := fmod_range w (k := args.length) (by (first | lia | omega))
      obtain ⟨i, hi⟩ : ∃ i : Nat, Int.fmod w args.length = i := ⟨(Int.fmod w args.length).toNat, by (first | lia | omega)⟩
      rw [hi] at m1 m2
      have him : i < args.length := by (first | lia | omega)
      obtain ⟨pre, a, post, he, hpl⟩ : ∃ pre a post, args = pre ++ a :: post ∧ pre.length = i := ⟨args.take i, args[i], args.drop (i + 1), by rw [List.getElem_cons_drop, List.take_append_drop], by rw [List.length_take]; (first | lia | omega)⟩
      have ha : a ∈ args := by rw [he]; simp
      obtain ⟨a', g1, g2⟩ := up a (by have := ht_mem ha; (first | lia | omega)) (safeL_mem hs'.2 a ha)
      refine ⟨.call f (pre ++ a' :: post), ?_, ⟨?_, ?_⟩⟩
      · have h0 : vidx (tv (.call f args)) (.int 0) = some (.str (Str.ofString "call")) := by rw [tv]; rfl
        have h1 : vidx (tv (.call f args)) (.int 1) = some (.str f) := by rw [tv]; rfl
        have h2 : vidx (tv (.call f args)) (.int 2) = some (.tup (args.map tv)) := by rw [tv, tvL_map]; rfl
        have hlen := b_len_tup (vs := args.map tv) (by simp; (first | lia | omega))
        simp only [List.length_map] at hlen
        have hget : (args.map tv)[i]? = some (tv a) := by rw [he, ← hpl]; simp
        have hix := vidx_tup (i := (i : Nat)) rfl (by (first | lia | omega)) hget
        have sto := slTo_tup (vs := args.map tv) (k := i) (by simp; (first | lia | omega)) (by simp; (first | lia | omega))
        have sfr := slFrom_tup (vs := args.map tv) (i := (i : Int) + 1) (k := i + 1) (by (first | lia | omega)) (by simp; (first | lia | omega)) (by simp; (first | lia | omega))
        have e1 : (args.map tv).take i = pre.map tv := by rw [he, ← hpl]; simp
        have e2 : (args.map tv).drop (i + 1) = post.map tv := by
          rw [he, ← hpl, List.map_append, List.map_cons, show pre.length + 1 = (pre.map tv ++ [tv a]).length by simp, show pre.map tv ++ tv a :: post.map tv = (pre.map tv ++ [tv a]) ++ post.map tv by simp, List.drop_left]
        rw [e1] at sto
        rw [e2] at sfr
        have hl2 : pre.length + 1 + post.length ≤ 1000 := by rw [he] at hll; simp at hll; (first | lia | omega)
        have am := ar_mod w (k := args.length) (by (first | lia | omega))
        rw [hi] at am
        have res : tv (.call f (pre ++ a' :: post)) = .tup [.str (Str.ofString "call"), .str f, .tup (pre.map tv ++ tv a' :: post.map tv)] := by rw [tv, tvL_map]; simp
        rw [res]
        simp [B_L_swapped, exs_cons, h0, h1, h2, hlen, hix, w4, w16, am, sto, sfr, g1, show pre.length + 1 ≤ 1000000 by (first | lia | omega), show pre.length + 1 + post.length ≤ 1000000 by (first | lia | omega)]
      · have := denL_upd pre post g2.den
        rw [den, den, he, this]
        simp only [List.length_append, List.length_cons]
      · rw [ht, ht, he]; have := ht_upd pre post g2.ht; (first | lia | omega)
end Mine
end
section
open PySem
namespace Mine
set_option linter.unusedVariables false
set_option linter.unusedSimpArgs false

theorem try_exc {d : Nat} {e v : V} {ρ : Rho} {q : Bool} (hg : get ρ d = some v) (h : vcmp .eq v (toldOf e) = some q) : tryOut (some d) (some (.exc e ρ)) = some (.ret (.bool q)) := by
  show (match (get ρ d).bind fun v => vcmp .eq v (toldOf e) with | some b => some (Out.ret (.bool b)) | none => none) = _
  rw [hg]
  show (match vcmp .eq v (toldOf e) with | some b => some (Out.ret (.bool b)) | none => none) = _
  rw [h]
@[reducible] noncomputable def RY (u : T) (way : Int) (x2 x3 : Option V) : Rho := [some (tv u), some (.int way), x2, x3]
noncomputable def styC : E := .not (.call 46 [(.var 0)])
noncomputable def styB : List S := [.try [.assign 0 (.call 53 [(.var 0)])] 3 (some 2), .ite (.cmp .ne (.call 54 [(.var 0)]) (.var 2)) [.ret (.bool false)] []]
/-- what the loop of steady keeps -/
structure StyAt (r : Except V V) (u : T) : Prop where
  safe : Safe u
  den : den u = some r
  ht : ht u ≤ 20
theorem sty_tell {r : Except V V} {u : T} {d : Nat} (h : StyAt r u) (hd : 79 ≤ d) : callN P (d + 1) 54 [tv u] = some (.ok (toldV r)) := c_told ((reckon_den 20 u h.ht (by decide) _ (by decide)).up hd) h.den
theorem sty_c {u : T} {way : Int} {x2 x3 : Option V} : evalE (callN P 80) (RY u way x2 x3) styC = some (.ok (.bool (!isLeaf u))) := ev_not_of (ev_call_of (evl_one (ev_var_of rfl (fr_tv u)) (pl_tv u)) (c_isleaf 79 u))
theorem sty_loop {r : Except V V} {t : T} (ne : vcmp .ne (toldV r) (toldV r) = some false) (eq : vcmp .eq (toldV r) (toldV r) = some true) (pl2 : freeze (toldV r) = some (toldV r)) (h : StyAt r t) (hz : sz t < 2 ^ 100) (way : Int) :
    ∃ o, exec (callN P 80) (.while styC styB) (RY t way (some (toldV r)) none) = some o ∧ (o = .ret (.bool true) ∨ ∃ u, isLeaf u = true ∧ StyAt r u ∧ o = .next (RY u way (some (toldV r)) none)) := by
  refine while_rule (fun k ρ => ∃ u, StyAt r u ∧ sz u = k ∧ ρ = RY u way (some (toldV r)) none) ?_ hz ⟨t, h, rfl, rfl⟩
  rintro k ρ ⟨u, h, rfl, rfl⟩
  have c := sty_c (u := u) (way := way) (x2 := some (toldV r)) (x3 := none)
  cases hl : isLeaf u with
  | true => rw [hl] at c; exact .stop c (.inr ⟨u, hl, h, rfl⟩)
  | false =>
    rw [hl] at c
    rcases (step_ok 20 u h.ht h.safe hl).up (show 20 + 11 ≤ 80 by decide) with ⟨u', s1, s2⟩ | ⟨e, s1, s2⟩
    · have h' : StyAt r u' := ⟨s2.safe, s2.den.trans h.den, Nat.le_trans s2.ht h.ht⟩
      have e1 : exec (callN P 80) (.try [.assign 0 (.call 53 [(.var 0)])] 3 (some 2)) (RY u way (some (toldV r)) none) = some (.next (RY u' way (some (toldV r)) none)) := congrArg (tryOut (some 2)) (st_as (ev_call_of (evl_one (ev_var_of rfl (fr_tv u)) (pl_tv u)) s1) (st_tv u'))
      exact .go c ((st_in_next e1).trans (st_no' (ev_cmp_of (ev_call_of (evl_one (ev_var_of rfl (fr_tv u')) (pl_tv u')) (sty_tell h' (Nat.le_refl _))) (ev_var_of rfl pl2) ne))) ⟨sz u', s2.sz, u', h', rfl, rfl⟩
    · cases h.den.symm.trans s2
      have e1 : exec (callN P 80) (.try [.assign 0 (.call 53 [(.var 0)])] 3 (some 2)) (RY u way (some (toldV (.error e))) none) = some (.ret (.bool true)) := (congrArg (tryOut (some 2)) (st_as_exc (ev_call_of (evl_one (ev_var_of rfl (fr_tv u)) (pl_tv u)) s1))).trans (try_exc rfl eq)
      exact .ret c (st_in_ret e1) (.inl rfl)
theorem c_steady {t : T} (hs : Safe t) (hh : ht t ≤ 20) (hz : sz t < 2 ^ 100) (way : Int) : callN P 81 56 [tv t, .int way] = some (.ok (.bool true)) := by
  obtain ⟨r, hr⟩ := hs.some
  have hres := hs.res
  rw [hr] at hres
  have ne := told_ne hres
  have eq := told_eq hres
  obtain ⟨t', g1, g2⟩ := swap_ok 20 t hh (by decide) hs way
  have H : StyAt r t := ⟨hs, hr, hh⟩
  have t1 : callN P 80 54 [tv t'] = some (.ok (toldV r)) := c_told (reckon_den 20 t' (Nat.le_trans g2.ht hh) (by decide) _ (by decide)) (g2.den.trans hr)
  obtain ⟨pl1, pl2, pl3⟩ : plain (toldV r) = true ∧ freeze (toldV r) = some (toldV r) ∧ storable (toldV r) = true := by
    cases hres with
    | ok _ _ => exact ⟨rfl, rfl, rfl⟩
    | err he => obtain ⟨m, ts, rfl, _⟩ := he; exact ⟨rfl, rfl, rfl⟩
  obtain ⟨o, l1, l2⟩ := sty_loop ne eq pl2 H hz way
  have start : callN P 81 56 [tv t, .int way] = endOf (execs (callN P 80) (.while styC styB :: B_L_is_steady.drop 3) (RY t way (some (toldV r)) none)) := (call_of (fn := L_is_steady) (body := B_L_is_steady) (ρ := RY t way none none) rfl (fz2 t way) rfl).trans
    (congrArg endOf ((st_as (ev_call_of (evl_one (ev_var_of rfl (fr_tv t)) (pl_tv t)) (sty_tell H (Nat.le_refl _))) pl3).trans
      (st_no' (ev_cmp_of (ev_call_of (evl_one (ev_call_of (evl_two (ev_var_of rfl (fr_tv t)) (pl_tv t) rfl rfl) (callN_le P (show 3 * 20 + 16 ≤ 80 by decide) _ _ _ g1)) (pl_tv t')) t1) (ev_var_of rfl pl2) ne))))
  rcases l2 with rfl | ⟨u, u1, hu, rfl⟩
  · exact start.trans (congrArg endOf (st_in_ret l1))
  · obtain ⟨s, v1, v2⟩ := leaf_ok u1 hu.safe
    cases hu.den.symm.trans v1
    exact start.trans ((congrArg endOf (st_in_next l1)).trans (st_ret.trans (ev_cmp_of (ev_var_of rfl pl2) (ev_tup2 rfl rfl rfl (ev_call_of (evl_one (ev_var_of rfl (fr_tv u)) (pl_tv u)) (c_shown 79 u1 v1)) rfl rfl) eq)))
end Mine
end
section
open PySem
set_option genInjectivity false
set_option genSizeOf false
namespace Mine
set_option linter.unusedVariables false
set_option linter.unusedSimpArgs false
set_option exponentiation.threshold 5000

theorem bind_res {b : Nat} {r : R V} (h : Res b r) : R.bind r strV = r := by
  cases h with
  | ok _ _ => rfl
  | err _ => rfl
noncomputable def isBit (t : T) : Bool := T.casesOn t (fun _ => false) (fun _ => false) (fun op _ => op == Str.ofString "!") (fun op _ _ => !((arOps.map Str.ofString).any (· == op))) (fun _ _ => false) (fun _ _ _ => true) fun _ _ _ => false
noncomputable def Bits (k : Nat) (t : T) : Prop := ∀ s, den t = some (.ok (.str s)) → WB k s
/-- a tree of n draws, at most h high -/
structure G (n h : Nat) (t : T) : Prop where
  safe : Safe t
  bd : Bits (56 * n + 40) t
  sz : sz t ≤ 5 * n
  ht : ht t ≤ h
  pos : 1 ≤ n
  leaf : isLeaf t = true → (∃ z, t = .num z ∧ Bd 69 z) ∨ ∃ s ∈ texts, t = .txt s
  bit : isBit t = true → Bits 1 t ∧ ∀ s, den t = some (.ok (.str s)) → ∀ y, W s = some y → y ≤ 1
theorem n31 {n : Nat} (h : n ≤ 31) : 56 * (n + 1) + 40 ≤ LIM := Nat.le_trans (Nat.add_le_add_right (Nat.mul_le_mul_left 56 (Nat.succ_le_succ h)) 40) (Nat.le_of_ble_eq_true rfl)
theorem m56 {a b : Nat} (h : a ≤ b) : 56 * a + 40 ≤ 56 * b + 40 := Nat.add_le_add_right (Nat.mul_le_mul_left 56 h) 40
theorem c40 {k n : Nat} (h : k ≤ 40) : k ≤ 56 * n + 40 := Nat.le_trans h (Nat.le_add_left ..)
theorem sz_1 {a n : Nat} (h : a ≤ 5 * n) : a + 1 ≤ 5 * (n + 1) := Nat.add_le_add h (Nat.le_of_ble_eq_true rfl)
theorem sz_2 {a b n m k : Nat} (ha : a ≤ 5 * n) (hb : b ≤ 5 * m) (hk : k ≤ 5) : a + b + k ≤ 5 * (n + m + 1) := Nat.le_trans (Nat.add_le_add (Nat.add_le_add ha hb) hk) (Nat.le_of_eq (congrArg (· + 5) (Nat.mul_add 5 n m).symm))
theorem res_bits {b : Nat} {t : T} (h : Res b (den t)) : Bits b t := fun s e => by
  rw [e] at h
  cases h with
  | ok _ w => exact w
theorem LIM_eq : LIM = 1850 := rfl
theorem W_text {s : Str} (h : s ∈ texts) {n : Int} (e : W s = some n) : -64 ≤ n ∧ n < 64 := by
  have := List.all_eq_true.mp LIM_W _ h
  rw [e] at this
  simpa using this
theorem den_num {n : Int} (h : Bd LIM n) : den (.num n) = some (.ok (.str (itoa n))) := by rw [den, b_str h]; rfl
theorem G.bits_leaf {n h : Nat} {t : T} (g : G n h t) (hl : isLeaf t = true) : Bits 69 t := by
  rcases g.leaf hl with ⟨z, rfl, hz⟩ | ⟨s, hs, rfl⟩
  · intro s e
    rw [den_num (hz.mono (by decide))] at e
    cases e
    exact WB_itoa hz (by decide)
  · intro s' e
    rw [den] at e
    cases e
    intro n hn
    have := W_text hs hn
    exact Bd.mono (a := 6) (by unfold Bd; (first | lia | omega)) (by decide)
theorem g_num {z : Int} (hz : Bd 69 z) : G 1 0 (.num z) := by
  have e := den_num (hz.mono (show 69 ≤ LIM by decide))
  have r : Res 69 (den (.num z)) := by rw [e]; exact .int hz (by decide)
  exact ⟨by rw [Safe]; exact r.mono (by decide), res_bits (r.mono (Nat.le_of_ble_eq_true rfl)), Nat.le_of_ble_eq_true rfl, Nat.le_refl _, Nat.le_refl _, fun _ => .inl ⟨z, rfl, hz⟩, fun h => nomatch h⟩
theorem g_txt {s : Str} (hs : s ∈ texts) : G 1 0 (.txt s) := by
  have hv : VOk s := .txt hs
  refine ⟨by rw [Safe]; exact hv, fun s' e => ?_, Nat.le_of_ble_eq_true rfl, Nat.le_refl _, Nat.le_refl _, fun _ => .inr ⟨s, hs, rfl⟩, fun h => nomatch h⟩
  rw [den] at e
  cases e
  intro n hn
  have := W_text hs hn
  exact Bd.mono (a := 6) (by unfold Bd; (first | lia | omega)) (Nat.le_of_ble_eq_true rfl)
theorem m57 (n : Nat) : 56 * n + 40 + 1 ≤ 56 * (n + 1) + 40 := by (first | lia | omega)
theorem den_un {op : String} (ho : op ∈ unOps) {a : T} {n h : Nat} (g : G n h a) (hn : n ≤ 31) : Res (56 * (n + 1) + 40) (den (.un (Str.ofString op) a)) ∧ (op = "!" → ∀ s, den (.un (Str.ofString op) a) = some (.ok (.str s)) → ∃ b, s = bit b) := by
  rw [den]
  rcases g.safe.res.is with ⟨s, e, hv, _⟩ | ⟨e, he, hf⟩
  · rw [e, R.bind_ok]
    obtain ⟨r, r1, r2⟩ := c_unary ho hv (g.bd s e) (Nat.le_trans (m57 n) (n31 hn))
    rw [r2 5, bind_res r1]
    refine ⟨r1.mono (m57 n), fun h0 s' hs' => ?_⟩
    subst h0
    exact (c_bang hv).elim (fun ⟨b, h⟩ => by cases (hs'.symm.trans ((r2 0).symm.trans (h 0))); exact ⟨b, rfl⟩) fun ⟨e, _, h⟩ => nomatch hs'.symm.trans ((r2 0).symm.trans (h 0))
  · rw [he]
    exact ⟨.err hf, fun _ s hs => nomatch hs⟩
theorem W_bit_le {b : Bool} {y : Int} (h : W (bit b) = some y) : y ≤ 1 := by
  rw [W_bit] at h
  cases b <;> cases h <;> decide
theorem g_un {op : String} (ho : op ∈ unOps) {a : T} {n h : Nat} (g : G n h a) (hn : n ≤ 31) : G (n + 1) (h + 1) (.un (Str.ofString op) a) := by
  obtain ⟨r1, r2⟩ := den_un ho g hn
  refine ⟨by rw [Safe]; exact ⟨r1.mono (n31 hn), g.safe⟩, res_bits r1, sz_1 g.sz, Nat.succ_le_succ g.ht, Nat.succ_le_succ (Nat.zero_le _), (fun h => nomatch h), fun hb => ?_⟩
  have h0 : op = "!" := ofString_inj.mp (eq_of_beq hb)
  refine ⟨fun s e => ?_, fun s e y hy => ?_⟩
  · obtain ⟨b, rfl⟩ := r2 h0 s e
    exact WB.bit b
  · obtain ⟨b, rfl⟩ := r2 h0 s e
    exact W_bit_le hy
theorem nb_ok {s : Str} (h : VOk s) : (∃ b, nb (.str s) = some (.ok b)) ∨ ∃ e, IsF e ∧ nb (.str s) = some (.error e) := by
  rcases c_need_bool h with ⟨b, hb⟩ | ⟨e, he, hb⟩
  · exact .inl ⟨b, by unfold nb; rw [show (10 : Nat) = 5 + 5 from rfl, hb 5]; rfl⟩
  · exact .inr ⟨e, he, by unfold nb; rw [show (10 : Nat) = 5 + 5 from rfl, hb 5]; rfl⟩
theorem den_log (o : Bool) {a b : T} (ha : Safe a) (hb : Safe b) : (∃ q, den (.log o a b) = some (.ok (.str (bit q)))) ∨ ∃ e, IsF e ∧ den (.log o a b) = some (.error e) := by
  rw [den]
  rcases ha.res.is with ⟨s, e, hv, _⟩ | ⟨e, he, hf⟩
  · rw [e]
    simp only [R.bind_ok]
    unfold logV
    rcases nb_ok hv with ⟨p, hp⟩ | ⟨e, he, hp⟩
    · rw [hp]
      simp only [R.bind_ok]
      cases hpo : (p != o) with
      | false => exact .inl ⟨p, by simp⟩
      | true =>
        simp only [if_true]
        rcases hb.res.is with ⟨s2, e2, hv2, _⟩ | ⟨e2, he2, hf2⟩
        · rw [e2]
          simp only [R.bind_ok]
          rcases nb_ok hv2 with ⟨q, hq⟩ | ⟨e, he, hq⟩
          · rw [hq]; exact .inl ⟨q, rfl⟩
          · rw [hq]; exact .inr ⟨e, he, rfl⟩
        · rw [he2]; exact .inr ⟨e2, hf2, rfl⟩
    · rw [hp]; exact .inr ⟨e, he, rfl⟩
  · rw [he]; exact .inr ⟨e, hf, rfl⟩
theorem g_log (o : Bool) {a b : T} {n m h k : Nat} (ga : G n h a) (gb : G m k b) (hn : n + m ≤ 31) : G (n + m + 1) (max h k + 1) (.log o a b) := by
  have key := den_log o ga.safe gb.safe
  have r1 : Res 1 (den (.log o a b)) := by
    rcases key with ⟨q, h⟩ | ⟨e, he, h⟩
    · rw [h]; exact .bit q (Nat.le_refl _)
    · rw [h]; exact .err he
  refine ⟨by rw [Safe]; exact ⟨r1.mono (by decide), ga.safe, gb.safe⟩, res_bits (r1.mono (c40 (Nat.le_of_ble_eq_true rfl))), sz_2 ga.sz gb.sz (Nat.le_of_ble_eq_true rfl), Nat.succ_le_succ (mx ga.ht gb.ht), Nat.succ_le_succ (Nat.zero_le _), (fun h => nomatch h), fun _ => ⟨res_bits r1, fun s e y hy => ?_⟩⟩
  rcases key with ⟨q, h⟩ | ⟨e', he, h⟩
  · rw [h] at e; cases e
    exact W_bit_le hy
  · rw [h] at e; cases e
theorem g_ite {c a b : T} {n m l h k j : Nat} (gc : G n h c) (ga : G m k a) (gb : G l j b) (hn : n + m + l ≤ 31) : G (n + m + l + 1) (max h (max k j) + 1) (.ite c a b) := by
  have r1 : Res (56 * (n + m + l + 1) + 40) (den (.ite c a b)) := by
    rw [den]
    rcases gc.safe.res.is with ⟨s, e, hv, _⟩ | ⟨e, he, hf⟩
    · rw [e]
      simp only [R.bind_ok]
      rcases nb_ok hv with ⟨p, hp⟩ | ⟨e, he, hp⟩
      · rw [hp]
        simp only [R.bind_ok]
        have two : ∀ {u : T} {i w : Nat}, G i w u → i ≤ n + m + l → Res (56 * (n + m + l + 1) + 40) (den u) := fun {u i w} g hi => by
          rcases g.safe.res.is with ⟨s, e, hv, _⟩ | ⟨e, he, hf⟩
          · have := g.bd s e
            rw [e]; exact .ok hv (this.mono (m56 (Nat.le_succ_of_le hi)))
          · rw [he]; exact .err hf
        cases p
        · exact two gb (Nat.le_add_left ..)
        · exact two ga (Nat.le_trans (Nat.le_add_left ..) (Nat.le_add_right ..))
      · rw [hp]; exact .err he
    · rw [he]; exact .err hf
  exact ⟨by rw [Safe]; exact ⟨r1.mono (n31 hn), gc.safe, ga.safe, gb.safe⟩, res_bits r1, sz_2 (Nat.le_trans (Nat.add_le_add gc.sz ga.sz) (Nat.le_of_eq (Nat.mul_add 5 n m).symm)) gb.sz (Nat.le_of_ble_eq_true rfl), Nat.succ_le_succ (mx gc.ht (mx ga.ht gb.ht)), Nat.succ_le_succ (Nat.zero_le _), (fun h => nomatch h), (fun h => nomatch h)⟩
theorem bin_split {op : String} (h : op ∈ binOps) : op ∈ arOps ∨ op ∈ relA ++ relB ++ ["in", "ni"] := by
  unfold binOps at h
  simp only [List.mem_append] at h ⊢
  rcases h with ((h | h) | h) | h
  · exact .inl h
  · exact .inr (.inl (.inl h))
  · exact .inr (.inl (.inr h))
  · exact .inr (.inr h)
theorem bits_bin {op : String} (hp : ¬ op = "**") {n m : Nat} (pb : 1 ≤ m) : bitsOf op (56 * n + 40) (56 * m + 40) ≤ 56 * (n + m + 1) + 40 := by
  unfold bitsOf
  rw [if_neg hp]
  split <;> (first | lia | omega)
theorem bits_pow {n m : Nat} (pa : 1 ≤ n) (pb : 1 ≤ m) : bitsOf "**" 69 (56 * m + 40) ≤ 56 * (n + m + 1) + 40 := by
  unfold bitsOf
  rw [if_pos rfl]; (first | lia | omega)
theorem wb1 {y : Int} (h : Bd 1 y) : y ≤ 1 := by unfold Bd at h; (first | lia | omega)
theorem g_bin {op : String} (ho : op ∈ binOps) {a b : T} {n m h k : Nat} (ga : G n h a) (gb : G m k b) (hn : n + m ≤ 31)
    (hl : op = "**" → isLeaf a = true) (hf : ∀ s, den b = some (.ok (.str s)) → ∀ y, W s = some y → Fits op y) : G (n + m + 1) (max h k + 1) (.bin (Str.ofString op) a b) := by
  have key : Res (56 * (n + m + 1) + 40) (den (.bin (Str.ofString op) a b)) ∧ (op ∉ arOps → Res 1 (den (.bin (Str.ofString op) a b))) := by
    rw [den]
    rcases ga.safe.res.is with ⟨s, e, hv, _⟩ | ⟨e, he, hf⟩
    · rw [e]
      simp only [R.bind_ok]
      rcases gb.safe.res.is with ⟨t, e', hv', _⟩ | ⟨e', he', hf'⟩
      · rw [e']
        simp only [R.bind_ok]
        by_cases har : op ∈ arOps
        · refine ⟨?_, fun q => absurd har q⟩
          by_cases hp : op = "**"
          · have b1 := ga.bits_leaf (hl hp) s e
            obtain ⟨r, r1, r2⟩ := c_binary_ar har hv hv' b1 (gb.bd t e') (by decide) (Nat.le_trans (m56 (Nat.le_succ_of_le (Nat.le_add_left m n))) (n31 hn)) (fun _ => by decide) (hf t e') (by unfold bitsOf; rw [if_pos hp]; decide)
            rw [show (10 : Nat) = 4 + 6 from rfl, r2 4, bind_res r1]
            subst hp
            exact r1.mono (bits_pow ga.pos gb.pos)
          · have hk := bits_bin (n := n) hp gb.pos
            obtain ⟨r, r1, r2⟩ := c_binary_ar har hv hv' (ga.bd s e) (gb.bd t e') (Nat.le_trans (m56 (Nat.le_succ_of_le (Nat.le_add_right n m))) (n31 hn)) (Nat.le_trans (m56 (Nat.le_succ_of_le (Nat.le_add_left m n))) (n31 hn)) (fun q => absurd q hp) (hf t e') (Nat.le_trans hk (n31 hn))
            rw [show (10 : Nat) = 4 + 6 from rfl, r2 4, bind_res r1]
            exact r1.mono hk
        · obtain ⟨r, r1, r2⟩ := c_binary_rel ((bin_split ho).resolve_left har) hv hv'
          rw [show (10 : Nat) = 4 + 6 from rfl, r2 4, bind_res r1]
          exact ⟨r1.mono (c40 (Nat.le_of_ble_eq_true rfl)), fun _ => r1⟩
      · rw [he']; exact ⟨.err hf', fun _ => .err hf'⟩
    · rw [he]; exact ⟨.err hf, fun _ => .err hf⟩
  obtain ⟨r1, r2⟩ := key
  refine ⟨by rw [Safe]; exact ⟨r1.mono (n31 hn), ga.safe, gb.safe⟩, res_bits r1, sz_2 ga.sz gb.sz (Nat.le_of_ble_eq_true rfl), Nat.succ_le_succ (mx ga.ht gb.ht), Nat.succ_le_succ (Nat.zero_le _), (fun h => nomatch h), fun hb => ?_⟩
  have har : op ∉ arOps := by
    intro q
    replace hb : (!((arOps.map Str.ofString).any (· == Str.ofString op))) = true := hb
    have q2 : (arOps.map Str.ofString).any (· == Str.ofString op) = true := List.any_eq_true.mpr ⟨_, List.mem_map_of_mem q, beq_self_eq_true _⟩
    rw [q2] at hb
    cases hb
  have r3 := r2 har
  refine ⟨res_bits r3, fun s e y hy => ?_⟩
  exact wb1 (res_bits r3 s e y hy)
end Mine
end
section
open PySem
namespace Mine
set_option linter.unusedVariables false
set_option linter.unusedSimpArgs false
set_option exponentiation.threshold 5000

theorem G.mono {n h k : Nat} {t : T} (g : G n h t) (hk : h ≤ k) : G n k t := ⟨g.safe, g.bd, g.sz, Nat.le_trans g.ht hk, g.pos, g.leaf, g.bit⟩
noncomputable def SumN (l : List (T × Nat)) : Nat := (l.map (·.2)).sum
theorem sumN_mem {l : List (T × Nat)} {e : T × Nat} (h : e ∈ l) : e.2 ≤ SumN l := by
  unfold SumN
  induction l with
  | nil => cases h
  | cons a r ih =>
    simp only [List.map_cons, List.sum_cons]
    rcases List.mem_cons.mp h with rfl | h
    · (first | lia | omega)
    · have := ih h; (first | lia | omega)
theorem denL_res : ∀ {l : List T}, (∀ t ∈ l, Safe t) → (∃ ss : List Str, denL l = some (.ok (ss.map .str)) ∧ ss.length = l.length ∧ ∀ s ∈ ss, VOk s ∧ ∃ t ∈ l, den t = some (.ok (.str s))) ∨ ∃ e, IsF e ∧ denL l = some (.error e)
  | [], _ => .inl ⟨[], by rw [denL]; rfl, rfl, fun s h => by cases h⟩
  | a :: r, h => by
    rw [denL]
    rcases (h a (List.mem_cons_self ..)).res.is with ⟨s, e, hv, _⟩ | ⟨e, he, hf⟩
    · rw [e]
      simp only [R.bind_ok]
      rcases denL_res (l := r) fun t ht => h t (List.mem_cons_of_mem _ ht) with ⟨ss, h1, h2, h3⟩ | ⟨e', he', h1⟩
      · rw [h1]
        refine .inl ⟨s :: ss, rfl, by simp [h2], fun s' hs' => ?_⟩
        rcases List.mem_cons.mp hs' with rfl | hs'
        · exact ⟨hv, a, List.mem_cons_self .., e⟩
        · obtain ⟨q1, t, q2, q3⟩ := h3 s' hs'
          exact ⟨q1, t, List.mem_cons_of_mem _ q2, q3⟩
      · rw [h1]; exact .inr ⟨e', he', rfl⟩
    · rw [he]; exact .inr ⟨e, hf, rfl⟩
theorem szL_le {h : Nat} : ∀ {l : List (T × Nat)}, (∀ e ∈ l, G e.2 h e.1) → szL (l.map (·.1)) ≤ 5 * SumN l ∧ htL (l.map (·.1)) ≤ h
  | [], _ => by simp [szL, htL, SumN]
  | a :: r, hg => by
    have := szL_le (l := r) fun e he => hg e (List.mem_cons_of_mem _ he)
    have g := hg a (List.mem_cons_self ..)
    have := g.sz; have := g.ht
    simp only [SumN, List.map_cons, List.sum_cons, szL, htL] at *
    (first | lia | omega)
theorem g_call {f : String} (hf : f ∈ fnNames) {l : List (T × Nat)} {h : Nat} (hg : ∀ e ∈ l, G e.2 h e.1) (hl : l.length ≤ 3) (hn : SumN l ≤ 31) (hq : f = "isqrt" → ∀ e ∈ l, isLeaf e.1 = true) :
    G (SumN l + 1) (h + 1) (.call (Str.ofString f) (l.map (·.1))) := by
  have hlen : (l.map (·.1)).length ≤ 1000 := by simp; (first | lia | omega)
  have hsafe : ∀ t ∈ l.map (·.1), Safe t := fun t ht => by
    obtain ⟨e, he, rfl⟩ := List.mem_map.mp ht
    exact (hg e he).safe
  have r1 : Res (56 * (SumN l + 1) + 40) (den (.call (Str.ofString f) (l.map (·.1)))) := by
    rw [den, if_pos hlen]
    rcases denL_res hsafe with ⟨ss, h1, h2, h3⟩ | ⟨e, he, h1⟩
    · rw [h1]
      simp only [R.bind_ok]
      have hlen3 : ss.length ≤ 3 := by rw [h2]; simpa using hl
      by_cases hsq : f = "isqrt"
      · obtain ⟨r, r1, r2⟩ := c_callf hf (fun s hs => (h3 s hs).1) hlen3 (k := 69) (fun s hs => by
          obtain ⟨_, t, t1, t2⟩ := h3 s hs
          obtain ⟨e, he, rfl⟩ := List.mem_map.mp t1
          exact (hg e he).bits_leaf (hq hsq e he) s t2) (by decide) (fun _ => by decide)
        rw [show (10 : Nat) = 4 + 6 from rfl, r2 4, bind_res r1]
        exact r1.mono (by (first | lia | omega))
      · obtain ⟨r, r1, r2⟩ := c_callf hf (fun s hs => (h3 s hs).1) hlen3 (k := 56 * SumN l + 40) (fun s hs => by
          obtain ⟨_, t, t1, t2⟩ := h3 s hs
          obtain ⟨e, he, rfl⟩ := List.mem_map.mp t1
          have := sumN_mem he
          exact ((hg e he).bd s t2).mono (by (first | lia | omega))) (by rw [LIM_eq]; (first | lia | omega)) (fun q => absurd q hsq)
        rw [show (10 : Nat) = 4 + 6 from rfl, r2 4, bind_res r1]
        exact r1.mono (by (first | lia | omega))
    · rw [h1]; exact .err he
  have := szL_le hg
  exact ⟨by rw [Safe]; exact ⟨r1.mono (by rw [LIM_eq]; (first | lia | omega)), safeL_of hsafe⟩, res_bits r1, by rw [Mine.sz]; (first | lia | omega), by rw [Mine.ht]; (first | lia | omega), by (first | lia | omega), (fun h => by cases h), (fun h => by cases h)⟩

/-! the law's own helpers -/
theorem bt_eq {k u b : Str} {w : V} {x : Bool} (hw : veq w (.str b) = some x) (hd : vdepth w ≤ 49) : vcmp .eq (.tup [.str k, w]) (.tup [.str u, .str b]) = some ((k == u) && (x && true)) := by
  rw [vcmp_eq, if_pos (show vdepth (.tup [.str k, w]) ≤ 50 from Nat.succ_le_succ (Nat.max_le.mpr ⟨Nat.zero_le _, Nat.max_le.mpr ⟨hd, Nat.zero_le _⟩⟩)), veq_tup, veqL_cons, veqL_cons, hw]; rfl
theorem isbit_of {t : T} {k : Str} {w : V} {d : Nat} {qa qb qc : Bool} (h0 : vidx (tv t) (.int 0) = some (.str k)) (h2 : vslTo (tv t) (.int 2) = some (.tup [.str k, w]))
    (ha : isInV (.str k) (.tup [.str (Str.ofString "and"), .str (Str.ofString "or")]) = some qa) (hb : vcmp .eq (.tup [.str k, w]) (.tup [.str (Str.ofString "un"), .str (Str.ofString "!")]) = some qb)
    (hc : ∀ cl, evalE cl [some (tv t), some (.tup ((arOps.map Str.ofString).map .str))] (.and [(.cmp .eq (.idx (.var 0) (.int 0)) (.str (Str.ofString "bin"))), (.isIn true (.idx (.var 0) (.int 1)) (.var 1))]) = some (.ok (.bool qc))) : callN P (d + 1) 49 [tv t] = some (.ok (.bool (qa || (qb || qc)))) := by
  have i0 : evalE (callN P d) [some (tv t), some (.tup ((arOps.map Str.ofString).map .str))] (.idx (.var 0) (.int 0)) = some (.ok (.str k)) := ev_at rfl rfl h0
  have a : evalE (callN P d) [some (tv t), some (.tup ((arOps.map Str.ofString).map .str))] (.isIn false (.idx (.var 0) (.int 0)) (.tup [(.str (Str.ofString "and")), (.str (Str.ofString "or"))])) = some (.ok (.bool (qa != false))) := ev_in_of i0 rfl ha
  have b : evalE (callN P d) [some (tv t), some (.tup ((arOps.map Str.ofString).map .str))] (.cmp .eq (.slTo (.var 0) (.int 2)) (.tup [(.str (Str.ofString "un")), (.str (Str.ofString "!"))])) = some (.ok (.bool qb)) := ev_cmp_of (ev_slTo_of (ev_var_of rfl (fr_tv t)) rfl h2) rfl hb
  refine (call_of (fn := L_is_bit) (body := B_L_is_bit) (ρ := [some (tv t), none]) rfl (by rw [show freezeAll [tv t] = some [tv t] from by show (freeze (tv t)).bind _ = _; rw [fr_tv]; rfl]; rfl) rfl).trans ((congrArg endOf (st_as (v := .tup ((arOps.map Str.ofString).map .str)) rfl rfl)).trans (st_ret.trans ?_))
  cases qa
  · cases qb
    · exact ev_or_fc a (ev_o_fc b (hc _))
    · exact ev_or_fc a (ev_o_tc b)
  · exact ev_or_t a
theorem and_no {t : T} {k : String} (h0 : vidx (tv t) (.int 0) = some (.str (Str.ofString k))) (h : ¬ k = "bin") (cl) : evalE cl [some (tv t), some (.tup ((arOps.map Str.ofString).map .str))] (.and [(.cmp .eq (.idx (.var 0) (.int 0)) (.str (Str.ofString "bin"))), (.isIn true (.idx (.var 0) (.int 1)) (.var 1))]) = some (.ok (.bool false)) :=
  ev_and_f (ev_cmp_of (ev_at rfl rfl h0) rfl (eqs_f h))
theorem veq_tv {t : T} {s : Str} : veq (tv t) (.str s) = some false := by obtain ⟨vs, hv⟩ := tv_tup t; rw [hv]; rfl
theorem c_isbit (d : Nat) {t : T} (hl : isLeaf t = false) (hh : ht t ≤ 20) : callN P (d + 1) 49 [tv t] = some (.ok (.bool (isBit t))) := by
  cases t with
  | num _ => cases hl
  | txt _ => cases hl
  | log o a b =>
    have h : vdepth (tv a) ≤ 49 := by have := vdepth_tv a; rw [ht] at hh; (first | lia | omega)
    cases o with
    | false => exact isbit_of (qa := true) rfl rfl (by kernel_rfl) (bt_eq veq_tv h) (and_no (t := .log false a b) (k := "and") rfl (by decide))
    | true => exact isbit_of (qa := true) rfl rfl (by kernel_rfl) (bt_eq veq_tv h) (and_no (t := .log true a b) (k := "or") rfl (by decide))
  | un op a => exact (isbit_of (t := .un op a) rfl rfl (by kernel_rfl) (bt_eq (w := .str op) (x := op == Str.ofString "!") rfl (Nat.zero_le _)) (and_no (t := .un op a) (k := "un") rfl (by decide))).trans (congrArg (fun b => some (Except.ok (V.bool b))) (show (false || ((true && ((op == Str.ofString "!") && true)) || false)) = (op == Str.ofString "!") by cases (op == Str.ofString "!") <;> rfl))
  | bin op a b => exact isbit_of (t := .bin op a b) (qa := false) (qb := false) rfl rfl (by kernel_rfl) ((bt_eq (w := .str op) (x := op == Str.ofString "!") rfl (Nat.zero_le _)).trans (by rw [show (Str.ofString "bin" == Str.ofString "un") = false from ofString_beq]; rfl)) (fun cl => (ev_and_t (ev_cmp_of (ev_at rfl rfl rfl) rfl (eqs_t rfl)) (ev_in_of (ev_at rfl rfl rfl) rfl (isIn_tup.trans (by rw [strIs_map]; rfl)))).trans (congrArg (fun b => some (Except.ok (V.bool b))) (Bool.bne_true ..)))
  | call f args => exact isbit_of (t := .call f args) (qa := false) (qb := false) rfl rfl (by kernel_rfl) ((bt_eq (w := .str f) (x := f == Str.ofString "!") rfl (Nat.zero_le _)).trans (by rw [show (Str.ofString "call" == Str.ofString "un") = false from ofString_beq]; rfl)) (and_no (t := .call f args) (k := "call") rfl (by decide))
  | ite c a b =>
    have h : vdepth (tv c) ≤ 49 := by have := vdepth_tv c; rw [ht] at hh; (first | lia | omega)
    exact isbit_of (t := .ite c a b) (qa := false) (qb := false) rfl rfl (by kernel_rfl) ((bt_eq veq_tv h).trans (by rw [show (Str.ofString "if" == Str.ofString "un") = false from ofString_beq]; rfl)) (and_no (t := .ite c a b) (k := "if") rfl (by decide))
noncomputable def okCnt (s : Str) : Bool := (theOk (callN P 1 48 [.tup [.str (Str.ofString "text"), .str s]])).any fun v => (isNo v && (W s).isNone) || (theInt v).any fun n => (W s).any (· == n)
theorem texts_cnt : texts.all okCnt = true := by decide +kernel
theorem c_count (d : Nat) {n h : Nat} {t : T} (g : G n h t) (hl : isLeaf t = true) : ∃ s, den t = some (.ok (.str s)) ∧ callN P (d + 1) 48 [tv t] = some (.ok (optV (W s))) := by
  rcases g.leaf hl with ⟨z, rfl, hz⟩ | ⟨s, hs, rfl⟩
  · have hb := hz.mono (show 69 ≤ LIM by decide)
    refine ⟨itoa z, den_num hb, ?_⟩
    rw [W_itoa hb]
    rw [call_of (fn := L_count) (body := B_L_count) (ρ := [some (tv (.num z))]) rfl rfl rfl]
    simp [B_L_count, exs_cons, tv, vidx_0, vidx_1, optV]
  · refine ⟨s, by rw [den], ?_⟩
    have ok := List.all_eq_true.mp texts_cnt s hs
    refine callN_le P (Nat.le_add_left 1 d) _ _ _ ?_
    rw [tv_txt]
    obtain ⟨v, e, ok⟩ := any_of ok
    rw [theOk_of e]
    rcases (Bool.or_eq_true _ _).mp ok with h | h
    · obtain ⟨h1, h2⟩ := Bool.and_eq_true_iff.mp h
      rw [isNo_of h1, Option.isNone_iff_eq_none.mp h2]; rfl
    · obtain ⟨n, h1, h⟩ := any_of h
      obtain ⟨m, h2, h⟩ := any_of h
      rw [theInt_of h1, h2, eq_of_beq h]; rfl
noncomputable def FitOK (op : String) (a b : T) : Prop := (op = "**" → isLeaf a = true) ∧ ∀ s, den b = some (.ok (.str s)) → ∀ y, W s = some y → Fits op y
/-- behind the two first tests -/
theorem fit_tail {op : String} {a b : T} {m k : Nat} {lo hi : Int} (gb : G m k b) (hk : k ≤ 20) (hlo : 1 ≤ lo) (hin : isInV (.str (Str.ofString op)) (.tup [.str (Str.ofString "**"), .str (Str.ofString "<<")]) = some true)
    (h2 : ∀ d, evalE (callN P (d + 1)) [some (.str (Str.ofString op)), some (tv a), some (tv b), none, none, none] (.and [(.cmp .eq (.var 0) (.str (Str.ofString "**"))), (.not (.call 46 [(.var 1)]))]) = some (.ok (.bool false)))
    (hdx : dlook [(Str.ofString "**", V.tup [.int 3, .int 268435456]), (Str.ofString "<<", V.tup [.int 64, .int 2147483648])] (Str.ofString op) = some (.tup [.int lo, .int hi])) :
    ∃ q : Bool, (∀ d, callN P (d + 2) 50 [.str (Str.ofString op), tv a, tv b] = some (.ok (.bool q))) ∧ (q = true → ∀ s, den b = some (.ok (.str s)) → ∀ y, W s = some y → y ≤ lo ∨ hi ≤ y) := by
  have e : ∀ d, callN P (d + 2) 50 [.str (Str.ofString op), tv a, tv b] = endOf (execs (callN P (d + 1)) (B_L_is_fit.drop 2) [some (.str (Str.ofString op)), some (tv a), some (tv b), none, none, none]) := fun d =>
    (call_of (fn := L_is_fit) (body := B_L_is_fit) rfl (by rw [show freezeAll [.str (Str.ofString op), tv a, tv b] = some [.str (Str.ofString op), tv a, tv b] from by show Option.map _ ((freeze (tv a)).bind fun x => Option.map _ ((freeze (tv b)).bind _)) = _; rw [fr_tv, fr_tv]; rfl]; rfl) rfl).trans
      (congrArg endOf ((st_no' (ev_in_of rfl rfl hin)).trans (st_no' (h2 d))))
  have c3 : ∀ d, evalE (callN P (d + 1)) [some (.str (Str.ofString op)), some (tv a), some (tv b), none, none, none] (.not (.call 46 [(.var 2)])) = some (.ok (.bool (!isLeaf b))) := fun d => ev_not_of (ev_call_of (evl_one (ev_var_of rfl (fr_tv b)) (pl_tv b)) (c_isleaf d b))
  cases hlb : isLeaf b with
  | false =>
    rw [hlb] at c3
    exact ⟨isBit b, fun d => (e d).trans ((st_yes_ret (c3 d)).trans (ev_call_of (evl_one (ev_var_of rfl (fr_tv b)) (pl_tv b)) (c_isbit d hlb (Nat.le_trans gb.ht hk)))), fun q s hs y hy => .inl (Int.le_trans ((gb.bit q).2 s hs y hy) hlo)⟩
  | true =>
    rw [hlb] at c3
    obtain ⟨s, s1, _⟩ := c_count 0 gb hlb
    have cnt : ∀ d, callN P (d + 1) 48 [tv b] = some (.ok (optV (W s))) := fun d => by
      obtain ⟨s', q1, q2⟩ := c_count d gb hlb
      rw [s1] at q1; cases q1; exact q2
    have e2 : ∀ (v : V), callN P 1 48 [tv b] = some (.ok v) → storable v = true → ∀ d, callN P (d + 2) 50 [.str (Str.ofString op), tv a, tv b] = evalE (callN P (d + 1)) [some (.str (Str.ofString op)), some (tv a), some (tv b), some v, some (.int lo), some (.int hi)] (.or [(.isNone false (.var 3)), (.cmp .le (.var 3) (.var 4)), (.cmp .ge (.var 3) (.var 5))]) := fun v hv hst d =>
      (e d).trans ((congrArg endOf ((st_no' (c3 d)).trans ((st_as (ev_call_of (evl_one (ev_var_of rfl (fr_tv b)) (pl_tv b)) (callN_le P (Nat.le_add_left 1 d) _ _ _ hv)) hst).trans
        (st_un2 (ev_didx_of (ev_dict_of (ks := [Str.ofString "**", Str.ofString "<<"]) (vs := [.tup [.int 3, .int 268435456], .tup [.int 64, .int 2147483648]]) (evl_two (ev_tup_of (evl_two rfl rfl (ev_bin_of rfl rfl pow28) rfl) rfl (Nat.le_of_ble_eq_true rfl)) rfl (ev_tup_of (evl_two rfl rfl (ev_bin_of rfl rfl pow31) rfl) rfl (Nat.le_of_ble_eq_true rfl)) rfl) ⟨rfl, rfl⟩) rfl hdx))))).trans st_ret)
    cases hw : W s with
    | none => exact ⟨true, fun d => (e2 .none ((cnt 0).trans (by rw [hw]; rfl)) rfl d).trans (ev_or_t rfl), fun q s' hs y hy => by rw [s1] at hs; cases hs; rw [hw] at hy; cases hy⟩
    | some y =>
      refine ⟨decide (y ≤ lo) || decide (hi ≤ y), fun d => (e2 (.int y) ((cnt 0).trans (by rw [hw]; rfl)) rfl d).trans (ev_or_fc rfl ?_), fun q s' hs y' hy => by
        rw [s1] at hs; cases hs; rw [hw] at hy; cases hy
        exact (Bool.or_eq_true _ _ ▸ q : _ ∨ _).imp of_decide_eq_true of_decide_eq_true⟩
      cases hy : decide (y ≤ lo) with
      | true => exact ev_o_tc (ev_cmp_of rfl rfl (congrArg some hy))
      | false => exact ev_o_fc (ev_cmp_of rfl rfl (congrArg some hy)) (ev_cmp_of rfl rfl rfl)
theorem c_isfit {op : String} {a b : T} {n m h k : Nat} (ga : G n h a) (gb : G m k b) (hk : k ≤ 20) :
    ∃ q : Bool, (∀ d, callN P (d + 2) 50 [.str (Str.ofString op), tv a, tv b] = some (.ok (.bool q))) ∧ (q = true → FitOK op a b) := by
  have e : ∀ d, callN P (d + 2) 50 [.str (Str.ofString op), tv a, tv b] = endOf (execs (callN P (d + 1)) B_L_is_fit [some (.str (Str.ofString op)), some (tv a), some (tv b), none, none, none]) := fun d =>
    call_of (fn := L_is_fit) (body := B_L_is_fit) rfl (by rw [show freezeAll [.str (Str.ofString op), tv a, tv b] = some [.str (Str.ofString op), tv a, tv b] from by show Option.map _ ((freeze (tv a)).bind fun x => Option.map _ ((freeze (tv b)).bind _)) = _; rw [fr_tv, fr_tv]; rfl]; rfl) rfl
  have leaf : ∀ d, evalE (callN P (d + 1)) [some (.str (Str.ofString op)), some (tv a), some (tv b), none, none, none] (.not (.call 46 [(.var 1)])) = some (.ok (.bool (!isLeaf a))) := fun d => ev_not_of (ev_call_of (evl_one (ev_var_of rfl (fr_tv a)) (pl_tv a)) (c_isleaf d a))
  by_cases h1 : op = "**"
  · have n2 : ¬ op = "<<" := by rw [h1]; decide
    have c1 : ∀ cl, evalE cl [some (.str (Str.ofString op)), some (tv a), some (tv b), none, none, none] (.cmp .eq (.var 0) (.str (Str.ofString "**"))) = some (.ok (.bool true)) := fun cl => ev_cmp_of rfl rfl (eqs_t h1)
    have hin : isInV (.str (Str.ofString op)) (.tup [.str (Str.ofString "**"), .str (Str.ofString "<<")]) = some true := by rw [h1]; kernel_rfl
    cases hla : isLeaf a with
    | false =>
      rw [hla] at leaf
      exact ⟨false, fun d => (e d).trans ((congrArg endOf (st_no' (ev_in_of rfl rfl hin))).trans (st_yes_ret (ev_and_t (c1 _) (leaf d)))), fun q => nomatch q⟩
    | true =>
      rw [hla] at leaf
      obtain ⟨q, q1, q2⟩ := fit_tail (op := op) (a := a) (lo := 3) (hi := 268435456) gb hk (by decide) hin (fun d => ev_and_t (c1 _) (leaf d)) (by rw [h1]; kernel_rfl)
      exact ⟨q, q1, fun h => ⟨fun _ => hla, fun s hs y hy => ⟨fun _ => q2 h s hs y hy, fun q => absurd q n2⟩⟩⟩
  · by_cases h2 : op = "<<"
    · obtain ⟨q, q1, q2⟩ := fit_tail (op := op) (a := a) (lo := 64) (hi := 2147483648) gb hk (by decide) (by rw [h2]; kernel_rfl) (fun d => ev_and_f (ev_cmp_of rfl rfl (eqs_f h1))) (by rw [h2]; kernel_rfl)
      exact ⟨q, q1, fun h => ⟨fun q => absurd q h1, fun s hs y hy => ⟨fun q => absurd q h1, fun _ => q2 h s hs y hy⟩⟩⟩
    · exact ⟨true, fun d => (e d).trans (st_yes_ret (ev_in_of (q := false) rfl rfl (isIn_tup.trans (congrArg some (by
        show ((Str.ofString "**" == Str.ofString op) || ((Str.ofString "<<" == Str.ofString op) || false)) = false
        rw [ofString_beq, ofString_beq, beq_eq_false_iff_ne.mpr (Ne.symm h1), beq_eq_false_iff_ne.mpr (Ne.symm h2)]; rfl))))), fun _ => ⟨fun q => absurd q h1, fun s hs y hy => ⟨fun q => absurd q h1, fun q => absurd q h2⟩⟩⟩
end Mine
end
section
open PySem
namespace Mine
set_option linter.unusedVariables false
set_option linter.unusedSimpArgs false
set_option exponentiation.threshold 5000

theorem pick {α : Type} (L : List α) (f : α → V) {k : Nat} (hk : L.length = k) (h0 : 0 < k) (h1 : k ≤ 1000) (q : Int) : ∃ x ∈ L, vidx (.tup (L.map f)) (.int (Int.fmod q k)) = some (f x) := by
  obtain ⟨m1, m2⟩ := fmod_range q (k := k) (by (first | lia | omega))
  obtain ⟨i, hi⟩ : ∃ i : Nat, Int.fmod q k = i := ⟨(Int.fmod q k).toNat, by (first | lia | omega)⟩
  rw [hi] at m2 ⊢
  have hlt : i < L.length := by (first | lia | omega)
  refine ⟨L[i], List.getElem_mem hlt, vidx_tup rfl (by (first | lia | omega)) ?_⟩
  rw [List.getElem?_map, List.getElem?_eq_getElem hlt]; rfl
noncomputable def lawRows : List Int := [648, 2, 3, 7, 424, 712, 28, 4, 712, 58, 156, 0, 19, 46, 424, 712, 44, 23, 100, 712, 66, 156, 424, 118, 15, 34, 27, 712, 648, 36, 7, 3]
@[simp] theorem ar_addl {o p : Bool} {a b : List V} : arith .add (.lst o a) (.lst p b) = if a.length + b.length ≤ 1000000 then some (.lst true (a ++ b)) else none := rfl
theorem c_lrows (d : Nat) : callN P (d + 1) 43 [] = some (.ok (.lst true (lawRows.map .int))) := by
  rw [call_of (fn := L_rows) (body := B_L_rows) (ρ := [none]) rfl rfl rfl]
  simp [B_L_rows, exs_cons, lawRows]
theorem c_ltext (q : Int) : ∃ s ∈ texts, ∀ d, callN P (d + 1) 44 [.int q] = some (.ok (.str s)) := by
  obtain ⟨s, h1, h2⟩ := pick texts V.str (k := 18) (by decide +kernel) (by decide) (by decide) q
  exact ⟨s, h1, fun d => (call_of (fn := L_text) (body := B_L_text) (ρ := [some (.int q)]) rfl rfl rfl).trans (st_ret.trans (ev_idx_of (by kernel_rfl) (ev_bin_of rfl rfl (ar_mod q (k := 18) (by decide))) h2))⟩
theorem small_lit {a : Int} (h : decide (a.natAbs < 2 ^ 4096) = true) : small a = true := by unfold small; exact h
theorem ar_pow {a b c : Int} (hb : 0 ≤ b ∧ b ≤ 1000) (ha : small a = true) (hc : a ^ b.toNat = c) : arith .pow (.int a) (.int b) = some (.int c) := by
  subst hc
  show (if 0 ≤ b ∧ b ≤ 1000 ∧ small a = true then some (V.int (a ^ b.toNat)) else none) = _
  rw [if_pos ⟨hb.1, hb.2, ha⟩]
noncomputable def edges : List Int := [9223372036854775808, 18446744073709551615, 2147483648, 268435456, 1099511627776, -9223372036854775808, 100000000000000000000, 4096, 64, 1]
theorem edges_bd : ∀ z ∈ edges, Bd 68 z := by
  intro z hz
  simp only [edges, List.mem_cons, List.not_mem_nil, or_false] at hz
  rcases hz with rfl | rfl | rfl | rfl | rfl | rfl | rfl | rfl | rfl | rfl <;> (unfold Bd; decide)
theorem ev_pow {cl : Nat → List V → R V} {ρ : Rho} {a b c : Int} (hb : 0 ≤ b ∧ b ≤ 1000) (ha : small a = true) (hc : a ^ b.toNat = c) : evalE cl ρ (.bin .pow (.int a) (.int b)) = some (.ok (.int c)) := ev_bin_of rfl rfl (ar_pow hb ha hc)
theorem c_lnumber (q : Int) : ∃ z, Bd 69 z ∧ ∀ d, callN P (d + 1) 45 [.int q] = some (.ok (.int z)) := by
  have w4 := fdivw q (k := 4) (by decide) (by unfold Bd; decide)
  generalize Int.fdiv q 4 = w at w4
  obtain ⟨ed, e1, e2⟩ := pick edges V.int (k := 10) (by decide) (by decide) (by decide) w
  have be := edges_bd ed e1
  have m10 := ar_mod w (k := 10) (by decide)
  have m41 := ar_mod w (k := 41) (by decide)
  have m70 := ar_mod w (k := 1180591620717411303424) (by decide)
  have m4 := ar_mod q (k := 4) (by decide)
  have r41 := fmod_range w (k := 41) (by decide)
  have r70 := fmod_range w (k := 1180591620717411303424) (by decide)
  generalize Int.fmod w 41 = u at m41 r41
  generalize Int.fmod w 1180591620717411303424 = v at m70 r70
  obtain ⟨z, z1, z2⟩ := pick [ed, u - 20, ed - 1, v - 590295810358705651712] V.int (k := 4) rfl (by decide) (by decide) q
  refine ⟨z, ?_, fun d => ?_⟩
  · clear w4 e2 m10 m41 m70 m4 z2
    rcases List.mem_cons.mp z1 with rfl | z1
    · exact be.mono (by decide)
    rcases List.mem_cons.mp z1 with rfl | z1
    · unfold Bd; (first | lia | omega)
    rcases List.mem_cons.mp z1 with rfl | z1
    · unfold Bd at be ⊢; (first | lia | omega)
    cases List.mem_singleton.mp z1
    unfold Bd; (first | lia | omega)
  · have a1 : ∀ cl : Nat → List V → R V, evalE cl [some (.int q), none, none] (.tup [(.bin .pow (.int 2) (.int 63)), (.bin .sub (.bin .pow (.int 2) (.int 64)) (.int 1)), (.bin .pow (.int 2) (.int 31)), (.bin .pow (.int 2) (.int 28)), (.bin .pow (.int 2) (.int 40)), (.neg (.bin .pow (.int 2) (.int 63))), (.bin .pow (.int 10) (.int 20)), (.int 4096), (.int 64), (.int 1)]) = some (.ok (.tup (edges.map .int))) := fun cl =>
      ev_tup_of (evl_cons_of (ev_pow (by decide) small_two (by decide)) rfl (evl_cons_of (ev_bin_of (ev_pow (c := 18446744073709551616) (by decide) small_two (by decide)) rfl rfl) rfl (evl_cons_of (ev_pow (by decide) small_two (by decide)) rfl (evl_cons_of (ev_pow (by decide) small_two (by decide)) rfl (evl_cons_of (ev_pow (by decide) small_two (by decide)) rfl
        (evl_cons_of (ev_neg_of (ev_pow (c := 9223372036854775808) (by decide) small_two (by decide))) rfl (evl_cons_of (ev_pow (by decide) small_ten (by decide)) rfl (evl_cons_of rfl rfl (evl_two rfl rfl rfl rfl))))))))) rfl (Nat.le_of_ble_eq_true rfl)
    have pk : ∀ cl : Nat → List V → R V, evalE cl [some (.int q), some (.tup (edges.map .int)), some (.int w)] (.idx (.var 1) (.bin .mod (.var 2) (.int 10))) = some (.ok (.int ed)) := fun cl => ev_idx_of rfl (ev_bin_of rfl rfl m10) e2
    exact (call_of (fn := L_number) (body := B_L_number) (ρ := [some (.int q), none, none]) rfl rfl rfl).trans ((congrArg endOf ((st_as (a1 _) rfl).trans (st_as (ev_bin_of rfl rfl w4) rfl))).trans (st_ret.trans (ev_idx_of (ev_tup_of (evl_cons_of (pk _) rfl (evl_cons_of (ev_bin_of (ev_bin_of rfl rfl m41) rfl rfl) rfl
      (evl_two (ev_bin_of (pk _) rfl rfl) rfl (ev_bin_of (ev_bin_of rfl (ev_pow (by decide) small_two (by decide)) m70) (ev_pow (by decide) small_two (by decide)) rfl) rfl))) rfl (Nat.le_of_ble_eq_true rfl)) (ev_bin_of rfl rfl m4) z2)))
theorem many_tab (e : Nat) (he : e ≤ 3) {kind : Int} (hk : kind = 0 ∨ kind = 1 ∨ kind = 2 ∨ kind = 3 ∨ kind = 4 ∨ kind = 5 ∨ kind = 6 ∨ kind = 7) :
    ∃ m : Nat, m ≤ 3 ∧ vidx (.tup [.int 0, .int 0, .int 0, .int 1, .int 2, .int 2, .int 0, .int e]) (.int kind) = some (.int m) ∧ (kind = 3 → m = 1) ∧ (kind = 4 ∨ kind = 5 → m = 2) ∧ (kind = 7 → m = e) := by
  have z : ∀ k : Int, decide (k = 3) = false → decide (k = 4) = false → decide (k = 5) = false → decide (k = 7) = false → ∀ m : Nat, (k = 3 → m = 1) ∧ (k = 4 ∨ k = 5 → m = 2) ∧ (k = 7 → m = e) := fun k h3 h4 h5 h7 m =>
    ⟨fun h => absurd h (of_decide_eq_false h3), fun h => h.elim (fun h => absurd h (of_decide_eq_false h4)) fun h => absurd h (of_decide_eq_false h5), fun h => absurd h (of_decide_eq_false h7)⟩
  have n : ∀ {a b : Int} {p : Prop}, decide (a = b) = false → a = b → p := fun h q => absurd q (of_decide_eq_false h)
  rcases hk with rfl | rfl | rfl | rfl | rfl | rfl | rfl | rfl
  · exact ⟨0, Nat.zero_le _, rfl, z _ rfl rfl rfl rfl 0⟩
  · exact ⟨0, Nat.zero_le _, rfl, z _ rfl rfl rfl rfl 0⟩
  · exact ⟨0, Nat.zero_le _, rfl, z _ rfl rfl rfl rfl 0⟩
  · exact ⟨1, Nat.le_of_ble_eq_true rfl, rfl, fun _ => rfl, fun h => h.elim (n rfl) (n rfl), n rfl⟩
  · exact ⟨2, Nat.le_of_ble_eq_true rfl, rfl, n rfl, fun _ => rfl, n rfl⟩
  · exact ⟨2, Nat.le_of_ble_eq_true rfl, rfl, n rfl, fun _ => rfl, n rfl⟩
  · exact ⟨0, Nat.zero_le _, rfl, z _ rfl rfl rfl rfl 0⟩
  · exact ⟨e, he, rfl, n rfl, fun h => h.elim (n rfl) (n rfl), fun _ => rfl⟩
theorem many_six {q : Int} : ∃ m : Nat, m ≤ 3 ∧ ∀ cl, evalE cl [some (.int 6), some (.int q)] (.ite (.cmp .gt (.bin .mod (.var 1) (.int 8)) (.int 5)) (.bin .add (.int 1) (.bin .mod (.bin .fdiv (.var 1) (.int 8)) (.int 3))) (.idx (.tup [(.int 1), (.int 1), (.int 1), (.int 2), (.int 0), (.int 3)]) (.bin .mod (.bin .fdiv (.var 1) (.int 8)) (.int 6)))) = some (.ok (.int m)) := by
  have m8 := ar_mod q (k := 8) (by decide)
  have w8 := fdivw q (k := 8) (by decide) (by unfold Bd; decide)
  by_cases h5 : 5 < Int.fmod q 8
  · obtain ⟨r1, r2⟩ := fmod_range (Int.fdiv q 8) (k := 3) (by decide)
    have h3 := ar_mod (Int.fdiv q 8) (k := 3) (by decide)
    obtain ⟨u, hu⟩ := Int.eq_ofNat_of_zero_le r1
    rw [hu] at h3 r2
    exact ⟨1 + u, Nat.add_le_add_left (Nat.le_of_lt_succ (Int.ofNat_lt.mp r2)) 1, fun cl => ev_ite_t (ev_cmp_of (ev_bin_of rfl rfl m8) rfl (congrArg some (decide_eq_true h5))) (ev_bin_of rfl (ev_bin_of (ev_bin_of rfl rfl w8) rfl h3) (congrArg (fun z => some (V.int z)) (Int.natCast_add 1 u).symm))⟩
  · obtain ⟨x, x1, x2⟩ := pick [1, 1, 1, 2, 0, 3] (fun n : Nat => V.int n) (k := 6) rfl (by decide) (by decide) (Int.fdiv q 8)
    exact ⟨x, List.all_eq_true.mp (show [1, 1, 1, 2, 0, 3].all (fun n => Nat.ble n 3) = true from rfl) x x1 |> Nat.le_of_ble_eq_true, fun cl => ev_ite_f (ev_cmp_of (ev_bin_of rfl rfl m8) rfl (congrArg some (decide_eq_false h5))) (ev_idx_of rfl (ev_bin_of (ev_bin_of rfl rfl w8) rfl (ar_mod (Int.fdiv q 8) (k := 6) (by decide))) x2)⟩
theorem many_e {q : Int} : ∃ e : Nat, e ≤ 3 ∧ (e = if Int.fmod q 3 = 2 then 3 else 2) ∧ ∀ cl kind, evalE cl [some (.int kind), some (.int q)] (.ite (.cmp .eq (.bin .mod (.var 1) (.int 3)) (.int 2)) (.int 3) (.int 2)) = some (.ok (.int e)) := by
  have m3 := ar_mod q (k := 3) (by decide)
  by_cases h : Int.fmod q 3 = 2
  · exact ⟨3, Nat.le_refl _, (if_pos h).symm, fun cl kind => ev_ite_t (ev_cmp_of (ev_bin_of rfl rfl m3) rfl (eq_t h)) rfl⟩
  · exact ⟨2, Nat.le_succ _, (if_neg h).symm, fun cl kind => ev_ite_f (ev_cmp_of (ev_bin_of rfl rfl m3) rfl (eq_f h)) rfl⟩
theorem c_lmany {kind : Int} (hk : kind = 0 ∨ kind = 1 ∨ kind = 2 ∨ kind = 3 ∨ kind = 4 ∨ kind = 5 ∨ kind = 6 ∨ kind = 7) (q : Int) : ∃ m : Nat, m ≤ 3 ∧ (∀ d, callN P (d + 1) 51 [.int kind, .int q] = some (.ok (.int m))) ∧ (kind = 3 → m = 1) ∧ (kind = 4 ∨ kind = 5 → m = 2) ∧ (kind = 7 → m = if Int.fmod q 3 = 2 then 3 else 2) := by
  have e : ∀ d, callN P (d + 1) 51 [.int kind, .int q] = endOf (execs (callN P d) B_L_many [some (.int kind), some (.int q)]) := fun d => call_of (fn := L_many) (body := B_L_many) rfl rfl rfl
  by_cases h6 : kind = 6
  · subst h6
    obtain ⟨m, h1, h2⟩ := many_six (q := q)
    exact ⟨m, h1, fun d => (e d).trans (st_yes_end rfl (st_ret' (h2 _))), fun h => absurd h (by decide), fun h => absurd h (by decide), fun h => absurd h (by decide)⟩
  · obtain ⟨x, x1, x2, x3⟩ := many_e (q := q)
    obtain ⟨m, h1, h2, h3, h4, h5⟩ := many_tab x x1 hk
    exact ⟨m, h1, fun d => (e d).trans ((congrArg endOf (st_no' (ev_cmp_of rfl rfl (eq_f h6)))).trans (st_ret.trans (ev_idx_of (ev_tup_of (evl_cons_of rfl rfl (evl_cons_of rfl rfl (evl_cons_of rfl rfl (evl_cons_of rfl rfl (evl_cons_of rfl rfl (evl_cons_of rfl rfl (evl_two rfl rfl (x3 _ _) rfl))))))) rfl (Nat.le_of_ble_eq_true rfl)) rfl h2))),
      h3, h4, fun h => (h5 h).trans x2⟩
end Mine
end
section
open PySem
namespace Mine
set_option linter.unusedVariables false
set_option linter.unusedSimpArgs false
set_option exponentiation.threshold 5000

noncomputable def ops25 : List String := ["+", "-", "*", "/", "%", "**", "<<", ">>", "&", "|", "^", "<", "==", "!=", ">", "<=", ">=", "eq", "ne", "in", "ni", "lt", "gt", "le", "ge"]
theorem ops25_bin {op : String} (h : op ∈ ops25) : op ∈ binOps := by
  have : ops25.all (fun o => binOps.contains o) = true := by decide
  have := List.all_eq_true.mp this op h
  simpa using this
@[simp] theorem boolIs_map : ∀ {l : List Bool}, boolIs (l.map .bool) = some l
  | [] => rfl
  | s :: r => by rw [List.map_cons]; show (boolIs _).map _ = _; rw [boolIs_map (l := r)]; rfl
theorem b_all {o : Bool} {l : List Bool} : builtin1 .all (.lst o (l.map .bool)) = some (.bool (l.all id)) := by
  show (boolIs (l.map V.bool)).map _ = _
  rw [boolIs_map]; rfl
theorem leaf_map (d : Nat) : ∀ l : List T, mapR (fun v => callN P (d + 1) 46 [v]) (l.map tv) = some (.ok ((l.map isLeaf).map .bool))
  | [] => rfl
  | a :: r => by
    rw [List.map_cons, mapR, c_isleaf, leaf_map d r]; rfl
theorem scalars_bool (ss : List Bool) : scalars (some (.ok (ss.map V.bool))) = some (.ok (.lst true (ss.map .bool))) := by
  exact if_pos (List.all_eq_true.mpr fun v h => by obtain ⟨b, _, rfl⟩ := List.mem_map.mp h; rfl)
theorem vidx_la {o : Bool} {a : V} {r : List V} : vidx (.lst o (a :: r)) (.int 0) = some a := rfl
theorem vidx_lb {o : Bool} {a b : V} {r : List V} : vidx (.lst o (a :: b :: r)) (.int 1) = some b := rfl
theorem b_tuple {o : Bool} {vs : List V} (h : vs.length ≤ 1000000) : builtin1 .tuple (.lst o vs) = some (.tup vs) := by
  show (if vs.length ≤ 1000000 then some (V.tup vs) else none) = _
  rw [if_pos h]
theorem fitok_minus (a b : T) : FitOK "-" a b := ⟨fun q => by simp at q, fun s hs y hy => ⟨fun q => by simp at q, fun q => by simp at q⟩⟩
theorem mx2 (h : Nat) : max h h + 1 = h + 1 := congrArg (· + 1) (Nat.max_self h)
theorem mx3 (h : Nat) : max h (max h h) + 1 = h + 1 := congrArg (· + 1) ((congrArg (max h) (Nat.max_self h)).trans (Nat.max_self h))
/-- a node's start -/
@[reducible] noncomputable def RN (kind q : Int) (l : List V) (x3 x4 : Option V) : Rho := [some (.int kind), some (.int q), some (.lst false l), x3, x4]
noncomputable def NodeIs (kind q : Int) (l : List T) (t : T) : Prop := ∀ d, callN P (d + 4) 52 [.int kind, .int q, .lst false (l.map tv)] = some (.ok (tv t))
theorem node_eq {kind q : Int} {l : List T} {t : T} (h : ∀ d, endOf (execs (callN P (d + 3)) B_L_node (RN kind q (l.map tv) none none)) = some (.ok (tv t))) : NodeIs kind q l t := fun d => (call_of (fn := L_node) (body := B_L_node) rfl rfl rfl).trans (h d)
theorem kd_f {cl : Nat → List V → R V} {kind k q : Int} {l : List V} {x3 x4 : Option V} (h : ¬ kind = k) : evalE cl (RN kind q l x3 x4) (.cmp .eq (.var 0) (.int k)) = some (.ok (.bool false)) := ev_cmp_of rfl rfl (eq_f h)
theorem kd_t {cl : Nat → List V → R V} {k q : Int} {l : List V} {x3 x4 : Option V} : evalE cl (RN k q l x3 x4) (.cmp .eq (.var 0) (.int k)) = some (.ok (.bool true)) := ev_cmp_of rfl rfl (eq_t rfl)
theorem node_bin {kind : Int} {q : Int} {a b : T} {n m h : Nat} (h3 : ¬ kind = 3) (h6 : ¬ kind = 6) (h7 : ¬ kind = 7) (ga : G n h a) (gb : G m h b) (hn : n + m ≤ 31) (hh : h ≤ 20) : ∃ t, NodeIs kind q [a, b] t ∧ G (n + m + 1) (h + 1) t := by
  obtain ⟨op, o1, o2⟩ := pick ops25 (fun s => V.str (Str.ofString s)) (k := 25) rfl (by decide) (by decide) q
  obtain ⟨f, f1, f2⟩ := c_isfit (op := op) ga gb hh
  have pre : ∀ (t : T) (x : String), (∀ d, evalE (callN P (d + 3)) (RN kind q ([a, b].map tv) none (some (.str (Str.ofString op)))) (.ite (.call 50 [(.var 4), (.idx (.var 2) (.int 0)), (.idx (.var 2) (.int 1))]) (.var 4) (.str (Str.ofString "-"))) = some (.ok (.str (Str.ofString x)))) → NodeIs kind q [a, b] (.bin (Str.ofString x) a b) := fun t x hx => node_eq fun d =>
    (congrArg endOf ((st_no' (kd_f h3)).trans ((st_no' (kd_f h6)).trans ((st_no' (kd_f h7)).trans (st_as (ev_idx_of (by kernel_rfl) (ev_bin_of rfl rfl (ar_mod q (k := 25) (by decide))) o2) rfl))))).trans
      (st_ret.trans (ev_tup_of (evl_cons_of rfl rfl (evl_cons_of (hx d) rfl (evl_two rfl (pl_tv a) rfl (pl_tv b)))) (nl_cons rfl (nl_cons rfl (nl_cons (nl_tv a) (nl_cons (nl_tv b) rfl)))) (Nat.le_of_ble_eq_true rfl)))
  have cal : ∀ d, evalE (callN P (d + 3)) (RN kind q ([a, b].map tv) none (some (.str (Str.ofString op)))) (.call 50 [(.var 4), (.idx (.var 2) (.int 0)), (.idx (.var 2) (.int 1))]) = some (.ok (.bool f)) := fun d => ev_call_of (evl_three rfl rfl rfl (pl_tv a) rfl (pl_tv b)) (f1 (d + 1))
  cases f with
  | true => exact ⟨_, pre (.num 0) op fun d => ev_ite_t (cal d) rfl, mx2 h ▸ g_bin (ops25_bin o1) ga gb hn (f2 rfl).1 (f2 rfl).2⟩
  | false => exact ⟨_, pre (.num 0) "-" fun d => ev_ite_f (cal d) rfl, mx2 h ▸ g_bin (by decide) ga gb hn (fitok_minus a b).1 (fitok_minus a b).2⟩
theorem node_un {q : Int} {a : T} {n h : Nat} (ga : G n h a) (hn : n ≤ 31) : ∃ t, NodeIs 3 q [a] t ∧ G (n + 1) (h + 1) t := by
  obtain ⟨op, o1, o2⟩ := pick unOps (fun s => V.str (Str.ofString s)) (k := 4) rfl (by decide) (by decide) q
  exact ⟨.un (Str.ofString op) a, node_eq fun d => (st_yes_ret kd_t).trans (ev_tup_of (evl_cons_of rfl rfl (evl_two (ev_idx_of (by kernel_rfl) (ev_bin_of rfl rfl (ar_mod q (k := 4) (by decide))) o2) rfl rfl (pl_tv a))) (nl_cons rfl (nl_cons rfl (nl_cons (nl_tv a) rfl))) (Nat.le_of_ble_eq_true rfl)), g_un o1 ga hn⟩
theorem node_call {q : Int} {l : List (T × Nat)} {h : Nat} (hg : ∀ e ∈ l, G e.2 h e.1) (hn : SumN l ≤ 31) (hl : l.length ≤ 3) : ∃ t, NodeIs 6 q (l.map (·.1)) t ∧ G (SumN l + 1) (h + 1) t := by
  obtain ⟨f, f1, f2⟩ := pick fnNames (fun s => V.str (Str.ofString s)) (k := 8) rfl (by decide) (by decide) q
  have len : ((l.map (·.1)).map tv).length ≤ 1000000 := Nat.le_trans (Nat.le_of_eq ((List.length_map ..).trans (List.length_map ..))) (Nat.le_trans hl (Nat.le_of_ble_eq_true rfl))
  have cc : ∀ d, compCallV (callN P (d + 3)) 46 (.lst false ((l.map (·.1)).map tv)) = some (.ok (.lst true (((l.map (·.1)).map isLeaf).map .bool))) := fun d =>
    (if_pos len).trans (by rw [leaf_map, scalars_bool])
  have res : ∀ g : String, tv (.call (Str.ofString g) (l.map (·.1))) = .tup [.str (Str.ofString "call"), .str (Str.ofString g), .tup ((l.map (·.1)).map tv)] := fun g => congrArg (fun x => V.tup [.str (Str.ofString "call"), .str (Str.ofString g), .tup x]) (tvL_map _)
  have all : ∀ d, evalE (callN P (d + 3)) (RN 6 q ((l.map (·.1)).map tv) (some (.str (Str.ofString f))) none) (.not (.b1 .all (.compCall 46 (.var 2)))) = some (.ok (.bool (!(((l.map (·.1)).map isLeaf).all id)))) := fun d => ev_not_of (ev_b1_of (ev_compCall_of rfl (cc d)) b_all)
  have last : ∀ (g : String) d, execs (callN P (d + 3)) [.ret (.tup [(.str (Str.ofString "call")), (.var 3), (.b1 .tuple (.var 2))])] (RN 6 q ((l.map (·.1)).map tv) (some (.str (Str.ofString g))) none) = some (.ret (tv (.call (Str.ofString g) (l.map (·.1))))) := fun g d =>
    st_ret' ((ev_tup_of (evl_three rfl rfl rfl rfl (ev_b1_of rfl (b_tuple len)) rfl) rfl (Nat.le_of_ble_eq_true rfl)).trans (congrArg (fun x => some (Except.ok x)) (res g).symm))
  have nod : ∀ g : String, (∀ d, execs (callN P (d + 3)) [.ite (.and [(.cmp .eq (.var 3) (.str (Str.ofString "isqrt"))), (.not (.b1 .all (.compCall 46 (.var 2))))]) [.assign 3 (.str (Str.ofString "int"))] [], .ret (.tup [(.str (Str.ofString "call")), (.var 3), (.b1 .tuple (.var 2))])] (RN 6 q ((l.map (·.1)).map tv) (some (.str (Str.ofString f))) none) = some (.ret (tv (.call (Str.ofString g) (l.map (·.1)))))) → NodeIs 6 q (l.map (·.1)) (.call (Str.ofString g) (l.map (·.1))) := fun g hx => node_eq fun d =>
    (congrArg endOf (st_no' (kd_f (by decide)))).trans (st_yes_end kd_t ((st_as (ev_idx_of (by kernel_rfl) (ev_bin_of rfl rfl (ar_mod q (k := 8) (by decide))) f2) rfl).trans (hx d)))
  by_cases hsq : f = "isqrt"
  · cases hal : ((l.map (·.1)).map isLeaf).all id with
    | true => exact ⟨_, nod f fun d => (st_no' (ev_and_t (ev_cmp_of rfl rfl (eqs_t hsq)) ((all d).trans (by rw [hal]; rfl)))).trans (last f d), g_call f1 hg hl hn fun _ e he => List.all_eq_true.mp hal (isLeaf e.1) (List.mem_map_of_mem (List.mem_map_of_mem he))⟩
    | false => exact ⟨_, nod "int" fun d => (st_yes_as1 (ev_and_t (ev_cmp_of rfl rfl (eqs_t hsq)) ((all d).trans (by rw [hal]; rfl))) rfl rfl).trans (last "int" d), g_call (by decide) hg hl hn fun q => absurd q (by decide)⟩
  · exact ⟨_, nod f fun d => (st_no' (ev_and_f (ev_cmp_of rfl rfl (eqs_f hsq)))).trans (last f d), g_call f1 hg hl hn fun q => absurd q hsq⟩

theorem node_log {q k : Int} {g : String} {l : List T} {t : T} (hk : Int.fmod q 3 = k) (hv : vidx (.tup [.str (Str.ofString "and"), .str (Str.ofString "or"), .str (Str.ofString "if")]) (.int k) = some (.str (Str.ofString g)))
    (hl : 1 + (l.map tv).length ≤ 1000000) (ht : tv t = .tup (.str (Str.ofString g) :: l.map tv)) : NodeIs 7 q l t := node_eq fun d =>
  (congrArg endOf ((st_no' (kd_f (by decide))).trans (st_no' (kd_f (by decide))))).trans ((st_yes_ret kd_t).trans
    ((ev_bin_of (ev_tup_of (evl_one (ev_idx_of rfl (ev_bin_of rfl rfl (ar_mod q (k := 3) (by decide))) (hk ▸ hv)) rfl) rfl (Nat.le_of_ble_eq_true rfl)) (ev_b1_of rfl (b_tuple (Nat.le_trans (Nat.le_add_left _ _) hl))) (ar_addt_of hl)).trans (congrArg (fun x => some (Except.ok x)) ht.symm)))
theorem l_one : ∀ {l : List (T × Nat)}, l.length = 1 → ∃ e, l = [e]
  | [e], _ => ⟨e, rfl⟩
theorem l_two : ∀ {l : List (T × Nat)}, l.length = 2 → ∃ e f, l = [e, f]
  | [e, f], _ => ⟨e, f, rfl⟩
theorem l_three : ∀ {l : List (T × Nat)}, l.length = 3 → ∃ e f g, l = [e, f, g]
  | [e, f, g], _ => ⟨e, f, g, rfl⟩
theorem fm2or {z : Int} (h0 : 0 ≤ z) (h3 : z < 3) (h : ¬ z = 2) : z = 0 ∨ z = 1 := by (first | lia | omega)
theorem c_lnode {kind : Int} {q : Int} {l : List (T × Nat)} {h : Nat} (hk : kind = 3 ∨ kind = 4 ∨ kind = 5 ∨ kind = 6 ∨ kind = 7) (hg : ∀ e ∈ l, G e.2 h e.1) (hh : h ≤ 19) (hn : SumN l ≤ 31) (hl : l.length ≤ 3)
    (l3 : kind = 3 → l.length = 1) (l4 : kind = 4 ∨ kind = 5 → l.length = 2) (l7 : kind = 7 → l.length = if Int.fmod q 3 = 2 then 3 else 2) :
    ∃ t, NodeIs kind q (l.map (·.1)) t ∧ G (SumN l + 1) (h + 1) t := by
  have hbin : kind = 4 ∨ kind = 5 → ∃ t, NodeIs kind q (l.map (·.1)) t ∧ G (SumN l + 1) (h + 1) t := fun hk => by
    obtain ⟨e, f, rfl⟩ := l_two (l4 hk)
    exact node_bin (fun h => by subst h; exact absurd hk (by decide)) (fun h => by subst h; exact absurd hk (by decide)) (fun h => by subst h; exact absurd hk (by decide)) (hg e (List.mem_cons_self ..)) (hg f (List.mem_cons_of_mem _ (List.mem_cons_self ..))) hn (Nat.le_succ_of_le hh)
  rcases hk with rfl | rfl | rfl | rfl | rfl
  · obtain ⟨e, rfl⟩ := l_one (l3 rfl)
    exact node_un (hg e (List.mem_cons_self ..)) hn
  · exact hbin (.inl rfl)
  · exact hbin (.inr rfl)
  · exact node_call hg hn hl
  · have h7 := l7 rfl
    obtain ⟨r1, r2⟩ := fmod_range q (k := 3) (by decide)
    by_cases hq2 : Int.fmod q 3 = 2
    · rw [if_pos hq2] at h7
      obtain ⟨c, a, b, rfl⟩ := l_three h7
      have hs : SumN [c, a, b] = c.2 + a.2 + b.2 := (Nat.add_assoc ..).symm
      rw [hs] at hn ⊢
      exact ⟨.ite c.1 a.1 b.1, node_log hq2 rfl (Nat.le_of_ble_eq_true rfl) rfl, mx3 h ▸ g_ite (hg c (List.mem_cons_self ..)) (hg a (List.mem_cons_of_mem _ (List.mem_cons_self ..))) (hg b (List.mem_cons_of_mem _ (List.mem_cons_of_mem _ (List.mem_cons_self ..)))) hn⟩
    · rw [if_neg hq2] at h7
      obtain ⟨a, b, rfl⟩ := l_two h7
      have log : ∀ o : Bool, Int.fmod q 3 = cond o 1 0 → vidx (.tup [.str (Str.ofString "and"), .str (Str.ofString "or"), .str (Str.ofString "if")]) (.int (cond o 1 0)) = some (.str (Str.ofString (logN o))) → ∃ t, NodeIs 7 q ([a, b].map (·.1)) t ∧ G (SumN [a, b] + 1) (h + 1) t := fun o h0 hv =>
        ⟨.log o a.1 b.1, node_log h0 hv (Nat.le_of_ble_eq_true rfl) rfl, mx2 h ▸ g_log o (hg a (List.mem_cons_self ..)) (hg b (List.mem_cons_of_mem _ (List.mem_cons_self ..))) hn⟩
      exact (fm2or r1 r2 hq2).elim (fun h => log false h rfl) fun h => log true h rfl
end Mine
end
section
open PySem
namespace Mine
set_option linter.unusedVariables false
set_option linter.unusedSimpArgs false
set_option exponentiation.threshold 5000

noncomputable abbrev Ent := T × Nat × Nat
noncomputable def ent (e : Ent) : V := .tup [tv e.1, .int (e.2.2 : Nat)]
noncomputable def sumE (l : List Ent) : Nat := (l.map (·.2.1)).sum
noncomputable def EntOk (e : Ent) : Prop := G e.2.1 e.2.2 e.1 ∧ e.2.2 < 10
noncomputable def mh (l : List Nat) : Nat := l.foldl max 0
theorem mh_le {l : List Nat} : ∀ x ∈ l, x ≤ mh l := by
  have key : ∀ (l : List Nat) (a : Nat), a ≤ l.foldl max a ∧ ∀ x ∈ l, x ≤ l.foldl max a := by
    intro l
    induction l with
    | nil => intro a; exact ⟨Nat.le_refl _, fun x h => by cases h⟩
    | cons y r ih =>
      intro a
      obtain ⟨i1, i2⟩ := ih (max a y)
      refine ⟨by rw [List.foldl_cons]; (first | lia | omega), fun x hx => ?_⟩
      rw [List.foldl_cons]
      rcases List.mem_cons.mp hx with rfl | hx
      · (first | lia | omega)
      · exact i2 x hx
  exact (key l 0).2
theorem mh_lt {l : List Nat} {k : Nat} (h0 : 0 < k) (h : ∀ x ∈ l, x < k) : mh l < k := by
  have key : ∀ (l : List Nat) (a : Nat), a < k → (∀ x ∈ l, x < k) → l.foldl max a < k := by
    intro l
    induction l with
    | nil => intro a ha _; exact ha
    | cons y r ih =>
      intro a ha hl
      rw [List.foldl_cons]
      exact ih _ (by have := hl y (List.mem_cons_self ..); (first | lia | omega)) fun x hx => hl x (List.mem_cons_of_mem _ hx)
  exact key l 0 h0 h
theorem maxL_cast (l : List Nat) : maxL ((0 : Int) :: l.map fun n : Nat => (n : Int)) = some ((mh l : Nat) : Int) := by
  have key : ∀ (l : List Nat) (a : Nat), (l.map fun n : Nat => (n : Int)).foldl (fun m x => if m < x then x else m) (a : Int) = ((l.foldl max a : Nat) : Int) := by
    intro l
    induction l with
    | nil => intro a; rfl
    | cons y r ih =>
      intro a
      rw [List.map_cons, List.foldl_cons, List.foldl_cons, ← ih]
      congr 1
      split <;> (first | lia | omega)
  show some _ = _
  rw [show (0 : Int) = ((0 : Nat) : Int) from rfl, key]; rfl
theorem vidx_lst {o : Bool} {vs : List V} {i : Int} {k : Nat} {v : V} (hi : i = k) (hk : k ≤ 1000000000) (h : vs[k]? = some v) : vidx (.lst o vs) (.int i) = some v := by
  subst hi
  show (if (0 : Int) ≤ k ∧ (k : Int) ≤ 1000000000 then vs[(k : Int).toNat]? else none) = _
  rw [if_pos (by (first | lia | omega))]
  simpa using h
theorem slTo_lst {o : Bool} {vs : List V} {i : Int} {k : Nat} (hi : i = k) (hl : vs.length ≤ 1000000) : vslTo (.lst o vs) (.int i) = some (.lst true (vs.take k)) := by
  subst hi
  show (if (0 : Int) ≤ k ∧ vs.length ≤ 1000000 then some (V.lst true (vs.take (k : Int).toNat)) else none) = _
  rw [if_pos (by (first | lia | omega))]; rfl
theorem slFrom_lst {o : Bool} {vs : List V} {i : Int} {k : Nat} (hi : i = k) (h : k ≤ vs.length) (hl : vs.length ≤ 1000000) : vslFrom (.lst o vs) (.int i) = some (.lst true (vs.drop k)) := by
  subst hi
  show (if (0 : Int) ≤ k ∧ vs.length ≤ 1000000 then some (V.lst true (vs.drop (k : Int).toNat)) else none) = _
  rw [if_pos (by (first | lia | omega))]; rfl
theorem mapR_ent {k : Nat} {F : List Ent → List V} (h0 : F [] = []) (hc : ∀ e r, ∃ v, idxV k (ent e) = some (.ok v) ∧ F (e :: r) = v :: F r) : ∀ l : List Ent, mapR (idxV k) (l.map ent) = some (.ok (F l)) := by
  intro l
  induction l with
  | nil => rw [h0]; rfl
  | cons e r ih =>
    obtain ⟨v, h1, h2⟩ := hc e r
    rw [List.map_cons, mapR_cons, h1, ih, h2]; rfl
theorem comp_ent {k : Nat} {F : List Ent → List V} (h0 : F [] = []) (hc : ∀ e r, ∃ v, idxV k (ent e) = some (.ok v) ∧ F (e :: r) = v :: F r) {o : Bool} {l : List Ent} (hl : l.length ≤ 1000000) (hk : k ≤ 1000) : compIdxV k (.lst o (l.map ent)) = some (.ok (.lst true (F l))) :=
  (if_pos ⟨Nat.le_trans (Nat.le_of_eq (List.length_map ..)) hl, hk⟩).trans (by rw [mapR_ent h0 hc]; rfl)
/-- their trees, their heights -/
noncomputable def trees (l : List Ent) : List V := ((l.map fun e : Ent => (e.1, e.2.1)).map (·.1)).map tv
noncomputable def marks (l : List Ent) : List V := ((l.map (·.2.2)).map fun n : Nat => (n : Int)).map .int
theorem comp0 {o : Bool} {l : List Ent} (hl : l.length ≤ 1000000) : compIdxV 0 (.lst o (l.map ent)) = some (.ok (.lst true (trees l))) := comp_ent (F := trees) rfl (fun e r => ⟨_, rfl, rfl⟩) hl (Nat.zero_le _)
theorem comp1 {o : Bool} {l : List Ent} (hl : l.length ≤ 1000000) : compIdxV 1 (.lst o (l.map ent)) = some (.ok (.lst true (marks l))) := comp_ent (F := marks) rfl (fun e r => ⟨_, rfl, rfl⟩) hl (Nat.le_of_ble_eq_true rfl)
theorem callN_own3 (d : Nat) (f : Nat) (x y : V) (xs : List V) : callN P d f [x, y, .lst true xs] = callN P d f [x, y, .lst false xs] := by
  cases d with
  | zero => rfl
  | succ d => rfl
noncomputable def lawBody : List S := [.assign 5 (.bin .add (.idx (.var 1) (.var 4)) (.ite (.cmp .lt (.var 4) (.b1 .len (.var 0))) (.idx (.var 0) (.var 4)) (.int 0))),
    .unpack2 6 7 (.tup [(.bin .mod (.var 5) (.int 8)), (.bin .fdiv (.var 5) (.int 8))]),
    .assign 8 (.call 51 [(.var 6), (.var 7)]),
    .ite (.or [(.cmp .lt (.var 6) (.int 3)), (.cmp .gt (.var 8) (.b1 .len (.var 3)))]) [.assign 9 (.ite (.cmp .lt (.var 6) (.int 2)) (.tup [(.str (Str.ofString "num")), (.call 45 [(.var 7)])]) (.tup [(.str (Str.ofString "text")), (.call 44 [(.var 7)])])),
    .append 3 (.tup [(.var 9), (.int 0)]),
    .cont] [],
    .assign 10 (.slFrom (.var 3) (.bin .sub (.b1 .len (.var 3)) (.var 8))),
    .assign 3 (.slTo (.var 3) (.bin .sub (.b1 .len (.var 3)) (.var 8))),
    .assign 11 (.call 52 [(.var 6), (.var 7), (.compIdx 0 (.var 10))]),
    .assign 12 (.bin .add (.int 1) (.b1 .max (.bin .add (.lst [(.int 0)]) (.compIdx 1 (.var 10))))),
    .ite (.cmp .lt (.var 12) (.int 10)) [.append 3 (.tup [(.var 11), (.var 12)])] [.ite (.not (.call 56 [(.var 11), (.var 2)])) [.ret (.bool false)] []]]
noncomputable def lawA : List S := lawBody.take 4
noncomputable def lawB : List S := lawBody.drop 4
/-- what stands between two turns -/
noncomputable def Inv (sc : List Int) (way : Int) (i : Nat) (ρ : Rho) : Prop := ∃ (stk : List Ent) (x4 x5 x6 x7 x8 x9 x10 x11 x12 : Option V), (∀ e ∈ stk, EntOk e) ∧ sumE stk ≤ i ∧ stk.length ≤ i ∧
  ρ = [some (.lst true (sc.map .int)), some (.lst true (lawRows.map .int)), some (.int way), some (.lst true (stk.map ent)), x4, x5, x6, x7, x8, x9, x10, x11, x12]
theorem sumE_append (a b : List Ent) : sumE (a ++ b) = sumE a + sumE b := by simp [sumE]
/-- a turn's end -/
noncomputable def Turned (sc : List Int) (way : Int) (i : Nat) (o : Option Out) : Prop := ∃ ρ', (o = some (.next ρ') ∨ o = some (.cont ρ')) ∧ Inv sc way (i + 1) ρ'
theorem Turned.of {sc : List Int} {way : Int} {i : Nat} {o o' : Option Out} (h : Turned sc way i o') (e : o = o') : Turned sc way i o := e ▸ h
@[reducible] noncomputable def RL (sc : List Int) (way : Int) (stk : List Ent) (x4 x5 x6 x7 x8 x9 x10 x11 x12 : Option V) : Rho := [some (.lst true (sc.map .int)), some (.lst true (lawRows.map .int)), some (.int way), some (.lst true (stk.map ent)), x4, x5, x6, x7, x8, x9, x10, x11, x12]
theorem inv_of {sc : List Int} {way : Int} {i : Nat} {stk : List Ent} {x4 x5 x6 x7 x8 x9 x10 x11 x12 : Option V} (h1 : ∀ e ∈ stk, EntOk e) (h2 : sumE stk ≤ i) (h3 : stk.length ≤ i) : Inv sc way i (RL sc way stk x4 x5 x6 x7 x8 x9 x10 x11 x12) :=
  ⟨stk, x4, x5, x6, x7, x8, x9, x10, x11, x12, h1, h2, h3, rfl⟩
theorem inv_add {sc : List Int} {way : Int} {i : Nat} {stk : List Ent} {e : Ent} {x4 x5 x6 x7 x8 x9 x10 x11 x12 : Option V} (h1 : ∀ e ∈ stk, EntOk e) (h2 : sumE stk + e.2.1 ≤ i) (h3 : stk.length + 1 ≤ i) (he : EntOk e) :
    Inv sc way i (RL sc way (stk ++ [e]) x4 x5 x6 x7 x8 x9 x10 x11 x12) :=
  inv_of (fun q hq => (List.mem_append.mp hq).elim (h1 q) fun m => (List.mem_singleton.mp m) ▸ he) (by rw [sumE_append]; exact h2) (by rw [List.length_append]; exact h3)
theorem app_ent {stk : List Ent} {e : Ent} : stk.map ent ++ [ent e] = (stk ++ [e]).map ent := by rw [List.map_append]; rfl
theorem mil {n i : Nat} (h : n ≤ i) (hi : i < 32) : n ≤ 1000000 := Nat.le_trans h (Nat.le_trans (Nat.le_of_lt hi) (Nat.le_of_ble_eq_true rfl))
theorem len_ent {l : List Ent} {i : Nat} (h : l.length ≤ i) (hi : i < 32) : (l.map ent).length ≤ 1000000 := mil (Nat.le_trans (Nat.le_of_eq (List.length_map ..)) h) hi
theorem b_len_ent {o : Bool} {l : List Ent} {i : Nat} (h : l.length ≤ i) (hi : i < 32) : builtin1 .len (.lst o (l.map ent)) = some (.int l.length) :=
  (b_len_lst (Nat.le_trans (len_ent h hi) (Nat.le_of_ble_eq_true rfl))).trans (congrArg (fun n : Nat => some (V.int n)) (List.length_map ..))
/-- a leaf's turn -/
theorem law_leaf {sc : List Int} {way : Int} {i : Nat} (hi : i < 32) {stk : List Ent} (ok : ∀ e ∈ stk, EntOk e) (sum : sumE stk ≤ i) (len : stk.length ≤ i) {draw kind q : Int} {m : Nat} {x9 x10 x11 x12 : Option V} (h : kind < 3 ∨ stk.length < m) :
    Turned sc way i (execs (callN P 150) (lawBody.drop 3) (RL sc way stk (some (.int i)) (some (.int draw)) (some (.int kind)) (some (.int q)) (some (.int m)) x9 x10 x11 x12)) := by
  have cond : evalE (callN P 150) (RL sc way stk (some (.int i)) (some (.int draw)) (some (.int kind)) (some (.int q)) (some (.int m)) x9 x10 x11 x12) (.or [(.cmp .lt (.var 6) (.int 3)), (.cmp .gt (.var 8) (.b1 .len (.var 3)))]) = some (.ok (.bool true)) := by
    by_cases h3 : kind < 3
    · exact ev_or_t (ev_cmp_of rfl rfl (lt_t h3))
    · exact ev_or_f (ev_cmp_of rfl rfl (lt_f h3)) (ev_cmp_of rfl (ev_b1_of rfl (b_len_ent len hi)) (gt_t (Int.ofNat_lt.mpr (h.resolve_left h3))))
  have fin : ∀ t : T, G 1 0 t → evalE (callN P 150) (RL sc way stk (some (.int i)) (some (.int draw)) (some (.int kind)) (some (.int q)) (some (.int m)) x9 x10 x11 x12) (.ite (.cmp .lt (.var 6) (.int 2)) (.tup [(.str (Str.ofString "num")), (.call 45 [(.var 7)])]) (.tup [(.str (Str.ofString "text")), (.call 44 [(.var 7)])])) = some (.ok (tv t)) →
      Turned sc way i (execs (callN P 150) (lawBody.drop 3) (RL sc way stk (some (.int i)) (some (.int draw)) (some (.int kind)) (some (.int q)) (some (.int m)) x9 x10 x11 x12)) := fun t g ht =>
    ⟨_, .inr ((st_yes cond).trans ((congrArg (fun o => thenX o _) ((st_as ht (st_tv t)).trans (st_app (vs := stk.map ent) rfl (ev_tup2 (ev_var_of rfl (fr_tv t)) (pl_tv t) (nl_tv t) rfl rfl rfl) rfl (len_ent len hi)))).trans
      (congrArg (fun l => some (Out.cont [some (.lst true (sc.map .int)), some (.lst true (lawRows.map .int)), some (.int way), some (.lst true l), some (.int i), some (.int draw), some (.int kind), some (.int q), some (.int m), some (tv t), x10, x11, x12])) (app_ent (e := (t, 1, 0)))))),
      inv_add ok (Nat.add_le_add_right sum 1) (Nat.add_le_add_right len 1) ⟨g, Nat.le_of_ble_eq_true rfl⟩⟩
  by_cases h2 : kind < 2
  · obtain ⟨z, z1, z2⟩ := c_lnumber q
    exact fin (.num z) (g_num z1) (ev_ite_t (ev_cmp_of rfl rfl (lt_t h2)) (ev_tup2 rfl rfl rfl (ev_call_of (evl_one rfl rfl) (z2 149)) rfl rfl))
  · obtain ⟨s, z1, z2⟩ := c_ltext q
    exact fin (.txt s) (g_txt z1) (ev_ite_f (ev_cmp_of rfl rfl (lt_f h2)) (ev_tup2 rfl rfl rfl (ev_call_of (evl_one rfl rfl) (z2 149)) rfl rfl))
theorem law_k {k : Int} (h0 : 0 ≤ k) (h1 : k < 8) (h : ¬ k < 3) : k = 3 ∨ k = 4 ∨ k = 5 ∨ k = 6 ∨ k = 7 := by (first | lia | omega)
theorem law_k0 {k : Int} (h0 : 0 ≤ k) (h1 : k < 8) : k = 0 ∨ k = 1 ∨ k = 2 ∨ k = 3 ∨ k = 4 ∨ k = 5 ∨ k = 6 ∨ k = 7 := by (first | lia | omega)
theorem cut_len {a b : Nat} : ((a + b : Nat) : Int) - (b : Nat) = (a : Nat) := by (first | lia | omega)
theorem sl_from {o : Bool} {pre som : List Ent} (hl : (pre ++ som).length ≤ 1000000) : vslFrom (.lst o ((pre ++ som).map ent)) (.int ((pre ++ som).length - (som.length : Nat))) = some (.lst true (som.map ent)) := by
  rw [slFrom_lst (k := pre.length) (by rw [List.length_append]; exact cut_len) (by rw [List.length_map, List.length_append]; exact Nat.le_add_right _ _) (by rw [List.length_map]; exact hl), List.map_append, List.drop_left' (List.length_map ..)]
theorem sl_to {o : Bool} {pre som : List Ent} (hl : (pre ++ som).length ≤ 1000000) : vslTo (.lst o ((pre ++ som).map ent)) (.int ((pre ++ som).length - (som.length : Nat))) = some (.lst true (pre.map ent)) := by
  rw [slTo_lst (k := pre.length) (by rw [List.length_append]; exact cut_len) (by rw [List.length_map]; exact hl), List.map_append, List.take_left' (List.length_map ..)]
theorem arr_ones {xs : List V} (h : xs.length ≤ 999) : arith .add (.lst true [.int 0]) (.lst true xs) = some (.lst true (.int 0 :: xs)) :=
  if_pos (Nat.le_trans (Nat.le_trans (Nat.le_of_eq (Nat.add_comm _ _)) (Nat.add_le_add_right h 1)) (Nat.le_of_ble_eq_true rfl))
/-- a node's turn -/
theorem law_node {sc : List Int} {way : Int} {i : Nat} (hi : i < 32) {pre som : List Ent} (ok : ∀ e ∈ pre ++ som, EntOk e) (sum : sumE (pre ++ som) ≤ i) (len : (pre ++ som).length ≤ i) {draw kind q : Int} {x9 x10 x11 x12 : Option V} (h0 : 0 ≤ kind) (h8 : kind < 8) (h3 : ¬ kind < 3)
    (hm : som.length ≤ 3) (m3 : kind = 3 → som.length = 1) (m4 : kind = 4 ∨ kind = 5 → som.length = 2) (m5 : kind = 7 → som.length = if Int.fmod q 3 = 2 then 3 else 2) :
    Turned sc way i (execs (callN P 150) (lawBody.drop 3) (RL sc way (pre ++ som) (some (.int i)) (some (.int draw)) (some (.int kind)) (some (.int q)) (some (.int som.length)) x9 x10 x11 x12)) := by
  have lN : (som.map fun e : Ent => (e.1, e.2.1)).length = som.length := List.length_map ..
  have hle := Nat.le_trans (Nat.le_of_eq (sumE_append pre som).symm) sum
  have hln := Nat.le_trans (Nat.le_of_eq (List.length_append (as := pre) (bs := som)).symm) len
  have hsum : SumN (som.map (fun e : Ent => (e.1, e.2.1))) = sumE som := congrArg List.sum (List.map_map ..)
  have okp : ∀ e ∈ pre, EntOk e := fun e he => ok e (List.mem_append_left _ he)
  have oks : ∀ e ∈ som, EntOk e := fun e he => ok e (List.mem_append_right _ he)
  obtain ⟨H, hH⟩ : ∃ H, H = mh (som.map (·.2.2)) := ⟨_, rfl⟩
  have lok : ∀ e ∈ som.map (fun e : Ent => (e.1, e.2.1)), G e.2 H e.1 := fun e he => by
    obtain ⟨e', he', rfl⟩ := List.mem_map.mp he
    exact (oks e' he').1.mono (hH ▸ mh_le _ (List.mem_map_of_mem he'))
  have hmh : H < 10 := hH ▸ mh_lt (Nat.le_of_ble_eq_true rfl) fun x hx => by
    obtain ⟨e', he', rfl⟩ := List.mem_map.mp hx
    exact (oks e' he').2
  have hn : SumN (som.map (fun e : Ent => (e.1, e.2.1))) ≤ 31 := hsum ▸ Nat.le_trans (Nat.le_trans (Nat.le_add_left _ _) hle) (Nat.le_of_lt_succ hi)
  obtain ⟨t, t1, t2⟩ := c_lnode (kind := kind) (q := q) (law_k h0 h8 h3) lok (Nat.le_trans (Nat.le_of_lt hmh) (Nat.le_of_ble_eq_true rfl)) hn (lN ▸ hm) (fun hk => lN.trans (m3 hk)) (fun hk => lN.trans (m4 hk)) (fun hk => lN.trans (m5 hk))
  rw [hsum] at t2
  have t1 : callN P 150 52 [.int kind, .int q, .lst true (trees som)] = some (.ok (tv t)) := (callN_own3 _ _ _ _ _).trans (t1 146)
  have ll := b_len_ent (o := false) len hi
  have lm := mil len hi
  have bm := (b_max (o := true) (maxL_cast (som.map (·.2.2))))
  rw [← hH] at bm
  have mlen : (marks som).length ≤ 999 := Nat.le_trans (Nat.le_of_eq ((List.length_map ..).trans ((List.length_map ..).trans (List.length_map ..)))) (Nat.le_trans hm (Nat.le_of_ble_eq_true rfl))
  refine Turned.of ?_ ((st_no' (ev_or_f (ev_cmp_of rfl rfl (lt_f h3)) (ev_cmp_of rfl (ev_b1_of rfl ll) (gt_f fun h => Nat.not_lt_of_le (by rw [List.length_append]; exact Nat.le_add_left _ _) (Int.ofNat_lt.mp h))))).trans
    ((st_as (ev_slFrom_of rfl (ev_bin_of (ev_b1_of rfl ll) rfl rfl) (sl_from lm)) rfl).trans ((st_as (ev_slTo_of rfl (ev_bin_of (ev_b1_of rfl ll) rfl rfl) (sl_to lm)) rfl).trans
    ((st_as (ev_call_of (evl_three rfl rfl rfl rfl (ev_compIdx_of rfl (comp0 (mil (Nat.le_trans (Nat.le_add_left _ _) hln) hi))) rfl) t1) (st_tv t)).trans
    (st_as (ev_bin_of rfl (ev_b1_of (ev_bin_of rfl (ev_compIdx_of rfl (comp1 (mil (Nat.le_trans (Nat.le_add_left _ _) hln) hi))) (arr_ones mlen)) bm) rfl) rfl)))))
  by_cases h10 : H + 1 < 10
  · exact ⟨_, .inl ((st_yes (ev_cmp_of rfl rfl (lt_t (by rw [Int.add_comm]; exact Int.ofNat_lt.mpr h10)))).trans
      ((congrArg (fun o => thenX o _) (st_app (vs := pre.map ent) rfl (ev_tup2 (ev_var_of rfl (fr_tv t)) (pl_tv t) (nl_tv t) rfl rfl rfl) rfl (len_ent (Nat.le_trans (Nat.le_add_right _ _) hln) hi))).trans
      (congrArg (fun l => some (Out.next [some (.lst true (sc.map .int)), some (.lst true (lawRows.map .int)), some (.int way), some (.lst true l), some (.int i), some (.int draw), some (.int kind), some (.int q), some (.int som.length), x9, some (.lst true (som.map ent)), some (tv t), some (.int (1 + (H : Nat)))]))
        ((congrArg (fun z => pre.map ent ++ [.tup [tv t, .int z]]) (Int.add_comm 1 (H : Int))).trans (app_ent (e := (t, sumE som + 1, H + 1))))))),
      inv_add (e := (t, sumE som + 1, H + 1)) okp (Nat.add_le_add_right hle 1) (Nat.add_le_add_right (Nat.le_trans (Nat.le_add_right _ _) hln) 1) ⟨t2, h10⟩⟩
  · have st := callN_le P (show 81 ≤ 150 by decide) _ _ _ (c_steady t2.safe (Nat.le_trans t2.ht (Nat.le_trans hmh (Nat.le_of_ble_eq_true rfl))) (Nat.lt_of_le_of_lt (Nat.le_trans t2.sz (Nat.mul_le_mul_left 5 (Nat.succ_le_succ (hsum ▸ hn)))) (by decide)) way)
    exact ⟨_, .inl ((st_no (ev_cmp_of rfl rfl (lt_f fun h => h10 (Int.ofNat_lt.mp (by rw [Int.add_comm] at h; exact h))))).trans (congrArg (fun o => thenX o _) (st_no' (ev_not_of (ev_call_of (evl_two (ev_var_of rfl (fr_tv t)) (pl_tv t) rfl rfl) st))))),
      inv_of okp (Nat.le_trans (Nat.le_trans (Nat.le_add_right _ _) hle) (Nat.le_succ _)) (Nat.le_trans (Nat.le_trans (Nat.le_add_right _ _) hln) (Nat.le_succ _))⟩
theorem law_turn {sc : List Int} (hsc : sc.length ≤ 63) {way : Int} {i : Nat} (hi : i < 32) {ρ : Rho} (h : Inv sc way i ρ) : Turned sc way i (execs (callN P 150) lawBody (put ρ 4 (.int i))) := by
  obtain ⟨stk, x4, x5, x6, x7, x8, x9, x10, x11, x12, ok, sum, len, rfl⟩ := h
  obtain ⟨r, hr⟩ : ∃ r, lawRows[i]? = some r := ⟨_, List.getElem?_eq_getElem hi⟩
  have h9 : i ≤ 1000000000 := Nat.le_trans (Nat.le_of_lt hi) (Nat.le_of_ble_eq_true rfl)
  have v1 : vidx (.lst false (lawRows.map .int)) (.int i) = some (.int r) := vidx_lst rfl h9 (by rw [List.getElem?_map, hr]; rfl)
  have ls : builtin1 .len (.lst false (sc.map .int)) = some (.int sc.length) := (b_len_lst (Nat.le_trans (Nat.le_of_eq (List.length_map ..)) (Nat.le_trans hsc (Nat.le_of_ble_eq_true rfl)))).trans (congrArg (fun n : Nat => some (V.int n)) (List.length_map ..))
  obtain ⟨draw, m1⟩ : ∃ draw : Int, evalE (callN P 150) (RL sc way stk (some (.int i)) x5 x6 x7 x8 x9 x10 x11 x12) (.bin .add (.idx (.var 1) (.var 4)) (.ite (.cmp .lt (.var 4) (.b1 .len (.var 0))) (.idx (.var 0) (.var 4)) (.int 0))) = some (.ok (.int draw)) := by
    by_cases hlt : i < sc.length
    · obtain ⟨z, hz⟩ : ∃ z, sc[i]? = some z := ⟨_, List.getElem?_eq_getElem hlt⟩
      exact ⟨r + z, ev_bin_of (ev_idx_of rfl rfl v1) (ev_ite_t (ev_cmp_of rfl (ev_b1_of rfl ls) (lt_t (Int.ofNat_lt.mpr hlt))) (ev_idx_of rfl rfl (vidx_lst rfl h9 (by rw [List.getElem?_map, hz]; rfl)))) rfl⟩
    · exact ⟨r + 0, ev_bin_of (ev_idx_of rfl rfl v1) (ev_ite_f (ev_cmp_of rfl (ev_b1_of rfl ls) (lt_f fun h => hlt (Int.ofNat_lt.mp h))) rfl) rfl⟩
  obtain ⟨kr1, kr2⟩ := fmod_range draw (k := 8) (by decide)
  obtain ⟨m, mm1, mm2, mm3, mm4, mm5⟩ := c_lmany (law_k0 kr1 kr2) (Int.fdiv draw 8)
  refine Turned.of ?_ ((st_as m1 rfl).trans ((st_un2 (ev_tup2 (ev_bin_of rfl rfl (ar_mod draw (k := 8) (by decide))) rfl rfl (ev_bin_of rfl rfl (fdivw draw (k := 8) (by decide) (by unfold Bd; decide))) rfl rfl)).trans (st_as (ev_call_of (evl_two rfl rfl rfl rfl) (mm2 149)) rfl)))
  by_cases hleaf : Int.fmod draw 8 < 3 ∨ stk.length < m
  · exact law_leaf hi ok sum len hleaf
  · have hm : m ≤ stk.length := Nat.le_of_not_lt fun q => hleaf (.inr q)
    have e1 : stk = stk.take (stk.length - m) ++ stk.drop (stk.length - m) := (List.take_append_drop _ _).symm
    have e2 : (stk.drop (stk.length - m)).length = m := (List.length_drop ..).trans (Nat.sub_sub_self hm)
    generalize stk.take (stk.length - m) = pre at *
    generalize stk.drop (stk.length - m) = som at *
    subst e1 e2
    exact law_node hi ok sum len kr1 kr2 (fun q => hleaf (.inl q)) mm1 mm3 mm4 mm5
end Mine
end
section
open PySem
namespace Mine
set_option linter.unusedVariables false
set_option linter.unusedSimpArgs false
set_option exponentiation.threshold 5000

theorem law_loop {sc : List Int} (hsc : sc.length ≤ 63) {way : Int} (n : Nat) : ∀ (i : Nat) (ρ : Rho), i + n = 32 → Inv sc way i ρ →
    ∃ ρ', forL 4 (fun ρ => execs (callN P 150) lawBody ρ) ((List.range' i n).map fun k => V.int (k : Nat)) ρ = some (.next ρ') ∧ Inv sc way 32 ρ' := by
  induction n with
  | zero => intro i ρ h hi; exact ⟨ρ, rfl, h ▸ hi⟩
  | succ n ih =>
    intro i ρ h hi
    obtain ⟨ρ1, h1, h2⟩ := law_turn hsc (show i < 32 from h ▸ Nat.lt_add_of_pos_right (Nat.succ_pos n)) hi
    obtain ⟨ρ2, h3, h4⟩ := ih (i + 1) ρ1 ((Nat.add_right_comm ..).trans h) h2
    exact ⟨ρ2, (h1.elim (fun h => forL_next h) fun h => forL_cont h).trans h3, h4⟩
theorem comp_pair {way : Int} {l : List Ent} (h : ∀ e ∈ l, EntOk e ∧ e.2.1 ≤ 32) : mapR (pairV (callN P 150) 56 (.int way)) (l.map ent) = some (.ok ((l.map fun _ => true).map .bool)) := by
  induction l with
  | nil => rfl
  | cons e r ih =>
    obtain ⟨⟨g, hh⟩, hn⟩ := h e (List.mem_cons_self ..)
    have st : pairV (callN P 150) 56 (.int way) (ent e) = some (.ok (.bool true)) := callN_le P (show 81 ≤ 150 by decide) _ _ _ (c_steady g.safe (Nat.le_trans g.ht (Nat.le_trans (Nat.le_of_lt hh) (Nat.le_of_ble_eq_true rfl))) (Nat.lt_of_le_of_lt (Nat.le_trans g.sz (Nat.mul_le_mul_left 5 hn)) (by decide)) way)
    rw [List.map_cons, mapR_cons, ih fun e he => h e (List.mem_cons_of_mem _ he), st]; rfl
theorem sumE_mem {l : List Ent} {e : Ent} (h : e ∈ l) : e.2.1 ≤ sumE l := by
  induction l with
  | nil => cases h
  | cons a r ih => exact (List.mem_cons.mp h).elim (fun q => q ▸ Nat.le_add_right ..) fun h => Nat.le_trans (ih h) (Nat.le_add_left ..)
theorem ev_compPair_of {cl : Nat → List V → R V} {ρ : Rho} {f w : Nat} {e : E} {v x : V} {y : R V} (h : evalE cl ρ e = some (.ok v)) (hw : (get ρ w).bind freeze = some x) (h2 : compPairV cl f x v = y) : evalE cl ρ (.compPair f e w) = y := by
  rw [ev_compPair, h, R.bind_ok, k_cp, hw]; exact h2
theorem law_pure (ns : List Int) (h : ns.length ≤ 63) : Mine.execs (callN P 150) B_L_law (startRho L_law [.lst false (ns.map .int)]) = some (.ret (.bool true)) := by
  have lm : (ns.map V.int).length = ns.length := List.length_map ..
  have s0 : vslTo (.lst false (ns.map .int)) (.int 63) = some (.lst true (ns.map .int)) := (slTo_lst (k := 63) rfl (Nat.le_trans (Nat.le_of_eq lm) (Nat.le_trans h (Nat.le_of_ble_eq_true rfl)))).trans (by rw [List.take_of_length_le (Nat.le_trans (Nat.le_of_eq lm) h)])
  have l0 : builtin1 .len (.lst false (ns.map .int)) = some (.int ns.length) := (b_len_lst (Nat.le_trans (Nat.le_of_eq lm) (Nat.le_trans h (Nat.le_of_ble_eq_true rfl)))).trans (congrArg (fun n : Nat => some (V.int n)) lm)
  have l1 : builtin1 .len (.lst false (lawRows.map .int)) = some (.int (32 : Nat)) := rfl
  obtain ⟨way, key⟩ : ∃ way : Int, evalE (callN P 150) [some (.lst true (ns.map .int)), some (.lst true (lawRows.map .int)), none, none, none, none, none, none, none, none, none, none, none] (.bin .add (.int 1) (.ite (.cmp .gt (.b1 .len (.var 0)) (.b1 .len (.var 1))) (.idx (.var 0) (.b1 .len (.var 1))) (.int 0))) = some (.ok (.int way)) := by
    by_cases hlt : 32 < ns.length
    · obtain ⟨z, hz⟩ : ∃ z, ns[32]? = some z := ⟨_, List.getElem?_eq_getElem hlt⟩
      exact ⟨1 + z, ev_bin_of rfl (ev_ite_t (ev_cmp_of (ev_b1_of rfl l0) (ev_b1_of rfl l1) (gt_t (Int.ofNat_lt.mpr hlt))) (ev_idx_of rfl (ev_b1_of rfl l1) (vidx_lst rfl (Nat.le_of_ble_eq_true rfl) (by rw [List.getElem?_map, hz]; rfl)))) rfl⟩
    · exact ⟨1 + 0, ev_bin_of rfl (ev_ite_f (ev_cmp_of (ev_b1_of rfl l0) (ev_b1_of rfl l1) (gt_f fun q => hlt (Int.ofNat_lt.mp q))) rfl) rfl⟩
  obtain ⟨ρ', lp, stk, x4, x5, x6, x7, x8, x9, x10, x11, x12, ok, sum, len, rfl⟩ := law_loop h 32 0 _ rfl (inv_of (sc := ns) (way := way) (stk := []) (x4 := none) (x5 := none) (x6 := none) (x7 := none) (x8 := none) (x9 := none) (x10 := none) (x11 := none) (x12 := none) (fun e he => nomatch he) (Nat.le_refl _) (Nat.le_refl _))
  have cp : compPairV (callN P 150) 56 (.int way) (.lst false (stk.map ent)) = some (.ok (.lst true ((stk.map fun _ => true).map .bool))) :=
    (if_pos (Nat.le_trans (Nat.le_of_eq (List.length_map ..)) (Nat.le_trans len (Nat.le_of_ble_eq_true rfl)))).trans (by rw [comp_pair fun e he => ⟨ok e he, Nat.le_trans (sumE_mem he) sum⟩, scalars_bool])
  have al : (stk.map fun _ => true).all id = true := List.all_eq_true.mpr fun b hb => by obtain ⟨_, _, rfl⟩ := List.mem_map.mp hb; rfl
  have s3 : execs (callN P 150) B_L_law (startRho L_law [.lst false (ns.map .int)]) = execs (callN P 150) (B_L_law.drop 4) (RL ns way [] none none none none none none none none none) :=
    (st_as (ev_slTo_of rfl rfl s0) rfl).trans ((st_as (ev_call_of rfl (c_lrows 149)) rfl).trans ((st_as key rfl).trans (st_as rfl rfl)))
  have fr : exec (callN P 150) (.forRange 4 (.b1 .len (.var 1)) lawBody) (RL ns way [] none none none none none none none none none) = _ := (ex_fr (ev_b1_of rfl l1) (Nat.le_of_ble_eq_true rfl)).trans lp
  exact s3.trans ((st_in_next fr).trans (st_ret' ((ev_b1_of (ev_compPair_of rfl rfl cp) b_all).trans (congrArg (fun b => some (Except.ok (V.bool b))) al))))
end Mine
end
section
open PySem PySem.W PyProof.Rows
set_option Elab.async false
set_option maxRecDepth 100000
set_option maxHeartbeats 8000000
namespace Mine
theorem wellInts {p : Params} {h : Heap} : ∀ {ns : List Int} {vs : List Value} {ds : List WData}, ds = (ns.map PyData.int).map ofPy → WellAll p h vs ds → RepL h (ns.map V.int) vs
  | [], _, _, e, x => by subst e; cases x; exact RepL.nil
  | n :: ns, _, _, e, x => by
    subst e
    cases x with
    | cons y z =>
      refine RepL.cons ?_ (wellInts rfl z)
      simp only [ofPy] at y
      cases y
      exact ⟨_, rfl⟩
theorem wellList {p : Params} {h : Heap} {ns : List Int} {l : Addr} (x : Well p h (.ref l) (ofPy (PyData.list (ns.map PyData.int)))) : ∃ vs n, IsL h l vs n ∧ RepL h (ns.map V.int) vs.toList := by
  have e : ofPy (PyData.list (ns.map PyData.int)) = .list ((ns.map PyData.int).map ofPy) := by
    simp only [ofPy, ofPys_eq]
  rw [e] at x
  cases x with
  | list a b => exact ⟨_, _, a, wellInts rfl b⟩
theorem cellsOk {l : List (Str × NameKind)} (h : l.all (fun p => p.2 != .cell || p.1 == Str.ofString "way") = true) (x : Str) (hx : l.lookup x = some .cell) : x = Str.ofString "way" := by
  have := List.all_eq_true.mp h _ (lookup_mem hx)
  simpa using this
theorem said : PySem.Challenge.rw_oj0065_01.wellSaid = true := by kernel_rfl
end Mine
end
open PySem PySem.W PyProof.Rows
set_option maxRecDepth 100000 in
set_option maxHeartbeats 8000000 in
theorem PySem.Challenge.cw_oj0065_01_holds : PySem.Challenge.rw_oj0065_01.Holds := by
  refine holds_law Mine.said fun said => ?_
  refine PySem.W.holds_open (q := Mine.qv) (loose := Mine.loose) (Xt := Mine.xt) (XP := XL Mine.qv []) (Yf := Mine.hook.obs) (Ya := Mine.hook.val) (YP := Mine.hook.says) (N := 5300) Mine.left Mine.hook.of Mine.hook.keeps
    (fun s e => xl_of s (Bool.and_eq_true_iff.mp e).1) XL.keeps (by rfl) (by rfl) (by rfl) (fun s e => recFacts_of (Bool.and_eq_true_iff.mp e).2) (by rfl) said (by decide +kernel) ⟨rfl, rfl, rfl, rfl, rfl, by decide +kernel⟩ ?hw ?hc
  case hw => w_witness2
  intro w s₀ s₁ mg mb G Y fa o pm cd doc dV kV ho hd hcd hD hmg hg args vals as hpre hlay hrd hwl hlo

  have X := (Ground.X G).1
  have V := (Ground.X G).2
  have GL := glob_more (Ground.glob G (by decide +kernel) (by decide +kernel)) V
  refine Ground.open G ?_
  intro T B D TE TW
  try (refine guard_noD D (by decide +kernel) ?_; clear D)
  obtain ⟨_, _, M⟩ := bmod_of_top T
  have TA := at_of_top T
  try (obtain ⟨_, _, he, B0⟩ := based_of_top T rfl hmg ho hd; have he' : cd = _ := he; subst he'; clear he)
  clear hmg
  wrow_args hpre hlay hrd hwl hlo
  all_goals (
    first | refine callC_kw (enter_call ?_) | refine enter_call ?_ | refine callC_kw (enter_callW ?_) | refine enter_callW ?_ | w_how
    w_top on
    try refine codeAny_mono ?_ (fun _ _ g => GoodW.toG g)
    have K0 := below_caller (Top.heap T)
    w_call any ho hd hcd hD T F
    clear hd TA
    k_drop
    skip)

  rename_i w10 w9 ns a0 a1 a2 a3 a4 a5 a6 l as hL ra r1 w1 r0 hI hr hlen tt h₁ tk₁ wo hwo N0 X0
  obtain ⟨vs, nl, hl, hrep⟩ := Mine.wellList w1
  refine Mine.law_walk (base := _) Y T.g T.b T.nolimit T.builtins (hs := rfl) (d := 150) (by omega) F.ns (by rfl) F.keep ⟨wo, (N0 _ (List.mem_singleton_self _)).1, hwo⟩ hl hrep rfl rfl ?_ ?_ ?_ ?_ (Mine.law_pure ns (by omega)) ?_
  · decide +kernel
  · exact Mine.cellsOk (by decide +kernel)
  · decide +kernel
  · decide +kernel
  · intro s' keep same
    refine ⟨.inl ⟨.bool true, .bool true, [], rfl, raisesW_false ?_, .bool true, ?_, unshared_nil⟩, keep, same.2.2, same.1.trans hg⟩
    · wrow_none_raised
    · kc_post
