import PyProof.Rows.All
import Wide.All
import Open.Line
import PyProof.Rows.TupDisplay
import PyProof.Rows.TupMore
import KE.KDictOf
import Wide.ObjOpen
import Lean
import PySem.Challenge.RW_xm0139_01
set_option Elab.async false
section
/-! The small language, its values, the interpreter. -/
namespace Mine
open PySem

inductive V where
  | non
  | boo (b : Bool)
  | int (i : Int)
  | str
  | tup (xs : List V)
  | ref (n : Nat)
  deriving Inhabited

inductive C where
  | lst (xs : List V)
  | dic (es : List (List Int × V))
  deriving Inhabited

inductive Bop where
  | add | sub | mul | fdiv | mod | pow
  deriving DecidableEq
inductive Cop where
  | eq | ne | lt | le | gt | ge | inn | nin
  deriving DecidableEq
inductive Bi where
  | abs | len | max | int | tuple | list | dict | sum
  deriving DecidableEq

mutual
inductive Ex where
  | int (i : Int)
  | boo (b : Bool)
  | non
  | str
  | var (x : Nat)
  | glo (g : Nat)
  | bin (op : Bop) (a b : Ex)
  | neg (a : Ex)
  | lnot (a : Ex)
  | cmp (op : Cop) (a b : Ex)
  | isNon (a : Ex)
  | and (a b : Ex)
  | or (a b : Ex)
  | ite (c a b : Ex)
  | sub (a i : Ex)
  | slTo (a hi : Ex)
  | slFrom (a lo : Ex)
  | tup (es : List Ex)
  | lst (es : List Ex)
  | dict0
  | dict1 (k v : Ex)
  | call (f : Nat) (es : List Ex)
  | bi (b : Bi) (es : List Ex)
  | comp (e : Ex) (ts : List Nat) (it : It) (cond : Option Ex) (fr : List Nat)
  | dcomp (k v : Ex) (x : Nat) (src : Ex) (fr : List Nat)
inductive It where
  | rng (a : Ex)
  | rng2 (a b : Ex)
  | enu (a : Ex)
  | ovr (a : Ex)
end

inductive Sm where
  | ret (e : Ex)
  | asg (x : Nat) (e : Ex)
  | asgT (xs : List Nat) (e : Ex)
  | setI (a i e : Ex)
  | set2 (a i b j e : Ex)
  | aug (x : Nat) (op : Bop) (e : Ex)
  | augI (a i : Ex) (op : Bop) (e : Ex)
  | for_ (ts : List Nat) (it : It) (body : List Sm)
  | whl (c : Ex) (body : List Sm)
  | iff (c : Ex) (t e : List Sm)
  | cont
  | exp (e : Ex)
  | app (a : Nat) (e : Ex)
  | popN (a : Nat) (k : Ex)
  | bad

structure Fn where
  name : Nat
  params : List Nat
  body : List Sm

abbrev En := List (Nat × V)
abbrev Hp := List C

noncomputable def En.get (ρ : En) (x : Nat) : Option V := match ρ with
  | [] => none
  | (y, v) :: r => if Nat.beq x y then some v else En.get r x
noncomputable def En.set (ρ : En) (x : Nat) (v : V) : En := match ρ with
  | [] => [(x, v)]
  | (y, w) :: r => if Nat.beq x y then (x, v) :: r else (y, w) :: En.set r x v
noncomputable def En.sets (ρ : En) : List Nat → List V → En
  | x :: xs, v :: vs => En.sets (ρ.set x v) xs vs
  | _, _ => ρ
noncomputable def En.only (fr : List Nat) (ρ : En) : En := ρ.filter fun p => fr.any (Nat.beq p.1)

inductive Fl where
  | next | cont
  | ret (v : V)

noncomputable def lim : Nat := 2 ^ 1000
noncomputable def small (i : Int) : Bool := Nat.ble i.natAbs lim
noncomputable def maxLen : Nat := 1000000

noncomputable def Hp.get (H : Hp) (n : Nat) : Option C := match H, n with
  | [], _ => none
  | c :: _, 0 => some c
  | _ :: r, n + 1 => Hp.get r n
noncomputable def Hp.put (H : Hp) (n : Nat) (c : C) : Hp := match H, n with
  | [], _ => []
  | _ :: r, 0 => c :: r
  | d :: r, n + 1 => d :: Hp.put r n c

/-! what is tied together -/
section
variable {α β γ δ : Type}
noncomputable def bd (o : Option (α × β)) (f : α → β → Option γ) : Option γ := match o with
  | some (x, y) => f x y
  | none => none
noncomputable def b3 (o : Option (α × β × δ)) (f : α → β → δ → Option γ) : Option γ := match o with
  | some (x, y, z) => f x y z
  | none => none
noncomputable def bo (o : Option α) (f : α → Option γ) : Option γ := match o with
  | some x => f x
  | none => none
noncomputable def bi (b : Bool) (x : Option γ) : Option γ := match b with
  | true => x
  | false => none
noncomputable def bt (b : Bool) (x y : γ) : γ := match b with
  | true => x
  | false => y
noncomputable def onInt (v : V) (f : Int → Option γ) : Option γ := match v with
  | .int i => f i
  | _ => none
noncomputable def onRef (v : V) (f : Nat → Option γ) : Option γ := match v with
  | .ref n => f n
  | _ => none
noncomputable def onBoo (v : V) (f : Bool → Option γ) : Option γ := match v with
  | .boo b => f b
  | _ => none
noncomputable def onNext (f : Fl) (x y : γ) : γ := match f with
  | .next => x
  | _ => y
noncomputable def onRet (f : Fl) (g : V → γ) (y : γ) : γ := match f with
  | .ret v => g v
  | _ => y
end
noncomputable def on1 {γ : Type} (ts : List Nat) (f : Option γ) : Option γ := match ts with
  | [] => none
  | _ :: r => match r with
    | [] => f
    | _ :: _ => none
noncomputable def on2 {γ : Type} (ts : List Nat) (f : Option γ) : Option γ := match ts with
  | [] => none
  | _ :: r => on1 r f
noncomputable def onSeq {γ : Type} (v : V) (f : List V → Option γ) (g : Nat → Option γ) : Option γ := match v with
  | .tup xs => f xs
  | .ref n => g n
  | _ => none
noncomputable def onCell {γ : Type} (c : C) (f : List V → γ) (g : List (List Int × V) → γ) : γ := match c with
  | .lst xs => f xs
  | .dic es => g es
noncomputable def isNonV (x : V) (H : Hp) : Option (Bool × Hp) := match x with
  | .non => some (true, H)
  | .ref _ => some (false, H)
  | _ => none
noncomputable def lstAt (H : Hp) (n : Nat) : Option (List V) := match Hp.get H n with
  | some c => match c with
    | .lst xs => some xs
    | _ => none
  | none => none
noncomputable def dicAt (H : Hp) (n : Nat) : Option (List (List Int × V)) := match Hp.get H n with
  | some c => match c with
    | .dic es => some es
    | _ => none
  | none => none
noncomputable def partsOf (v : V) (H : Hp) : Option (List V) := match v with
  | .tup vs => some vs
  | .ref n => lstAt H n
  | _ => none
noncomputable def pairOf (v : V) : Option (V × V) := match v with
  | .tup xs => match xs with
    | [a, b] => some (a, b)
    | _ => none
  | _ => none
noncomputable def outOf (fl : Fl) (H : Hp) : Option (V × Hp) := match fl with
  | .ret v => some (v, H)
  | .next => some (.non, H)
  | _ => none

noncomputable def V.ints : List V → Option (List Int)
  | [] => some []
  | v :: r => onInt v fun i => bo (V.ints r) fun is => some (i :: is)
noncomputable def keyOf (v : V) : Option (List Int) := onSeq v V.ints fun _ => none
noncomputable def intsEq : List Int → List Int → Bool
  | [], s => s.isEmpty
  | a :: r, s => match s with
    | [] => false
    | b :: s => decide (a = b) && intsEq r s
noncomputable def dget : List (List Int × V) → List Int → Option V
  | [], _ => none
  | e :: r, x => bif intsEq e.1 x then some e.2 else dget r x
noncomputable def dset : List (List Int × V) → List Int → V → List (List Int × V)
  | [], x, v => [(x, v)]
  | e :: r, x, v => bif intsEq e.1 x then (e.1, v) :: r else e :: dset r x v
noncomputable def ddel : List (List Int × V) → List Int → List (List Int × V)
  | [], _ => []
  | e :: r, x => bif intsEq e.1 x then r else e :: ddel r x

noncomputable def one {α : Type} (l : List α) : Option α := match l with
  | [] => none
  | x :: r => match r with
    | [] => some x
    | _ :: _ => none
noncomputable def two {α : Type} (l : List α) : Option (α × α) := match l with
  | [] => none
  | x :: r => bo (one r) fun y => some (x, y)

noncomputable def addop (x y : V) (H : Hp) : Option (V × Hp) := match x with
  | .int a => onInt y fun b => some (.int (a + b), H)
  | .tup xs => onSeq y (fun ys => bi (Nat.ble (xs.length + ys.length) maxLen) (some (.tup (xs ++ ys), H))) fun _ => none
  | .ref m => onRef y fun n => bo (lstAt H m) fun xs => bo (lstAt H n) fun ys => bi (Nat.ble (xs.length + ys.length) maxLen) (some (.ref H.length, H ++ [.lst (xs ++ ys)]))
  | _ => none
noncomputable def mulop (x y : V) (H : Hp) : Option (V × Hp) := match x with
  | .int a => onInt y fun b => bi (small a && small b) (some (.int (a * b), H))
  | .ref m => onInt y fun k => bo (lstAt H m) fun vs => bo (one vs) fun v => bi (decide (-100000 ≤ k) && decide (k ≤ 100000)) (some (.ref H.length, H ++ [.lst (List.replicate k.toNat v)]))
  | _ => none
noncomputable def binop (op : Bop) (x y : V) (H : Hp) : Option (V × Hp) := match op with
  | .add => addop x y H
  | .mul => mulop x y H
  | .sub => onInt x fun a => onInt y fun b => some (.int (a - b), H)
  | .fdiv => onInt x fun a => onInt y fun b => bi (!decide (b = 0) && small b) (some (.int (a.fdiv b), H))
  | .mod => onInt x fun a => onInt y fun b => bi (!decide (b = 0)) (some (.int (a.fmod b), H))
  | .pow => onInt x fun a => onInt y fun b => bi (Nat.ble a.natAbs 1000000 && (decide (0 ≤ b) && decide (b ≤ 100))) (some (.int (a ^ b.toNat), H))

noncomputable def augop (op : Bop) (a b : Int) : Option Int := match op with
  | .add => some (a + b)
  | .sub => some (a - b)
  | _ => none

noncomputable def ent (e : List Int × V) (es : List (List Int × V)) : Bool := (bo (keyOf e.2) fun a => bo (dget es e.1) fun y => bo (keyOf y) fun b => some (intsEq a b)).getD false
noncomputable def valsInt (es : List (List Int × V)) : Bool := es.all fun e => (keyOf e.2).isSome

noncomputable def dne (x y : V) (H : Hp) : Option Bool := onRef x fun m => onRef y fun n => bo (dicAt H m) fun es => bo (dicAt H n) fun fs => bi (valsInt es && valsInt fs) (some (!(Nat.beq es.length fs.length && es.all fun e => ent e fs)))
noncomputable def eqInts (xs ys : List V) : Option Bool := bo (V.ints xs) fun a => bo (V.ints ys) fun b => some (intsEq a b)
noncomputable def eqv (x y : V) (H : Hp) : Option Bool := match x with
  | .int a => onInt y fun b => some (decide (a = b))
  | .tup xs => onSeq y (eqInts xs) fun _ => none
  | .ref m => onRef y fun n => bo (lstAt H m) fun xs => bo (lstAt H n) fun ys => eqInts xs ys
  | _ => none
noncomputable def neqv (x y : V) (H : Hp) : Option Bool := match eqv x y H with
  | some b => some (!b)
  | none => dne x y H
noncomputable def inop (x y : V) (H : Hp) : Option Bool := onRef y fun n => bo (Hp.get H n) fun c => onCell c (fun xs => onInt x fun i => bo (V.ints xs) fun is => some (is.any fun j => decide (j = i))) fun es => bo (keyOf x) fun k => some (dget es k).isSome

noncomputable def cmpop (op : Cop) (x y : V) (H : Hp) : Option Bool := match op with
  | .eq => eqv x y H
  | .ne => neqv x y H
  | .lt => onInt x fun a => onInt y fun b => some (decide (a < b))
  | .le => onInt x fun a => onInt y fun b => some (decide (a ≤ b))
  | .gt => onInt x fun a => onInt y fun b => some (decide (b < a))
  | .ge => onInt x fun a => onInt y fun b => some (decide (b ≤ a))
  | .inn => inop x y H
  | .nin => none

noncomputable def nth (xs : List V) (i : Int) : Option V := bi (decide (0 ≤ i)) xs[i.toNat]?

noncomputable def subop (x i : V) (H : Hp) : Option V := onSeq x (fun xs => onInt i (nth xs)) fun n => bo (Hp.get H n) fun c => onCell c (fun xs => onInt i (nth xs)) fun es => bo (keyOf i) (dget es)

noncomputable def slTo (x : V) (k : Nat) (H : Hp) : Option (V × Hp) := onSeq x (fun xs => bi (Nat.blt k xs.length) (some (.tup (xs.take k), H))) fun n => bo (lstAt H n) fun xs => some (.ref H.length, H ++ [.lst (xs.take k)])
noncomputable def slFrom (x : V) (k : Nat) (H : Hp) : Option (V × Hp) := onSeq x (fun xs => bi (Nat.blt 0 k && Nat.ble k xs.length) (some (.tup (xs.drop k), H))) fun _ => none

noncomputable def setop (κ : List Nat) (x i v : V) (H : Hp) : Option Hp := onRef x fun n => bi (!κ.any (Nat.beq n)) (bo (Hp.get H n) fun c => onCell c
  (fun xs => onInt i fun k => bi (decide (0 ≤ k) && Nat.blt k.toNat xs.length) (some (Hp.put H n (.lst (xs.set k.toNat v)))))
  fun es => bo (keyOf i) fun k => bi (Nat.ble es.length maxLen) (some (Hp.put H n (.dic (dset es k v)))))

/-- keys of three small numbers: their hashes differ -/
noncomputable def bnd (n : Nat) (i : Int) : Bool := decide (0 ≤ i) && Nat.blt i.toNat n
noncomputable def boxK (k : List Int) : Bool := match k with
  | [] => false
  | a :: r => (bo (two r) fun t => some (bnd 3 a && (bnd 12 t.1 && bnd 7 t.2))).getD false
noncomputable def boxed (es : List (List Int × V)) : Bool := es.all fun e => boxK e.1
noncomputable def keysOk (es : List (List Int × V)) : Bool := es.all fun e => Nat.ble e.1.length maxLen

noncomputable def lst1 {γ : Type} (vs : List V) (H : Hp) (f : List V → Option γ) : Option γ := bo (one vs) fun v => onRef v fun n => bo (lstAt H n) f
noncomputable def biop (b : Bi) (vs : List V) (H : Hp) : Option (V × Hp) := match b with
  | .abs => bo (one vs) fun v => onInt v fun i => some (.int (if i < 0 then -i else i), H)
  | .int => bo (one vs) fun v => onInt v fun i => some (.int i, H)
  | .max => bo (two vs) fun t => onInt t.1 fun a => onInt t.2 fun b => some (.int (if a < b then b else a), H)
  | .len => lst1 vs H fun xs => some (.int xs.length, H)
  | .tuple => lst1 vs H fun xs => some (.tup xs, H)
  | .list => lst1 vs H fun xs => some (.ref H.length, H ++ [.lst xs])
  | .dict => bo (one vs) fun v => onRef v fun n => bo (dicAt H n) fun es => bi (boxed es) (some (.ref H.length, H ++ [.dic es]))
  | .sum => lst1 vs H fun xs => bo (V.ints xs) fun is => some (.int is.sum, H)

/-- what is walked: one value a target, and the label that must lie still -/
noncomputable def rngs (a : Int) : Nat → List (List V)
  | 0 => []
  | n + 1 => [.int a] :: rngs (a + 1) n
noncomputable def enums (i : Int) : List V → List (List V)
  | [] => []
  | v :: r => [.int i, v] :: enums (i + 1) r
noncomputable def itemsOf (ts : List Nat) (v : V) : Option (List V) := match ts with
  | [] => none
  | _ :: r => match r with
    | [] => some [v]
    | _ :: r' => match r' with
      | [] => bo (match v with
        | .tup xs => some xs
        | _ => none) fun xs => bi (Nat.beq xs.length 2) (some xs)
      | _ :: _ => none
noncomputable def itemsAll (ts : List Nat) : List V → Option (List (List V))
  | [] => some []
  | v :: r => bo (itemsOf ts v) fun i => bo (itemsAll ts r) fun is => some (i :: is)

structure Rn where
  ev : List Nat → Ex → En → Hp → Option (V × Hp)
  xs : List Nat → List Sm → En → Hp → Option (Fl × En × Hp)
  wh : List Nat → Ex → List Sm → En → Hp → Option (Fl × En × Hp)
  cl : List Nat → Nat → List V → Hp → Option (V × Hp)
  ts : List Nat → Ex → En → Hp → Option (Bool × Hp)

noncomputable def Rn.none : Rn := ⟨fun _ _ _ _ => .none, fun _ _ _ _ => .none, fun _ _ _ _ _ => .none, fun _ _ _ _ => .none, fun _ _ _ _ => .none⟩

section
variable (r : Rn) (κ : List Nat)
noncomputable def evs : List Ex → En → Hp → Option (List V × Hp)
  | [], _, H => some ([], H)
  | e :: es, ρ, H => bd (r.ev κ e ρ H) fun v H₁ => bd (evs es ρ H₁) fun vs H₂ => some (v :: vs, H₂)

/-- the iterable: its items and the labels to be locked -/
noncomputable def iter (ts : List Nat) (it : It) (ρ : En) (H : Hp) : Option (List (List V) × List Nat × Hp) := match it with
  | .rng a => bd (r.ev κ a ρ H) fun v H₁ => onInt v fun n => on1 ts (bi (decide (-100000 ≤ n) && decide (n ≤ 100000)) (some (rngs 0 n.toNat, κ, H₁)))
  | .rng2 a b => bd (r.ev κ a ρ H) fun v H₁ => onInt v fun m => bd (r.ev κ b ρ H₁) fun v' H₂ => onInt v' fun n => on1 ts (bi ((decide (-100000 ≤ m) && decide (m ≤ 100000)) && (decide (-100000 ≤ n) && decide (n ≤ 100000))) (some (rngs m (n - m).toNat, κ, H₂)))
  | .enu a => bd (r.ev κ a ρ H) fun v H₁ => on2 ts (onSeq v (fun xs => some (enums 0 xs, κ, H₁)) fun n => bo (lstAt H₁ n) fun xs => some (enums 0 xs, n :: κ, H₁))
  | .ovr a => bd (r.ev κ a ρ H) fun v H₁ => onSeq v (fun xs => bo (itemsAll ts xs) fun is => some (is, κ, H₁)) fun n => bo (Hp.get H₁ n) fun c => on1 ts (onCell c (fun xs => some (xs.map (fun x => [x]), n :: κ, H₁)) fun es => bi (keysOk es) (some (es.map (fun e => [.tup (e.1.map .int)]), n :: κ, H₁)))

noncomputable def condV (cond : Option Ex) (ρ : En) (H : Hp) : Option (Bool × Hp) := match cond with
  | some c => r.ts κ c ρ H
  | none => some (true, H)
noncomputable def compGo (e : Ex) (ts : List Nat) (cond : Option Ex) (ρ : En) : List (List V) → Hp → Option (List V × Hp)
  | [], H => some ([], H)
  | it :: its, H => bd (condV r κ cond (ρ.sets ts it) H) fun t H₁ => bt t (bd (r.ev κ e (ρ.sets ts it) H₁) fun v H₂ => bd (compGo e ts cond ρ its H₂) fun vs H₃ => some (v :: vs, H₃)) (compGo e ts cond ρ its H₁)

noncomputable def dcompGo (k v : Ex) (x : Nat) (ρ : En) : List (List V) → List (List Int × V) → Hp → Option (List (List Int × V) × Hp)
  | [], acc, H => some (acc, H)
  | it :: its, acc, H => bd (r.ev κ k (ρ.sets [x] it) H) fun kv H₁ => bo (keyOf kv) fun kk => bd (r.ev κ v (ρ.sets [x] it) H₁) fun vv H₂ => bi (Nat.ble acc.length maxLen) (dcompGo k v x ρ its (dset acc kk vv) H₂)
end

noncomputable def forGo (r : Rn) (κ : List Nat) (ts : List Nat) (body : List Sm) : List (List V) → En → Hp → Option (Fl × En × Hp)
  | [], ρ, H => some (.next, ρ, H)
  | it :: its, ρ, H => b3 (r.xs κ body (ρ.sets ts it) H) fun f ρ₁ H₁ => onRet f (fun v => some (.ret v, ρ₁, H₁)) (forGo r κ ts body its ρ₁ H₁)

noncomputable def gval : Nat → V
  | 0 => .tup [.int 0, .int 1]
  | _ => .tup [.int 1, .int 1]

noncomputable def step (tbl : Nat → Option Fn) (S : Nat → List Nat → List V → Hp → Option (Option (V × Hp))) (r : Rn) : Rn where
  ev := fun κ e ρ H => match e with
    | .int i => some (.int i, H)
    | .boo b => some (.boo b, H)
    | .non => some (.non, H)
    | .str => some (.str, H)
    | .var x => bo (ρ.get x) fun v => some (v, H)
    | .glo g => some (gval g, H)
    | .bin op a b => bd (r.ev κ a ρ H) fun x H₁ => bd (r.ev κ b ρ H₁) fun y H₂ => binop op x y H₂
    | .neg a => bd (r.ev κ a ρ H) fun x H₁ => onInt x fun i => some (.int (-i), H₁)
    | .lnot _ => none
    | .cmp op a b => bd (r.ev κ a ρ H) fun x H₁ => bd (r.ev κ b ρ H₁) fun y H₂ => bo (cmpop op x y H₂) fun c => some (.boo c, H₂)
    | .isNon _ => none
    | .and _ _ => none
    | .or _ _ => none
    | .ite c a b => bd (r.ts κ c ρ H) fun t H₁ => bt t (r.ev κ a ρ H₁) (r.ev κ b ρ H₁)
    | .sub a i => bd (r.ev κ a ρ H) fun x H₁ => bd (r.ev κ i ρ H₁) fun y H₂ => bo (subop x y H₂) fun v => some (v, H₂)
    | .slTo a hi => bd (r.ev κ a ρ H) fun x H₁ => bd (r.ev κ hi ρ H₁) fun y H₂ => onInt y fun k => bi (decide (0 ≤ k) && decide (k ≤ 1000000)) (slTo x k.toNat H₂)
    | .slFrom a lo => bd (r.ev κ a ρ H) fun x H₁ => bd (r.ev κ lo ρ H₁) fun y H₂ => onInt y fun k => bi (decide (0 ≤ k) && decide (k ≤ 1000000)) (slFrom x k.toNat H₂)
    | .tup es => bd (evs r κ es ρ H) fun vs H₁ => some (.tup vs, H₁)
    | .lst es => bd (evs r κ es ρ H) fun vs H₁ => some (.ref H₁.length, H₁ ++ [.lst vs])
    | .dict0 => some (.ref H.length, H ++ [.dic []])
    | .dict1 k v => bd (r.ev κ k ρ H) fun kv H₁ => bo (keyOf kv) fun kk => bd (r.ev κ v ρ H₁) fun vv H₂ => some (.ref H₂.length, H₂ ++ [.dic [(kk, vv)]])
    | .call f es => bd (evs r κ es ρ H) fun vs H₁ => r.cl κ f vs H₁
    | .bi b es => bd (evs r κ es ρ H) fun vs H₁ => biop b vs H₁
    | .comp e ts it cond fr => b3 (iter r κ ts it ρ H) fun its κ₁ H₁ => bd (compGo r κ₁ e ts cond (En.only fr ρ) its H₁) fun vs H₂ => bi (Nat.ble vs.length maxLen) (some (.ref H₂.length, H₂ ++ [.lst vs]))
    | .dcomp k v x src fr => b3 (iter r κ [x] (.ovr src) ρ H) fun its κ₁ H₁ => bd (dcompGo r κ₁ k v x (En.only fr ρ) its [] H₁) fun es H₂ => bi (Nat.ble es.length maxLen) (some (.ref H₂.length, H₂ ++ [.dic es]))
  ts := fun κ e ρ H => match e with
    | .lnot a => bd (r.ts κ a ρ H) fun b H₁ => some (!b, H₁)
    | .cmp op a b => bd (r.ev κ a ρ H) fun x H₁ => bd (r.ev κ b ρ H₁) fun y H₂ => bo (cmpop op x y H₂) fun c => some (c, H₂)
    | .isNon a => bd (r.ev κ a ρ H) fun x H₁ => isNonV x H₁
    | .and a b => bd (r.ts κ a ρ H) fun t H₁ => bt t (r.ts κ b ρ H₁) (some (false, H₁))
    | .or a b => bd (r.ts κ a ρ H) fun t H₁ => bt t (some (true, H₁)) (r.ts κ b ρ H₁)
    | .var x => bo (ρ.get x) fun v => onBoo v fun b => some (b, H)
    | _ => none
  xs := fun κ b ρ H => match b with
    | [] => some (.next, ρ, H)
    | s :: rest =>
      let go (x : Option (En × Hp)) : Option (Fl × En × Hp) := bd x fun ρ₁ H₁ => r.xs κ rest ρ₁ H₁
      let flow (x : Option (Fl × En × Hp)) : Option (Fl × En × Hp) := b3 x fun f ρ₁ H₁ => onNext f (r.xs κ rest ρ₁ H₁) (some (f, ρ₁, H₁))
      match s with
      | .ret e => bd (r.ev κ e ρ H) fun v H₁ => some (.ret v, ρ, H₁)
      | .asg x e => go (bd (r.ev κ e ρ H) fun v H₁ => some (ρ.set x v, H₁))
      | .asgT ts e => go (bd (r.ev κ e ρ H) fun v H₁ => bo (partsOf v H₁) fun vs => bi (Nat.beq vs.length ts.length) (some (ρ.sets ts vs, H₁)))
      | .setI a i e => go (bd (r.ev κ e ρ H) fun v H₁ => bd (r.ev κ a ρ H₁) fun x H₂ => bd (r.ev κ i ρ H₂) fun y H₃ => bo (setop κ x y v H₃) fun H₄ => some (ρ, H₄))
      | .set2 a i b j e => go (bd (r.ev κ e ρ H) fun vu H₁ => bo (pairOf vu) fun p => bd (r.ev κ a ρ H₁) fun x H₂ => bd (r.ev κ i ρ H₂) fun y H₃ => bo (setop κ x y p.1 H₃) fun H₄ =>
          bd (r.ev κ b ρ H₄) fun x' H₅ => bd (r.ev κ j ρ H₅) fun y' H₆ => bo (setop κ x' y' p.2 H₆) fun H₇ => some (ρ, H₇))
      | .aug x op e => go (bo (ρ.get x) fun old => bd (r.ev κ e ρ H) fun v H₁ => onInt old fun a => onInt v fun b => bo (augop op a b) fun u => some (ρ.set x (.int u), H₁))
      | .augI a i op e => go (bd (r.ev κ a ρ H) fun x H₁ => bd (r.ev κ i ρ H₁) fun y H₂ => bo (subop x y H₂) fun old => bd (r.ev κ e ρ H₂) fun v H₃ => onInt old fun c => onInt v fun d => bo (augop op c d) fun u =>
          bo (setop κ x y (.int u) H₃) fun H₅ => some (ρ, H₅))
      | .for_ ts it body => flow (b3 (iter r κ ts it ρ H) fun its κ₁ H₁ => forGo r κ₁ ts body its ρ H₁)
      | .whl c body => flow (r.wh κ c body ρ H)
      | .iff c t e => flow (bd (r.ts κ c ρ H) fun b H₁ => bt b (r.xs κ t ρ H₁) (r.xs κ e ρ H₁))
      | .cont => some (.cont, ρ, H)
      | .exp e => go (bd (r.ev κ e ρ H) fun _ H₁ => some (ρ, H₁))
      | .app a e => go (bo (ρ.get a) fun l => onRef l fun n => bo (lstAt H n) fun _ => bd (r.ev κ e ρ H) fun v H₁ => bi (!κ.any (Nat.beq n)) (bo (lstAt H₁ n) fun vs => bi (Nat.ble vs.length maxLen) (some (ρ, Hp.put H₁ n (.lst (vs ++ [v]))))))
      | .popN a k => go (bo (ρ.get a) fun l => onRef l fun n => bo (dicAt H n) fun _ => bd (r.ev κ k ρ H) fun kv H₁ => bi (!κ.any (Nat.beq n)) (bo (dicAt H₁ n) fun es => bo (keyOf kv) fun kk => some (ρ, Hp.put H₁ n (.dic (ddel es kk)))))
      | .bad => none
  wh := fun κ c b ρ H => bd (r.ts κ c ρ H) fun t H₁ => bt t (b3 (r.xs κ b ρ H₁) fun f ρ₁ H₂ => onRet f (fun v => some (.ret v, ρ₁, H₂)) (r.wh κ c b ρ₁ H₂)) (some (.next, ρ, H₁))
  cl := fun κ f vs H => match S f κ vs H with
    | some res => res
    | none => bo (tbl f) fun F => bi (Nat.beq F.params.length vs.length) (b3 (r.xs κ F.body (En.sets [] F.params vs) H) fun fl _ H₁ => outOf fl H₁)

noncomputable def run (tbl : Nat → Option Fn) (S : Nat → List Nat → List V → Hp → Option (Option (V × Hp))) (n : Nat) : Rn :=
  Nat.rec Rn.none (fun _ r => step tbl S r) n

/-! ## what was tied together comes apart -/
section
variable {α β γ δ : Type} {G : Prop} {r : γ}
theorem bd_c {o : Option (α × β)} {f : α → β → Option γ} (e : bd o f = some r) (k : ∀ x y, o = some (x, y) → f x y = some r → G) : G := by
  cases o with
  | none => cases e
  | some p => exact k p.1 p.2 rfl e
theorem b3_c {o : Option (α × β × δ)} {f : α → β → δ → Option γ} (e : b3 o f = some r) (k : ∀ x y z, o = some (x, y, z) → f x y z = some r → G) : G := by
  cases o with
  | none => cases e
  | some p => exact k p.1 p.2.1 p.2.2 rfl e
theorem bo_c {o : Option α} {f : α → Option γ} (e : bo o f = some r) (k : ∀ x, o = some x → f x = some r → G) : G := by
  cases o with
  | none => cases e
  | some p => exact k p rfl e
theorem bi_c {b : Bool} {x : Option γ} (e : bi b x = some r) (k : b = true → x = some r → G) : G := by
  cases b with
  | false => cases e
  | true => exact k rfl e
theorem i2 {x y : α} {x' y' : β} (e : some (x, x') = some (y, y')) : x = y ∧ x' = y' := by cases e; exact ⟨rfl, rfl⟩
theorem i3 {x y : α} {x' y' : β} {z z' : δ} (e : some (x, x', z) = some (y, y', z')) : x = y ∧ x' = y' ∧ z = z' := by cases e; exact ⟨rfl, rfl, rfl⟩
theorem some_c {x y : α} {M : α → Prop} (e : some x = some y) (k : M x) : M y := Option.some.inj e ▸ k
theorem some2_c {x y : α} {x' y' : β} {M : α → β → Prop} (e : some (x, x') = some (y, y')) (k : M x x') : M y y' := by cases e; exact k
theorem some3_c {x y : α} {x' y' : β} {z z' : δ} {M : α → β → δ → Prop} (e : some (x, x', z) = some (y, y', z')) (k : M x x' z) : M y y' z' := by cases e; exact k
theorem onInt_c {v : V} {f : Int → Option γ} {M : V → Prop} (e : onInt v f = some r) (k : ∀ i, f i = some r → M (.int i)) : M v := by
  cases v <;> first | exact k _ e | cases e
theorem onRef_c {v : V} {f : Nat → Option γ} {M : V → Prop} (e : onRef v f = some r) (k : ∀ i, f i = some r → M (.ref i)) : M v := by
  cases v <;> first | exact k _ e | cases e
theorem onBoo_c {v : V} {f : Bool → Option γ} {M : V → Prop} (e : onBoo v f = some r) (k : ∀ i, f i = some r → M (.boo i)) : M v := by
  cases v <;> first | exact k _ e | cases e
end
theorem lstAt_eq {H : Hp} {n : Nat} {xs : List V} (h : lstAt H n = some xs) : Hp.get H n = some (.lst xs) := by
  unfold lstAt at h
  cases hg : Hp.get H n with
  | none => rw [hg] at h; cases h
  | some c => rw [hg] at h; cases c <;> cases h; rfl
theorem dicAt_eq {H : Hp} {n : Nat} {xs : List (List Int × V)} (h : dicAt H n = some xs) : Hp.get H n = some (.dic xs) := by
  unfold dicAt at h
  cases hg : Hp.get H n with
  | none => rw [hg] at h; cases h
  | some c => rw [hg] at h; cases c <;> cases h; rfl
theorem onSeq_c {γ : Type} {v : V} {f : List V → Option γ} {g : Nat → Option γ} {q : γ} {M : V → Prop} (e : onSeq v f g = some q) (k1 : ∀ xs, f xs = some q → M (.tup xs)) (k2 : ∀ n, g n = some q → M (.ref n)) : M v := by
  cases v <;> first | exact k1 _ e | exact k2 _ e | cases e
theorem one_c {α : Type} {l : List α} {x : α} {M : List α → Prop} (e : one l = some x) (k : M [x]) : M l := by
  cases l with
  | nil => cases e
  | cons y r => cases r with
    | nil => cases e; exact k
    | cons => cases e
theorem two_c {α : Type} {l : List α} {t : α × α} {M : List α → Prop} (e : two l = some t) (k : M [t.1, t.2]) : M l := by
  cases l with
  | nil => cases e
  | cons y r => exact bo_c e fun z h e => by obtain rfl := Option.some.inj e; exact one_c (M := fun r => M (y :: r)) h k
theorem and_c {a b : Bool} {G : Prop} (h : (a && b) = true) (k : a = true → b = true → G) : G := by
  cases a with
  | false => cases h
  | true => exact k rfl h
theorem bd_eq {α β γ : Type} {o : Option (α × β)} {f : α → β → Option γ} {x : α} {y : β} (h : o = some (x, y)) : bd o f = f x y := by rw [h]; rfl
theorem b3_eq {α β γ δ : Type} {o : Option (α × β × δ)} {f : α → β → δ → Option γ} {x : α} {y : β} {z : δ} (h : o = some (x, y, z)) : b3 o f = f x y z := by rw [h]; rfl
theorem bo_eq {α γ : Type} {o : Option α} {f : α → Option γ} {x : α} (h : o = some x) : bo o f = f x := by rw [h]; rfl
theorem bi_eq {γ : Type} {b : Bool} {x : Option γ} (h : b = true) : bi b x = x := by rw [h]; rfl
theorem lstAt_of {H : Hp} {l : Nat} {xs : List V} (h : Hp.get H l = some (.lst xs)) : lstAt H l = some xs := by unfold lstAt; rw [h]
theorem dicAt_of {H : Hp} {l : Nat} {xs : List (List Int × V)} (h : Hp.get H l = some (.dic xs)) : dicAt H l = some xs := by unfold dicAt; rw [h]
end Mine
end

section
namespace Mine
open PySem
noncomputable def names : List PySem.Str := [PySem.Str.ofString "a", PySem.Str.ofString "b", PySem.Str.ofString "one", PySem.Str.ofString "at", PySem.Str.ofString "powers_product", PySem.Str.ofString "gcd", PySem.Str.ofString "bottom", PySem.Str.ofString "g", PySem.Str.ofString "top", PySem.Str.ofString "rat", PySem.Str.ofString "radd", PySem.Str.ofString "rsub", PySem.Str.ofString "rmul", PySem.Str.ofString "rdiv", PySem.Str.ofString "rneg", PySem.Str.ofString "rational", PySem.Str.ofString "powers", PySem.Str.ofString "mvterm", PySem.Str.ofString "n", PySem.Str.ofString "spot", PySem.Str.ofString "mvletter", PySem.Str.ofString "found", PySem.Str.ofString "mvadd", PySem.Str.ofString "total", PySem.Str.ofString "add_term", PySem.Str.ofString "mvneg", PySem.Str.ofString "mvsub", PySem.Str.ofString "mvscale", PySem.Str.ofString "mvmul", PySem.Str.ofString "lower", PySem.Str.ofString "mvderive", PySem.Str.ofString "k", PySem.Str.ofString "binomial_row", PySem.Str.ofString "m", PySem.Str.ofString "row", PySem.Str.ofString "bernoulli_row", PySem.Str.ofString "shape", PySem.Str.ofString "is_right", PySem.Str.ofString "need_shape", PySem.Str.ofString "text", PySem.Str.ofString "copied", PySem.Str.ofString "other", PySem.Str.ofString "swap_rows", PySem.Str.ofString "number", PySem.Str.ofString "source", PySem.Str.ofString "take_off", PySem.Str.ofString "pivots", PySem.Str.ofString "column", PySem.Str.ofString "spots", PySem.Str.ofString "lead", PySem.Str.ofString "echelon", PySem.Str.ofString "reduced", PySem.Str.ofString "null_base", PySem.Str.ofString "width", PySem.Str.ofString "solve_system", PySem.Str.ofString "size", PySem.Str.ofString "ztrim", PySem.Str.ofString "zadd", PySem.Str.ofString "p", PySem.Str.ofString "zneg", PySem.Str.ofString "zsub", PySem.Str.ofString "zscale", PySem.Str.ofString "left", PySem.Str.ofString "right", PySem.Str.ofString "zmul", PySem.Str.ofString "pool", PySem.Str.ofString "many", PySem.Str.ofString "_law_draw", PySem.Str.ofString "weight", PySem.Str.ofString "_law_lots", PySem.Str.ofString "numbers", PySem.Str.ofString "lot", PySem.Str.ofString "_law_form", PySem.Str.ofString "power", PySem.Str.ofString "d", PySem.Str.ofString "_law_sums", PySem.Str.ofString "q", PySem.Str.ofString "r", PySem.Str.ofString "told", PySem.Str.ofString "two", PySem.Str.ofString "three", PySem.Str.ofString "_law_twelve", PySem.Str.ofString "_law_long", PySem.Str.ofString "part", PySem.Str.ofString "turn", PySem.Str.ofString "rows", PySem.Str.ofString "_law_series", PySem.Str.ofString "_law_slope", PySem.Str.ofString "place", PySem.Str.ofString "back", PySem.Str.ofString "_law_steps", PySem.Str.ofString "known", PySem.Str.ofString "front", PySem.Str.ofString "due", PySem.Str.ofString "parts", PySem.Str.ofString "free", PySem.Str.ofString "_law_alone", PySem.Str.ofString "script", PySem.Str.ofString "cell", PySem.Str.ofString "f", PySem.Str.ofString "h", PySem.Str.ofString "times", PySem.Str.ofString "crossed", PySem.Str.ofString "apart", PySem.Str.ofString "ahead", PySem.Str.ofString "behind", PySem.Str.ofString "wanted", PySem.Str.ofString "law"]
noncomputable def fn0 : Fn := ⟨4, [0, 1], [.ret (.bi .tuple [(.comp (.bin .add (.var 2) (.sub (.var 1) (.var 3))) [3, 2] (.enu (.var 0)) none [1])])]⟩ -- powers_product
noncomputable def fn1 : Fn := ⟨5, [0, 1], [.asgT [0, 1] (.tup [(.bi .abs [(.var 0)]), (.bi .abs [(.var 1)])]), .whl (.cmp .ne (.var 1) (.int 0)) [.asgT [0, 1] (.tup [(.var 1), (.bin .mod (.var 0) (.var 1))])], .ret (.var 0)]⟩ -- gcd
noncomputable def fn2 : Fn := ⟨9, [8, 6], [.iff (.cmp .eq (.var 6) (.int 0)) [.bad] [], .asg 7 (.ite (.cmp .gt (.var 6) (.int 0)) (.call 1 [(.var 8), (.var 6)]) (.bin .sub (.int 0) (.call 1 [(.var 8), (.var 6)]))), .ret (.tup [(.bin .fdiv (.var 8) (.var 7)), (.bin .fdiv (.var 6) (.var 7))])]⟩ -- rat
noncomputable def fn3 : Fn := ⟨10, [0, 1], [.ret (.call 2 [(.bin .add (.bin .mul (.sub (.var 0) (.int 0)) (.sub (.var 1) (.int 1))) (.bin .mul (.sub (.var 1) (.int 0)) (.sub (.var 0) (.int 1)))), (.bin .mul (.sub (.var 0) (.int 1)) (.sub (.var 1) (.int 1)))])]⟩ -- radd
noncomputable def fn4 : Fn := ⟨11, [0, 1], [.ret (.call 2 [(.bin .sub (.bin .mul (.sub (.var 0) (.int 0)) (.sub (.var 1) (.int 1))) (.bin .mul (.sub (.var 1) (.int 0)) (.sub (.var 0) (.int 1)))), (.bin .mul (.sub (.var 0) (.int 1)) (.sub (.var 1) (.int 1)))])]⟩ -- rsub
noncomputable def fn5 : Fn := ⟨12, [0, 1], [.ret (.call 2 [(.bin .mul (.sub (.var 0) (.int 0)) (.sub (.var 1) (.int 0))), (.bin .mul (.sub (.var 0) (.int 1)) (.sub (.var 1) (.int 1)))])]⟩ -- rmul
noncomputable def fn6 : Fn := ⟨13, [0, 1], [.ret (.call 2 [(.bin .mul (.sub (.var 0) (.int 0)) (.sub (.var 1) (.int 1))), (.bin .mul (.sub (.var 0) (.int 1)) (.sub (.var 1) (.int 0)))])]⟩ -- rdiv
noncomputable def fn7 : Fn := ⟨14, [0], [.ret (.tup [(.bin .sub (.int 0) (.sub (.var 0) (.int 0))), (.sub (.var 0) (.int 1))])]⟩ -- rneg
noncomputable def fn8 : Fn := ⟨17, [16, 15], [.ret (.ite (.cmp .eq (.var 15) (.glo 0)) .dict0 (.dict1 (.var 16) (.var 15)))]⟩ -- mvterm
noncomputable def fn9 : Fn := ⟨20, [3, 18], [.ret (.dict1 (.bi .tuple [(.comp (.ite (.cmp .eq (.var 19) (.var 3)) (.int 1) (.int 0)) [19] (.rng (.var 18)) none [3])]) (.glo 1))]⟩ -- mvletter
noncomputable def fn10 : Fn := ⟨22, [0, 1], [.asg 21 (.bi .dict [(.var 0)]), .for_ [16] (.ovr (.var 1)) [.exp (.call 11 [(.var 21), (.var 16), (.sub (.var 1) (.var 16))])], .ret (.var 21)]⟩ -- mvadd
noncomputable def fn11 : Fn := ⟨24, [21, 16, 15], [.asg 23 (.ite (.cmp .inn (.var 16) (.var 21)) (.call 3 [(.sub (.var 21) (.var 16)), (.var 15)]) (.var 15)), .iff (.cmp .eq (.var 23) (.glo 0)) [.popN 21 (.var 16)] [.setI (.var 21) (.var 16) (.var 23)]]⟩ -- add_term
noncomputable def fn12 : Fn := ⟨25, [0], [.ret (.dcomp (.var 16) (.call 7 [(.sub (.var 0) (.var 16))]) 16 (.var 0) [0])]⟩ -- mvneg
noncomputable def fn13 : Fn := ⟨26, [0, 1], [.ret (.call 10 [(.var 0), (.call 12 [(.var 1)])])]⟩ -- mvsub
noncomputable def fn14 : Fn := ⟨27, [0, 15], [.iff (.cmp .eq (.var 15) (.glo 0)) [.ret .dict0] [], .ret (.dcomp (.var 16) (.call 5 [(.sub (.var 0) (.var 16)), (.var 15)]) 16 (.var 0) [0, 15])]⟩ -- mvscale
noncomputable def fn15 : Fn := ⟨28, [0, 1], [.asg 21 .dict0, .for_ [16] (.ovr (.var 1)) [.for_ [2] (.ovr (.var 0)) [.exp (.call 11 [(.var 21), (.call 0 [(.var 2), (.var 16)]), (.call 5 [(.sub (.var 0) (.var 2)), (.sub (.var 1) (.var 16))])])]], .ret (.var 21)]⟩ -- mvmul
noncomputable def fn16 : Fn := ⟨30, [0, 3], [.asg 21 .dict0, .for_ [16] (.ovr (.var 0)) [.iff (.cmp .gt (.sub (.var 16) (.var 3)) (.int 0)) [.asg 29 (.bin .add (.bin .add (.slTo (.var 16) (.var 3)) (.tup [(.bin .sub (.sub (.var 16) (.var 3)) (.int 1))])) (.slFrom (.var 16) (.bin .add (.var 3) (.int 1)))), .exp (.call 11 [(.var 21), (.var 29), (.call 5 [(.sub (.var 0) (.var 16)), (.tup [(.sub (.var 16) (.var 3)), (.int 1)])])])] []], .ret (.var 21)]⟩ -- mvderive
noncomputable def fn17 : Fn := ⟨32, [18], [.asg 21 (.lst [(.int 1)]), .for_ [31] (.rng (.var 18)) [.app 21 (.bin .fdiv (.bin .mul (.sub (.var 21) (.var 31)) (.bin .sub (.var 18) (.var 31))) (.bin .add (.var 31) (.int 1)))], .ret (.var 21)]⟩ -- binomial_row
noncomputable def fn18 : Fn := ⟨35, [18], [.asg 21 (.lst [(.glo 1)]), .for_ [33] (.rng2 (.int 1) (.bin .add (.var 18) (.int 1))) [.asgT [34, 23] (.tup [(.call 17 [(.bin .add (.var 33) (.int 1))]), (.glo 0)]), .for_ [31] (.rng (.var 33)) [.asg 23 (.call 3 [(.var 23), (.call 5 [(.call 2 [(.sub (.var 34) (.var 31)), (.int 1)]), (.sub (.var 21) (.var 31))])])], .app 21 (.call 7 [(.call 6 [(.var 23), (.tup [(.bin .add (.var 33) (.int 1)), (.int 1)])])])], .ret (.var 21)]⟩ -- bernoulli_row
noncomputable def fn19 : Fn := ⟨36, [0], [.ret (.tup [(.bi .len [(.var 0)]), (.ite (.cmp .gt (.bi .len [(.var 0)]) (.int 0)) (.bi .len [(.sub (.var 0) (.int 0))]) (.int 0))])]⟩ -- shape
noncomputable def fn20 : Fn := ⟨38, [37, 39], [.iff (.lnot (.var 37)) [.bad] []]⟩ -- need_shape
noncomputable def fn21 : Fn := ⟨40, [0], [.ret (.comp (.bi .list [(.var 34)]) [34] (.ovr (.var 0)) none [])]⟩ -- copied
noncomputable def fn22 : Fn := ⟨42, [0, 2, 41], [.set2 (.var 0) (.var 2) (.var 0) (.var 41) (.tup [(.sub (.var 0) (.var 41)), (.sub (.var 0) (.var 2))])]⟩ -- swap_rows
noncomputable def fn23 : Fn := ⟨45, [0, 34, 44, 43], [.setI (.var 0) (.var 34) (.comp (.call 4 [(.var 2), (.call 5 [(.var 43), (.sub (.sub (.var 0) (.var 44)) (.var 3))])]) [3, 2] (.enu (.sub (.var 0) (.var 34))) none [43, 0, 44])]⟩ -- take_off
noncomputable def fn24 : Fn := ⟨50, [0], [.asgT [21, 46] (.tup [(.call 21 [(.var 0)]), (.lst [])]), .for_ [47] (.rng (.sub (.call 19 [(.var 0)]) (.int 1))) [.asg 34 (.bi .len [(.var 46)]), .asg 48 (.comp (.var 3) [3] (.rng2 (.var 34) (.bi .len [(.var 21)])) (some (.cmp .ne (.sub (.sub (.var 21) (.var 3)) (.var 47)) (.glo 0))) [21, 47]), .iff (.cmp .eq (.bi .len [(.var 48)]) (.int 0)) [.cont] [], .exp (.call 22 [(.var 21), (.var 34), (.sub (.var 48) (.int 0))]), .asg 49 (.sub (.sub (.var 21) (.var 34)) (.var 47)), .setI (.var 21) (.var 34) (.comp (.call 6 [(.var 2), (.var 49)]) [2] (.ovr (.sub (.var 21) (.var 34))) none [49]), .for_ [41] (.rng (.bi .len [(.var 21)])) [.iff (.and (.cmp .ne (.var 41) (.var 34)) (.cmp .ne (.sub (.sub (.var 21) (.var 41)) (.var 47)) (.glo 0))) [.exp (.call 23 [(.var 21), (.var 41), (.var 34), (.sub (.sub (.var 21) (.var 41)) (.var 47))])] []], .app 46 (.var 47)], .ret (.tup [(.var 21), (.var 46)])]⟩ -- echelon
noncomputable def fn25 : Fn := ⟨52, [0], [.asgT [51, 46] (.call 24 [(.var 0)]), .asg 21 (.lst []), .for_ [47] (.rng (.sub (.call 19 [(.var 0)]) (.int 1))) [.iff (.cmp .inn (.var 47) (.var 46)) [.cont] [], .asg 2 (.bin .mul (.lst [(.glo 0)]) (.sub (.call 19 [(.var 0)]) (.int 1))), .setI (.var 2) (.var 47) (.glo 1), .for_ [3, 19] (.enu (.var 46)) [.setI (.var 2) (.var 19) (.call 7 [(.sub (.sub (.var 51) (.var 3)) (.var 47))])], .app 21 (.var 2)], .ret (.var 21)]⟩ -- null_base
noncomputable def fn26 : Fn := ⟨54, [0, 1], [.exp (.call 20 [(.cmp .eq (.bi .len [(.var 0)]) (.bi .len [(.var 1)])), .str]), .asg 53 (.sub (.call 19 [(.var 0)]) (.int 1)), .asgT [51, 46] (.call 24 [(.comp (.bin .add (.bi .list [(.var 34)]) (.lst [(.sub (.var 1) (.var 3))])) [3, 34] (.enu (.var 0)) none [1])]), .iff (.cmp .inn (.var 53) (.var 46)) [.ret (.tup [.non, (.call 25 [(.var 0)])])] [], .asg 21 (.bin .mul (.lst [(.glo 0)]) (.var 53)), .for_ [3, 47] (.enu (.var 46)) [.setI (.var 21) (.var 47) (.sub (.sub (.var 51) (.var 3)) (.var 53))], .ret (.tup [(.var 21), (.call 25 [(.var 0)])])]⟩ -- solve_system
noncomputable def fn27 : Fn := ⟨56, [34], [.asg 55 (.bi .len [(.var 34)]), .whl (.and (.cmp .gt (.var 55) (.int 0)) (.cmp .eq (.sub (.var 34) (.bin .sub (.var 55) (.int 1))) (.int 0))) [.aug 55 .sub (.int 1)], .ret (.bi .list [(.slTo (.var 34) (.var 55))])]⟩ -- ztrim
noncomputable def fn28 : Fn := ⟨57, [0, 1], [.asg 55 (.bi .max [(.bi .len [(.var 0)]), (.bi .len [(.var 1)])]), .ret (.call 27 [(.comp (.bin .add (.ite (.cmp .lt (.var 3) (.bi .len [(.var 0)])) (.sub (.var 0) (.var 3)) (.int 0)) (.ite (.cmp .lt (.var 3) (.bi .len [(.var 1)])) (.sub (.var 1) (.var 3)) (.int 0))) [3] (.rng (.var 55)) none [0, 1])])]⟩ -- zadd
noncomputable def fn29 : Fn := ⟨59, [58], [.ret (.comp (.neg (.var 43)) [43] (.ovr (.var 58)) none [])]⟩ -- zneg
noncomputable def fn30 : Fn := ⟨60, [0, 1], [.ret (.call 28 [(.var 0), (.call 29 [(.var 1)])])]⟩ -- zsub
noncomputable def fn31 : Fn := ⟨61, [58, 31], [.ret (.ite (.cmp .ne (.var 31) (.int 0)) (.comp (.bin .mul (.var 43) (.var 31)) [43] (.ovr (.var 58)) none [31]) (.lst []))]⟩ -- zscale
noncomputable def fn32 : Fn := ⟨64, [0, 1], [.iff (.or (.cmp .eq (.bi .len [(.var 0)]) (.int 0)) (.cmp .eq (.bi .len [(.var 1)]) (.int 0))) [.ret (.lst [])] [], .asg 21 (.bin .mul (.lst [(.int 0)]) (.bin .sub (.bin .add (.bi .len [(.var 0)]) (.bi .len [(.var 1)])) (.int 1))), .for_ [2, 62] (.enu (.var 0)) [.iff (.cmp .ne (.var 62) (.int 0)) [.for_ [41, 63] (.enu (.var 1)) [.augI (.var 21) (.bin .add (.var 2) (.var 41)) .add (.bin .mul (.var 62) (.var 63))]] []], .ret (.var 21)]⟩ -- zmul
noncomputable def fn33 : Fn := ⟨67, [65, 66], [.asg 19 (.sub (.var 65) (.int 1)), .setI (.var 65) (.int 1) (.bin .add (.var 19) (.int 1)), .iff (.cmp .lt (.var 19) (.bi .len [(.sub (.var 65) (.int 0))])) [.ret (.bin .mod (.bi .abs [(.sub (.sub (.var 65) (.int 0)) (.var 19))]) (.var 66))] [], .ret (.bin .mod (.sub (.tup [(.int 0), (.int 0), (.int 2), (.int 4), (.int 0), (.int 3), (.int 1), (.int 0), (.int 4)]) (.bin .mod (.var 19) (.int 9))) (.var 66))]⟩ -- _law_draw
noncomputable def fn34 : Fn := ⟨69, [68], [.ret (.comp (.tup [(.var 66), (.bin .fdiv (.bin .sub (.var 68) (.bin .mul (.int 4) (.var 66))) (.int 6))]) [66] (.rng (.bin .add (.bin .fdiv (.var 68) (.int 4)) (.int 1))) (some (.cmp .eq (.bin .mod (.bin .sub (.var 68) (.bin .mul (.int 4) (.var 66))) (.int 6)) (.int 0))) [68])]⟩ -- _law_lots
noncomputable def fn35 : Fn := ⟨72, [65], [.asg 68 (.bin .add (.int 4) (.bin .mul (.int 2) (.call 33 [(.var 65), (.int 7)]))), .asgT [70, 21] (.tup [(.tup [(.bin .add (.int 1) (.call 33 [(.var 65), (.int 3)])), (.bin .sub (.call 33 [(.var 65), (.int 5)]) (.int 2))]), .dict0]), .for_ [3, 71] (.enu (.call 34 [(.var 68)])) [.asg 21 (.call 10 [(.var 21), (.call 8 [(.tup [(.int 0), (.sub (.var 71) (.int 0)), (.sub (.var 71) (.int 1))]), (.tup [(.sub (.var 70) (.var 3)), (.int 1)])])])], .ret (.tup [(.var 68), (.var 21)])]⟩ -- _law_form
noncomputable def fn36 : Fn := ⟨75, [73, 18], [.ret (.bi .sum [(.comp (.bin .pow (.var 74) (.var 73)) [74] (.rng2 (.int 1) (.bin .add (.var 18) (.int 1))) (some (.cmp .eq (.bin .mod (.var 18) (.var 74)) (.int 0))) [18, 73])])]⟩ -- _law_sums
noncomputable def fn37 : Fn := ⟨81, [78], [.asgT [58, 76, 77] (.comp (.call 9 [(.var 3), (.int 3)]) [3] (.rng (.int 3)) none []), .asg 2 (.call 15 [(.call 16 [(.var 78), (.int 0)]), (.call 13 [(.call 15 [(.var 58), (.var 58)]), (.var 76)])]), .asg 79 (.call 14 [(.call 15 [(.call 16 [(.var 78), (.int 1)]), (.call 13 [(.call 15 [(.var 58), (.var 76)]), (.var 77)])]), (.tup [(.int 4), (.int 1)])]), .asg 80 (.call 14 [(.call 15 [(.call 16 [(.var 78), (.int 2)]), (.call 13 [(.call 15 [(.var 58), (.var 77)]), (.call 15 [(.var 76), (.var 76)])])]), (.tup [(.int 6), (.int 1)])]), .ret (.call 10 [(.call 10 [(.var 2), (.var 79)]), (.var 80)])]⟩ -- _law_twelve
noncomputable def fn38 : Fn := ⟨82, [34, 55], [.ret (.bin .add (.slTo (.var 34) (.var 55)) (.bin .mul (.lst [(.int 0)]) (.bin .sub (.var 55) (.bi .len [(.var 34)]))))]⟩ -- _law_long
noncomputable def fn39 : Fn := ⟨86, [78, 85, 55], [.asg 21 (.lst []), .for_ [16] (.ovr (.var 78)) [.asg 83 (.lst [(.sub (.sub (.var 78) (.var 16)) (.int 0))]), .for_ [3, 66] (.enu (.var 16)) [.for_ [84] (.rng (.var 66)) [.asg 83 (.slTo (.call 32 [(.var 83), (.sub (.var 85) (.var 3))]) (.var 55))]], .asg 21 (.call 28 [(.var 21), (.var 83)])], .ret (.call 38 [(.var 21), (.var 55)])]⟩ -- _law_series
noncomputable def fn40 : Fn := ⟨87, [34], [.ret (.comp (.bin .mul (.var 3) (.var 43)) [3, 43] (.enu (.var 34)) none [])]⟩ -- _law_slope
noncomputable def fn41 : Fn := ⟨90, [55], [.asg 21 (.lst [(.int 1)]), .for_ [88] (.rng2 (.int 1) (.var 55)) [.asg 23 (.bi .sum [(.comp (.bin .mul (.call 36 [(.int 1), (.var 89)]) (.sub (.var 21) (.bin .sub (.var 88) (.var 89)))) [89] (.rng2 (.int 1) (.bin .add (.var 88) (.int 1))) none [21, 88])]), .app 21 (.bin .fdiv (.bin .mul (.neg (.int 24)) (.var 23)) (.var 88))], .ret (.bin .add (.lst [(.int 0)]) (.slTo (.var 21) (.bin .sub (.var 55) (.int 1))))]⟩ -- _law_steps
noncomputable def fn42 : Fn := ⟨96, [31, 85, 55], [.asg 91 (.sub (.call 18 [(.var 31)]) (.var 31)), .asg 92 (.call 2 [(.bin .mul (.bin .mul (.neg (.int 2)) (.var 31)) (.sub (.var 91) (.int 1))), (.sub (.var 91) (.int 0))]), .asg 93 (.bin .add (.lst [(.tup [(.int 1), (.int 1)])]) (.comp (.call 5 [(.var 92), (.tup [(.call 36 [(.bin .sub (.var 31) (.int 1)), (.var 18)]), (.int 1)])]) [18] (.rng2 (.int 1) (.var 55)) none [92, 31])), .asg 94 (.comp (.call 39 [(.dict1 (.tup [(.int 0), (.sub (.var 71) (.int 0)), (.sub (.var 71) (.int 1))]) (.tup [(.int 1), (.int 1)])), (.var 85), (.var 55)]) [71] (.ovr (.call 34 [(.var 31)])) none [85, 55]), .asg 66 (.bi .len [(.var 94)]), .asgT [78, 95] (.call 26 [(.comp (.comp (.tup [(.sub (.var 83) (.var 3)), (.int 1)]) [83] (.ovr (.var 94)) none [3]) [3] (.rng (.var 66)) none [94]), (.slTo (.var 93) (.var 66))]), .iff (.or (.isNon (.var 78)) (.cmp .ne (.var 95) (.lst []))) [.ret (.boo false)] [], .for_ [3] (.rng (.var 55)) [.asg 23 (.tup [(.int 0), (.int 1)]), .for_ [19, 83] (.enu (.var 94)) [.asg 23 (.call 3 [(.var 23), (.call 5 [(.sub (.var 78) (.var 19)), (.tup [(.sub (.var 83) (.var 3)), (.int 1)])])])], .iff (.cmp .ne (.var 23) (.sub (.var 93) (.var 3))) [.ret (.boo false)] []], .ret (.boo true)]⟩ -- _law_alone
noncomputable def fn43 : Fn := ⟨107, [97], [.asg 65 (.lst [(.comp (.bi .int [(.var 98)]) [98] (.ovr (.slTo (.var 97) (.int 9))) none []), (.int 0)]), .asgT [68, 99] (.call 35 [(.var 65)]), .asgT [41, 7] (.call 35 [(.var 65)]), .asgT [58, 76, 77] (.comp (.call 9 [(.var 3), (.int 3)]) [3] (.rng (.int 3)) none []), .asg 100 (.ite (.cmp .eq (.call 33 [(.var 65), (.int 2)]) (.int 1)) (.call 15 [(.var 58), (.var 99)]) (.var 99)), .asg 55 (.bin .add (.int 5) (.call 33 [(.var 65), (.int 3)])), .asg 85 (.lst []), .for_ [73, 101] (.ovr (.tup [(.tup [(.int 1), (.neg (.int 24))]), (.tup [(.int 3), (.int 240)]), (.tup [(.int 5), (.neg (.int 504))])])) [.app 85 (.bin .add (.lst [(.int 1)]) (.comp (.bin .mul (.var 101) (.call 36 [(.var 73), (.var 18)])) [18] (.rng2 (.int 1) (.var 55)) none [101, 73]))], .iff (.cmp .ne (.comp (.bin .mul (.int 12) (.var 43)) [43] (.ovr (.call 40 [(.call 39 [(.var 100), (.var 85), (.var 55)])])) none []) (.call 39 [(.call 37 [(.var 100)]), (.var 85), (.var 55)])) [.ret (.boo false)] [], .asg 102 (.call 13 [(.call 15 [(.call 16 [(.var 99), (.int 1)]), (.call 16 [(.var 7), (.int 2)])]), (.call 15 [(.call 16 [(.var 99), (.int 2)]), (.call 16 [(.var 7), (.int 1)])])]), .asg 62 (.call 13 [(.call 14 [(.call 15 [(.var 99), (.call 37 [(.var 7)])]), (.tup [(.var 68), (.int 1)])]), (.call 14 [(.call 15 [(.var 7), (.call 37 [(.var 99)])]), (.tup [(.var 41), (.int 1)])])]), .asg 103 (.call 13 [(.call 15 [(.var 76), (.call 15 [(.var 76), (.var 76)])]), (.call 15 [(.var 77), (.var 77)])]), .iff (.cmp .ne (.var 62) (.call 14 [(.call 15 [(.var 103), (.var 102)]), (.tup [(.neg (.int 24)), (.int 1)])])) [.ret (.boo false)] [], .iff (.cmp .ne (.call 39 [(.var 103), (.var 85), (.var 55)]) (.comp (.bin .mul (.int 1728) (.var 43)) [43] (.ovr (.call 41 [(.var 55)])) none [])) [.ret (.boo false)] [], .asgT [2, 79] (.tup [(.call 39 [(.var 99), (.var 85), (.var 55)]), (.call 39 [(.var 7), (.var 85), (.var 55)])]), .asgT [104, 105] (.tup [(.call 31 [(.call 32 [(.var 2), (.call 40 [(.var 79)])]), (.var 68)]), (.call 31 [(.call 32 [(.var 79), (.call 40 [(.var 2)])]), (.var 41)])]), .asg 106 (.call 31 [(.call 32 [(.call 41 [(.var 55)]), (.call 39 [(.var 102), (.var 85), (.var 55)])]), (.neg (.int 3456))]), .iff (.cmp .ne (.call 38 [(.call 30 [(.slTo (.var 104) (.var 55)), (.slTo (.var 105) (.var 55))]), (.var 55)]) (.slTo (.var 106) (.var 55))) [.ret (.boo false)] [], .ret (.call 42 [(.bin .add (.int 4) (.bin .mul (.int 2) (.call 33 [(.var 65), (.int 9)]))), (.var 85), (.var 55)])]⟩ -- law
noncomputable def fns : List Fn := [fn0, fn1, fn2, fn3, fn4, fn5, fn6, fn7, fn8, fn9, fn10, fn11, fn12, fn13, fn14, fn15, fn16, fn17, fn18, fn19, fn20, fn21, fn22, fn23, fn24, fn25, fn26, fn27, fn28, fn29, fn30, fn31, fn32, fn33, fn34, fn35, fn36, fn37, fn38, fn39, fn40, fn41, fn42, fn43]
noncomputable def tbl (f : Nat) : Option Fn := fns[f]?
noncomputable def nm (i : Nat) : PySem.Str := match names[i]? with
  | some s => s
  | none => ⟨#[0, i]⟩
end Mine
-- 0:powers_product 1:gcd 2:rat 3:radd 4:rsub 5:rmul 6:rdiv 7:rneg 8:mvterm 9:mvletter 10:mvadd 11:add_term 12:mvneg 13:mvsub 14:mvscale 15:mvmul 16:mvderive 17:binomial_row 18:bernoulli_row 19:shape 20:need_shape 21:copied 22:swap_rows 23:take_off 24:echelon 25:null_base 26:solve_system 27:ztrim 28:zadd 29:zneg 30:zsub 31:zscale 32:zmul 33:_law_draw 34:_law_lots 35:_law_form 36:_law_sums 37:_law_twelve 38:_law_long 39:_law_series 40:_law_slope 41:_law_steps 42:_law_alone 43:law
-- 0:a 1:b 2:one 3:at 4:powers_product 5:gcd 6:bottom 7:g 8:top 9:rat 10:radd 11:rsub 12:rmul 13:rdiv 14:rneg 15:rational 16:powers 17:mvterm 18:n 19:spot 20:mvletter 21:found 22:mvadd 23:total 24:add_term 25:mvneg 26:mvsub 27:mvscale 28:mvmul 29:lower 30:mvderive 31:k 32:binomial_row 33:m 34:row 35:bernoulli_row 36:shape 37:is_right 38:need_shape 39:text 40:copied 41:other 42:swap_rows 43:number 44:source 45:take_off 46:pivots 47:column 48:spots 49:lead 50:echelon 51:reduced 52:null_base 53:width 54:solve_system 55:size 56:ztrim 57:zadd 58:p 59:zneg 60:zsub 61:zscale 62:left 63:right 64:zmul 65:pool 66:many 67:_law_draw 68:weight 69:_law_lots 70:numbers 71:lot 72:_law_form 73:power 74:d 75:_law_sums 76:q 77:r 78:told 79:two 80:three 81:_law_twelve 82:_law_long 83:part 84:turn 85:rows 86:_law_series 87:_law_slope 88:place 89:back 90:_law_steps 91:known 92:front 93:due 94:parts 95:free 96:_law_alone 97:script 98:cell 99:f 100:h 101:times 102:crossed 103:apart 104:ahead 105:behind 106:wanted 107:law
end

section
/-! What the small language's states say of a heap. -/
set_option maxRecDepth 10000
set_option linter.all false
namespace Mine
open PySem PySem.Calls PyProof.Rows

section
variable (prog : Program) (w : World)
noncomputable abbrev IK : KeyKind prog w Int := intKind prog w
noncomputable abbrev TK : HeapKind prog w (List Int) := tupleKind (IK prog w)
end

mutual
inductive VR (h : Heap) (σ : List Addr) : V → Value → Prop
  | non : VR h σ .non .none
  | boo (b : Bool) : VR h σ (.boo b) (.bool b)
  | int (i : Int) (t : Tok) : VR h σ (.int i) (.int i t)
  | str (x : Str) (t : Tok) : VR h σ .str (.str x t)
  | tup {xs : List V} {a : Addr} {ws : List Value} : h.IsTuple a ws.toArray → ws.length ≤ sizeLine → VRs h σ xs ws → VR h σ (.tup xs) (.ref a)
  | ref {n : Nat} {a : Addr} : σ[n]? = some a → VR h σ (.ref n) (.ref a)
inductive VRs (h : Heap) (σ : List Addr) : List V → List Value → Prop
  | nil : VRs h σ [] []
  | cons {x : V} {v : Value} {xs : List V} {vs : List Value} : VR h σ x v → VRs h σ xs vs → VRs h σ (x :: xs) (v :: vs)
end

inductive DRs (h : Heap) (σ : List Addr) : List (List Int × V) → List (List Int × Addr × Value) → Prop
  | nil : DRs h σ [] []
  | cons {k : List Int} {x : V} {a : Addr} {v : Value} {es : List (List Int × V)} {ys : List (List Int × Addr × Value)} : VR h σ x v → DRs h σ es ys → DRs h σ ((k, x) :: es) ((k, a, v) :: ys)

section
variable (prog : Program) (w : World)
def CellAt (h : Heap) (σ : List Addr) (a : Addr) : C → Prop
  | .lst xs => ∃ (ws : List Value) (n : Nat), h.get? a = some { cls := .type "list", data := .seq ws.toArray n } ∧ ws.length ≤ sizeLine ∧ VRs h σ xs ws
  | .dic es => ∃ ys, h.DictOfH (TK prog w) a ys ∧ ys.length ≤ sizeLine ∧ DRs h σ es ys

structure Rel (base h : Heap) (σ : List Addr) (H : Hp) : Prop where
  len : σ.length = H.length
  nd : σ.Nodup
  cell : ∀ n a c, σ[n]? = some a → Hp.get H n = some c → CellAt prog w h σ a c
  new : ∀ a ∈ σ, base.get? a = none ∧ (a == sysModules) = false
  stay : ∀ b o, base.get? b = some o → h.get? b = some o
end

theorem Hp.get_some_of_lt : ∀ {H : Hp} {n : Nat}, n < H.length → ∃ c, Hp.get H n = some c
  | [], n, h => absurd h (Nat.not_lt_zero n)
  | c :: _, 0, _ => ⟨c, rfl⟩
  | _ :: r, n + 1, h => Hp.get_some_of_lt (H := r) (Nat.lt_of_succ_lt_succ h)
theorem Hp.get_lt : ∀ {H : Hp} {n : Nat} {c : C}, Hp.get H n = some c → n < H.length
  | [], _, _, e => by cases e
  | _ :: _, 0, _, _ => Nat.succ_pos _
  | _ :: r, n + 1, c, e => Nat.succ_lt_succ (Hp.get_lt (H := r) (c := c) e)
theorem Hp.get_append : ∀ {H : Hp} {n : Nat} {K : Hp}, n < H.length → Hp.get (H ++ K) n = Hp.get H n
  | [], n, _, h => absurd h (Nat.not_lt_zero n)
  | _ :: _, 0, _, _ => rfl
  | _ :: r, n + 1, _, h => Hp.get_append (H := r) (Nat.lt_of_succ_lt_succ h)
theorem Hp.get_length : ∀ {H : Hp} {c : C}, Hp.get (H ++ [c]) H.length = some c
  | [], _ => rfl
  | _ :: r, _ => Hp.get_length (H := r)
theorem Hp.put_length : ∀ {H : Hp} {n : Nat} {c : C}, (Hp.put H n c).length = H.length
  | [], _, _ => rfl
  | _ :: _, 0, _ => rfl
  | _ :: r, n + 1, c => by
    show (Hp.put r n c).length + 1 = _
    rw [Hp.put_length]; rfl
theorem Hp.get_put_self : ∀ {H : Hp} {n : Nat} {c : C}, n < H.length → Hp.get (Hp.put H n c) n = some c
  | [], n, _, h => absurd h (Nat.not_lt_zero n)
  | _ :: _, 0, _, _ => rfl
  | _ :: r, n + 1, _, h => Hp.get_put_self (H := r) (Nat.lt_of_succ_lt_succ h)
theorem Hp.get_put_ne : ∀ {H : Hp} {n m : Nat} {c : C}, m ≠ n → Hp.get (Hp.put H n c) m = Hp.get H m
  | [], _, _, _, _ => rfl
  | _ :: _, 0, 0, _, h => absurd rfl h
  | _ :: _, 0, _ + 1, _, _ => rfl
  | _ :: _, _ + 1, 0, _, _ => rfl
  | _ :: r, n + 1, m + 1, _, h => Hp.get_put_ne (H := r) fun e => h (by rw [e])

/-- all that stood stands, but for the unlocked cells and the frame's own X -/
def Keep (κ : List Nat) (σ X : List Addr) (h h' : Heap) : Prop :=
  (∀ b o, h.get? b = some o → ∃ o', h'.get? b = some o') ∧ ∀ b o, h.get? b = some o → b ∉ X → (∀ n : Nat, σ[n]? = some b → n ∈ κ) → h'.get? b = some o

theorem CellAt.there {prog : Program} {w : World} {h : Heap} {σ : List Addr} {a : Addr} {c : C} (x : CellAt prog w h σ a c) : ∃ o, h.get? a = some o ∧ (o.cls = .type "list" ∨ o.cls = .type "dict") := by
  cases c with
  | lst xs => obtain ⟨ws, n, ho, _⟩ := x; exact ⟨_, ho, .inl rfl⟩
  | dic es => obtain ⟨ys, ⟨o, _, _, ho, hc, _⟩, _⟩ := x; exact ⟨o, ho, .inr hc.1⟩

section
variable {prog : Program} {w : World} {base h h' : Heap} {σ σ' : List Addr} {H H' : Hp} {κ : List Nat}

theorem Rel.at (R : Rel prog w base h σ H) {n : Nat} {a : Addr} (e : σ[n]? = some a) : ∃ c, Hp.get H n = some c ∧ CellAt prog w h σ a c := by
  have hn : n < H.length := by rw [← R.len]; exact (List.getElem?_eq_some_iff.mp e).1
  obtain ⟨c, hc⟩ := Hp.get_some_of_lt hn
  exact ⟨c, hc, R.cell n a c e hc⟩
theorem Rel.lt (R : Rel prog w base h σ H) {a : Addr} (e : a ∈ σ) : a < h.objs.size := by
  obtain ⟨n, hn⟩ := List.mem_iff_getElem?.mp e
  obtain ⟨c, _, x⟩ := R.at hn
  obtain ⟨o, ho, _⟩ := x.there
  exact Heap.lt_size ho
theorem Rel.tup_out (R : Rel prog w base h σ H) {a : Addr} {items : Array Value} (t : h.IsTuple a items) : a ∉ σ := fun e => by
  obtain ⟨n, hn⟩ := List.mem_iff_getElem?.mp e
  obtain ⟨c, _, x⟩ := R.at hn
  obtain ⟨o, ho, hc⟩ := x.there
  obtain ⟨o', ho', hc', _⟩ := t
  obtain rfl : o = o' := Option.some.inj (ho.symm.trans ho')
  rw [hc'] at hc
  rcases hc with hc | hc <;> · injection hc with e; exact absurd e (by decide)
theorem Keep.out {X : List Addr} (k : Keep κ σ X h h') {b : Addr} {o : Obj} (e : h.get? b = some o) (hx : b ∉ X) (hb : b ∉ σ) : h'.get? b = some o :=
  k.2 b o e hx fun n hn => absurd (List.mem_of_getElem? hn) hb
theorem Keep.refl {X : List Addr} : Keep κ σ X h h := ⟨fun _ o e => ⟨o, e⟩, fun _ _ e _ _ => e⟩

theorem IsTuple.mono {a : Addr} {items : Array Value} (t : h.IsTuple a items) (e : ∀ o, h.get? a = some o → h'.get? a = some o) : h'.IsTuple a items :=
  let ⟨o, ho, r⟩ := t; ⟨o, e o ho, r⟩

mutual
theorem VR.mono {x : V} {v : Value} (r : VR h σ x v) (ht : ∀ a items, h.IsTuple a items → h'.IsTuple a items) (hs : ∀ (n : Nat) (a : Addr), σ[n]? = some a → σ'[n]? = some a) : VR h' σ' x v := by
  cases r with
  | non => exact .non
  | boo b => exact .boo b
  | int i t => exact .int i t
  | str x t => exact .str x t
  | tup t l rs => exact .tup (ht _ _ t) l (VRs.mono rs ht hs)
  | ref e => exact .ref (hs _ _ e)
theorem VRs.mono {x : List V} {v : List Value} (r : VRs h σ x v) (ht : ∀ a items, h.IsTuple a items → h'.IsTuple a items) (hs : ∀ (n : Nat) (a : Addr), σ[n]? = some a → σ'[n]? = some a) : VRs h' σ' x v := by
  cases r with
  | nil => exact .nil
  | cons a b => exact .cons (VR.mono a ht hs) (VRs.mono b ht hs)
end
theorem DRs.mono {x : List (List Int × V)} {v : List (List Int × Addr × Value)} (r : DRs h σ x v) (ht : ∀ a items, h.IsTuple a items → h'.IsTuple a items) (hs : ∀ (n : Nat) (a : Addr), σ[n]? = some a → σ'[n]? = some a) : DRs h' σ' x v := by
  induction r with
  | nil => exact .nil
  | cons a _ ih => exact .cons (a.mono ht hs) ih

theorem Rel.tups (R : Rel prog w base h σ H) {X : List Addr} (k : Keep κ σ X h h') (hx : ∀ b ∈ X, ∀ items, ¬ h.IsTuple b items) : ∀ a items, h.IsTuple a items → h'.IsTuple a items :=
  fun a _ t => IsTuple.mono t fun _ e => k.out e (fun hm => hx a hm _ t) (R.tup_out t)

theorem VRs.length {x : List V} {v : List Value} (r : VRs h σ x v) : x.length = v.length := by
  induction x generalizing v with
  | nil => cases r; rfl
  | cons a x ih => cases r with | cons _ b => simp [ih b]
theorem VRs.get {x : List V} {v : List Value} (r : VRs h σ x v) {n : Nat} {y : V} (e : x[n]? = some y) : ∃ u, v[n]? = some u ∧ VR h σ y u := by
  induction x generalizing v n with
  | nil => simp at e
  | cons a x ih =>
    cases r with
    | cons r1 b =>
      cases n with
      | zero => simp only [List.getElem?_cons_zero, Option.some.injEq] at e; subst e; exact ⟨_, rfl, r1⟩
      | succ n => simp only [List.getElem?_cons_succ] at e ⊢; exact ih b e
theorem VRs.append {x y : List V} {v u : List Value} (r : VRs h σ x v) (q : VRs h σ y u) : VRs h σ (x ++ y) (v ++ u) := by
  induction x generalizing v with
  | nil => cases r; exact q
  | cons a x ih => cases r with | cons r1 b => exact .cons r1 (ih b)
theorem VRs.take {x : List V} {v : List Value} (r : VRs h σ x v) (n : Nat) : VRs h σ (x.take n) (v.take n) := by
  induction x generalizing v n with
  | nil => cases r; simp only [List.take_nil]; exact .nil
  | cons a x ih => cases r with
    | cons r1 b => cases n with
      | zero => exact .nil
      | succ n => exact .cons r1 (ih b n)
theorem VRs.drop {x : List V} {v : List Value} (r : VRs h σ x v) (n : Nat) : VRs h σ (x.drop n) (v.drop n) := by
  induction x generalizing v n with
  | nil => cases r; simp only [List.drop_nil]; exact .nil
  | cons a x ih => cases r with
    | cons r1 b => cases n with
      | zero => exact .cons r1 b
      | succ n => exact ih b n
theorem VRs.set {x : List V} {v : List Value} (r : VRs h σ x v) (n : Nat) {y : V} {u : Value} (q : VR h σ y u) : VRs h σ (x.set n y) (v.set n u) := by
  induction x generalizing v n with
  | nil => cases r; exact .nil
  | cons a x ih => cases r with
    | cons r1 b => cases n with
      | zero => exact .cons q b
      | succ n => exact .cons r1 (ih b n)
theorem VRs.replicate (n : Nat) {y : V} {u : Value} (q : VR h σ y u) : VRs h σ (List.replicate n y) (List.replicate n u) := by
  induction n with
  | zero => exact .nil
  | succ n ih => exact .cons q ih
theorem VR.int_c {h : Heap} {σ : List Addr} {i : Int} {u : Value} {M : Value → Prop} (r : VR h σ (.int i) u) (k : ∀ t, M (.int i t)) : M u := by cases r; exact k _
theorem VR.boo_c {h : Heap} {σ : List Addr} {i : Bool} {u : Value} {M : Value → Prop} (r : VR h σ (.boo i) u) (k : M (.bool i)) : M u := by cases r; exact k
theorem VR.non_c {h : Heap} {σ : List Addr} {u : Value} {M : Value → Prop} (r : VR h σ .non u) (k : M .none) : M u := by cases r; exact k
theorem VR.ref_c {h : Heap} {σ : List Addr} {n : Nat} {u : Value} {M : Value → Prop} (r : VR h σ (.ref n) u) (k : ∀ a, σ[n]? = some a → M (.ref a)) : M u := by
  cases r with
  | ref e => exact k _ e
theorem VR.tup_c {h : Heap} {σ : List Addr} {xs : List V} {u : Value} {M : Value → Prop} (r : VR h σ (.tup xs) u) (k : ∀ a ws, h.IsTuple a ws.toArray → ws.length ≤ sizeLine → VRs h σ xs ws → M (.ref a)) : M u := by
  cases r with
  | tup t l rs => exact k _ _ t l rs
theorem VRs.cons_c {a : V} {x : List V} {v : List Value} {M : List Value → Prop} (r : VRs h σ (a :: x) v) (k : ∀ u us, VR h σ a u → VRs h σ x us → M (u :: us)) : M v := by
  cases r with | cons r1 b => exact k _ _ r1 b
theorem VRs.nil_c {v : List Value} {M : List Value → Prop} (r : VRs h σ [] v) (k : M []) : M v := by cases r; exact k
theorem VRs.ints_ind {M : List Int → List Value → Prop} (h0 : M [] []) (h1 : ∀ i t is us, M is us → M (i :: is) (.int i t :: us)) : ∀ {x : List V} {v : List Value} {is : List Int}, VRs h σ x v → V.ints x = some is → M is v
  | [], v, is, r, e => by obtain rfl := Option.some.inj e; exact r.nil_c h0
  | a :: x, v, is, r, e => by
    apply r.cons_c; intro u us ru rs
    revert ru
    apply onInt_c e; intro i e ru
    refine bo_c e fun js h2 e => ?_
    obtain rfl := Option.some.inj e
    exact ru.int_c (M := fun u => M (i :: js) (u :: us)) fun t => h1 i t js us (VRs.ints_ind h0 h1 rs h2)
theorem VRs.ints {x : List V} {v : List Value} {is : List Int} (r : VRs h σ x v) (e : V.ints x = some is) : PySem.ItemsAre (IK prog w) is v :=
  VRs.ints_ind .nil (fun i t is us ih => .cons (by simp [IK, intKind, Value.isInt]) ih) r e
theorem VRs.intsAre {x : List V} {v : List Value} {is : List Int} (r : VRs h σ x v) (e : V.ints x = some is) : IntsAre v is :=
  VRs.ints_ind (M := fun is v => IntsAre v is) .nil (fun i t is us ih => .cons _ _ ih) r e
end

/-! ## A step of a run -/
structure Pst (prog : Program) (w : World) (base : Heap) (κ : List Nat) (σ X : List Addr) (s : Shared) (H' : Hp) (s' : Shared) (σ' : List Addr) : Prop where
  same : ∃ h tk, s' = { s with heap := h, toks := tk }
  pre : ∃ l, σ' = σ ++ l
  new : ∀ a ∈ σ', a ∈ σ ∨ s.heap.get? a = none
  keep : Keep κ σ X s.heap s'.heap
  tups : ∀ a items, s.heap.IsTuple a items → s'.heap.IsTuple a items
  rel : Rel prog w base s'.heap σ' H'

section
variable {prog : Program} {w : World} {base : Heap} {σ σ₁ σ₂ X : List Addr} {H H₁ H₂ : Hp} {κ κ' : List Nat} {s s₁ s₂ : Shared} {x : V} {v : Value}

theorem Pst.refl (R : Rel prog w base s.heap σ H) : Pst prog w base κ σ X s H s σ :=
  ⟨⟨s.heap, s.toks, rfl⟩, ⟨[], by simp⟩, fun _ h => .inl h, Keep.refl, fun _ _ t => t, R⟩
theorem Pst.toks (P : Pst prog w base κ σ X s H₁ s₁ σ₁) (tk : Nat) : Pst prog w base κ σ X s H₁ { s₁ with toks := tk } σ₁ :=
  ⟨let ⟨h, t, e⟩ := P.same; ⟨h, tk, by rw [e]⟩, P.pre, P.new, P.keep, P.tups, P.rel⟩
theorem Pst.fresh (R : Rel prog w base s.heap σ H) (tk : Nat) : Pst prog w base κ σ X s H { s with toks := tk } σ := (Pst.refl R).toks tk
theorem Pst.sub (P : Pst prog w base κ σ X s H₁ s₁ σ₁) {n : Nat} {a : Addr} (e : σ[n]? = some a) : σ₁[n]? = some a := by
  obtain ⟨l, rfl⟩ := P.pre
  rw [List.getElem?_append_left (List.getElem?_eq_some_iff.mp e).1]; exact e
theorem Pst.vr (P : Pst prog w base κ σ X s H₁ s₁ σ₁) (r : VR s.heap σ x v) : VR s₁.heap σ₁ x v := r.mono P.tups fun _ _ => P.sub
theorem Pst.vrs {xs : List V} {vs : List Value} (P : Pst prog w base κ σ X s H₁ s₁ σ₁) (r : VRs s.heap σ xs vs) : VRs s₁.heap σ₁ xs vs := r.mono P.tups fun _ _ => P.sub

theorem Keep.trans {h h₁ h₂ : Heap} (hlt : ∀ b o, h.get? b = some o → ∀ (n : Nat), σ₁[n]? = some b → (∃ m : Nat, σ[m]? = some b ∧ m = n)) (k : Keep κ σ X h h₁) (k' : Keep κ σ₁ X h₁ h₂) : Keep κ σ X h h₂ :=
  ⟨fun b o e => let ⟨o', e'⟩ := k.1 b o e; k'.1 b o' e', fun b o e hx hn => k'.2 b o (k.2 b o e hx hn) hx fun n hn' => by
    obtain ⟨m, hm, rfl⟩ := hlt b o e n hn'
    exact hn _ hm⟩
/-- an old address that is labelled now was labelled so -/
theorem Pst.old (P : Pst prog w base κ σ X s H₁ s₁ σ₁) {b : Addr} {o : Obj} (hb : s.heap.get? b = some o) {n : Nat} (hn : σ₁[n]? = some b) : σ[n]? = some b := by
  obtain ⟨l, rfl⟩ := P.pre
  rcases Nat.lt_or_ge n σ.length with h | h
  · rw [List.getElem?_append_left h] at hn; exact hn
  · exfalso
    rcases P.new b (List.mem_of_getElem? hn) with h1 | h1
    · obtain ⟨m, hm⟩ := List.mem_iff_getElem?.mp h1
      have hlt := (List.getElem?_eq_some_iff.mp hm).1
      have e2 : (σ ++ l)[m]? = some b := by rw [List.getElem?_append_left hlt]; exact hm
      have := (List.getElem?_inj (List.getElem?_eq_some_iff.mp e2).1 P.rel.nd).mp (e2.trans hn.symm)
      omega
    · rw [hb] at h1; cases h1
theorem Pst.out (P : Pst prog w base κ σ X s H₁ s₁ σ₁) {b : Addr} {o : Obj} (hb : s.heap.get? b = some o) (ho : b ∉ σ) : b ∉ σ₁ := fun h => by
  obtain ⟨n, hn⟩ := List.mem_iff_getElem?.mp h
  exact ho (List.mem_of_getElem? (P.old hb hn))
theorem Pst.trans (P : Pst prog w base κ σ X s H₁ s₁ σ₁) (P' : Pst prog w base κ σ₁ X s₁ H₂ s₂ σ₂) : Pst prog w base κ σ X s H₂ s₂ σ₂ := by
  refine ⟨?_, ?_, fun a ha => ?_, ?_, fun a i t => P'.tups a i (P.tups a i t), P'.rel⟩
  · obtain ⟨h, t, e⟩ := P.same
    obtain ⟨h', t', e'⟩ := P'.same
    exact ⟨h', t', by rw [e', e]⟩
  · obtain ⟨l, e⟩ := P.pre
    obtain ⟨l', e'⟩ := P'.pre
    exact ⟨l ++ l', by rw [e', e, List.append_assoc]⟩
  · rcases P'.new a ha with h | h
    · exact P.new a h
    · refine .inr ?_
      cases q : s.heap.get? a with
      | none => rfl
      | some o => obtain ⟨o', e'⟩ := P.keep.1 a o q; rw [h] at e'; cases e'
  · exact Keep.trans (σ₁ := σ₁) (fun b o e n hn => ⟨n, P.old e hn, rfl⟩) P.keep P'.keep
theorem Keep.mono {X' : List Addr} {h h' : Heap} (k : Keep κ' σ X h h') (hs : ∀ n ∈ κ, n ∈ κ') (hx : ∀ a ∈ X, a ∈ X') : Keep κ σ X' h h' :=
  ⟨k.1, fun b o e hb hn => k.2 b o e (fun h => hb (hx b h)) fun n h => hs n (hn n h)⟩
theorem Pst.lock (P : Pst prog w base κ' σ X s H₁ s₁ σ₁) (hs : ∀ n ∈ κ, n ∈ κ') : Pst prog w base κ σ X s H₁ s₁ σ₁ := ⟨P.same, P.pre, P.new, P.keep.mono hs fun _ h => h, P.tups, P.rel⟩
theorem Pst.wide (P : Pst prog w base κ σ [] s H₁ s₁ σ₁) : Pst prog w base κ σ X s H₁ s₁ σ₁ := ⟨P.same, P.pre, P.new, P.keep.mono (fun _ h => h) (fun _ h => absurd h (by simp)), P.tups, P.rel⟩

theorem CellAt.mono {h h' : Heap} {a : Addr} {c : C} (x : CellAt prog w h σ a c) (ha : ∀ o, h.get? a = some o → h'.get? a = some o) (ht : ∀ a items, h.IsTuple a items → h'.IsTuple a items) (hs : ∀ (n : Nat) (a : Addr), σ[n]? = some a → σ₁[n]? = some a) : CellAt prog w h' σ₁ a c := by
  cases c with
  | lst xs => obtain ⟨ws, n, hx, l, q⟩ := x; exact ⟨ws, n, ha _ hx, l, q.mono ht hs⟩
  | dic es =>
    obtain ⟨ys, ⟨x, es', ep, hx, h1, h2, h3, h4, h5⟩, l, q⟩ := x
    refine ⟨ys, ⟨x, es', ep, ha _ hx, h1, h2, h3, fun y hy => ?_, h5⟩, l, q.mono ht hs⟩
    obtain ⟨ox, items, m, ho, hc, hd, hi⟩ := h4 y hy
    obtain ⟨ox', ho', hc', m', hd'⟩ := ht y.2.1 items ⟨ox, ho, hc, m, hd⟩
    exact ⟨ox', items, m', ho', hc', hd', hi⟩

/-- all objects that stood stand -/
theorem Rel.keeps {s' : Shared} (R : Rel prog w base s.heap σ H) (hk : ∀ b x, s.heap.get? b = some x → s'.heap.get? b = some x)(hs : ∃ h tk, s' = { s with heap := h, toks := tk }) : Pst prog w base κ σ X s H s' σ := by
  have ht : ∀ a items, s.heap.IsTuple a items → s'.heap.IsTuple a items := fun a items t => IsTuple.mono t fun o e => hk a o e
  exact ⟨hs, ⟨[], by simp⟩, fun _ h => .inl h, ⟨fun b o e => ⟨o, hk b o e⟩, fun b o e _ _ => hk b o e⟩, ht,
    R.len, R.nd, fun n a c e1 e2 => (R.cell n a c e1 e2).mono (hk a) ht fun _ _ e => e, R.new, fun b x e => hk b x (R.stay b x e)⟩
theorem Rel.alloc (R : Rel prog w base s.heap σ H) (o : Obj) (tk : Nat) : Pst prog w base κ σ X s H { s with heap := s.heap.push o, toks := tk } σ :=
  R.keeps (s' := { s with heap := s.heap.push o, toks := tk }) (fun b x e => Heap.get?_push_of_some _ e) ⟨_, _, rfl⟩

/-- a cell comes to its label: its object stands already -/
theorem Pst.label {a : Addr} {c : C} (P : Pst prog w base κ σ X s H₁ s₁ σ₁) (hsys : ∃ o, base.get? sysModules = some o) (R : Rel prog w base s.heap σ H) (hn : s.heap.get? a = none) (ho : a ∉ σ₁) (x : CellAt prog w s₁.heap (σ₁ ++ [a]) a c) :
    Pst prog w base κ σ X s (H₁ ++ [c]) s₁ (σ₁ ++ [a]) := by
  have hsub : ∀ (n : Nat) (b : Addr), σ₁[n]? = some b → (σ₁ ++ [a])[n]? = some b := fun n b e => by rw [List.getElem?_append_left (List.getElem?_eq_some_iff.mp e).1]; exact e
  refine ⟨P.same, ?_, fun b hb' => ?_, P.keep, P.tups, ?_, ?_, fun n b d e1 e2 => ?_, fun b hb' => ?_, P.rel.stay⟩
  · obtain ⟨l, e⟩ := P.pre; exact ⟨l ++ [a], by rw [e, List.append_assoc]⟩
  · rcases List.mem_append.mp hb' with h | h
    · exact P.new b h
    · rw [List.mem_singleton] at h; subst h; exact .inr hn
  · rw [List.length_append, List.length_append, P.rel.len]; rfl
  · refine List.nodup_append.mpr ⟨P.rel.nd, by simp, fun x hx y hy => ?_⟩
    rw [List.mem_singleton] at hy; subst hy
    rintro rfl; exact ho hx
  · rcases Nat.lt_or_ge n σ₁.length with h | h
    · rw [List.getElem?_append_left h] at e1
      rw [Hp.get_append (by rw [← P.rel.len]; exact h)] at e2
      exact (P.rel.cell n b d e1 e2).mono (fun _ e => e) (fun _ _ t => t) hsub
    · rw [List.getElem?_append_right h] at e1
      have hn0 : n - σ₁.length = 0 := by
        have := (List.getElem?_eq_some_iff.mp e1).1
        simp at this; omega
      rw [hn0] at e1
      simp at e1
      subst e1
      have hn' : n = H₁.length := by have := P.rel.len; omega
      subst hn'
      rw [Hp.get_length] at e2
      cases e2
      exact x
  · rcases List.mem_append.mp hb' with h | h
    · exact P.rel.new b h
    · rw [List.mem_singleton] at h; subst h
      refine ⟨?_, ?_⟩
      · cases q : base.get? b with
        | none => rfl
        | some o => rw [R.stay b o q] at hn; cases hn
      · exact beq_eq_false_iff_ne.mpr fun e => by
          subst e
          obtain ⟨o, q⟩ := hsys
          rw [R.stay _ o q] at hn; cases hn

/-- one cell is turned -/
theorem Rel.turn {s' : Shared} {a : Addr} {n : Nat} {c : C} (R : Rel prog w base s.heap σ H) (ha : σ[n]? = some a) (hκ : n ∉ κ) (hs : Heap.SameBut a s.heap s'.heap) (hss : ∃ h tk, s' = { s with heap := h, toks := tk })
    (x : CellAt prog w s'.heap σ a c) : Pst prog w base κ σ X s (Hp.put H n c) s' σ := by
  have hlt : n < H.length := by rw [← R.len]; exact (List.getElem?_eq_some_iff.mp ha).1
  have hmem := List.mem_of_getElem? ha
  have ht : ∀ a items, s.heap.IsTuple a items → s'.heap.IsTuple a items := fun b items t => IsTuple.mono t fun o e => (hs.2 b fun q => R.tup_out t (q ▸ hmem)).trans e
  refine ⟨hss, ⟨[], by simp⟩, fun _ h => .inl h, ⟨fun b o e => ?_, fun b o e _ hn => (hs.2 b fun q => ?_).trans e⟩, ht,
    by rw [Hp.put_length]; exact R.len, R.nd, fun m b d e1 e2 => ?_, R.new, fun b o e => (hs.2 b fun q => ?_).trans (R.stay b o e)⟩
  · by_cases q : b = a
    · subst q; obtain ⟨o', h', _⟩ := x.there; exact ⟨o', h'⟩
    · exact ⟨o, (hs.2 b q).trans e⟩
  · subst q; exact hκ (hn n ha)
  · by_cases hmn : m = n
    · subst hmn
      rw [Hp.get_put_self hlt] at e2
      rw [ha] at e1
      cases e1; cases e2
      exact x
    · rw [Hp.get_put_ne hmn] at e2
      refine (R.cell m b d e1 e2).mono (fun o e => (hs.2 b fun q => hmn ?_).trans e) ht fun _ _ e => e
      subst q
      exact (List.getElem?_inj (List.getElem?_eq_some_iff.mp e1).1 R.nd).mp (e1.trans ha.symm)
  · subst q; have := (R.new b hmem).1; rw [e] at this; cases this
end
end Mine
end

section
/-! The small language against the program's tree. -/
set_option maxRecDepth 10000
set_option linter.all false
namespace Mine
open PySem PySem.Calls PyProof.Rows

noncomputable def opOf : Bop → Operator
  | .add => .Add | .sub => .Sub | .mul => .Mult | .fdiv => .FloorDiv | .mod => .Mod | .pow => .Pow
noncomputable def copOf : Cop → CmpOp
  | .eq => .Eq | .ne => .NotEq | .lt => .Lt | .le => .LtE | .gt => .Gt | .ge => .GtE | .inn => .In | .nin => .NotIn
noncomputable def biNm : Bi → PySem.Str
  | .abs => "abs" | .len => "len" | .max => "max" | .int => "int" | .tuple => "tuple" | .list => "list" | .dict => "dict" | .sum => "sum"
noncomputable def gnm : Nat → PySem.Str
  | 0 => "R0"
  | _ => "R1"
noncomputable def glb (sc : Scope) (x : PySem.Str) : Bool := sc.names.lookup x == some .globalImplicit && x != ("__debug__" : PySem.Str)
noncomputable def plainNm (x : PySem.Str) : Bool := x != ("__debug__" : PySem.Str) && x != ("__classdict__" : PySem.Str)
/-- the scope of a comprehension: targets its own, the rest from without -/
noncomputable def inner (sp sc : Scope) (ts fr : List Nat) : Bool :=
  sc.kind == .function && (decide (sc.names.map (·.1)).Nodup && ((sc.names.all fun x => x.2 != .free || (sp.names.lookup x.1 == some .cell || sp.names.lookup x.1 == some .free)) &&
    ((ts.all fun x => sc.names.lookup (nm x) == some .local || sc.names.lookup (nm x) == some .cell) && (fr.all fun x => sc.names.lookup (nm x) == some .free))))

theorem nS {α : Type} {a : α} (h : (none : Option α) = some a) : False := by cases h
theorem any_c {α : Type} {o : Option α} {f : α → Bool} {G : Prop} (h : o.any f = true) (k : ∀ a, o = some a → f a = true → G) : G := by
  cases o with
  | none => cases h
  | some a => exact k a rfl h

/-! ## views -/
theorem dite_c {α : Type} {p : Prop} [i : Decidable p] {f : p → Option α} {t : α} {G : Prop} (h : dite p f (fun _ => none) = some t) (k : ∀ hp, f hp = some t → G) : G := by
  cases i with
  | isFalse _ => cases h
  | isTrue hp => exact k hp h
theorem one_eq {α : Type} {l : List α} {A : α} (h : one l = some A) : l = [A] := one_c (M := fun l => l = [A]) h rfl
theorem two_eq {α : Type} {l : List α} {t : α × α} (h : two l = some t) : l = [t.1, t.2] := two_c (M := fun l => l = [t.1, t.2]) h rfl
noncomputable def vName (X : Expr) : Option (PySem.Str) := dite (X.ctorIdx = 23) (fun hp => Expr.Name.elim X hp fun n _ => some n) fun _ => none
theorem vName_c {X : Expr} {t : PySem.Str} {M : Expr → Prop} (h : vName X = some t) (k : ∀ p, M (.Name t p)) : M X :=
  dite_c h fun hp => Expr.Name.elim (motive_1 := fun X => ∀ hp : X.ctorIdx = 23, Expr.Name.elim X hp (fun n _ => some n) = some t → M X) X hp (fun _ _ hp e => by obtain rfl := Option.some.inj e; exact k _) hp
noncomputable def vCon (X : Expr) : Option (Const) := dite (X.ctorIdx = 19) (fun hp => Expr.Constant.elim X hp fun c _ _ => some c) fun _ => none
theorem vCon_c {X : Expr} {t : Const} {M : Expr → Prop} (h : vCon X = some t) (k : ∀ i, ∀ p, M (.Constant t i p)) : M X :=
  dite_c h fun hp => Expr.Constant.elim (motive_1 := fun X => ∀ hp : X.ctorIdx = 19, Expr.Constant.elim X hp (fun c _ _ => some c) = some t → M X) X hp (fun _ _ _ hp e => by obtain rfl := Option.some.inj e; exact k _ _) hp
noncomputable def vBin (X : Expr) : Option (Expr × Operator × Expr) := dite (X.ctorIdx = 2) (fun hp => Expr.BinOp.elim X hp fun a o b _ => some (a, o, b)) fun _ => none
theorem vBin_c {X : Expr} {t : Expr × Operator × Expr} {M : Expr → Prop} (h : vBin X = some t) (k : ∀ p, M (.BinOp t.1 t.2.1 t.2.2 p)) : M X :=
  dite_c h fun hp => Expr.BinOp.elim (motive_1 := fun X => ∀ hp : X.ctorIdx = 2, Expr.BinOp.elim X hp (fun a o b _ => some (a, o, b)) = some t → M X) X hp (fun _ _ _ _ hp e => by obtain rfl := Option.some.inj e; exact k _) hp
noncomputable def vUn (X : Expr) : Option (UnaryOp × Expr) := dite (X.ctorIdx = 3) (fun hp => Expr.UnaryOp.elim X hp fun o a _ => some (o, a)) fun _ => none
theorem vUn_c {X : Expr} {t : UnaryOp × Expr} {M : Expr → Prop} (h : vUn X = some t) (k : ∀ p, M (.UnaryOp t.1 t.2 p)) : M X :=
  dite_c h fun hp => Expr.UnaryOp.elim (motive_1 := fun X => ∀ hp : X.ctorIdx = 3, Expr.UnaryOp.elim X hp (fun o a _ => some (o, a)) = some t → M X) X hp (fun _ _ _ hp e => by obtain rfl := Option.some.inj e; exact k _) hp
noncomputable def vCmp (X : Expr) : Option (Expr × List CmpOp × List Expr) := dite (X.ctorIdx = 15) (fun hp => Expr.Compare.elim X hp fun a o b _ => some (a, o, b)) fun _ => none
theorem vCmp_c {X : Expr} {t : Expr × List CmpOp × List Expr} {M : Expr → Prop} (h : vCmp X = some t) (k : ∀ p, M (.Compare t.1 t.2.1 t.2.2 p)) : M X :=
  dite_c h fun hp => Expr.Compare.elim (motive_1 := fun X => ∀ hp : X.ctorIdx = 15, Expr.Compare.elim X hp (fun a o b _ => some (a, o, b)) = some t → M X) X hp (fun _ _ _ _ hp e => by obtain rfl := Option.some.inj e; exact k _) hp
noncomputable def vBool (X : Expr) : Option (BoolOp × List Expr) := dite (X.ctorIdx = 0) (fun hp => Expr.BoolOp.elim X hp fun o a _ => some (o, a)) fun _ => none
theorem vBool_c {X : Expr} {t : BoolOp × List Expr} {M : Expr → Prop} (h : vBool X = some t) (k : ∀ p, M (.BoolOp t.1 t.2 p)) : M X :=
  dite_c h fun hp => Expr.BoolOp.elim (motive_1 := fun X => ∀ hp : X.ctorIdx = 0, Expr.BoolOp.elim X hp (fun o a _ => some (o, a)) = some t → M X) X hp (fun _ _ _ hp e => by obtain rfl := Option.some.inj e; exact k _) hp
noncomputable def vIf (X : Expr) : Option (Expr × Expr × Expr) := dite (X.ctorIdx = 5) (fun hp => Expr.IfExp.elim X hp fun c a b _ => some (c, a, b)) fun _ => none
theorem vIf_c {X : Expr} {t : Expr × Expr × Expr} {M : Expr → Prop} (h : vIf X = some t) (k : ∀ p, M (.IfExp t.1 t.2.1 t.2.2 p)) : M X :=
  dite_c h fun hp => Expr.IfExp.elim (motive_1 := fun X => ∀ hp : X.ctorIdx = 5, Expr.IfExp.elim X hp (fun c a b _ => some (c, a, b)) = some t → M X) X hp (fun _ _ _ _ hp e => by obtain rfl := Option.some.inj e; exact k _) hp
noncomputable def vSubs (X : Expr) : Option (Expr × Expr) := dite (X.ctorIdx = 21) (fun hp => Expr.Subscript.elim X hp fun a b _ => some (a, b)) fun _ => none
theorem vSubs_c {X : Expr} {t : Expr × Expr} {M : Expr → Prop} (h : vSubs X = some t) (k : ∀ p, M (.Subscript t.1 t.2 p)) : M X :=
  dite_c h fun hp => Expr.Subscript.elim (motive_1 := fun X => ∀ hp : X.ctorIdx = 21, Expr.Subscript.elim X hp (fun a b _ => some (a, b)) = some t → M X) X hp (fun _ _ _ hp e => by obtain rfl := Option.some.inj e; exact k _) hp
noncomputable def vSlice (X : Expr) : Option (Option Expr × Option Expr × Option Expr) := dite (X.ctorIdx = 26) (fun hp => Expr.Slice.elim X hp fun a b c _ => some (a, b, c)) fun _ => none
theorem vSlice_c {X : Expr} {t : Option Expr × Option Expr × Option Expr} {M : Expr → Prop} (h : vSlice X = some t) (k : ∀ p, M (.Slice t.1 t.2.1 t.2.2 p)) : M X :=
  dite_c h fun hp => Expr.Slice.elim (motive_1 := fun X => ∀ hp : X.ctorIdx = 26, Expr.Slice.elim X hp (fun a b c _ => some (a, b, c)) = some t → M X) X hp (fun _ _ _ _ hp e => by obtain rfl := Option.some.inj e; exact k _) hp
noncomputable def vTup (X : Expr) : Option (List Expr) := dite (X.ctorIdx = 25) (fun hp => Expr.Tuple.elim X hp fun es _ _ => some es) fun _ => none
theorem vTup_c {X : Expr} {t : List Expr} {M : Expr → Prop} (h : vTup X = some t) (k : ∀ i, ∀ p, M (.Tuple t i p)) : M X :=
  dite_c h fun hp => Expr.Tuple.elim (motive_1 := fun X => ∀ hp : X.ctorIdx = 25, Expr.Tuple.elim X hp (fun es _ _ => some es) = some t → M X) X hp (fun _ _ _ hp e => by obtain rfl := Option.some.inj e; exact k _ _) hp
noncomputable def vLst (X : Expr) : Option (List Expr) := dite (X.ctorIdx = 24) (fun hp => Expr.List.elim X hp fun es _ => some es) fun _ => none
theorem vLst_c {X : Expr} {t : List Expr} {M : Expr → Prop} (h : vLst X = some t) (k : ∀ p, M (.List t p)) : M X :=
  dite_c h fun hp => Expr.List.elim (motive_1 := fun X => ∀ hp : X.ctorIdx = 24, Expr.List.elim X hp (fun es _ => some es) = some t → M X) X hp (fun _ _ hp e => by obtain rfl := Option.some.inj e; exact k _) hp
noncomputable def vDict (X : Expr) : Option (List (Option Expr) × List Expr) := dite (X.ctorIdx = 6) (fun hp => Expr.Dict.elim X hp fun ks vs _ => some (ks, vs)) fun _ => none
theorem vDict_c {X : Expr} {t : List (Option Expr) × List Expr} {M : Expr → Prop} (h : vDict X = some t) (k : ∀ p, M (.Dict t.1 t.2 p)) : M X :=
  dite_c h fun hp => Expr.Dict.elim (motive_1 := fun X => ∀ hp : X.ctorIdx = 6, Expr.Dict.elim X hp (fun ks vs _ => some (ks, vs)) = some t → M X) X hp (fun _ _ _ hp e => by obtain rfl := Option.some.inj e; exact k _) hp
noncomputable def vCall (X : Expr) : Option (Expr × List Expr × List Keyword) := dite (X.ctorIdx = 16) (fun hp => Expr.Call.elim X hp fun f es ks _ => some (f, es, ks)) fun _ => none
theorem vCall_c {X : Expr} {t : Expr × List Expr × List Keyword} {M : Expr → Prop} (h : vCall X = some t) (k : ∀ p, M (.Call t.1 t.2.1 t.2.2 p)) : M X :=
  dite_c h fun hp => Expr.Call.elim (motive_1 := fun X => ∀ hp : X.ctorIdx = 16, Expr.Call.elim X hp (fun f es ks _ => some (f, es, ks)) = some t → M X) X hp (fun _ _ _ _ hp e => by obtain rfl := Option.some.inj e; exact k _) hp
noncomputable def vCallP (X : Expr) : Option ((Expr × List Expr × List Keyword) × Pos) := dite (X.ctorIdx = 16) (fun hp => Expr.Call.elim X hp fun f es ks p => some ((f, es, ks), p)) fun _ => none
theorem vCallP_c {X : Expr} {t : (Expr × List Expr × List Keyword) × Pos} {M : Expr → Prop} (h : vCallP X = some t) (k : M (.Call t.1.1 t.1.2.1 t.1.2.2 t.2)) : M X :=
  dite_c h fun hp => Expr.Call.elim (motive_1 := fun X => ∀ hp : X.ctorIdx = 16, Expr.Call.elim X hp (fun f es ks p => some ((f, es, ks), p)) = some t → M X) X hp (fun _ _ _ _ hp e => by obtain rfl := Option.some.inj e; exact k) hp
noncomputable def vAttr (X : Expr) : Option (Expr × PySem.Str × Pos) := dite (X.ctorIdx = 20) (fun hp => Expr.Attribute.elim X hp fun a x p => some (a, x, p)) fun _ => none
theorem vAttr_c {X : Expr} {t : Expr × PySem.Str × Pos} {M : Expr → Prop} (h : vAttr X = some t) (k : M (.Attribute t.1 t.2.1 t.2.2)) : M X :=
  dite_c h fun hp => Expr.Attribute.elim (motive_1 := fun X => ∀ hp : X.ctorIdx = 20, Expr.Attribute.elim X hp (fun a x p => some (a, x, p)) = some t → M X) X hp (fun _ _ _ hp e => by obtain rfl := Option.some.inj e; exact k) hp
noncomputable def vLC (X : Expr) : Option (Expr × List Comprehension × Scope) := dite (X.ctorIdx = 8) (fun hp => Expr.ListComp.elim X hp fun e g s _ => some (e, g, s)) fun _ => none
theorem vLC_c {X : Expr} {t : Expr × List Comprehension × Scope} {M : Expr → Prop} (h : vLC X = some t) (k : ∀ p, M (.ListComp t.1 t.2.1 t.2.2 p)) : M X :=
  dite_c h fun hp => Expr.ListComp.elim (motive_1 := fun X => ∀ hp : X.ctorIdx = 8, Expr.ListComp.elim X hp (fun e g s _ => some (e, g, s)) = some t → M X) X hp (fun _ _ _ _ hp e => by obtain rfl := Option.some.inj e; exact k _) hp
noncomputable def vDC (X : Expr) : Option (Expr × Expr × List Comprehension × Scope) := dite (X.ctorIdx = 10) (fun hp => Expr.DictComp.elim X hp fun k v g s _ => some (k, v, g, s)) fun _ => none
theorem vDC_c {X : Expr} {t : Expr × Expr × List Comprehension × Scope} {M : Expr → Prop} (h : vDC X = some t) (k : ∀ p, M (.DictComp t.1 t.2.1 t.2.2.1 t.2.2.2 p)) : M X :=
  dite_c h fun hp => Expr.DictComp.elim (motive_1 := fun X => ∀ hp : X.ctorIdx = 10, Expr.DictComp.elim X hp (fun k v g s _ => some (k, v, g, s)) = some t → M X) X hp (fun _ _ _ _ _ hp e => by obtain rfl := Option.some.inj e; exact k _) hp
noncomputable def vRet (X : Stmt) : Option (Option Expr) := dite (X.ctorIdx = 3) (fun hp => Stmt.Return.elim X hp fun e _ => some e) fun _ => none
theorem vRet_c {X : Stmt} {t : Option Expr} {M : Stmt → Prop} (h : vRet X = some t) (k : ∀ p, M (.Return t p)) : M X :=
  dite_c h fun hp => Stmt.Return.elim (motive_2 := fun X => ∀ hp : X.ctorIdx = 3, Stmt.Return.elim X hp (fun e _ => some e) = some t → M X) X hp (fun _ _ hp e => by obtain rfl := Option.some.inj e; exact k _) hp
noncomputable def vAsg (X : Stmt) : Option (List Expr × Expr) := dite (X.ctorIdx = 5) (fun hp => Stmt.Assign.elim X hp fun a e _ => some (a, e)) fun _ => none
theorem vAsg_c {X : Stmt} {t : List Expr × Expr} {M : Stmt → Prop} (h : vAsg X = some t) (k : ∀ p, M (.Assign t.1 t.2 p)) : M X :=
  dite_c h fun hp => Stmt.Assign.elim (motive_2 := fun X => ∀ hp : X.ctorIdx = 5, Stmt.Assign.elim X hp (fun a e _ => some (a, e)) = some t → M X) X hp (fun _ _ _ hp e => by obtain rfl := Option.some.inj e; exact k _) hp
noncomputable def vAug (X : Stmt) : Option (Expr × Operator × Expr) := dite (X.ctorIdx = 7) (fun hp => Stmt.AugAssign.elim X hp fun a o e _ => some (a, o, e)) fun _ => none
theorem vAug_c {X : Stmt} {t : Expr × Operator × Expr} {M : Stmt → Prop} (h : vAug X = some t) (k : ∀ p, M (.AugAssign t.1 t.2.1 t.2.2 p)) : M X :=
  dite_c h fun hp => Stmt.AugAssign.elim (motive_2 := fun X => ∀ hp : X.ctorIdx = 7, Stmt.AugAssign.elim X hp (fun a o e _ => some (a, o, e)) = some t → M X) X hp (fun _ _ _ _ hp e => by obtain rfl := Option.some.inj e; exact k _) hp
noncomputable def vFor (X : Stmt) : Option (Expr × Expr × List Stmt × List Stmt) := dite (X.ctorIdx = 9) (fun hp => Stmt.For.elim X hp fun a i b e _ => some (a, i, b, e)) fun _ => none
theorem vFor_c {X : Stmt} {t : Expr × Expr × List Stmt × List Stmt} {M : Stmt → Prop} (h : vFor X = some t) (k : ∀ p, M (.For t.1 t.2.1 t.2.2.1 t.2.2.2 p)) : M X :=
  dite_c h fun hp => Stmt.For.elim (motive_2 := fun X => ∀ hp : X.ctorIdx = 9, Stmt.For.elim X hp (fun a i b e _ => some (a, i, b, e)) = some t → M X) X hp (fun _ _ _ _ _ hp e => by obtain rfl := Option.some.inj e; exact k _) hp
noncomputable def vWhl (X : Stmt) : Option (Expr × List Stmt × List Stmt) := dite (X.ctorIdx = 11) (fun hp => Stmt.While.elim X hp fun c b e _ => some (c, b, e)) fun _ => none
theorem vWhl_c {X : Stmt} {t : Expr × List Stmt × List Stmt} {M : Stmt → Prop} (h : vWhl X = some t) (k : ∀ p, M (.While t.1 t.2.1 t.2.2 p)) : M X :=
  dite_c h fun hp => Stmt.While.elim (motive_2 := fun X => ∀ hp : X.ctorIdx = 11, Stmt.While.elim X hp (fun c b e _ => some (c, b, e)) = some t → M X) X hp (fun _ _ _ _ hp e => by obtain rfl := Option.some.inj e; exact k _) hp
noncomputable def vIff (X : Stmt) : Option (Expr × List Stmt × List Stmt) := dite (X.ctorIdx = 12) (fun hp => Stmt.If.elim X hp fun c b e _ => some (c, b, e)) fun _ => none
theorem vIff_c {X : Stmt} {t : Expr × List Stmt × List Stmt} {M : Stmt → Prop} (h : vIff X = some t) (k : ∀ p, M (.If t.1 t.2.1 t.2.2 p)) : M X :=
  dite_c h fun hp => Stmt.If.elim (motive_2 := fun X => ∀ hp : X.ctorIdx = 12, Stmt.If.elim X hp (fun c b e _ => some (c, b, e)) = some t → M X) X hp (fun _ _ _ _ hp e => by obtain rfl := Option.some.inj e; exact k _) hp
noncomputable def vCont (X : Stmt) : Option (Unit) := dite (X.ctorIdx = 27) (fun hp => Stmt.Continue.elim X hp fun _ => some ()) fun _ => none
theorem vCont_c {X : Stmt} {t : Unit} {M : Stmt → Prop} (h : vCont X = some t) (k : ∀ p, M (.Continue p)) : M X :=
  dite_c h fun hp => Stmt.Continue.elim (motive_2 := fun X => ∀ hp : X.ctorIdx = 27, Stmt.Continue.elim X hp (fun _ => some ()) = some t → M X) X hp (fun _ hp e => by obtain rfl := Option.some.inj e; exact k _) hp
noncomputable def vExp (X : Stmt) : Option (Expr) := dite (X.ctorIdx = 24) (fun hp => Stmt.Expr.elim X hp fun e _ => some e) fun _ => none
theorem vExp_c {X : Stmt} {t : Expr} {M : Stmt → Prop} (h : vExp X = some t) (k : ∀ p, M (.Expr t p)) : M X :=
  dite_c h fun hp => Stmt.Expr.elim (motive_2 := fun X => ∀ hp : X.ctorIdx = 24, Stmt.Expr.elim X hp (fun e _ => some e) = some t → M X) X hp (fun _ _ hp e => by obtain rfl := Option.some.inj e; exact k _) hp
noncomputable def cInt : Const → Option Int
  | .int i => some i
  | _ => none
noncomputable def cBoo : Const → Option Bool
  | .bool i => some i
  | _ => none
noncomputable def cNon : Const → Bool
  | .none => true
  | _ => false
noncomputable def cStr : Const → Bool
  | .str _ => true
  | _ => false
theorem cInt_eq {c : Const} {i : Int} (h : cInt c = some i) : c = .int i := by cases c <;> cases h; rfl
theorem cBoo_eq {c : Const} {i : Bool} (h : cBoo c = some i) : c = .bool i := by cases c <;> cases h; rfl
theorem cNon_eq {c : Const} (h : cNon c = true) : c = .none := by cases c <;> cases h; rfl
theorem cStr_eq {c : Const} (h : cStr c = true) : ∃ x, c = .str x := by cases c <;> cases h; exact ⟨_, rfl⟩
noncomputable def clause (g : List Comprehension) : Option (Expr × Expr × List Expr) := match g with
  | [] => none
  | c :: r => match r with
    | [] => bif c.is_async == 0 then some (c.target, c.iter, c.ifs) else none
    | _ :: _ => none
theorem clause_eq {g : List Comprehension} {t : Expr × Expr × List Expr} (h : clause g = some t) : g = [⟨t.1, t.2.1, t.2.2, 0⟩] := by
  cases g with
  | nil => cases h
  | cons c r => cases r with
    | cons => cases h
    | nil =>
      obtain ⟨a, b, d, e⟩ := c
      cases he : e == 0 with
      | false => simp only [clause, he, cond_false] at h; cases h
      | true => simp only [clause, he, cond_true] at h; cases h; rw [beq_iff_eq.mp he]
noncomputable def oneC (l : List CmpOp) : Option CmpOp := match l with
  | [] => none
  | A :: r => match r with
    | [] => some A
    | _ :: _ => none
theorem oneC_eq {l : List CmpOp} {A : CmpOp} (h : oneC l = some A) : l = [A] := by
  cases l with
  | nil => cases h
  | cons B r => cases r with
    | nil => cases h; rfl
    | cons => cases h
noncomputable def isName (x : PySem.Str) (X : Expr) : Bool := (vName X).any fun n => n == x
theorem isName_c {x : PySem.Str} {X : Expr} {M : Expr → Prop} (h : isName x X = true) (k : ∀ p, M (.Name x p)) : M X :=
  any_c h fun n h1 h2 => vName_c h1 fun p => by rw [beq_iff_eq.mp h2]; exact k p
/-- a call of a name, without keywords -/
noncomputable def isCall (x : PySem.Str) (X : Expr) : Option (List Expr) := (vCall X).bind fun t => bif isName x t.1 && t.2.2.isEmpty then some t.2.1 else none
theorem isCall_c {x : PySem.Str} {X : Expr} {ES : List Expr} {M : Expr → Prop} (h : isCall x X = some ES) (k : ∀ q p, M (.Call (.Name x q) ES [] p)) : M X := by
  cases hv : vCall X with
  | none => unfold isCall at h; rw [hv] at h; cases h
  | some t =>
    obtain ⟨F, es, ks⟩ := t
    unfold isCall at h
    rw [hv] at h
    cases hb : isName x F && ks.isEmpty with
    | false => simp only [Option.bind_some, hb, cond_false] at h; cases h
    | true =>
      simp only [Option.bind_some, hb, cond_true] at h
      cases h
      refine and_c hb fun h1 h2 => vCall_c hv fun p => ?_
      rw [List.isEmpty_iff.mp h2]
      exact isName_c (M := fun F => M (.Call F ES [] p)) h1 fun q => k q p

noncomputable def unc (l : List Expr) : Option (Expr × List Expr) := match l with
  | [] => none
  | A :: r => some (A, r)
theorem unc_eq {l : List Expr} {t : Expr × List Expr} (h : unc l = some t) : l = t.1 :: t.2 := by
  cases l with
  | nil => cases h
  | cons => cases h; rfl
noncomputable def uncS (l : List Stmt) : Option (Stmt × List Stmt) := match l with
  | [] => none
  | A :: r => some (A, r)
theorem uncS_eq {l : List Stmt} {t : Stmt × List Stmt} (h : uncS l = some t) : l = t.1 :: t.2 := by
  cases l with
  | nil => cases h
  | cons => cases h; rfl
noncomputable def oneO (l : List (Option Expr)) : Option Expr := match l with
  | [] => none
  | A :: r => match r with
    | [] => A
    | _ :: _ => none
theorem oneO_eq {l : List (Option Expr)} {A : Expr} (h : oneO l = some A) : l = [some A] := by
  cases l with
  | nil => cases h
  | cons B r => cases r with
    | nil => rw [show B = some A from h]
    | cons => cases h
/-! ## the look -/
noncomputable def chkT (ts : List Nat) (T : Expr) : Bool := match ts with
  | [] => false
  | x :: r => match r with
    | [] => isName (nm x) T
    | y :: r' => r'.isEmpty && (x != y && (vTup T).any fun ES => (two ES).any fun t => isName (nm x) t.1 && isName (nm y) t.2)
inductive TrT : List Nat → Expr → Prop
  | one {x : Nat} {p : Pos} : TrT [x] (.Name (nm x) p)
  | two {x y k : Nat} {p q r : Pos} : x ≠ y → TrT [x, y] (.Tuple [.Name (nm x) p, .Name (nm y) q] k r)
theorem chkT_ok {ts : List Nat} {T : Expr} (h : chkT ts T = true) : TrT ts T := by
  cases ts with
  | nil => cases h
  | cons x r => cases r with
    | nil => exact isName_c (M := fun T => TrT [x] T) h fun p => .one
    | cons y r =>
      refine and_c h fun h1 h2 => and_c h2 fun h3 h4 => any_c h4 fun ES h5 h6 => any_c h6 fun t h7 h8 => and_c h8 fun ha hb => vTup_c h5 fun i p => ?_
      rw [two_eq h7, List.isEmpty_iff.mp h1]
      exact isName_c (M := fun A => TrT [x, y] (.Tuple [A, t.2] i p)) ha fun q => isName_c (M := fun B => TrT [x, y] (.Tuple [.Name (nm x) q, B] i p)) hb fun q' => .two (by simpa using h3)

mutual
noncomputable def chkE : Scope → Ex → Expr → Bool
  | _, .int i, X => (vCon X).any fun c => (cInt c).any fun j => i == j
  | _, .boo b, X => (vCon X).any fun c => (cBoo c).any fun j => b == j
  | _, .non, X => (vCon X).any cNon
  | _, .str, X => (vCon X).any cStr
  | _, .var x, X => isName (nm x) X && plainNm (nm x)
  | sc, .glo g, X => isName (gnm g) X && glb sc (gnm g)
  | sc, .bin op a b, X => (vBin X).any fun t => t.2.1 == opOf op && (chkE sc a t.1 && chkE sc b t.2.2)
  | sc, .neg a, X => (vUn X).any fun t => t.1 == .USub && chkE sc a t.2
  | sc, .lnot a, X => (vUn X).any fun t => t.1 == .Not && chkE sc a t.2
  | sc, .cmp op a b, X => (vCmp X).any fun t => (oneC t.2.1).any (fun o => o == copOf op) && (chkE sc a t.1 && (one t.2.2).any fun B => chkE sc b B)
  | sc, .isNon a, X => (vCmp X).any fun t => (oneC t.2.1).any (fun o => o == .Is) && (chkE sc a t.1 && (one t.2.2).any fun B => (vCon B).any cNon)
  | sc, .and a b, X => (vBool X).any fun t => t.1 == .And && (two t.2).any fun u => chkE sc a u.1 && chkE sc b u.2
  | sc, .or a b, X => (vBool X).any fun t => t.1 == .Or && (two t.2).any fun u => chkE sc a u.1 && chkE sc b u.2
  | sc, .ite c a b, X => (vIf X).any fun t => chkE sc c t.1 && (chkE sc a t.2.1 && chkE sc b t.2.2)
  | sc, .sub a i, X => (vSubs X).any fun t => chkE sc a t.1 && chkE sc i t.2
  | sc, .slTo a i, X => (vSubs X).any fun t => chkE sc a t.1 && (vSlice t.2).any fun u => u.1.isNone && (u.2.2.isNone && u.2.1.any fun B => chkE sc i B)
  | sc, .slFrom a i, X => (vSubs X).any fun t => chkE sc a t.1 && (vSlice t.2).any fun u => u.2.1.isNone && (u.2.2.isNone && u.1.any fun B => chkE sc i B)
  | sc, .tup es, X => (vTup X).any fun ES => Nat.ble es.length 1000 && chkEs sc es ES
  | sc, .lst es, X => (vLst X).any fun ES => Nat.ble es.length 1000 && chkEs sc es ES
  | _, .dict0, X => (vDict X).any fun t => t.1.isEmpty && t.2.isEmpty
  | sc, .dict1 k v, X => (vDict X).any fun t => (oneO t.1).any fun K => chkE sc k K && (one t.2).any fun W => chkE sc v W
  | sc, .call f es, X => (vCall X).any fun t => t.2.2.isEmpty && ((tbl f).any fun F => glb sc (nm F.name) && (isName (nm F.name) t.1 && chkEs sc es t.2.1))
  | sc, .bi b es, X => (vCall X).any fun t => t.2.2.isEmpty && (glb sc (biNm b) && (isName (biNm b) t.1 && chkEs sc es t.2.1))
  | sc, .comp e ts it none fr, X => (vLC X).any fun t => (clause t.2.1).any fun u => chkE t.2.2 e t.1 && (chkT ts u.1 && (chkI sc it u.2.1 && (inner sc t.2.2 ts fr && u.2.2.isEmpty)))
  | sc, .comp e ts it (some c) fr, X => (vLC X).any fun t => (clause t.2.1).any fun u => chkE t.2.2 e t.1 && (chkT ts u.1 && (chkI sc it u.2.1 && (inner sc t.2.2 ts fr && (one u.2.2).any fun C => chkE t.2.2 c C)))
  | sc, .dcomp k v x src fr, X => (vDC X).any fun t => (clause t.2.2.1).any fun u => chkE t.2.2.2 k t.1 && (chkE t.2.2.2 v t.2.1 && (isName (nm x) u.1 && (chkE sc src u.2.1 && (inner sc t.2.2.2 [x] fr && u.2.2.isEmpty))))
noncomputable def chkEs : Scope → List Ex → List Expr → Bool
  | _, [], ES => ES.isEmpty
  | sc, e :: es, ES => (unc ES).any fun t => chkE sc e t.1 && chkEs sc es t.2
noncomputable def chkI : Scope → It → Expr → Bool
  | sc, .rng a, X => glb sc "range" && (isCall "range" X).any fun ES => (one ES).any fun A => chkE sc a A
  | sc, .rng2 a b, X => glb sc "range" && (isCall "range" X).any fun ES => (two ES).any fun t => chkE sc a t.1 && chkE sc b t.2
  | sc, .enu a, X => glb sc "enumerate" && (isCall "enumerate" X).any fun ES => (one ES).any fun A => chkE sc a A
  | sc, .ovr a, X => chkE sc a X
end

abbrev TrE (sc : Scope) (e : Ex) (X : Expr) : Prop := chkE sc e X = true
abbrev TrEs (sc : Scope) (es : List Ex) (ES : List Expr) : Prop := chkEs sc es ES = true
abbrev TrI (sc : Scope) (it : It) (X : Expr) : Prop := chkI sc it X = true
section
variable {sc : Scope} {X : Expr} {M : Expr → Prop} {a b c : Ex} {es : List Ex} {ts fr : List Nat} {it : It}
theorem beq_c {α : Type} [BEq α] [LawfulBEq α] {x y : α} {M : α → Prop} (h : (x == y) = true) (k : M y) : M x := by rw [beq_iff_eq.mp h]; exact k
theorem tr_int {i : Int} (h : TrE sc (.int i) X) (k : ∀ j p, M (.Constant (.int i) j p)) : M X :=
  any_c h fun c h1 h2 => any_c h2 fun j h3 h4 => vCon_c h1 fun n p => by rw [cInt_eq h3]; rw [beq_iff_eq.mp h4] at k; exact k n p
theorem tr_boo {i : Bool} (h : TrE sc (.boo i) X) (k : ∀ j p, M (.Constant (.bool i) j p)) : M X :=
  any_c h fun c h1 h2 => any_c h2 fun j h3 h4 => vCon_c h1 fun n p => by rw [cBoo_eq h3]; rw [beq_iff_eq.mp h4] at k; exact k n p
theorem tr_non' (h : (vCon X).any cNon = true) (k : ∀ j p, M (.Constant .none j p)) : M X :=
  any_c h fun c h1 h2 => vCon_c h1 fun n p => by rw [cNon_eq h2]; exact k n p
theorem tr_non (h : TrE sc .non X) (k : ∀ j p, M (.Constant .none j p)) : M X := tr_non' h k
theorem tr_str (h : TrE sc .str X) (k : ∀ x j p, M (.Constant (.str x) j p)) : M X :=
  any_c h fun c h1 h2 => vCon_c h1 fun n p => by obtain ⟨x, e⟩ := cStr_eq h2; rw [e]; exact k x n p
theorem tr_var {x : Nat} (h : TrE sc (.var x) X) (k : ∀ p, plainNm (nm x) = true → M (.Name (nm x) p)) : M X := and_c h fun h1 h2 => isName_c h1 fun p => k p h2
theorem tr_glo {g : Nat} (h : TrE sc (.glo g) X) (k : ∀ p, glb sc (gnm g) = true → M (.Name (gnm g) p)) : M X := and_c h fun h1 h2 => isName_c h1 fun p => k p h2
theorem tr_bin {op : Bop} (h : TrE sc (.bin op a b) X) (k : ∀ A B p, TrE sc a A → TrE sc b B → M (.BinOp A (opOf op) B p)) : M X :=
  any_c h fun t h1 h2 => and_c h2 fun h3 h4 => and_c h4 fun h5 h6 => vBin_c h1 fun p => beq_c (M := fun o => M (.BinOp t.1 o t.2.2 p)) h3 (k _ _ _ h5 h6)
theorem tr_neg (h : TrE sc (.neg a) X) (k : ∀ A p, TrE sc a A → M (.UnaryOp .USub A p)) : M X :=
  any_c h fun t h1 h2 => and_c h2 fun h3 h4 => vUn_c h1 fun p => beq_c (M := fun o => M (.UnaryOp o t.2 p)) h3 (k _ _ h4)
theorem tr_lnot (h : TrE sc (.lnot a) X) (k : ∀ A p, TrE sc a A → M (.UnaryOp .Not A p)) : M X :=
  any_c h fun t h1 h2 => and_c h2 fun h3 h4 => vUn_c h1 fun p => beq_c (M := fun o => M (.UnaryOp o t.2 p)) h3 (k _ _ h4)
theorem tr_cmp {op : Cop} (h : TrE sc (.cmp op a b) X) (k : ∀ A B p, TrE sc a A → TrE sc b B → M (.Compare A [copOf op] [B] p)) : M X :=
  any_c h fun t h1 h2 => and_c h2 fun h3 h4 => and_c h4 fun h5 h6 => any_c h3 fun o h7 h8 => any_c h6 fun B h9 h10 => vCmp_c h1 fun p => by
    rw [oneC_eq h7, one_eq h9, beq_iff_eq.mp h8]; exact k _ _ _ h5 h10
theorem tr_isNon (h : TrE sc (.isNon a) X) (k : ∀ A n p q, TrE sc a A → M (.Compare A [.Is] [.Constant .none n q] p)) : M X :=
  any_c h fun t h1 h2 => and_c h2 fun h3 h4 => and_c h4 fun h5 h6 => any_c h3 fun o h7 h8 => any_c h6 fun B h9 h10 => vCmp_c h1 fun p => by
    rw [oneC_eq h7, one_eq h9, beq_iff_eq.mp h8]; exact tr_non' (M := fun B => M (.Compare t.1 [.Is] [B] p)) h10 fun n q => k _ _ _ _ h5
theorem tr_and (h : TrE sc (.and a b) X) (k : ∀ A B p, TrE sc a A → TrE sc b B → M (.BoolOp .And [A, B] p)) : M X :=
  any_c h fun t h1 h2 => and_c h2 fun h3 h4 => any_c h4 fun u h5 h6 => and_c h6 fun h7 h8 => vBool_c h1 fun p => by rw [beq_iff_eq.mp h3, two_eq h5]; exact k _ _ _ h7 h8
theorem tr_or (h : TrE sc (.or a b) X) (k : ∀ A B p, TrE sc a A → TrE sc b B → M (.BoolOp .Or [A, B] p)) : M X :=
  any_c h fun t h1 h2 => and_c h2 fun h3 h4 => any_c h4 fun u h5 h6 => and_c h6 fun h7 h8 => vBool_c h1 fun p => by rw [beq_iff_eq.mp h3, two_eq h5]; exact k _ _ _ h7 h8
theorem tr_ite (h : TrE sc (.ite c a b) X) (k : ∀ C A B p, TrE sc c C → TrE sc a A → TrE sc b B → M (.IfExp C A B p)) : M X :=
  any_c h fun t h1 h2 => and_c h2 fun h3 h4 => and_c h4 fun h5 h6 => vIf_c h1 fun p => k _ _ _ _ h3 h5 h6
theorem tr_sub (h : TrE sc (.sub a b) X) (k : ∀ A B p, TrE sc a A → TrE sc b B → M (.Subscript A B p)) : M X :=
  any_c h fun t h1 h2 => and_c h2 fun h3 h4 => vSubs_c h1 fun p => k _ _ _ h3 h4
theorem tr_slTo (h : TrE sc (.slTo a b) X) (k : ∀ A B p q, TrE sc a A → TrE sc b B → M (.Subscript A (.Slice none (some B) none q) p)) : M X :=
  any_c h fun t h1 h2 => and_c h2 fun h3 h4 => any_c h4 fun u h5 h6 => and_c h6 fun h7 h8 => and_c h8 fun h9 h10 => any_c h10 fun B h11 h12 => vSubs_c h1 fun p => vSlice_c (M := fun S => M (.Subscript t.1 S p)) h5 fun q => by
    rw [Option.isNone_iff_eq_none.mp h7, Option.isNone_iff_eq_none.mp h9, h11]; exact k _ _ _ _ h3 h12
theorem tr_slFrom (h : TrE sc (.slFrom a b) X) (k : ∀ A B p q, TrE sc a A → TrE sc b B → M (.Subscript A (.Slice (some B) none none q) p)) : M X :=
  any_c h fun t h1 h2 => and_c h2 fun h3 h4 => any_c h4 fun u h5 h6 => and_c h6 fun h7 h8 => and_c h8 fun h9 h10 => any_c h10 fun B h11 h12 => vSubs_c h1 fun p => vSlice_c (M := fun S => M (.Subscript t.1 S p)) h5 fun q => by
    rw [Option.isNone_iff_eq_none.mp h7, Option.isNone_iff_eq_none.mp h9, h11]; exact k _ _ _ _ h3 h12
theorem tr_tup (h : TrE sc (.tup es) X) (k : ∀ ES n p, es.length ≤ 1000 → TrEs sc es ES → M (.Tuple ES n p)) : M X :=
  any_c h fun t h1 h2 => and_c h2 fun h3 h4 => vTup_c h1 fun n p => k _ _ _ (Nat.le_of_ble_eq_true h3) h4
theorem tr_lst (h : TrE sc (.lst es) X) (k : ∀ ES p, es.length ≤ 1000 → TrEs sc es ES → M (.List ES p)) : M X :=
  any_c h fun t h1 h2 => and_c h2 fun h3 h4 => vLst_c h1 fun p => k _ _ (Nat.le_of_ble_eq_true h3) h4
theorem tr_dict0 (h : TrE sc .dict0 X) (k : ∀ p, M (.Dict [] [] p)) : M X :=
  any_c h fun t h1 h2 => and_c h2 fun h3 h4 => vDict_c h1 fun p => by rw [List.isEmpty_iff.mp h3, List.isEmpty_iff.mp h4]; exact k p
theorem tr_dict1 (h : TrE sc (.dict1 a b) X) (k : ∀ K W p, TrE sc a K → TrE sc b W → M (.Dict [some K] [W] p)) : M X :=
  any_c h fun t h1 h2 => any_c h2 fun K h3 h4 => and_c h4 fun h5 h6 => any_c h6 fun W h7 h8 => vDict_c h1 fun p => by rw [oneO_eq h3, one_eq h7]; exact k _ _ _ h5 h8
theorem tr_call {f : Nat} (h : TrE sc (.call f es) X) (k : ∀ F ES p q, tbl f = some F → glb sc (nm F.name) = true → TrEs sc es ES → M (.Call (.Name (nm F.name) q) ES [] p)) : M X :=
  any_c h fun t h1 h2 => and_c h2 fun h3 h4 => any_c h4 fun F h5 h6 => and_c h6 fun h7 h8 => and_c h8 fun h9 h10 => vCall_c h1 fun p => by
    rw [List.isEmpty_iff.mp h3]; exact isName_c (M := fun N => M (.Call N t.2.1 [] p)) h9 fun q => k _ _ _ _ h5 h7 h10
theorem tr_bi {f : Bi} (h : TrE sc (.bi f es) X) (k : ∀ ES p q, glb sc (biNm f) = true → TrEs sc es ES → M (.Call (.Name (biNm f) q) ES [] p)) : M X :=
  any_c h fun t h1 h2 => and_c h2 fun h3 h4 => and_c h4 fun h5 h6 => and_c h6 fun h7 h8 => vCall_c h1 fun p => by
    rw [List.isEmpty_iff.mp h3]; exact isName_c (M := fun N => M (.Call N t.2.1 [] p)) h7 fun q => k _ _ _ h5 h8
/-- the conditions of a clause: none, or one -/
def TrC (sc : Scope) (c : Option Ex) (ifs : List Expr) : Prop := match c with
  | none => ifs = []
  | some c => ∃ C, ifs = [C] ∧ TrE sc c C
theorem tr_comp {c : Option Ex} (h : TrE sc (.comp a ts it c fr) X) (k : ∀ E T I ifs sc' p, TrE sc' a E → TrC sc' c ifs → TrT ts T → TrI sc it I → inner sc sc' ts fr = true → M (.ListComp E [⟨T, I, ifs, 0⟩] sc' p)) : M X := by
  cases c with
  | none =>
    exact any_c h fun t h1 h2 => any_c h2 fun u h3 h4 => and_c h4 fun h5 h6 => and_c h6 fun h7 h8 => and_c h8 fun h9 h10 => and_c h10 fun h11 h12 => vLC_c h1 fun p => by
      rw [clause_eq h3]; exact k _ _ _ _ _ _ h5 (List.isEmpty_iff.mp h12) (chkT_ok h7) h9 h11
  | some c =>
    exact any_c h fun t h1 h2 => any_c h2 fun u h3 h4 => and_c h4 fun h5 h6 => and_c h6 fun h7 h8 => and_c h8 fun h9 h10 => and_c h10 fun h11 h12 => any_c h12 fun C h13 h14 => vLC_c h1 fun p => by
      rw [clause_eq h3]; exact k _ _ _ _ _ _ h5 ⟨C, one_eq h13, h14⟩ (chkT_ok h7) h9 h11
theorem tr_dcomp {x : Nat} (h : TrE sc (.dcomp a b x c fr) X) (k : ∀ K W I sc' p q, TrE sc' a K → TrE sc' b W → TrI sc (.ovr c) I → inner sc sc' [x] fr = true → M (.DictComp K W [⟨.Name (nm x) q, I, [], 0⟩] sc' p)) : M X :=
  any_c h fun t h1 h2 => any_c h2 fun u h3 h4 => and_c h4 fun h5 h6 => and_c h6 fun h7 h8 => and_c h8 fun h9 h10 => and_c h10 fun h11 h12 => and_c h12 fun h13 h14 => vDC_c h1 fun p => by
    rw [clause_eq h3, List.isEmpty_iff.mp h14]; exact isName_c (M := fun T => M (.DictComp t.1 t.2.1 [⟨T, u.2.1, [], 0⟩] t.2.2.2 p)) h9 fun q => k _ _ _ _ _ _ h5 h7 h11 h13
theorem trs_nil {ES : List Expr} (h : TrEs sc [] ES) : ES = [] := List.isEmpty_iff.mp h
theorem trs_cons {ES : List Expr} {M : List Expr → Prop} (h : TrEs sc (a :: es) ES) (k : ∀ A AS, TrE sc a A → TrEs sc es AS → M (A :: AS)) : M ES :=
  any_c h fun t h1 h2 => and_c h2 fun h3 h4 => by rw [unc_eq h1]; exact k _ _ h3 h4
theorem tri_rng (h : TrI sc (.rng a) X) (k : ∀ A p q, glb sc "range" = true → TrE sc a A → M (.Call (.Name "range" q) [A] [] p)) : M X :=
  and_c h fun h1 h2 => any_c h2 fun ES h3 h4 => any_c h4 fun A h5 h6 => isCall_c h3 fun q p => by rw [one_eq h5]; exact k _ _ _ h1 h6
theorem tri_rng2 (h : TrI sc (.rng2 a b) X) (k : ∀ A B p q, glb sc "range" = true → TrE sc a A → TrE sc b B → M (.Call (.Name "range" q) [A, B] [] p)) : M X :=
  and_c h fun h1 h2 => any_c h2 fun ES h3 h4 => any_c h4 fun t h5 h6 => and_c h6 fun h7 h8 => isCall_c h3 fun q p => by rw [two_eq h5]; exact k _ _ _ _ h1 h7 h8
theorem tri_enu (h : TrI sc (.enu a) X) (k : ∀ A p q, glb sc "enumerate" = true → TrE sc a A → M (.Call (.Name "enumerate" q) [A] [] p)) : M X :=
  and_c h fun h1 h2 => any_c h2 fun ES h3 h4 => any_c h4 fun A h5 h6 => isCall_c h3 fun q p => by rw [one_eq h5]; exact k _ _ _ h1 h6
end

/-- a name that the frame itself stores -/
noncomputable def own (sc : Scope) (x : Nat) : Bool := (sc.names.lookup (nm x) == some .local || sc.names.lookup (nm x) == some .cell) && plainNm (nm x)
/-- no tuple of constants alone -/
noncomputable def asgOk (X : Expr) : Bool := match vTup X with
  | some vs => !(vs.all (constantsAlone 8))
  | none => true
noncomputable def isComp : Expr → Bool
  | .ListComp .. => true
  | .SetComp .. => true
  | .DictComp .. => true
  | _ => false
inductive TrNs (sc : Scope) : List Nat → List Expr → Prop
  | nil : TrNs sc [] []
  | cons {x : Nat} {p : Pos} {xs : List Nat} {ES : List Expr} : own sc x = true → x ∉ xs → TrNs sc xs ES → TrNs sc (x :: xs) (.Name (nm x) p :: ES)
noncomputable def chkNs (sc : Scope) : List Nat → List Expr → Bool
  | [], ES => ES.isEmpty
  | x :: xs, ES => (unc ES).any fun t => isName (nm x) t.1 && (own sc x && (!xs.contains x && chkNs sc xs t.2))
theorem chkNs_ok {sc : Scope} : ∀ {xs : List Nat} {ES : List Expr}, chkNs sc xs ES = true → TrNs sc xs ES
  | [], ES, h => by rw [List.isEmpty_iff.mp h]; exact .nil
  | x :: xs, ES, h => any_c h fun t h1 h2 => and_c h2 fun h3 h4 => and_c h4 fun h5 h6 => and_c h6 fun h7 h8 => by
    rw [unc_eq h1]; exact isName_c (M := fun A => TrNs sc (x :: xs) (A :: t.2)) h3 fun p => .cons h5 (by simpa using h7) (chkNs_ok h8)
noncomputable def isMeth (x a : PySem.Str) (X : Expr) : Option (List Expr) := (vCallP X).bind fun t => bif t.1.2.2.isEmpty && (vAttr t.1.1).any fun u => isName x u.1 && (u.2.1 == a && u.2.2.endLine == t.2.line) then some t.1.2.1 else none
theorem isMeth_c {x a : PySem.Str} {X : Expr} {ES : List Expr} {M : Expr → Prop} (h : isMeth x a X = some ES) (k : ∀ q r t, (r.endLine == t.line) = true → M (.Call (.Attribute (.Name x q) a r) ES [] t)) : M X := by
  cases hv : vCallP X with
  | none => unfold isMeth at h; rw [hv] at h; cases h
  | some t =>
    obtain ⟨⟨F, es, ks⟩, t⟩ := t
    unfold isMeth at h
    rw [hv] at h
    cases hb : ks.isEmpty && (vAttr F).any fun u => isName x u.1 && (u.2.1 == a && u.2.2.endLine == t.line) with
    | false => simp only [Option.bind_some, hb, cond_false] at h; cases h
    | true =>
      simp only [Option.bind_some, hb, cond_true] at h
      cases h
      refine and_c hb fun h1 h2 => any_c h2 fun u h3 h4 => and_c h4 fun h5 h6 => and_c h6 fun h7 h8 => vCallP_c hv ?_
      rw [List.isEmpty_iff.mp h1]
      refine vAttr_c (M := fun F => M (.Call F ES [] t)) h3 ?_
      rw [beq_iff_eq.mp h7]
      exact isName_c (M := fun N => M (.Call (.Attribute N a u.2.2) ES [] t)) h5 fun q => k q _ _ h8
noncomputable def tgt (S : Stmt) : Option (Expr × Expr) := (vAsg S).bind fun t => (one t.1).map fun T => (T, t.2)
theorem tgt_c {S : Stmt} {t : Expr × Expr} {M : Stmt → Prop} (h : tgt S = some t) (k : ∀ p, M (.Assign [t.1] t.2 p)) : M S := by
  cases hv : vAsg S with
  | none => unfold tgt at h; rw [hv] at h; cases h
  | some u =>
    unfold tgt at h
    rw [hv, Option.bind_some] at h
    cases ho : one u.1 with
    | none => rw [ho] at h; cases h
    | some T =>
      rw [ho] at h
      cases h
      refine vAsg_c hv fun p => ?_
      rw [one_eq ho]; exact k p

mutual
noncomputable def chkS (sc : Scope) : Sm → Stmt → Bool
  | .ret e, S => (vRet S).any fun o => o.any fun E => chkE sc e E
  | .asg x e, S => (tgt S).any fun t => isName (nm x) t.1 && (own sc x && chkE sc e t.2)
  | .asgT xs e, S => (tgt S).any fun t => (vTup t.1).any (fun ES => chkNs sc xs ES) && (asgOk t.2 && chkE sc e t.2)
  | .setI a i e, S => (tgt S).any fun t => (vSubs t.1).any (fun u => chkE sc a u.1 && chkE sc i u.2) && chkE sc e t.2
  | .set2 a i b j e, S => (tgt S).any fun t => (vTup t.1).any (fun ES => (two ES).any fun v => (vSubs v.1).any (fun u => chkE sc a u.1 && chkE sc i u.2) && (vSubs v.2).any fun u => chkE sc b u.1 && chkE sc j u.2) && (chkE sc e t.2 && !isComp t.2)
  | .aug x op e, S => (vAug S).any fun t => isName (nm x) t.1 && (t.2.1 == opOf op && (own sc x && chkE sc e t.2.2))
  | .augI a i op e, S => (vAug S).any fun t => (vSubs t.1).any (fun u => chkE sc a u.1 && chkE sc i u.2) && (t.2.1 == opOf op && chkE sc e t.2.2)
  | .for_ ts it body, S => (vFor S).any fun t => ts.all (own sc) && (chkT ts t.1 && (chkI sc it t.2.1 && (chkSs sc body t.2.2.1 && t.2.2.2.isEmpty)))
  | .whl c body, S => (vWhl S).any fun t => chkE sc c t.1 && (chkSs sc body t.2.1 && t.2.2.isEmpty)
  | .iff c a b, S => (vIff S).any fun t => chkE sc c t.1 && (chkSs sc a t.2.1 && chkSs sc b t.2.2)
  | .cont, S => (vCont S).isSome
  | .exp e, S => (vExp S).any fun E => (vCall E).isSome && chkE sc e E
  | .app a e, S => (vExp S).any fun E => plainNm (nm a) && (isMeth (nm a) "append" E).any fun ES => (one ES).any fun A => chkE sc e A
  | .popN a e, S => (vExp S).any fun E => plainNm (nm a) && (isMeth (nm a) "pop" E).any fun ES => (two ES).any fun t => chkE sc e t.1 && (vCon t.2).any cNon
  | .bad, _ => true
noncomputable def chkSs (sc : Scope) : List Sm → List Stmt → Bool
  | [], SS => SS.isEmpty
  | s :: ss, SS => (uncS SS).any fun t => chkS sc s t.1 && chkSs sc ss t.2
end
abbrev TrS (sc : Scope) (s : Sm) (S : Stmt) : Prop := chkS sc s S = true
abbrev TrSs (sc : Scope) (ss : List Sm) (SS : List Stmt) : Prop := chkSs sc ss SS = true
section
variable {sc : Scope} {S : Stmt} {M : Stmt → Prop} {a b c i j e : Ex} {x : Nat} {xs : List Nat} {op : Bop} {it : It} {ss tt : List Sm}
theorem ts_ret (h : TrS sc (.ret e) S) (k : ∀ E p, TrE sc e E → M (.Return (some E) p)) : M S :=
  any_c h fun o h1 h2 => any_c h2 fun E h3 h4 => vRet_c h1 fun p => by rw [h3]; exact k _ _ h4
theorem ts_asg (h : TrS sc (.asg x e) S) (k : ∀ E p q, own sc x = true → TrE sc e E → M (.Assign [.Name (nm x) q] E p)) : M S :=
  any_c h fun t h1 h2 => and_c h2 fun h3 h4 => and_c h4 fun h5 h6 => tgt_c h1 fun p => isName_c (M := fun T => M (.Assign [T] t.2 p)) h3 fun q => k _ _ _ h5 h6
theorem ts_asgT (h : TrS sc (.asgT xs e) S) (k : ∀ E ES n p q, asgOk E = true → TrNs sc xs ES → TrE sc e E → M (.Assign [.Tuple ES n q] E p)) : M S :=
  any_c h fun t h1 h2 => and_c h2 fun h3 h4 => and_c h4 fun h5 h6 => any_c h3 fun ES h7 h8 => tgt_c h1 fun p => vTup_c (M := fun T => M (.Assign [T] t.2 p)) h7 fun n q => k _ _ _ _ _ h5 (chkNs_ok h8) h6
theorem ts_setI (h : TrS sc (.setI a i e) S) (k : ∀ A I E p q, TrE sc e E → TrE sc a A → TrE sc i I → M (.Assign [.Subscript A I q] E p)) : M S :=
  any_c h fun t h1 h2 => and_c h2 fun h3 h4 => any_c h3 fun u h5 h6 => and_c h6 fun h7 h8 => tgt_c h1 fun p => vSubs_c (M := fun T => M (.Assign [T] t.2 p)) h5 fun q => k _ _ _ _ _ h4 h7 h8
theorem ts_set2 (h : TrS sc (.set2 a i b j e) S) (k : ∀ A I B J E n p q r t, TrE sc e E → TrE sc a A → TrE sc i I → TrE sc b B → TrE sc j J → isComp E = false → M (.Assign [.Tuple [.Subscript A I q, .Subscript B J r] n t] E p)) : M S :=
  any_c h fun t h1 h2 => and_c h2 fun h3 h4 => any_c h3 fun ES h5 h6 => any_c h6 fun v h7 h8 => and_c h8 fun h9 h10 => any_c h9 fun u h11 h12 => any_c h10 fun u' h13 h14 => and_c h12 fun ha hi => and_c h14 fun hb hj => and_c h4 fun he hc =>
    tgt_c h1 fun p => vTup_c (M := fun T => M (.Assign [T] t.2 p)) h5 fun n q => by
      rw [two_eq h7]
      exact vSubs_c (M := fun T => M (.Assign [.Tuple [T, v.2] n q] t.2 p)) h11 fun r => vSubs_c (M := fun T => M (.Assign [.Tuple [.Subscript u.1 u.2 r, T] n q] t.2 p)) h13 fun r' => k _ _ _ _ _ _ _ _ _ _ he ha hi hb hj (by simpa using hc)
theorem ts_aug (h : TrS sc (.aug x op e) S) (k : ∀ E p q, own sc x = true → TrE sc e E → M (.AugAssign (.Name (nm x) q) (opOf op) E p)) : M S :=
  any_c h fun t h1 h2 => and_c h2 fun h3 h4 => and_c h4 fun h5 h6 => and_c h6 fun h7 h8 => vAug_c h1 fun p => isName_c (M := fun T => M (.AugAssign T t.2.1 t.2.2 p)) h3 fun q => beq_c (M := fun o => M (.AugAssign (.Name (nm x) q) o t.2.2 p)) h5 (k _ _ _ h7 h8)
theorem ts_augI (h : TrS sc (.augI a i op e) S) (k : ∀ A I E p q, TrE sc a A → TrE sc i I → TrE sc e E → M (.AugAssign (.Subscript A I q) (opOf op) E p)) : M S :=
  any_c h fun t h1 h2 => and_c h2 fun h3 h4 => and_c h4 fun h5 h6 => any_c h3 fun u h7 h8 => and_c h8 fun h9 h10 => vAug_c h1 fun p => vSubs_c (M := fun T => M (.AugAssign T t.2.1 t.2.2 p)) h7 fun q => beq_c (M := fun o => M (.AugAssign (.Subscript u.1 u.2 q) o t.2.2 p)) h5 (k _ _ _ _ _ h9 h10 h6)
theorem ts_for (h : TrS sc (.for_ xs it ss) S) (k : ∀ T I BS p, xs.all (own sc) = true → TrT xs T → TrI sc it I → TrSs sc ss BS → M (.For T I BS [] p)) : M S :=
  any_c h fun t h1 h2 => and_c h2 fun h3 h4 => and_c h4 fun h5 h6 => and_c h6 fun h7 h8 => and_c h8 fun h9 h10 => vFor_c h1 fun p => by rw [List.isEmpty_iff.mp h10]; exact k _ _ _ _ h3 (chkT_ok h5) h7 h9
theorem ts_whl (h : TrS sc (.whl c ss) S) (k : ∀ C BS p, TrE sc c C → TrSs sc ss BS → M (.While C BS [] p)) : M S :=
  any_c h fun t h1 h2 => and_c h2 fun h3 h4 => and_c h4 fun h5 h6 => vWhl_c h1 fun p => by rw [List.isEmpty_iff.mp h6]; exact k _ _ _ h3 h5
theorem ts_iff (h : TrS sc (.iff c ss tt) S) (k : ∀ C TS ES p, TrE sc c C → TrSs sc ss TS → TrSs sc tt ES → M (.If C TS ES p)) : M S :=
  any_c h fun t h1 h2 => and_c h2 fun h3 h4 => and_c h4 fun h5 h6 => vIff_c h1 fun p => k _ _ _ _ h3 h5 h6
theorem ts_cont (h : TrS sc .cont S) (k : ∀ p, M (.Continue p)) : M S := by
  cases hv : vCont S with
  | none => have h : (vCont S).isSome = true := h; rw [hv] at h; cases h
  | some t => exact vCont_c hv k
theorem ts_exp (h : TrS sc (.exp e) S) (k : ∀ F ES ks q p, TrE sc e (.Call F ES ks q) → M (.Expr (.Call F ES ks q) p)) : M S :=
  any_c h fun E h1 h2 => and_c h2 fun h3 h4 => by
    cases hv : vCall E with
    | none => rw [hv] at h3; cases h3
    | some t => exact vExp_c h1 fun p => vCall_c (M := fun E => TrE sc e E → M (.Expr E p)) hv (fun q h => k _ _ _ _ _ h) h4
theorem ts_app (h : TrS sc (.app x e) S) (k : ∀ E p q r t, plainNm (nm x) = true → (r.endLine == t.line) = true → TrE sc e E → M (.Expr (.Call (.Attribute (.Name (nm x) q) "append" r) [E] [] t) p)) : M S :=
  any_c h fun E h1 h2 => and_c h2 fun h3 h4 => any_c h4 fun ES h5 h6 => any_c h6 fun A h7 h8 => vExp_c h1 fun p => isMeth_c (M := fun E => M (.Expr E p)) h5 fun q r t hl => by rw [one_eq h7]; exact k _ _ _ _ _ h3 hl h8
theorem ts_popN (h : TrS sc (.popN x e) S) (k : ∀ E n p q r t u, plainNm (nm x) = true → (r.endLine == t.line) = true → TrE sc e E → M (.Expr (.Call (.Attribute (.Name (nm x) q) "pop" r) [E, .Constant .none n u] [] t) p)) : M S :=
  any_c h fun E h1 h2 => and_c h2 fun h3 h4 => any_c h4 fun ES h5 h6 => any_c h6 fun v h7 h8 => and_c h8 fun h9 h10 => vExp_c h1 fun p => isMeth_c (M := fun E => M (.Expr E p)) h5 fun q r t hl => by
    rw [two_eq h7]; exact tr_non' (M := fun B => M (.Expr (.Call (.Attribute (.Name (nm x) q) "pop" r) [v.1, B] [] t) p)) h10 fun n u => k _ _ _ _ _ _ _ h3 hl h9
theorem tss_nil {SS : List Stmt} (h : TrSs sc [] SS) : SS = [] := List.isEmpty_iff.mp h
theorem tss_cons {SS : List Stmt} {s : Sm} {M : List Stmt → Prop} (h : TrSs sc (s :: ss) SS) (k : ∀ S RS, TrS sc s S → TrSs sc ss RS → M (S :: RS)) : M SS :=
  any_c h fun t h1 h2 => and_c h2 fun h3 h4 => by rw [uncS_eq h1]; exact k _ _ h3 h4
end

/-- a def as a row of the table -/
noncomputable def chkFn (F : Fn) (d : DefRec) : Bool :=
  d.name == nm F.name && (d.params.posonlyargs.isEmpty && (d.params.vararg.isNone && (d.params.kwonlyargs.isEmpty && (d.params.kwarg.isNone && (d.params.defaults.isEmpty && (d.params.kw_defaults.isEmpty &&
  (d.params.args.map (·.arg) == F.params.map nm && (F.params.all (own d.scope) && (decide F.params.Nodup && (d.scope.kind == .function && (!d.scope.isGenerator && (!d.scope.isCoroutine &&
  (decide ((cellsFrom 0 d.scope.names []).map (·.1)).Nodup && ((d.scope.names.all fun x => x.2 != .free) && chkSs d.scope F.body d.body))))))))))))))
noncomputable def chkAll : List Fn → List DefRec → Bool
  | [], ds => ds.isEmpty
  | F :: Fs, ds => match ds with
    | [] => false
    | d :: ds => chkFn F d && chkAll Fs ds
end Mine
end

section
/-! Each operation of the small language upon the model. -/
set_option maxRecDepth 10000
set_option linter.all false
set_option exponentiation.threshold 2000
namespace Mine
open PySem PySem.Calls PyProof.Rows

section
variable {prog : Program} {w : World} {base : Heap} {σ X : List Addr} {H H' : Hp} {κ : List Nat} {s : Shared} {A : Around} {E : Value → Shared → Prop}

theorem sizeLine_val : sizeLine = 16777216 := by decide
theorem small_bits {i : Int} (h : small i = true) : Builtin.Int.intBits i ≤ 1001 := by
  have h1 : i.natAbs ≤ 2 ^ 1000 := Nat.le_of_ble_eq_true h
  unfold Builtin.Int.intBits
  split
  · omega
  · rename_i h0
    have hne : i.natAbs ≠ 0 := by intro e; exact h0 (by simpa using e)
    have h2 : i.natAbs.log2 < 1001 := (Nat.log2_lt hne).mpr (Nat.lt_of_le_of_lt h1 (by decide +kernel))
    omega
theorem small_mul {a b : Int} (ha : small a = true) (hb : small b = true) : IntMulOk a b := 
by
  have h1 := small_bits ha
  have h2 := small_bits hb
  have : Builtin.Int.intTooBig (Builtin.Int.intBits a + Builtin.Int.intBits b) = false := by
    unfold Builtin.Int.intTooBig bitsLine
    exact decide_eq_false (by omega)
  unfold IntMulOk
  rw [this]; simp
theorem small_div {a b : Int} (hb : small b = true) : Builtin.divisionGoesByPylong a b = false := by
  have h1 : b.natAbs ≤ 2 ^ 1000 := Nat.le_of_ble_eq_true hb
  refine PyProof.noPylong_of_log2 ?_
  by_cases h0 : b.natAbs = 0
  · rw [h0]; decide +kernel
  · exact Nat.lt_trans ((Nat.log2_lt h0).mpr (Nat.lt_of_le_of_lt h1 (by decide +kernel : 2 ^ 1000 < 2 ^ 1001))) (by decide)

/-- the addresses of new things -/
theorem Rel.size_out (R : Rel prog w base s.heap σ H) {a : Addr} (h : s.heap.objs.size ≤ a) : a ∉ σ := fun e => absurd (R.lt e) (Nat.not_lt.mpr h)
theorem size_none {h : Heap} : h.get? h.objs.size = none := by
  cases e : h.get? h.objs.size with
  | none => rfl
  | some o => exact absurd (Heap.lt_size e) (Nat.lt_irrefl _)
theorem plain_tup {h : Heap} {ws : List Value} : (h.push { cls := .type "tuple", data := .seq ws.toArray }).IsTuple h.objs.size ws.toArray := ⟨_, Heap.get?_push_size _ rfl, rfl, 0, rfl⟩

/-- a new tuple -/
theorem new_tup {P : Pst prog w base κ σ X s H' s σ} {xs : List V} {ws : List Value} (hl : ws.length ≤ sizeLine) (r : VRs s.heap σ xs ws) :
    VR (s.heap.push { cls := .type "tuple", data := .seq ws.toArray }) σ (.tup xs) (.ref s.heap.objs.size) :=
  .tup plain_tup hl (r.mono (fun a items t => IsTuple.mono t fun o e => Heap.get?_push_of_some _ e) fun _ _ e => e)
/-- a new list -/
theorem new_lst (R : Rel prog w base s.heap σ H) (hsys : ∃ o, base.get? sysModules = some o) {xs : List V} {ws : List Value} (hl : ws.length ≤ sizeLine) (r : VRs s.heap σ xs ws) (tk : Nat) :
    Pst prog w base κ σ X s (H ++ [.lst xs]) { s with heap := s.heap.push { cls := .type "list", data := .seq ws.toArray }, toks := tk } (σ ++ [s.heap.objs.size]) := by
  refine (R.alloc (κ := κ) (X := X) { cls := .type "list", data := .seq ws.toArray } tk).label hsys R size_none (R.size_out (Nat.le_refl _)) ?_
  exact ⟨ws, 0, Heap.get?_push_size _ rfl, hl, r.mono (fun a items t => IsTuple.mono t fun o e => Heap.get?_push_of_some _ e) fun n a e => by rw [List.getElem?_append_left (List.getElem?_eq_some_iff.mp e).1]; exact e⟩
theorem vr_last {h : Heap} {a : Addr} (hl : σ.length = H.length) : VR h (σ ++ [a]) (.ref H.length) (.ref a) := .ref (by rw [← hl]; simp)

theorem add_listsP {l b : Addr} {vs ws : List Value} {n n2 : Nat} {Q : Value → Shared → Prop} (ho : s.heap.get? l = some { cls := .type "list", data := .seq vs.toArray n }) (ho2 : s.heap.get? b = some { cls := .type "list", data := .seq ws.toArray n2 })
    (h : Q (.ref s.heap.objs.size) { s with heap := s.heap.push { cls := .type "list", data := .seq (vs ++ ws).toArray } }) (hsz : vs.length + ws.length ≤ sizeLine) : wpAny (model prog w) A (binaryOp .Add (.ref l) (.ref b)) Q E s := by
  have e : vs.toArray ++ ws.toArray = (vs ++ ws).toArray := by simp
  refine concat_meets ⟨_, ho, rfl⟩ ⟨_, ho2, rfl⟩ noFill_list_add seq_list_add PySem.F.slot_list_add PySem.F.entry_list_add (PySem.F.args_list_add_2 _ _) (list_addW l b vs.toArray ws.toArray n n2 none none #[] #[] (by simpa using hsz)) ⟨ho, ho2, ?_⟩
  rw [e]; exact h

theorem add_tupsP {l b : Addr} {vs ws : List Value} {Q : Value → Shared → Prop} (ht : s.heap.IsTuple l vs.toArray) (ht2 : s.heap.IsTuple b ws.toArray)
    (h0 : vs = [] → Q (.ref b) s) (h1 : ws = [] → Q (.ref l) s)
    (h : Q (.ref s.heap.objs.size) { s with heap := s.heap.push { cls := .type "tuple", data := .seq (vs ++ ws).toArray } }) (hsz : vs.length + ws.length ≤ sizeLine) : wpAny (model prog w) A (binaryOp .Add (.ref l) (.ref b)) Q E s := by
  obtain ⟨⟨cls, dd, data, sl⟩, ho, hc, n, hd⟩ := ht
  obtain ⟨⟨cls2, dd2, data2, sl2⟩, ho2, hc2, n2, hd2⟩ := ht2
  simp only at hc hd hc2 hd2
  subst hc hd hc2 hd2
  cases vs with
  | nil =>
    exact concat_meets ⟨_, ho, rfl⟩ ⟨_, ho2, rfl⟩ noFill_tuple_add seq_tuple_add PySem.F.slot_tuple_add PySem.F.entry_tuple_add (PySem.F.args_tuple_add_2 _ _) (tuple_addW0 l b #[] ws.toArray n n2 dd dd2 sl sl2 rfl) ⟨ho, ho2, h0 rfl⟩
  | cons v vs =>
    cases ws with
    | nil =>
      exact concat_meets ⟨_, ho, rfl⟩ ⟨_, ho2, rfl⟩ noFill_tuple_add seq_tuple_add PySem.F.slot_tuple_add PySem.F.entry_tuple_add (PySem.F.args_tuple_add_2 _ _) (tuple_addW1 l b (v :: vs).toArray #[] n n2 dd dd2 sl sl2 (by simp) rfl) ⟨ho, ho2, h1 rfl⟩
    | cons u ws =>
      have e : (v :: vs).toArray ++ (u :: ws).toArray = (v :: vs ++ u :: ws).toArray := by simp
      refine concat_meets ⟨_, ho, rfl⟩ ⟨_, ho2, rfl⟩ noFill_tuple_add seq_tuple_add PySem.F.slot_tuple_add PySem.F.entry_tuple_add (PySem.F.args_tuple_add_2 _ _) (tuple_addW2 l b (v :: vs).toArray (u :: ws).toArray n n2 dd dd2 sl sl2 (by simp) (by simp) (by simpa using hsz)) ⟨ho, ho2, ?_⟩
      rw [e]; exact h
theorem joined_rep (v : Value) : ∀ k : Nat, List.foldl (fun x1 x2 => x1 ++ x2) (#[] : Array Value) (List.replicate k #[v]) = (List.replicate k v).toArray := by
  have g : ∀ (k : Nat) (acc : Array Value), List.foldl (fun x1 x2 => x1 ++ x2) acc (List.replicate k #[v]) = acc ++ (List.replicate k v).toArray := by
    intro k
    induction k with
    | zero => intro acc; simp
    | succ k ih => intro acc; rw [List.replicate_succ, List.foldl_cons, ih, List.replicate_succ, ← Array.toList_inj]; simp
  intro k; rw [g]; simp
theorem mul_listP {l : Addr} {v : Value} {n : Nat} {x : Int} {u : Tok} {Q : Value → Shared → Prop} (ho : s.heap.get? l = some { cls := .type "list", data := .seq #[v] n }) (hx : x ≤ 100000)
    (h : Q (.ref s.heap.objs.size) { s with heap := s.heap.push { cls := .type "list", data := .seq (List.replicate x.toNat v).toArray } }) (hlo : -(2 ^ 63) ≤ x) : wpAny (model prog w) A (binaryOp .Mult (.ref l) (.int x u)) Q E s := by
  refine wpAny_binaryOp_repeat_ref (T := "list") (U := "int") (by decide) ⟨_, ho, rfl⟩ (fun s' => typeIs_int s' x u) noFill_list_mul F.fills_int_mul F.slot_int_rmul repeat_list F.slot_int_index.lookup
    (call_meets F.slot_int_rmul (typeIs_int s x u) F.entry_int_rmul (F.args_int_rmul_2 _ _) (int___rmul___int_list x u l #[v] n)
      ⟨ho, rfl, ⟨_, ho, rfl⟩, call_meets F.slot_list_mul ⟨_, ho, rfl⟩ F.entry_list_mul (F.args_list_mul_2 _ _)
        (AutoListH.list___mul___list_int_3 l #[v] n x u (by simp [Builtin.List.listFitsIndex]; omega) (by simp; omega) (by simp [Builtin.List.listTooLong, sizeLine]; omega))
        ⟨ho, ?_⟩⟩)
  have e : (if (#[v] : Array Value).isEmpty = true then 0 else x.toNat) = x.toNat := by simp
  rw [e, joined_rep]
  exact h

theorem VRs.one_c {h : Heap} {x : V} {v : List Value} {M : List Value → Prop} (r : VRs h σ [x] v) (k : ∀ u, VR h σ x u → M [u]) : M v := by
  apply r.cons_c; intro u us ru rs
  exact rs.nil_c (M := fun us => M (u :: us)) (k u ru)

/-! what the operations take apart -/
section
variable {x y : V} {q : V × Hp} {M : V → V → Prop}
theorem addop_c (e : addop x y H = some q) (k1 : ∀ i j, some (V.int (i + j), H) = some q → M (.int i) (.int j)) (k2 : ∀ xs ys, xs.length + ys.length ≤ maxLen → some (V.tup (xs ++ ys), H) = some q → M (.tup xs) (.tup ys))
    (k3 : ∀ m n xs ys, Hp.get H m = some (.lst xs) → Hp.get H n = some (.lst ys) → xs.length + ys.length ≤ maxLen → some (V.ref H.length, H ++ [.lst (xs ++ ys)]) = some q → M (.ref m) (.ref n)) : M x y := by
  cases x with
  | int i => exact onInt_c e fun j e => k1 i j e
  | tup xs => exact onSeq_c e (fun ys e => bi_c e fun h e => k2 xs ys (Nat.le_of_ble_eq_true h) e) fun _ e => (nS e).elim
  | ref m => exact onRef_c e fun n e => bo_c e fun xs h1 e => bo_c e fun ys h2 e => bi_c e fun h e => k3 m n xs ys (lstAt_eq h1) (lstAt_eq h2) (Nat.le_of_ble_eq_true h) e
  | _ => exact (nS e).elim
theorem mulop_c (e : mulop x y H = some q) (k1 : ∀ i j, small i = true → small j = true → some (V.int (i * j), H) = some q → M (.int i) (.int j))
    (k3 : ∀ m k v, Hp.get H m = some (.lst [v]) → -100000 ≤ k → k ≤ 100000 → some (V.ref H.length, H ++ [.lst (List.replicate k.toNat v)]) = some q → M (.ref m) (.int k)) : M x y := by
  cases x with
  | int i => exact onInt_c e fun j e => bi_c e fun h e => and_c h fun h1 h2 => k1 i j h1 h2 e
  | ref m => exact onInt_c e fun k e => bo_c e fun vs h1 e => bo_c e fun v h2 e => bi_c e fun h e => and_c h fun h3 h4 => k3 m k v (by rw [lstAt_eq h1, one_eq h2]) (of_decide_eq_true h3) (of_decide_eq_true h4) e
  | _ => exact (nS e).elim
end
theorem maxLen_lt {n : Nat} (h : n ≤ maxLen) : n ≤ sizeLine := Nat.le_trans h (by decide)
theorem small_pow {i j : Int} (h : (Nat.ble i.natAbs 1000000 && (decide (0 ≤ j) && decide (j ≤ 100))) = true) : i.natAbs ≤ 1000000 ∧ 0 ≤ j ∧ j ≤ 100 := and_c h fun h1 h => and_c h fun h2 h3 => ⟨Nat.le_of_ble_eq_true h1, of_decide_eq_true h2, of_decide_eq_true h3⟩
theorem not_dec {p : Prop} [Decidable p] (h : (!decide p) = true) : ¬ p := of_decide_eq_false (by cases hp : decide p; rfl; rw [hp] at h; cases h)

/-- what may follow -/
def Out (prog : Program) (w : World) (base : Heap) (κ : List Nat) (σ X : List Addr) (s : Shared) (Q : Value → Shared → Prop) (v : V) (H' : Hp) : Prop := ∀ s' σ' u, Pst prog w base κ σ X s H' s' σ' → VR s'.heap σ' v u → Q u s'
section
variable {x y v : V} {a b : Value} {Q : Value → Shared → Prop} (R : Rel prog w base s.heap σ H) (rx : VR s.heap σ x a) (ry : VR s.heap σ y b)
include R rx ry
theorem add_ok (hsys : ∃ o, base.get? sysModules = some o) (e : addop x y H = some (v, H')) (h : Out prog w base κ σ X s Q v H') : wpAny (model prog w) A (binaryOp .Add a b) Q E s := by
  revert rx ry
  apply addop_c e
  · intro i j e rx ry
    obtain ⟨rfl, rfl⟩ := i2 e
    apply rx.int_c; intro t; apply ry.int_c; intro t'
    exact PyProof.Rows.add_int (h _ _ _ (Pst.fresh R _) (.int _ _))
  · intro xs ys hl e rx ry
    obtain ⟨rfl, rfl⟩ := i2 e
    apply rx.tup_c; intro a1 ws t1 l1 r1; apply ry.tup_c; intro a2 us t2 l2 r2
    rw [r1.length, r2.length] at hl
    refine add_tupsP t1 t2 (fun q => ?_) (fun q => ?_) (h _ _ _ (R.alloc _ s.toks) (new_tup (P := Pst.refl (κ := κ) (X := X) R) (by rw [List.length_append]; exact maxLen_lt hl) (r1.append r2))) (maxLen_lt hl)
    · rw [List.eq_nil_of_length_eq_zero (r1.length.trans (congrArg List.length q))] at h
      exact h _ _ _ (Pst.refl R) (.tup t2 l2 r2)
    · rw [List.eq_nil_of_length_eq_zero (r2.length.trans (congrArg List.length q)), List.append_nil] at h
      exact h _ _ _ (Pst.refl R) (.tup t1 l1 r1)
  · intro m n xs ys hm hn hl e rx ry
    obtain ⟨rfl, rfl⟩ := i2 e
    apply rx.ref_c; intro a1 ex; apply ry.ref_c; intro a2 ey
    obtain ⟨ws, n1, g1, l1, r1⟩ := R.cell _ _ _ ex hm
    obtain ⟨us, n2, g2, l2, r2⟩ := R.cell _ _ _ ey hn
    rw [r1.length, r2.length] at hl
    exact add_listsP g1 g2 (h _ _ _ (new_lst R hsys (by rw [List.length_append]; exact maxLen_lt hl) (r1.append r2) s.toks) (vr_last R.len)) (maxLen_lt hl)
theorem mul_ok (hsys : ∃ o, base.get? sysModules = some o) (e : mulop x y H = some (v, H')) (h : Out prog w base κ σ X s Q v H') : wpAny (model prog w) A (binaryOp .Mult a b) Q E s := by
  revert rx ry
  apply mulop_c e
  · intro i j h1 h2 e rx ry
    obtain ⟨rfl, rfl⟩ := i2 e
    apply rx.int_c; intro t; apply ry.int_c; intro t'
    exact PyProof.Rows.mul_int (h _ _ _ (Pst.fresh R _) (.int _ _)) (small_mul h1 h2)
  · intro m k v hm h1 h2 e rx ry
    obtain ⟨rfl, rfl⟩ := i2 e
    apply rx.ref_c; intro a1 ex; apply ry.int_c; intro t
    obtain ⟨ws, n1, g1, l1, r1⟩ := R.cell _ _ _ ex hm
    revert g1; apply r1.one_c; intro w1 r3 g1
    exact mul_listP g1 h2 (h _ _ _ (new_lst R hsys (by rw [List.length_replicate]; exact Nat.le_trans (Int.toNat_le.mpr h2) (by decide)) (VRs.replicate _ r3) s.toks) (vr_last R.len)) (Int.le_trans (by decide) h1)
theorem int_ok {op : Operator} {f : Int → Int → Option (V × Hp)} (e : (onInt x fun i => onInt y (f i)) = some (v, H')) (h : Out prog w base κ σ X s Q v H')
    (k : ∀ i j t t', f i j = some (v, H') → wpAny (model prog w) A (binaryOp op (.int i t) (.int j t')) Q E s) : wpAny (model prog w) A (binaryOp op a b) Q E s := by
  revert rx
  apply onInt_c e; intro i e rx
  revert ry
  apply onInt_c e; intro j e ry
  apply rx.int_c; intro t; apply ry.int_c; intro t'
  exact k i j t t' e
theorem binop_ok {op : Bop} (hsys : ∃ o, base.get? sysModules = some o) (e : binop op x y H = some (v, H')) (h : Out prog w base κ σ X s Q v H') : wpAny (model prog w) A (binaryOp (opOf op) a b) Q E s := by
  cases op with
  | add => exact add_ok R rx ry hsys e h
  | mul => exact mul_ok R rx ry hsys e h
  | sub => exact int_ok R rx ry e h fun i j t t' e => by obtain ⟨rfl, rfl⟩ := i2 e; exact PyProof.Rows.sub_int (h _ _ _ (Pst.fresh R _) (.int _ _))
  | fdiv => exact int_ok R rx ry e h fun i j t t' e => bi_c e fun hc e => and_c hc fun h1 h2 => by obtain ⟨rfl, rfl⟩ := i2 e; exact floordiv_int (not_dec h1) (h _ _ _ (Pst.fresh R _) (.int _ _)) (.inl (small_div h2))
  | mod => exact int_ok R rx ry e h fun i j t t' e => bi_c e fun hc e => by obtain ⟨rfl, rfl⟩ := i2 e; exact mod_int' (not_dec hc) (h _ _ _ (Pst.fresh R _) (.int _ _))
  | pow => exact int_ok R rx ry e h fun i j t t' e => bi_c e fun hc e => by obtain ⟨rfl, rfl⟩ := i2 e; obtain ⟨h1, h2, h3⟩ := small_pow hc; exact pow_int_small h2 (by omega) (by omega) (h _ _ _ (Pst.fresh R _) (.int _ _))
end
end
end Mine
end

section
/-! Comparisons, items, dicts. -/
set_option maxRecDepth 10000
set_option linter.all false
namespace Mine
open PySem PySem.Calls PyProof.Rows

theorem intsEq_iff : ∀ {a b : List Int}, intsEq a b = decide (a = b)
  | [], [] => rfl
  | [], _ :: _ => rfl
  | _ :: _, [] => rfl
  | a :: r, b :: s => by
    show (decide (a = b) && intsEq r s) = decide (a :: r = b :: s)
    rw [intsEq_iff (a := r) (b := s), Bool.eq_iff_iff, Bool.and_eq_true, decide_eq_true_iff, decide_eq_true_iff, decide_eq_true_iff, List.cons.injEq]
theorem intsEq_self (a : List Int) : intsEq a a = true := by rw [intsEq_iff]; exact decide_eq_true rfl
theorem intsEq_eq {a b : List Int} (h : intsEq a b = true) : a = b := by rw [intsEq_iff] at h; exact of_decide_eq_true h
theorem intsEq_ne {a b : List Int} (h : a ≠ b) : intsEq a b = false := by rw [intsEq_iff]; exact decide_eq_false h

theorem eqvAll_ints : ∀ (a b : List Int), PyData.eqvAll (a.map .int) (b.map .int) = intsEq a b
  | [], [] => by rw [List.map_nil, PyData.eqvAll]; rfl
  | [], _ :: _ => by rw [List.map_nil, List.map_cons, PyData.eqvAll]; rfl
  | _ :: _, [] => by rw [List.map_nil, List.map_cons, PyData.eqvAll]; rfl
  | a :: r, b :: s => by
    rw [List.map_cons, List.map_cons, PyData.eqvAll, PyData.eqv, eqvAll_ints r s]; rfl
theorem canLay_ints : ∀ a : List Int, PyData.canLayAll0 (a.map .int) = true
  | [] => by simp [PyData.canLayAll0]
  | a :: r => by simp [PyData.canLayAll0, PyData.canLay0, canLay_ints r]
theorem depth_ints : ∀ a : List Int, PyData.depthAll (a.map .int) = 0
  | [] => by simp [PyData.depthAll]
  | a :: r => by simp [PyData.depthAll, PyData.depth, depth_ints r]
theorem shaped_tup (a : List Int) : SeqAt.shaped (.tuple (a.map .int)) = true := by simp [SeqAt.shaped, PyData.canLay0, canLay_ints, PyData.depth, depth_ints]
theorem shaped_lst (a : List Int) : SeqAt.shaped (.list (a.map .int)) = true := by simp [SeqAt.shaped, PyData.canLay0, canLay_ints, PyData.depth, depth_ints]

section
variable {prog : Program} {w : World} {base : Heap} {σ X : List Addr} {H H' : Hp} {κ : List Nat} {s : Shared} {A : Around} {E : Value → Shared → Prop}

theorem VRs.readsAll {h h' : Heap} {x : List V} {v : List Value} {is : List Int} (r : VRs h σ x v) (e : V.ints x = some is) : ReadsAll h' v (is.map .int) [] :=
  VRs.ints_ind (M := fun is v => ReadsAll h' v (is.map .int) []) .nil (fun i t is us ih => ReadsAll.cons (as := []) (bs := []) (.int _ _) ih) r e
theorem keyOf_c {x : V} {is : List Int} {M : V → Prop} (e : keyOf x = some is) (k : ∀ xs, V.ints xs = some is → M (.tup xs)) : M x := onSeq_c e k fun _ e => (nS e).elim
theorem VR.reads {h : Heap} {x : V} {v : Value} {is : List Int} (r : VR h σ x v) (e : keyOf x = some is) : Reads h v (.tuple (is.map .int)) [] := by
  revert r; apply keyOf_c e; intro xs e r
  apply r.tup_c; intro a ws t l q
  obtain ⟨o, ho, hc, n, hd⟩ := t
  exact .tuple ho hc hd (q.readsAll e)
theorem VR.key {x : V} {v : Value} {is : List Int} {h : Heap} (r : VR h σ x v) (e : keyOf x = some is) : ∃ a, v = .ref a ∧ (TK prog w).is h is a := by
  revert r; apply keyOf_c e; intro xs e r
  apply r.tup_c; intro a ws t l q
  obtain ⟨o, ho, hc, n, hd⟩ := t
  exact ⟨_, rfl, o, _, n, ho, hc, hd, q.ints e⟩

/-! ### dicts -/
theorem DRs.length {h : Heap} {es : List (List Int × V)} {ys : List (List Int × Addr × Value)} (d : DRs h σ es ys) : es.length = ys.length := by
  induction d with
  | nil => rfl
  | cons _ _ ih => simp [ih]
theorem DRs.keys {h : Heap} {es : List (List Int × V)} {ys : List (List Int × Addr × Value)} (d : DRs h σ es ys) : es.map (·.1) = ys.map (·.1) := by
  induction d with
  | nil => rfl
  | cons _ _ ih => simp [ih]
theorem DRs.get {h : Heap} {es : List (List Int × V)} {ys : List (List Int × Addr × Value)} (d : DRs h σ es ys) {n : Nat} {k : List Int} {x : V} (e : es[n]? = some (k, x)) : ∃ a v, ys[n]? = some (k, a, v) ∧ VR h σ x v := by
  induction d generalizing n with
  | nil => simp at e
  | cons r _ ih =>
    cases n with
    | zero => simp only [List.getElem?_cons_zero, Option.some.injEq, Prod.mk.injEq] at e; obtain ⟨rfl, rfl⟩ := e; exact ⟨_, _, rfl, r⟩
    | succ n => simp only [List.getElem?_cons_succ] at e ⊢; exact ih e
theorem DRs.got {h : Heap} {es : List (List Int × V)} {ys : List (List Int × Addr × Value)} (d : DRs h σ es ys) {n : Nat} {k : List Int} {a : Addr} {v : Value} (e : ys[n]? = some (k, a, v)) : ∃ x, es[n]? = some (k, x) ∧ VR h σ x v := by
  induction d generalizing n with
  | nil => simp at e
  | cons r _ ih =>
    cases n with
    | zero => simp only [List.getElem?_cons_zero, Option.some.injEq, Prod.mk.injEq] at e; obtain ⟨rfl, rfl, rfl⟩ := e; exact ⟨_, rfl, r⟩
    | succ n => simp only [List.getElem?_cons_succ] at e ⊢; exact ih e
theorem dget_hit {k : List Int} {x : V} {r : List (List Int × V)} : dget ((k, x) :: r) k = some x := by show (bif intsEq k k then _ else _) = _; rw [intsEq_self]; rfl
theorem dget_miss {q k : List Int} {x : V} {r : List (List Int × V)} (h : intsEq q k = false) : dget ((q, x) :: r) k = dget r k := by show (bif intsEq q k then _ else _) = _; rw [h]; rfl
theorem at0 {α : Type} {a b : α} {r : List α} (h : (a :: r)[0]? = some b) : b = a := (Option.some.inj h).symm
theorem dget_of_get {es : List (List Int × V)} (hn : (es.map (·.1)).Nodup) : ∀ {n : Nat} {k : List Int} {x : V}, es[n]? = some (k, x) → dget es k = some x := by
  induction es with
  | nil => intro n k x e; cases e
  | cons p r ih =>
    intro n k x e
    have hn := List.nodup_cons.mp hn
    cases n with
    | zero => obtain rfl := at0 e; exact dget_hit
    | succ n => exact (dget_miss (intsEq_ne fun h => hn.1 (List.mem_map.mpr ⟨_, List.mem_of_getElem? (i := n) e, h.symm⟩))).trans (ih hn.2 e)
theorem dget_get {es : List (List Int × V)} {k : List Int} {x : V} (e : dget es k = some x) : ∃ n : Nat, es[n]? = some (k, x) := by
  induction es with
  | nil => cases e
  | cons p r ih =>
    cases h : intsEq p.1 k with
    | true => obtain rfl := intsEq_eq h; obtain rfl := Option.some.inj (dget_hit.symm.trans e); exact ⟨0, rfl⟩
    | false => obtain ⟨n, hn⟩ := ih ((dget_miss h).symm.trans e); exact ⟨n + 1, hn⟩
theorem dget_none {es : List (List Int × V)} {k : List Int} (e : dget es k = none) (n : Nat) (x : V) : es[n]? ≠ some (k, x) := by
  induction es generalizing n with
  | nil => intro h; cases h
  | cons p r ih =>
    intro h
    cases n with
    | zero => obtain rfl := at0 h; rw [dget_hit] at e; cases e
    | succ n =>
      cases hk : intsEq p.1 k with
      | true => obtain rfl := intsEq_eq hk; rw [dget_hit] at e; cases e
      | false => exact ih ((dget_miss hk).symm.trans e) n h
theorem DRs.at_some {h : Heap} {es : List (List Int × V)} {ys : List (List Int × Addr × Value)} (d : DRs h σ es ys) (hn : (ys.map (·.1)).Nodup) {k : List Int} {x : V} (e : dget es k = some x) : ∃ p, atKey ys k = some p ∧ VR h σ x p.2 := by
  obtain ⟨n, e⟩ := dget_get e
  obtain ⟨a, v, e', r⟩ := d.get e
  exact ⟨(a, v), atKey_of_get hn e', r⟩
theorem DRs.at_none {h : Heap} {es : List (List Int × V)} {ys : List (List Int × Addr × Value)} (d : DRs h σ es ys) {k : List Int} (e : dget es k = none) : atKey ys k = none :=
  atKey_none_of_get fun j p hj => by
    obtain ⟨a, v⟩ := p
    obtain ⟨x, hx, _⟩ := d.got hj
    exact dget_none e j x hx

theorem dset_hit {k : List Int} {x y : V} {r : List (List Int × V)} : dset ((k, x) :: r) k y = (k, y) :: r := by show (bif intsEq k k then _ else _) = _; rw [intsEq_self]; rfl
theorem dset_miss {q k : List Int} {x y : V} {r : List (List Int × V)} (h : intsEq q k = false) : dset ((q, x) :: r) k y = (q, x) :: dset r k y := by show (bif intsEq q k then _ else _) = _; rw [h]; rfl
theorem dset_new {es : List (List Int × V)} {k : List Int} {x : V} (e : dget es k = none) : dset es k x = es ++ [(k, x)] := by
  induction es with
  | nil => rfl
  | cons p r ih =>
    cases h : intsEq p.1 k with
    | true => obtain rfl := intsEq_eq h; rw [dget_hit] at e; cases e
    | false => rw [dset_miss h, ih ((dget_miss h).symm.trans e)]; rfl
theorem DRs.append {h : Heap} {es fs : List (List Int × V)} {ys zs : List (List Int × Addr × Value)} (d : DRs h σ es ys) (f : DRs h σ fs zs) : DRs h σ (es ++ fs) (ys ++ zs) := by
  induction d with
  | nil => exact f
  | cons r _ ih => exact .cons r ih
theorem DRs.putAt {h : Heap} {es : List (List Int × V)} {ys : List (List Int × Addr × Value)} (d : DRs h σ es ys) (hn : (ys.map (·.1)).Nodup) {k : List Int} {x : V} {v : Value} (r : VR h σ x v) (e : (dget es k).isSome = true) :
    DRs h σ (dset es k x) (ys.map (putAt k v)) := by
  induction d with
  | nil => cases e
  | @cons q y a u es ys r1 d ih =>
    have hn := List.nodup_cons.mp hn
    rw [List.map_cons]
    cases hf : intsEq q k with
    | true =>
      obtain rfl := intsEq_eq hf
      rw [dset_hit, map_putAt_of_not_mem ys q v hn.1, PySem.putAt, if_pos rfl]
      exact .cons r d
    | false =>
      rw [dget_miss hf] at e
      rw [dset_miss hf, PySem.putAt, if_neg fun hk => by have hk : q = k := hk; rw [hk, intsEq_self] at hf; cases hf]
      exact .cons r1 (ih hn.2 e)
theorem DRs.stored {h : Heap} {es : List (List Int × V)} {ys : List (List Int × Addr × Value)} (d : DRs h σ es ys) (hn : (ys.map (·.1)).Nodup) {k : List Int} {x : V} {a : Addr} {v : Value} (r : VR h σ x v) :
    DRs h σ (dset es k x) (storedH ys k a v) := by
  cases e : dget es k with
  | none => rw [dset_new e, storedH_new (d.at_none e)]; exact d.append (.cons r .nil)
  | some y =>
    obtain ⟨p, hp, _⟩ := d.at_some hn e
    rw [storedH_old hp]
    exact d.putAt hn r (by rw [e]; rfl)
theorem storedH_length_le {ys : List (List Int × Addr × Value)} {k : List Int} {a : Addr} {v : Value} : (storedH ys k a v).length ≤ ys.length + 1 := by
  unfold storedH; split <;> simp

/-! ### items -/
theorem Subscript_tail {value slice : Expr} {pos : Pos} {env : Env} {Q : Value → Shared → Prop}
    (h : wpAny (model prog w) A (eval value env) (fun o s₁ => wpAny (model prog w) A (eval slice env) (fun i s₂ => wpAny (model prog w) A (subscriptTail value slice o i) Q E s₂) E s₁) E s) :
    wpAny (model prog w) A (eval (.Subscript value slice pos) env) Q E s := by
  rw [eval_Subscript]
  refine wpAny_bind (wpAny_mono h (fun o s₁ h₁ => wpAny_bind (wpAny_holding (wpAny_mono h₁ (fun i s₂ h₂ => wpAny_bind (wpAny_standAt ?_)) fun _ _ x => x))) fun _ _ x => x)
  exact h₂
theorem nth_some {xs : List V} {i : Int} {v : V} (e : nth xs i = some v) : 0 ≤ i ∧ xs[i.toNat]? = some v := bi_c e fun h e => ⟨of_decide_eq_true h, e⟩
theorem subop_c {x i v : V} {M : V → V → Prop} (e : subop x i H = some v) (k1 : ∀ xs j, 0 ≤ j → xs[j.toNat]? = some v → M (.tup xs) (.int j)) (k2 : ∀ n xs j, Hp.get H n = some (.lst xs) → 0 ≤ j → xs[j.toNat]? = some v → M (.ref n) (.int j))
    (k3 : ∀ n es k, Hp.get H n = some (.dic es) → keyOf i = some k → dget es k = some v → M (.ref n) i) : M x i :=
  onSeq_c (M := fun x => M x i) e (fun xs e => onInt_c (M := fun i => M (.tup xs) i) e fun j e => k1 xs j (nth_some e).1 (nth_some e).2) fun n e => bo_c e fun c h1 e => match c, h1, e with
    | .lst xs, h1, e => onInt_c (M := fun i => M (.ref n) i) e fun j e => k2 n xs j h1 (nth_some e).1 (nth_some e).2
    | .dic es, h1, e => bo_c e fun k h2 e => k3 n es k h1 h2 e
theorem getitem_ok {x i v : V} {a b : Value} {Q : Value → Shared → Prop} (hu : A.units + 1 < cLine) (R : Rel prog w base s.heap σ H) (rx : VR s.heap σ x a) (ri : VR s.heap σ i b) (e : subop x i H = some v)
    (h : ∀ s' u, Pst prog w base κ σ X s H s' σ → VR s'.heap σ v u → Q u s') :
    ∃ T id, s.TypeIs a T ∧ typeLookup (.type T) "__getitem__" = pure (some (.builtin id)) ∧ wpAny (model prog w) A (getItem a b) Q E s := by
  revert rx ri
  apply subop_c e
  · intro xs j h0 e rx ri
    apply rx.tup_c; intro a1 ws t l r
    apply ri.int_c; intro tk
    obtain ⟨u, hu', ru⟩ := r.get e
    have hlt := (List.getElem?_eq_some_iff.mp hu').1
    have h1 : j < (ws.length : Nat) := (Int.toNat_lt h0).mp hlt
    refine ⟨"tuple", _, IsTup.typeIs t, PySem.F.slot_tuple_getitem.lookup, PyProof.Rows.getItem_tuple (j := j.toNat) t (Int.le_trans (show -(2 ^ 63) ≤ (0 : Int) by decide) h0) (Int.lt_of_lt_of_le h1 (Int.le_trans (Int.ofNat_le.mpr l) (by decide))) ?_ (by rw [List.getElem?_toArray]; exact hu') (h _ _ (Pst.refl R) ru)⟩
    rw [List.size_toArray, seqIndex?]
    simp [h0, h1, Int.not_lt.mpr h0]
  · intro n xs j hn h0 e rx ri
    apply rx.ref_c; intro a1 ex
    apply ri.int_c; intro tk
    obtain ⟨ws, n1, g1, l1, r1⟩ := R.cell _ _ _ ex hn
    obtain ⟨u, hu', ru⟩ := r1.get e
    have h1 : j < (ws.length : Nat) := (Int.toNat_lt h0).mp (List.getElem?_eq_some_iff.mp hu').1
    exact ⟨"list", _, ⟨_, g1, rfl⟩, slot_list_getitem.lookup, wpAny_getItem_list ⟨_, g1, rfl, _, rfl⟩ h0 (Int.lt_of_lt_of_le h1 (Int.le_trans (Int.ofNat_le.mpr l1) (by decide))) (by rw [List.getElem?_toArray]; exact hu') (h _ _ (Pst.refl R) ru)⟩
  · intro n es ks hn hk e rx ri
    apply rx.ref_c; intro a1 ex
    obtain ⟨ka, rfl, hka⟩ := ri.key (prog := prog) (w := w) hk
    obtain ⟨ys, hD, l1, d⟩ := R.cell _ _ _ ex hn
    obtain ⟨_, _, _, _, _, _, _, _, hnd⟩ := id hD
    obtain ⟨p, hp, rp⟩ := d.at_some hnd e
    exact ⟨"dict", _, hD.typeIs, slot_dict_getitem.lookup, wpAny_getItem_heap (knd := TK prog w) hu hka hD hp (h _ _ (Pst.fresh R _) rp)⟩
end
end Mine
end

section
/-! Comparisons. -/
set_option maxRecDepth 100000
set_option linter.all false
namespace Mine
open PySem PySem.Calls PyProof.Rows

section
variable {prog : Program} {w : World} {base : Heap} {σ X : List Addr} {H H' : Hp} {κ : List Nat} {s : Shared} {A : Around} {E : Value → Shared → Prop}

theorem valsInt_mem {es : List (List Int × V)} (h : valsInt es = true) {n : Nat} {k : List Int} {x : V} (e : es[n]? = some (k, x)) : ∃ is, keyOf x = some is :=
  Option.isSome_iff_exists.mp (List.all_eq_true.mp h _ (List.mem_of_getElem? e))
theorem ent_none {k : List Int} {x : V} {fs : List (List Int × V)} (h : dget fs k = none) : ent (k, x) fs = false := by
  unfold ent
  dsimp only
  rw [h]
  cases keyOf x <;> rfl
theorem ent_some {k is js : List Int} {x y : V} {fs : List (List Int × V)} (h : dget fs k = some y) (h1 : keyOf x = some is) (h2 : keyOf y = some js) : ent (k, x) fs = intsEq is js := by
  unfold ent
  dsimp only
  rw [bo_eq h1, bo_eq h, bo_eq h2]; rfl
theorem range'_end {i n : Nat} (h : ([] : List Nat) = List.range' i (n - i)) (hi : i ≤ n) : i = n := by
  rcases Nat.lt_or_ge i n with h1 | h1
  · rw [show n - i = (n - (i + 1)) + 1 by omega, List.range'_succ] at h; cases h
  · exact Nat.le_antisymm hi h1
theorem range'_more {i n x : Nat} {rest : List Nat} (h : x :: rest = List.range' i (n - i)) (hi : i ≤ n) : i < n ∧ x = i ∧ rest = List.range' (i + 1) (n - (i + 1)) := by
  rcases Nat.lt_or_ge i n with h1 | h1
  · rw [show n - i = (n - (i + 1)) + 1 by omega, List.range'_succ] at h
    injection h with h2 h3
    exact ⟨h1, h2, h3⟩
  · rw [Nat.sub_eq_zero_of_le h1] at h; cases h

theorem DRs.no {h : Heap} {es : List (List Int × V)} {ys : List (List Int × Addr × Value)} (d : DRs h σ es ys) (hn : (ys.map (·.1)).Nodup) {k : List Int} (e : atKey ys k = none) : dget es k = none := by
  cases hg : dget es k with
  | none => rfl
  | some y => obtain ⟨p, hp, _⟩ := d.at_some hn hg; rw [e] at hp; cases hp
theorem samePairs_ok {nm : String} {a b : Addr} {es fs : List (List Int × V)} {ys zs : List (List Int × Addr × Value)} {Q : Bool → Shared → Prop} (ha : (a == sysModules) = false) (hb : (b == sysModules) = false)
    (da : s.heap.DictOfH (TK prog w) a ys) (db : s.heap.DictOfH (TK prog w) b zs) (ra : DRs s.heap σ es ys) (rb : DRs s.heap σ fs zs) (ve : valsInt es = true) (vf : valsInt fs = true)
    (hu : A.units + 66 < cLine) (h : Q (Nat.beq es.length fs.length && es.all fun e => ent e fs) s) :
    wpAny (model prog w) A (Builtin.Dict.samePairs nm a b) Q E s := by
  obtain ⟨oa, ea, ep, hoa, _, hda, hea, hia, hna⟩ := da
  obtain ⟨ob, eb, ep', hob, _, hdb, heb, hib, hnb⟩ := db
  have hla : es.length = ea.size := by rw [ra.length, size_of_entries hea]
  have hlb : fs.length = eb.size := by rw [rb.length, size_of_entries heb]
  rw [hla, hlb] at h
  unfold Builtin.Dict.samePairs Builtin.Dict.showsAll
  rw [if_neg (show ¬ (a == sysModules) = true by rw [ha]; exact Bool.false_ne_true), if_neg (show ¬ (b == sysModules) = true by rw [hb]; exact Bool.false_ne_true)]
  refine wpAny_bind (wpAny_pure (wpAny_bind (wpAny_pure ?_)))
  refine wpAny_bind (wpAny_dictEntries hoa hda ?_)
  dsimp only
  refine wpAny_bind (wpAny_dictEntries hob hdb ?_)
  by_cases hsz : ea.size = eb.size
  case neg =>
    rw [if_pos (by simpa using hsz)]
    have hbf : (Nat.beq ea.size eb.size) = false := Bool.eq_false_iff.mpr fun e => hsz (Nat.eq_of_beq_eq_true e)
    rw [hbf, Bool.false_and] at h
    exact wpAny_bind (wpAny_rule (wpAny_pure h))
  case pos =>
    have h' : Q (es.all fun e => ent e fs) s := by
      have : Nat.beq ea.size eb.size = true := by rw [hsz]; exact Nat.beq_refl _
      rw [this, Bool.true_and] at h; exact h
    rw [if_neg (by rw [hsz]; simp)]
    refine wpAny_bind (wpAny_dictEpoch hoa hda ?_)
    refine wpAny_bind ?_
    rw [Std.Legacy.Range.forIn_eq_forIn_range']
    simp only [Std.Legacy.Range.size, Nat.sub_zero, Nat.add_sub_cancel, Nat.div_one]
    refine wpAny_forIn_list _
      (fun rest q s' => s' = s ∧ q = (none, ()) ∧ ∃ i, rest = List.range' i (ea.size - i) ∧ i ≤ ea.size ∧ (es.all fun e => ent e fs) = (es.drop i).all fun e => ent e fs)
      _ ?_ ?_ _ _ ⟨rfl, rfl, 0, by simp, Nat.zero_le _, by simp⟩
    · rintro x rest q s' ⟨rfl, rfl, i, hr, hi, hpre⟩
      obtain ⟨hlt, rfl, hrest⟩ := range'_more hr hi
      have hlt' : x < es.length := by rw [hla]; exact hlt
      obtain ⟨⟨k, xv⟩, hkx⟩ : ∃ p, es[x]? = some p := ⟨_, List.getElem?_eq_getElem hlt'⟩
      obtain ⟨ka, v, hy, rv⟩ := ra.get hkx
      obtain ⟨iv, hiv⟩ := valsInt_mem ve hkx
      have hex : ea[x]? = some ⟨(TK prog w).hash k, .ref ka, v⟩ := by rw [entry_at hea x, hy]; rfl
      have hdrop : es.drop x = (k, xv) :: es.drop (x + 1) := by
        rw [List.drop_eq_getElem_cons hlt']
        have := (List.getElem?_eq_getElem hlt').symm.trans hkx
        rw [Option.some.inj this]
      have hkey : (TK prog w).is s'.heap k ka := hia _ (List.mem_of_getElem? hy)
      rw [hdrop, List.all_cons] at hpre
      refine wpAny_bind (wpAny_dictEntries hoa hda ?_)
      rw [hex]
      dsimp only
      refine wpAny_bind (wpAny_holding (wpAny_bind (wpAny_dictFind_heap (k := k) (show A.units < cLine by omega) hkey hob hdb heb hib hnb (fun hno => ?_) (fun j p hj => ?_))))
      · have hf : ent (k, xv) fs = false := ent_none (rb.no hnb (atKey_none_of_get hno))
        rw [hf, Bool.false_and] at hpre
        rw [hpre] at h'
        refine wpAny_pure ?_
        show wpAny _ _ (if (!false) = true then _ else _) _ _ _
        rw [if_pos (by decide)]
        exact wpAny_pure (wpAny_pure h')
      · obtain ⟨pa, pv⟩ := p
        obtain ⟨y, hfy, ry⟩ := rb.got hj
        obtain ⟨iy, hiy⟩ := valsInt_mem vf hfy
        have hnf : (fs.map (·.1)).Nodup := by rw [rb.keys]; exact hnb
        have hg : dget fs k = some y := dget_of_get hnf hfy
        have hf : ent (k, xv) fs = intsEq iv iy := ent_some hg hiv hiy
        refine wpAny_bind (wpAny_dictEntries hob hdb ?_)
        rw [entry_at heb j, hj]
        dsimp only [Option.map, entryOfKey]
        have he : SeqAt.EqAt A s' v pv (PyData.eqv (.tuple (iv.map .int)) (.tuple (iy.map .int))) :=
          SeqAt.eqAt_reads _ _ A s' v pv _ _ (rv.reads hiv) (ry.reads hiy) (SeqAt.canLay_of_shaped (shaped_tup _)) (SeqAt.canLay_of_shaped (shaped_tup _)) (SeqAt.room_of_shaped (shaped_tup _) (by omega))
        have ee : PyData.eqv (.tuple (iv.map .int)) (.tuple (iy.map .int)) = intsEq iv iy := by
          show PyData.eqvAll _ _ = _
          exact eqvAll_ints iv iy
        rw [ee, ← hf] at he
        refine wpAny_holding (he prog w _ _ ?_)
        cases hE : ent (k, xv) fs with
        | false =>
          rw [hE, Bool.false_and] at hpre
          rw [hpre] at h'
          show wpAny _ _ (if (!false) = true then _ else _) _ _ _
          rw [if_pos (by decide)]
          exact wpAny_pure (wpAny_pure h')
        | true =>
          rw [hE, Bool.true_and] at hpre
          show wpAny _ _ (if (!true) = true then _ else _) _ _ _
          rw [if_neg (by decide)]
          refine wpAny_bind (wpAny_dictEpoch hoa hda ?_)
          rw [if_neg (by simp)]
          exact wpAny_pure ⟨rfl, rfl, x + 1, hrest, hlt, hpre⟩
    · rintro q s' ⟨rfl, rfl, i, hr, hi, hpre⟩
      have hin : i = ea.size := range'_end hr hi
      refine wpAny_pure ?_
      rw [hin, ← hla, List.drop_length] at hpre
      rw [hpre] at h'
      exact h'

theorem dne_ok {a b : Addr} {es fs : List (List Int × V)} {ys zs : List (List Int × Addr × Value)} {Q : Value → Shared → Prop} (ha : (a == sysModules) = false) (hb : (b == sysModules) = false)
    (da : s.heap.DictOfH (TK prog w) a ys) (db : s.heap.DictOfH (TK prog w) b zs) (ra : DRs s.heap σ es ys) (rb : DRs s.heap σ fs zs) (ve : valsInt es = true) (vf : valsInt fs = true)
    (hu : A.units + 70 < cLine) (h : Q (.bool (!(Nat.beq es.length fs.length && es.all fun e => ent e fs))) s) :
    wpAny (model prog w) A (compareOp .NotEq (.ref a) (.ref b)) Q E s := by
  refine wpAny_richCompare_same_room (op := .NotEq) da.typeIs db.typeIs PySem.F.slot_dict_ne (wpAny_call_entry PySem.F.slot_dict_ne da.typeIs PySem.F.entry_dict_ne ?_ (PySem.F.args_dict_ne_2 _ _)) (by omega)
  show wpAny _ _ (Builtin.Dict.dictSlotArgs "__ne__" ⟨[.ref a, .ref b], []⟩ >>= _) _ _ s
  refine wpAny_bind ?_
  unfold Builtin.Dict.dictSlotArgs
  refine wpAny_bind (wpAny_notOrdered_dict da.typeIs ?_)
  show wpAny _ _ (pure (Value.ref a, Value.ref b)) _ _ s
  refine wpAny_pure ?_
  refine wpAny_bind (wpAny_isInstance (T := "dict") db.typeIs PySem.F.sub_dict_dict ?_)
  simp only [Bool.not_true, Bool.false_eq_true, if_false]
  refine wpAny_bind (wpAny_pure (wpAny_bind (wpAny_pure ?_)))
  refine wpAny_bind (samePairs_ok ha hb da db ra rb ve vf (show A.units + 1 + 66 < cLine by omega) ?_)
  refine wpAny_pure ⟨_, rfl, ?_, ?_⟩
  · exact fun x => nomatch x
  · simpa using h

theorem ints_any (i : Int) : ∀ is : List Int, ((is.map PyData.int).any fun y => PyData.eqv y (.int i)) = is.any fun j => decide (j = i)
  | [] => rfl
  | j :: r => by
    simp only [List.map_cons, List.any_cons]
    rw [ints_any i r]
    rfl

theorem Reads.lst {h : Heap} {σ : List Addr} {a : Addr} {ws : List Value} {n : Nat} {xs : List V} {is : List Int} (ho : h.get? a = some { cls := .type "list", data := .seq ws.toArray n }) (r : VRs h σ xs ws) (e : V.ints xs = some is) :
    Reads h (.ref a) (.list (is.map .int)) [a] := .list ho rfl rfl (by simpa using r.readsAll e)

section
variable {x y : V} {a b : Value} {c : Bool} {Q : Value → Shared → Prop} (hu : A.units + 70 < cLine) (R : Rel prog w base s.heap σ H) (rx : VR s.heap σ x a) (ry : VR s.heap σ y b)
include hu R rx ry
theorem eqv_ok {ne : Bool} (e : eqv x y H = some c) (h : Q (.bool (bif ne then !c else c)) s) : wpAny (model prog w) A (compareOp (bif ne then .NotEq else .Eq) a b) Q E s := by
  cases x with
  | int i =>
    revert ry; apply onInt_c e; intro j e ry
    obtain rfl := Option.some.inj e
    apply rx.int_c; intro t; apply ry.int_c; intro t'
    cases ne
    · exact eq_int h
    · exact ne_int h
  | tup xs =>
    revert ry
    apply onSeq_c e _ fun _ e => (nS e).elim
    intro ys e ry; refine bo_c e fun is h1 e => bo_c e fun js h2 e => ?_
    obtain rfl := Option.some.inj e
    rw [← show PyData.eqv (.tuple (is.map .int)) (.tuple (js.map .int)) = intsEq is js from eqvAll_ints is js] at h
    cases ne
    · exact SeqAt.compareEq_shaped (rx.reads (is := is) h1) (ry.reads (is := js) h2) (shaped_tup _) (shaped_tup _) (by omega) h
    · exact SeqAt.compareNe_shaped (rx.reads (is := is) h1) (ry.reads (is := js) h2) (shaped_tup _) (shaped_tup _) (by omega) h
  | ref m =>
    revert ry
    apply onRef_c e; intro n e ry; refine bo_c e fun xs g1 e => bo_c e fun ys g2 e => bo_c e fun is h1 e => bo_c e fun js h2 e => ?_
    obtain rfl := Option.some.inj e
    apply rx.ref_c; intro a1 ex; apply ry.ref_c; intro a2 ey
    obtain ⟨ws, n1, o1, l1, r1⟩ := R.cell _ _ _ ex (lstAt_eq g1)
    obtain ⟨us, n2, o2, l2, r2⟩ := R.cell _ _ _ ey (lstAt_eq g2)
    rw [← show PyData.eqv (.list (is.map .int)) (.list (js.map .int)) = intsEq is js from eqvAll_ints is js] at h
    cases ne
    · exact SeqAt.compareEq_shaped (Reads.lst o1 r1 h1) (Reads.lst o2 r2 h2) (shaped_lst _) (shaped_lst _) (by omega) h
    · exact SeqAt.compareNe_shaped (Reads.lst o1 r1 h1) (Reads.lst o2 r2 h2) (shaped_lst _) (shaped_lst _) (by omega) h
  | _ => exact (nS e).elim
theorem dneq_ok (e : dne x y H = some c) (h : Q (.bool c) s) : wpAny (model prog w) A (compareOp .NotEq a b) Q E s := by
  revert rx ry
  apply onRef_c e; intro m e; apply onRef_c e; intro n e rx ry; refine bo_c e fun es g1 e => bo_c e fun fs g2 e => bi_c e fun hv e => and_c hv fun v1 v2 => ?_
  obtain rfl := Option.some.inj e
  apply rx.ref_c; intro a1 ex; apply ry.ref_c; intro a2 ey
  obtain ⟨ys, D1, l1, r1⟩ := R.cell _ _ _ ex (dicAt_eq g1)
  obtain ⟨zs, D2, l2, r2⟩ := R.cell _ _ _ ey (dicAt_eq g2)
  exact dne_ok (R.new _ (List.mem_of_getElem? ex)).2 (R.new _ (List.mem_of_getElem? ey)).2 D1 D2 r1 r2 v1 v2 hu h
theorem neqv_ok (e : neqv x y H = some c) (h : Q (.bool c) s) : wpAny (model prog w) A (compareOp .NotEq a b) Q E s := by
  unfold neqv at e
  cases he : eqv x y H with
  | some d => rw [he] at e; obtain rfl := Option.some.inj e; exact eqv_ok (ne := true) hu R rx ry he h
  | none => rw [he] at e; exact dneq_ok hu R rx ry e h
theorem inop_ok (e : inop x y H = some c) (h : ∀ s', Pst prog w base κ σ X s H s' σ → Q (.bool c) s') : wpAny (model prog w) A (compareOp .In a b) Q E s := by
  revert ry
  apply onRef_c e; intro n e ry; refine bo_c e fun cc g1 e => ?_
  apply ry.ref_c; intro a2 ey
  cases cc with
  | dic es =>
    refine bo_c e fun k hk e => ?_
    obtain rfl := Option.some.inj e
    obtain ⟨ys, D1, l1, r1⟩ := R.cell _ _ _ ey g1
    obtain ⟨ka, rfl, hka⟩ := rx.key (prog := prog) (w := w) hk
    obtain ⟨_, _, _, _, _, _, _, _, hnd⟩ := id D1
    refine wpAny_in_heap (knd := TK prog w) (show A.units + 1 < cLine by omega) hka (R.new _ (List.mem_of_getElem? ey)).2 D1 ?_
    rw [show (atKey ys k).isSome = (dget es k).isSome by
      cases hg : dget es k with
      | none => rw [r1.at_none hg]; rfl
      | some z => obtain ⟨p, hp, _⟩ := r1.at_some hnd hg; rw [hp]; rfl]
    exact h _ (Pst.fresh R _)
  | lst xs =>
    revert rx
    apply onInt_c e; intro i e rx; refine bo_c e fun is h2 e => ?_
    obtain rfl := Option.some.inj e
    apply rx.int_c; intro t
    obtain ⟨ws, n1, o1, l1, r1⟩ := R.cell _ _ _ ey g1
    refine SeqAt.in_list_reads (Reads.lst o1 r1 h2) (.int _ _) (canLay_ints _) rfl (by simp [depth_ints]; omega) ?_
    rw [ints_any]
    exact h s (Pst.refl R)
theorem icmp_ok {op : CmpOp} {f : Int → Int → Option Bool} (e : (onInt x fun i => onInt y (f i)) = some c) (k : ∀ i j t t', f i j = some c → wpAny (model prog w) A (compareOp op (.int i t) (.int j t')) Q E s) : wpAny (model prog w) A (compareOp op a b) Q E s := by
  revert rx
  apply onInt_c e; intro i e rx
  revert ry
  apply onInt_c e; intro j e ry
  apply rx.int_c; intro t; apply ry.int_c; intro t'
  exact k i j t t' e
theorem cmpop_ok {op : Cop} (e : cmpop op x y H = some c) (h : ∀ s', Pst prog w base κ σ X s H s' σ → Q (.bool c) s') : wpAny (model prog w) A (compareOp (copOf op) a b) Q E s := by
  have h0 := h s (Pst.refl R)
  cases op with
  | eq => exact eqv_ok (ne := false) hu R rx ry e h0
  | ne => exact neqv_ok hu R rx ry e h0
  | lt => exact icmp_ok hu R rx ry e fun i j t t' e => by obtain rfl := Option.some.inj e; exact PyProof.Rows.lt_int h0
  | le => exact icmp_ok hu R rx ry e fun i j t t' e => by obtain rfl := Option.some.inj e; exact PyProof.Rows.le_int h0
  | gt => exact icmp_ok hu R rx ry e fun i j t t' e => by obtain rfl := Option.some.inj e; exact PyProof.Rows.gt_int h0
  | ge => exact icmp_ok hu R rx ry e fun i j t t' e => by obtain rfl := Option.some.inj e; exact PyProof.Rows.ge_int h0
  | inn => exact inop_ok hu R rx ry e h
  | nin => exact (nS e).elim
end
end
end Mine
end

section
/-! Stores, slices, pop. -/
set_option maxRecDepth 100000
set_option linter.all false
namespace Mine
open PySem PySem.Calls PyProof.Rows

section
variable {prog : Program} {w : World} {base : Heap} {σ X : List Addr} {H H' : Hp} {κ : List Nat} {s : Shared} {A : Around} {E : Value → Shared → Prop}

theorem mapSeq_set (its : Array Value) (n j : Nat) (v : Value) :
    Obj.mapSeq (·.setIfInBounds j v) { cls := .type "list", data := .seq its n } = { cls := .type "list", data := .seq (its.setIfInBounds j v) (if (its.setIfInBounds j v).size > its.size then n + 1 else n) } := by
  simp [Obj.mapSeq]

theorem setlistP {l : Addr} {ws : List Value} {n : Nat} {k : Int} {t : Tok} {v : Value} {Q : Unit → Shared → Prop} (ho : s.heap.get? l = some { cls := .type "list", data := .seq ws.toArray n })
    (h0 : 0 ≤ k) (hfit : k < 2 ^ 63) (hn : k < ws.length)
    (hQ : ∀ h' m, h'.get? l = some { cls := .type "list", data := .seq (ws.set k.toNat v).toArray m } → Heap.SameBut l s.heap h' → Q () { s with heap := h' }) :
    wpAny (model prog w) A (setItem (.ref l) (.int k t) v) Q E s := by
  have hl : s.heap.IsList l ws.toArray := ⟨_, ho, rfl, n, rfl⟩
  unfold setItem
  try with_reducible refine wpAny_holding ?_
  first | refine wpAny_bind (wpAny_pure ?_) | skip
  refine wpAny_bind (wpAny_sequenceKey hl.typeIs (by decide) ?_)
  refine wpAny_bind (wpAny_callSpecial?_slot (name := Str.ofString "__setitem__") hl.typeIs slot_list_setitem
    (wpAny_call_entry slot_list_setitem hl.typeIs entry_list_setitem ?_ (args_list_setitem _ _ _)))
  show wpAny _ _ (Builtin.List.listSubscript? (.int k t) >>= _) _ _ s
  refine wpAny_bind (wpAny_listSubscript_int (fitsIndex_of h0 hfit) ?_)
  clear hfit
  obtain ⟨j, rfl⟩ := Int.eq_ofNat_of_zero_le h0
  have hj : j < ws.toArray.size := by rw [List.size_toArray]; omega
  have hx' : ws.toArray[j]? = some ws.toArray[j] := Array.getElem?_eq_getElem hj
  show wpAny _ _ ((seqItemAt l j >>= fun r => pure (r.map (j, ·))) >>= _) _ _ s
  refine wpAny_bind (wpAny_bind (wpAny_seqItemAt ho rfl (wpAny_pure ?_)))
  rw [hx']
  show wpAny _ _ (setSeqItemAt l j v >>= _) _ _ s
  have hfin : ∃ m, (s.heap.update l (Obj.mapSeq (·.setIfInBounds j v))).get? l = some { cls := .type "list", data := .seq (ws.set j v).toArray m } := by
    rw [Heap.get?_update_self _ ho (by rw [mapSeq_set]; rfl), mapSeq_set, List.setIfInBounds_toArray]
    exact ⟨_, rfl⟩
  obtain ⟨m, hfin⟩ := hfin
  refine wpAny_bind (wpAny_setSeqItemAt ho rfl ?_)
  first
    | exact wpAny_bind (wpAny_pure (wpAny_pure ⟨.none, rfl, wpAny_pure (hQ _ _ hfin (Heap.SameBut.update ..))⟩))
    | exact wpAny_pure ⟨.none, rfl, wpAny_pure (hQ _ _ hfin (Heap.SameBut.update ..))⟩

theorem any_beq_false {κ : List Nat} {n : Nat} (h : ¬ (κ.any (Nat.beq n)) = true) : n ∉ κ := fun hm => h (List.any_eq_true.mpr ⟨n, hm, Nat.beq_refl n⟩)
theorem not_any {κ : List Nat} {n : Nat} (h : (!κ.any (Nat.beq n)) = true) : n ∉ κ := any_beq_false fun q => by rw [q] at h; cases h

theorem SameBut.tup {h h' : Heap} {l : Addr} (R : Rel prog w base h σ H) (hm : l ∈ σ) (hs : Heap.SameBut l h h') : ∀ b items, h.IsTuple b items → h'.IsTuple b items := fun b items t => IsTuple.mono t fun o e => (hs.2 b fun q => R.tup_out t (q ▸ hm)).trans e
section
variable {x i v : V} {a b u : Value} {n : Nat} {Q : Unit → Shared → Prop} (R : Rel prog w base s.heap σ H) (rv : VR s.heap σ v u) (hκ : n ∉ κ) {l : Addr} (ex : σ[n]? = some l)
include R rv hκ ex
theorem setl_ok {xs : List V} {k : Int} {t : Tok} (hn : Hp.get H n = some (.lst xs)) (h0 : 0 ≤ k) (hk : k.toNat < xs.length) (h : ∀ s', Pst prog w base κ σ X s (Hp.put H n (.lst (xs.set k.toNat v))) s' σ → Q () s') : wpAny (model prog w) A (setItem (.ref l) (.int k t) u) Q E s := by
  obtain ⟨ws, n1, g1, l1, r1⟩ := R.cell _ _ _ ex hn
  rw [r1.length] at hk
  have hlt := (Int.toNat_lt h0).mp hk
  refine setlistP g1 h0 (Int.lt_of_lt_of_le hlt (Int.le_trans (Int.ofNat_le.mpr l1) (by decide))) hlt fun h' m hg hs => h _ ?_
  have ht := SameBut.tup R (List.mem_of_getElem? ex) hs
  exact Rel.turn (X := X) (κ := κ) (s' := { s with heap := h' }) R ex hκ hs ⟨h', s.toks, rfl⟩ ⟨_, m, hg, by rw [List.length_set]; exact l1, (r1.mono ht fun _ _ e => e).set _ (rv.mono ht fun _ _ e => e)⟩
theorem setd_ok {es : List (List Int × V)} {ks : List Int} (hu : A.units + 1 < cLine) (hn : Hp.get H n = some (.dic es)) (ri : VR s.heap σ i b) (hk : keyOf i = some ks) (hl : es.length ≤ maxLen) (h : ∀ s', Pst prog w base κ σ X s (Hp.put H n (.dic (dset es ks v))) s' σ → Q () s') : wpAny (model prog w) A (setItem (.ref l) b u) Q E s := by
  obtain ⟨ka, rfl, hka⟩ := ri.key (prog := prog) (w := w) hk
  obtain ⟨ys, hD, l1, d⟩ := R.cell _ _ _ ex hn
  obtain ⟨_, _, _, _, _, _, _, _, hnd⟩ := id hD
  rw [d.length] at hl
  have hl2 : ys.length + 1 ≤ sizeLine := Nat.le_trans (Nat.succ_le_succ hl) (by decide)
  refine wpAny_setItem_heap (knd := TK prog w) hu hka hD (fun h' hg hs => h _ ?_) (Nat.le_of_succ_le hl2)
  have ht := SameBut.tup R (List.mem_of_getElem? ex) hs
  exact Rel.turn (X := X) (κ := κ) (s' := { s with heap := h', toks := s.toks + (TK prog w).draws ks }) R ex hκ hs ⟨h', _, rfl⟩ ⟨_, hg, Nat.le_trans storedH_length_le hl2, DRs.stored (d.mono ht fun _ _ e => e) hnd (rv.mono ht fun _ _ e => e)⟩
end
theorem setop_ok {x i v : V} {a b u : Value} {Q : Unit → Shared → Prop} (hu : A.units + 1 < cLine) (R : Rel prog w base s.heap σ H) (rx : VR s.heap σ x a) (ri : VR s.heap σ i b) (rv : VR s.heap σ v u)
    (e : setop κ x i v H = some H') (h : ∀ s', Pst prog w base κ σ X s H' s' σ → Q () s') : wpAny (model prog w) A (setItem a b u) Q E s := by
  revert rx
  apply onRef_c e; intro n e rx
  refine bi_c e fun hκ e => bo_c e fun c hc e => ?_
  apply rx.ref_c; intro l ex
  cases c with
  | lst xs =>
    revert ri
    apply onInt_c e; intro k e ri
    refine bi_c e fun hb e => and_c hb fun h0 h1 => ?_
    obtain rfl := Option.some.inj e
    apply ri.int_c; intro t
    exact setl_ok R rv (not_any hκ) ex hc (of_decide_eq_true h0) (Nat.blt_eq.mp h1) h
  | dic es =>
    refine bo_c e fun k hk e => bi_c e fun hl e => ?_
    obtain rfl := Option.some.inj e
    exact setd_ok R rv (not_any hκ) ex hu hc ri hk (Nat.le_of_ble_eq_true hl) h

/-! ### slices -/
theorem adjust_to (a n : Nat) (ha : a ≤ n) : Builtin.Slice.sliceAdjust none (some (a : Int)) 1 (n : Int) = ((0 : Int), (a : Int)) := by
  unfold Builtin.Slice.sliceAdjust
  have h1 : ¬ ((1 : Int) < 0) := by omega
  have h2 : ¬ ((a : Int) < 0) := by omega
  simp only [h1, h2, if_false]
  congr 1
  omega
theorem places_to (a : Nat) : Builtin.Slice.slicePlaces (0 : Int) (a : Int) 1 = a := by
  unfold Builtin.Slice.slicePlaces
  have h1 : (1 : Int) > 0 := by omega
  simp only [h1, if_true, Int.ediv_one]
  split <;> omega
theorem sliceApplied_to {sl : Addr} {a n : Nat} {u : Tok} {Q : Int × Int × Nat → Shared → Prop} (hs : s.heap.IsSliceOf sl .none (.int a u) .none) (ha : a ≤ n) (h : Q ((0 : Int), 1, a) s) :
    wpAny (model prog w) A (Builtin.Slice.sliceApplied (.ref sl) (pure (n : Int))) Q E s := by
  obtain ⟨os, hos, hcs, hds⟩ := id hs
  unfold Builtin.Slice.sliceApplied Builtin.Slice.sliceFields
  refine wpAny_bind (wpAny_bind (wpAny_field hos hds (x := .none) rfl (wpAny_bind (wpAny_field hos hds (x := .int a u) rfl (wpAny_bind (wpAny_field hos hds (x := .none) rfl (wpAny_pure ?_)))))))
  refine wpAny_bind (slicePart_none ?_)
  show wpAny _ _ (if ((1 : Int) == 0) = true then _ else _) _ _ s
  rw [if_neg (by decide)]
  refine wpAny_bind (slicePart_none (wpAny_bind (slicePart_int (wpAny_bind (wpAny_pure ?_)))))
  show wpAny _ _ (match Builtin.Slice.sliceAdjust none (some (a : Int)) 1 (n : Int) with | (lo, hi) => pure (lo, (1 : Int), Builtin.Slice.slicePlaces lo hi 1)) _ _ s
  rw [adjust_to a n ha]
  show wpAny _ _ (pure ((0 : Int), (1 : Int), Builtin.Slice.slicePlaces (0 : Int) (a : Int) 1)) _ _ s
  rw [places_to a]
  exact wpAny_pure h
theorem pick_to (xs : Array Value) (a : Nat) : ((List.range a).filterMap fun (k : Nat) => xs[((0 : Int) + (k : Int) * 1).toNat]?).toArray = (xs.toList.take a).toArray := by
  have e : (fun (k : Nat) => xs[((0 : Int) + (k : Int) * 1).toNat]?) = fun k => xs[k]? := by
    funext k
    have : ((0 : Int) + (k : Int) * 1).toNat = k := by omega
    rw [this]
  rw [e]
  have := pick_run xs 0 a
  rw [List.filterMap_map] at this
  have e2 : ((fun x => xs[x]?) ∘ fun x => 0 + x) = fun k => xs[k]? := by funext k; simp
  rw [e2] at this
  rw [this, List.drop_zero]
theorem getItem_tuple_to {t sl : Addr} {items : Array Value} {a : Nat} {u : Tok} {Q : Value → Shared → Prop} (ht : IsTup s.heap t items) (hs : s.heap.IsSliceOf sl .none (.int a u) .none) (ha : a < items.size)
    (hsz : items.size ≤ sizeLine)
    (h : Q (.ref s.heap.objs.size) { s with heap := s.heap.push { cls := .type "tuple", data := .seq (items.toList.take a).toArray } }) : wpAny (model prog w) A (getItem (.ref t) (.ref sl)) Q E s := by
  have htake : sizeOk (.seq (items.toList.take a).toArray) := by
    show (items.toList.take a).toArray.size ≤ sizeLine
    rw [List.size_toArray, List.length_take, Array.length_toList]
    omega
  obtain ⟨os, hos, hcs, hds⟩ := id hs
  have hTs : s.TypeIs (.ref sl) "slice" := ⟨os, hos, hcs⟩
  unfold getItem
  try with_reducible refine wpAny_holding ?_
  first | refine wpAny_bind (wpAny_pure ?_) | skip
  refine wpAny_bind (wpAny_sequenceKey ht.typeIs (by decide) ?_)
  refine wpAny_bind (wpAny_callSpecial?_slot (name := Str.ofString "__getitem__") ht.typeIs slot_tuple_getitem
    (wpAny_call_entry slot_tuple_getitem ht.typeIs entry_tuple_getitem ?_ (args_tuple_getitem _ _)))
  show wpAny _ _ (Builtin.Tuple.tupleItemsOf (.ref t) >>= _) _ _ s
  refine wpAny_bind (tupleItemsOf_ ht ?_)
  refine wpAny_bind (wpAny_typeOf hTs ?_)
  rw [if_pos (by decide)]
  refine wpAny_bind (sliceApplied_to hs (Nat.le_of_lt ha) ?_)
  have hno : ¬ (((0 : Int) == 0 && (1 : Int) == 1 && a == items.size) = true) := by
    have : (a == items.size) = false := by rw [beq_eq_false_iff_ne]; omega
    rw [this]; simp
  show wpAny _ _ (if ((0 : Int) == 0 && (1 : Int) == 1 && a == items.size) = true then _ else _) _ _ s
  rw [if_neg hno, pick_to items a]
  first
    | exact wpAny_bind (m := Builtin.Tuple.tupleExact _) (wpAny_newObj_type (wpAny_pure ⟨_, rfl, wpAny_pure h⟩) htake)
    | exact wpAny_bind (m := Builtin.Tuple.tupleExact _) (wpAny_newObj_type (wpAny_bind (wpAny_pure (wpAny_pure ⟨_, rfl, wpAny_pure h⟩))) htake)
    | exact wpAny_bind (wpAny_bind (m := Builtin.Tuple.tupleExact _) (wpAny_newObj_type (wpAny_pure (wpAny_pure ⟨_, rfl, wpAny_pure h⟩)) htake))
    | exact wpAny_bind (wpAny_bind (m := Builtin.Tuple.tupleExact _) (wpAny_newObj_type (wpAny_pure ⟨_, rfl, wpAny_pure h⟩) htake))

end
end Mine
end

section
set_option maxRecDepth 100000
set_option linter.all false
namespace Mine
open PySem PySem.Calls PyProof.Rows

section
variable {prog : Program} {w : World} {base : Heap} {σ X : List Addr} {H H' : Hp} {κ : List Nat} {s : Shared} {A : Around} {E : Value → Shared → Prop}

noncomputable def slc (s : Shared) (l u : Value) : Shared := { s with heap := s.heap.push { cls := .type "slice", data := .fields #[l, u, .none] } }
theorem slc_to {t : Tok} {a : Value} {x v : V} {Q : Value → Shared → Prop} (hsys : ∃ o, base.get? sysModules = some o) {m : Nat} (P : Pst prog w base κ σ X s H (slc s .none (.int m t)) σ) (hsl : (slc s .none (.int m t)).heap.IsSliceOf s.heap.objs.size .none (.int m t) .none) (rx : VR s.heap σ x a) (e : slTo x m H = some (v, H'))
    (h : Out prog w base κ σ X s Q v H') : ∃ T id, (slc s .none (.int m t)).TypeIs a T ∧ typeLookup (.type T) "__getitem__" = pure (some (.builtin id)) ∧ wpAny (model prog w) A (getItem a (.ref s.heap.objs.size)) Q E (slc s .none (.int m t)) := by
  revert rx
  apply onSeq_c e
  · intro xs e rx
    refine bi_c e fun hc e => ?_
    obtain ⟨rfl, rfl⟩ := i2 e
    apply (P.vr rx).tup_c; intro a1 ws tt l r
    have hc := Nat.blt_eq.mp hc
    rw [r.length] at hc
    exact ⟨"tuple", _, IsTup.typeIs tt, PySem.F.slot_tuple_getitem.lookup, getItem_tuple_to (a := m) tt hsl (by rw [List.size_toArray]; exact hc) (by rw [List.size_toArray]; exact l)
      (h _ σ _ (P.trans (P.rel.alloc _ _)) (.tup plain_tup (by rw [List.length_take]; exact Nat.le_trans (Nat.min_le_right _ _) l) (((P.rel.alloc (κ := κ) (X := X) _ (slc s .none (.int m t)).toks).vrs r).take _)))⟩
  · intro n e rx
    refine bo_c e fun xs hn e => ?_
    obtain ⟨rfl, rfl⟩ := i2 e
    apply rx.ref_c; intro a1 ex
    obtain ⟨ws, n1, g1, l1, r1⟩ := P.rel.cell _ _ _ ex (lstAt_eq hn)
    refine ⟨"list", _, ⟨_, g1, rfl⟩, slot_list_getitem.lookup, wpAny_getItem_list_slice ⟨_, g1, rfl, _, rfl⟩ hsl .none (.int _ _) .none (by simp) ?_ (by rw [List.size_toArray]; exact Nat.le_trans l1 (by decide))⟩
    rw [show slicePick ws.toArray none (some (m : Int)) none = (ws.take m).toArray from by rw [slicePick_upto']]
    exact h _ _ _ (P.trans (new_lst (κ := κ) (X := X) P.rel hsys (xs := xs.take m) (ws := ws.take m) (by rw [List.length_take]; exact Nat.le_trans (Nat.min_le_right _ _) l1) (r1.take _) (slc s .none (.int m t)).toks)) (vr_last P.rel.len)
theorem slTo_ok {x v : V} {k : Int} {t : Tok} {a : Value} {Q : Value → Shared → Prop} (hsys : ∃ o, base.get? sysModules = some o) (R : Rel prog w base s.heap σ H) (rx : VR s.heap σ x a) (e : slTo x k.toNat H = some (v, H')) (h0 : 0 ≤ k)
    (h : Out prog w base κ σ X s Q v H') :
    ∃ T id, (slc s .none (.int k t)).TypeIs a T ∧ typeLookup (.type T) "__getitem__" = pure (some (.builtin id)) ∧ wpAny (model prog w) A (getItem a (.ref s.heap.objs.size)) Q E (slc s .none (.int k t)) := by
  obtain ⟨m, rfl⟩ := Int.eq_ofNat_of_zero_le h0
  exact slc_to hsys (R.alloc _ s.toks) (Heap.IsSliceOf.new ..) rx e h
theorem slFrom_ok {x v : V} {k : Int} {t : Tok} {a : Value} {Q : Value → Shared → Prop} (hsys : ∃ o, base.get? sysModules = some o) (R : Rel prog w base s.heap σ H) (rx : VR s.heap σ x a) (e : slFrom x k.toNat H = some (v, H')) (h0 : 0 ≤ k)
    (h : Out prog w base κ σ X s Q v H') :
    ∃ T id, (slc s (.int k t) .none).TypeIs a T ∧ typeLookup (.type T) "__getitem__" = pure (some (.builtin id)) ∧ wpAny (model prog w) A (getItem a (.ref s.heap.objs.size)) Q E (slc s (.int k t) .none) := by
  obtain ⟨m, rfl⟩ := Int.eq_ofNat_of_zero_le h0
  have P : Pst prog w base κ σ X s H (slc s (.int m t) .none) σ := R.alloc _ s.toks
  have hsl : (slc s (.int m t) .none).heap.IsSliceOf s.heap.objs.size (.int m t) .none .none := Heap.IsSliceOf.new ..
  revert rx
  apply onSeq_c e _ fun _ e => (nS e).elim
  intro xs e rx
  refine bi_c e fun hc e => and_c hc fun h1 h2 => ?_
  obtain ⟨rfl, rfl⟩ := i2 e
  apply (P.vr rx).tup_c; intro a1 ws tt l r
  have h2 := Nat.le_of_ble_eq_true h2
  rw [r.length] at h2
  exact ⟨"tuple", _, IsTup.typeIs tt, PySem.F.slot_tuple_getitem.lookup, getItem_tuple_from (a := m) tt hsl (Nat.blt_eq.mp h1) (by rw [List.size_toArray]; exact h2)
    (h _ σ _ (P.trans (P.rel.alloc _ _)) (.tup plain_tup (by rw [List.toList_toArray, List.length_drop]; exact Nat.le_trans (Nat.sub_le _ _) l) (((P.rel.alloc (κ := κ) (X := X) _ (slc s (.int m t) .none).toks).vrs r).drop _))) (by rw [List.size_toArray]; exact l)⟩
end
end Mine
end

section
/-! Hashes of small keys; dict(d); d.pop(k, None). -/
set_option maxRecDepth 100000
set_option linter.all false
namespace Mine
open PySem PySem.Calls PyProof.Rows

noncomputable def box : List (List Int) := (List.range 3).flatMap fun (a : Nat) => (List.range 12).flatMap fun (b : Nat) => (List.range 7).map fun (c : Nat) => [(a : Int), (b : Int), (c : Int)]
noncomputable def khash (k : List Int) : Int := reduceHash (Builtin.Tuple.tupleHashOf (k.map hashInt))
noncomputable def nodupB : List Int → Bool
  | [] => true
  | h :: t => (t.all fun x => !decide (x = h)) && nodupB t
theorem hashes_differ : nodupB (box.map khash) = true := by decide +kernel
theorem nodupB_ok {l : List (List Int)} (h : nodupB (l.map khash) = true) : ∀ x ∈ l, ∀ y ∈ l, khash x = khash y → x = y := by
  induction l with
  | nil => intro x hx; cases hx
  | cons a l ih =>
    refine and_c h fun h1 h2 => ?_
    have h1 : ∀ y ∈ l, khash y ≠ khash a := fun y hy => not_dec (List.all_eq_true.mp h1 _ (List.mem_map.mpr ⟨y, hy, rfl⟩))
    intro x hx y hy e
    rcases List.mem_cons.mp hx with e1 | hx' <;> rcases List.mem_cons.mp hy with e2 | hy'
    · rw [e1, e2]
    · rw [e1] at e; exact absurd e.symm (h1 _ hy')
    · rw [e2] at e; exact absurd e (h1 _ hx')
    · exact ih h2 x hx' y hy' e
theorem bnd_ok {n : Nat} {i : Int} (h : bnd n i = true) : ∃ m : Nat, m < n ∧ i = m := and_c h fun h1 h2 => ⟨i.toNat, Nat.blt_eq.mp h2, (Int.toNat_of_nonneg (of_decide_eq_true h1)).symm⟩
theorem getD_c {o : Option Bool} {G : Prop} (h : o.getD false = true) (k : o = some true → G) : G := by
  cases o with
  | none => cases h
  | some b => exact k (congrArg some h)
theorem boxK_ok {k : List Int} (h : boxK k = true) : ∃ a b c : Nat, a < 3 ∧ b < 12 ∧ c < 7 ∧ k = [(a : Int), (b : Int), (c : Int)] := by
  cases k with
  | nil => cases h
  | cons i r =>
    refine getD_c h fun h => bo_c h fun t h1 h => ?_
    refine and_c (Option.some.inj h) fun h2 h => and_c h fun h3 h4 => ?_
    obtain ⟨a, ha, e1⟩ := bnd_ok h2
    obtain ⟨b, hb, e2⟩ := bnd_ok h3
    obtain ⟨c, hc, e3⟩ := bnd_ok h4
    exact ⟨a, b, c, ha, hb, hc, by rw [two_eq h1, e1, e2, e3]⟩
theorem boxed_ok {es : List (List Int × V)} (h : boxed es = true) : ∀ e ∈ es, e.1 ∈ box := fun e he => by
  obtain ⟨a, b, c, ha, hb, hc, q⟩ := boxK_ok (List.all_eq_true.mp h e he)
  rw [q]
  exact List.mem_flatMap.mpr ⟨a, List.mem_range.mpr ha, List.mem_flatMap.mpr ⟨b, List.mem_range.mpr hb, List.mem_map.mpr ⟨c, List.mem_range.mpr hc, rfl⟩⟩⟩

section
variable {prog : Program} {w : World} {base : Heap} {σ X : List Addr} {H H' : Hp} {κ : List Nat} {s : Shared} {A : Around} {E : Value → Shared → Prop}

theorem TK_hash (k : List Int) : (TK prog w).hash k = khash k := rfl

theorem filter_le_one {α β : Type} {p : α → Bool} {l : List α} (f : α → β) (hn : (l.map f).Nodup) (h : ∀ x ∈ l, ∀ y ∈ l, p x = true → p y = true → f x = f y) : (l.filter p).length ≤ 1 := by
  induction l with
  | nil => exact Nat.zero_le _
  | cons a l ih =>
    have hn := List.nodup_cons.mp hn
    cases ha : p a with
    | true =>
      rw [List.filter_cons_of_pos ha, List.filter_eq_nil_iff.mpr fun y hy hp => hn.1 (List.mem_map.mpr ⟨y, hy, (h a (List.mem_cons_self) y (List.mem_cons_of_mem _ hy) ha hp).symm⟩)]
      exact Nat.le_refl _
    | false =>
      rw [List.filter_cons_of_neg (by rw [ha]; exact Bool.false_ne_true)]
      exact ih hn.2 fun x hx y hy => h x (List.mem_cons_of_mem _ hx) y (List.mem_cons_of_mem _ hy)

theorem entriesForEmptyH {id : String} {d : Addr} {o : Obj} {es ep} {ys : List (List Int × Addr × Value)} {Q : Array DictEntry → Shared → Prop} (ho : s.heap.get? d = some o) (hd : o.data = .dict es ep)
    (he : es.toList = ys.map (entryOfKey (TK prog w))) (his : ∀ x ∈ ys, (TK prog w).is s.heap x.1 x.2.1) (hn : (ys.map (·.1)).Nodup) (hb : ∀ x ∈ ys, x.1 ∈ box) (h : Q es s) :
    wpAny (model prog w) A (Builtin.Dict.entriesForEmpty id d) Q E s := by
  unfold Builtin.Dict.entriesForEmpty
  refine wpAny_bind (wpAny_dictEntries ho hd ?_)
  refine wpAny_bind ?_
  rw [← Array.forIn_toList]
  refine wpAny_forIn_list _ (fun rest r s' => s' = s ∧ ∀ e ∈ rest, e ∈ es.toList) _ ?_ ?_ _ _ ⟨rfl, fun e he => he⟩
  · rintro x rest r s' ⟨rfl, hr⟩
    have hx := hr x List.mem_cons_self
    have hx0 := hx
    rw [he] at hx
    obtain ⟨y, hy, rfl⟩ := List.mem_map.mp hx
    have hkey := his y hy
    have hT : s'.TypeIs (.ref y.2.1) "tuple" := IsTupleKey.typeIs hkey
    have hone : ¬ (es.filter (fun z => z.hash == (entryOfKey (TK prog w) y).hash)).size > 1 := by
      have e1 : (es.filter (fun z => z.hash == (entryOfKey (TK prog w) y).hash)).size = (es.toList.filter (fun z => z.hash == (entryOfKey (TK prog w) y).hash)).length := by
        rw [← Array.length_toList, Array.toList_filter]
      rw [e1, he, List.filter_map, List.length_map]
      refine Nat.not_lt.mpr (filter_le_one (·.1) hn fun a ha b hb' pa pb => ?_)
      simp only [Function.comp, entryOfKey, beq_iff_eq] at pa pb
      exact nodupB_ok hashes_differ _ (hb a ha) _ (hb b hb') (by rw [← TK_hash (prog := prog) (w := w), ← TK_hash (prog := prog) (w := w), pa, pb])
    show wpAny _ _ (Builtin.Dict.quietEq (.ref y.2.1) >>= _) _ _ _
    unfold Builtin.Dict.quietEq
    dsimp only
    refine wpAny_bind (wpAny_bind (wpAny_specialOf hT F.slot_tuple_eq.lookup (wpAny_pure ?_)))
    rw [show (some (Value.builtin "tuple.__eq__") == some (Value.builtin "object.__eq__")) = false by decide]
    rw [if_pos (by decide), if_neg hone]
    exact wpAny_pure ⟨rfl, fun e he => hr e (List.mem_cons_of_mem _ he)⟩
  · rintro r s' ⟨rfl, _⟩
    exact wpAny_pure h

theorem dictOfH_mono {h h' : Heap} {a : Addr} {ys : List (List Int × Addr × Value)} (D : h.DictOfH (TK prog w) a ys) (ha : ∀ o, h.get? a = some o → h'.get? a = some o) (ht : ∀ a items, h.IsTuple a items → h'.IsTuple a items) : h'.DictOfH (TK prog w) a ys := by
  obtain ⟨x, es', ep, hx, h1, h2, h3, h4, h5⟩ := D
  refine ⟨x, es', ep, ha _ hx, h1, h2, h3, fun y hy => ?_, h5⟩
  obtain ⟨ox, items, m, ho, hc, hd, hi⟩ := h4 y hy
  obtain ⟨ox', ho', hc', m', hd'⟩ := ht y.2.1 items ⟨ox, ho, hc, m, hd⟩
  exact ⟨ox', items, m', ho', hc', hd', hi⟩

theorem mergeDictH {nm : String} {d o : Addr} {ys : List (List Int × Addr × Value)} {Q : Unit → Shared → Prop} (hdo : d ≠ o) (hoS : (o == sysModules) = false)
    (hd : s.heap.get? d = some { cls := .type "dict", data := .dict #[] }) (ho : s.heap.DictOfH (TK prog w) o ys) (hsz : ys.length ≤ sizeLine) (hb : ∀ x ∈ ys, x.1 ∈ box)
    (hQ : ∀ h', h'.DictOfH (TK prog w) d ys → Heap.SameBut d s.heap h' → Q () { s with heap := h' }) :
    wpAny (model prog w) A (Builtin.Dict.mergeDict nm d o) Q E s := by
  obtain ⟨oo, eso, epo, hoo, hco, hdo', heo, hio, hno⟩ := id ho
  have hlen := size_of_entries heo
  unfold Builtin.Dict.mergeDict
  rw [if_neg (by simpa using hdo)]
  unfold Builtin.Dict.showsAll
  rw [if_neg (by rw [hoS]; exact Bool.false_ne_true)]
  refine wpAny_bind (wpAny_pure ?_)
  refine wpAny_bind (wpAny_dictEntries hoo hdo' ?_)
  cases ys with
  | nil =>
    have e0 : eso = #[] := Array.toList_eq_nil_iff.mp heo
    subst e0
    dsimp only
    rw [if_neg (by simp)]
    refine wpAny_bind (wpAny_dictEpoch hoo hdo' ?_)
    refine wpAny_bind (wpAny_dictEntries hoo hdo' ?_)
    refine wpAny_bind ?_
    rw [Std.Legacy.Range.forIn_eq_forIn_range']
    simp only [Std.Legacy.Range.size, List.size_toArray, List.length_nil, Nat.sub_zero, Nat.add_sub_cancel, Nat.div_one, List.range'_zero, List.forIn_nil]
    refine wpAny_pure (wpAny_pure (hQ s.heap ⟨_, #[], 0, hd, ⟨rfl, rfl, rfl⟩, rfl, rfl, fun x hx => absurd hx (by simp), by simp⟩ (Heap.SameBut.refl _ _)))
  | cons y ys =>
    obtain ⟨l⟩ := eso
    have heo' : l = (y :: ys).map (entryOfKey (TK prog w)) := heo
    subst heo'
    dsimp only
    rw [if_pos (by simp [entryOfKey, keyPart])]
    refine wpAny_bind (wpAny_dictEntries hd rfl ?_)
    rw [if_pos (by rfl)]
    refine wpAny_bind (entriesForEmptyH hoo hdo' heo hio hno hb ?_)
    rw [if_pos (by simp)]
    refine wpAny_bind (wpAny_updateDictKeysTo hd rfl (wpAny_pure (hQ _ ?_ (Heap.SameBut.update ..))) (by simp at hsz ⊢; omega))
    have hg : (s.heap.update d (Obj.mapDictKeys fun _ => ((y :: ys).map (entryOfKey (TK prog w))).toArray)).get? d = some { cls := .type "dict", data := .dict ((y :: ys).map (entryOfKey (TK prog w))).toArray 1 } := by
      rw [Heap.get?_update_self _ hd (by rfl)]; rfl
    refine ⟨_, _, _, hg, ⟨rfl, rfl, rfl⟩, rfl, rfl, fun x hx => (TK prog w).keeps (hio x hx) hd rfl (Heap.SameBut.update ..), hno⟩
theorem dict_ofP {o : Addr} {ys : List (List Int × Addr × Value)} {Q : Value → Shared → Prop} (hoS : (o == sysModules) = false) (ho : s.heap.DictOfH (TK prog w) o ys) (hsz : ys.length ≤ sizeLine) (hb : ∀ x ∈ ys, x.1 ∈ box)
    (h : ∀ h', h'.DictOfH (TK prog w) s.heap.objs.size ys → Heap.SameBut s.heap.objs.size (s.heap.push { cls := .type "dict", data := .dict #[] }) h' → Q (.ref s.heap.objs.size) { s with heap := h' }) :
    wpAny (model prog w) A (call (.type "dict") [.ref o]) Q E s := by
  refine callType_codes (Q₁ := fun obj s₁ => obj = .ref s.heap.objs.size ∧ s₁ = { s with heap := s.heap.push { cls := .type "dict", data := .dict #[] } }) F.kt_called_dict (F.kt_typeCall_dict_1 _) F.entry_dict_init (kt_code_dict_new _ ⟨rfl, rfl⟩) ?_
  rintro obj s₁ ⟨rfl, rfl⟩
  have hnew : (s.heap.push { cls := .type "dict", data := .dict #[] }).get? s.heap.objs.size = some { cls := .type "dict", data := .dict #[] } := Heap.get?_push_size _ rfl
  have hT : Shared.TypeIs { s with heap := s.heap.push { cls := .type "dict", data := .dict #[] } } (.ref s.heap.objs.size) "dict" := ⟨_, hnew, rfl⟩
  have ho' : (s.heap.push { cls := .type "dict", data := .dict #[] }).DictOfH (TK prog w) o ys := dictOfH_mono ho (fun o e => Heap.get?_push_of_some _ e) fun a items t => IsTuple.mono t fun o e => Heap.get?_push_of_some _ e
  have hdo : s.heap.objs.size ≠ o := by
    obtain ⟨_, _, _, hg, _⟩ := ho
    exact fun e => absurd (Heap.lt_size hg) (by rw [e]; exact Nat.lt_irrefl _)
  refine ⟨hT, F.args_dict_init_2 _ _, ?_⟩
  unfold Builtin.«dict.__init__»
  refine wpAny_bind ?_
  unfold Builtin.Dict.selfAndRest
  refine wpAny_bind (wpAny_notOrdered_dict hT ?_)
  show wpAny _ _ (pure (s.heap.objs.size, [Value.ref o])) _ _ _
  refine wpAny_pure ?_
  show wpAny _ _ (Builtin.Dict.updateFrom "dict.__init__" s.heap.objs.size (.ref o) [] .none) _ _ _
  unfold Builtin.Dict.updateFrom
  refine wpAny_bind (wpAny_typeOf ho'.typeIs ?_)
  rw [if_neg (by decide)]
  refine wpAny_bind ?_
  unfold Builtin.Dict.merge
  refine wpAny_bind ?_
  unfold Builtin.Dict.readDirectly
  refine wpAny_bind (wpAny_isInstance ho'.typeIs isSubtype_dict_dict ?_)
  simp only [Bool.not_true, Bool.false_eq_true, if_false]
  refine wpAny_bind (wpAny_specialOf ho'.typeIs F.slot_dict_iter.lookup (wpAny_pure ?_))
  simp only [beq_self_eq_true, if_true]
  refine wpAny_bind (wpAny_pure ?_)
  refine mergeDictH hdo hoS hnew ho' hsz hb fun h' hd' hs' => ?_
  show wpAny _ _ (Builtin.Dict.addKeywords s.heap.objs.size [] >>= _) _ _ _
  exact wpAny_bind (wpAny_pure (wpAny_pure ⟨rfl, h h' hd' hs'⟩))

/-! ### pop -/
theorem DRs.erase {h : Heap} {es : List (List Int × V)} {ys : List (List Int × Addr × Value)} (d : DRs h σ es ys) (n : Nat) : DRs h σ (es.eraseIdx n) (ys.eraseIdx n) := by
  induction d generalizing n with
  | nil => exact .nil
  | cons a _ ih =>
    cases n with
    | zero => assumption
    | succ n => exact .cons a (ih n)
theorem ddel_hit {k : List Int} {x : V} {r : List (List Int × V)} : ddel ((k, x) :: r) k = r := by show (bif intsEq k k then _ else _) = _; rw [intsEq_self]; rfl
theorem ddel_miss {q k : List Int} {x : V} {r : List (List Int × V)} (h : intsEq q k = false) : ddel ((q, x) :: r) k = (q, x) :: ddel r k := by show (bif intsEq q k then _ else _) = _; rw [h]; rfl
theorem ddel_at {es : List (List Int × V)} (hn : (es.map (·.1)).Nodup) {k : List Int} {x : V} : ∀ {n : Nat}, es[n]? = some (k, x) → ddel es k = es.eraseIdx n := by
  induction es with
  | nil => intro n h; cases h
  | cons p r ih =>
    intro n e
    have hn := List.nodup_cons.mp hn
    cases n with
    | zero => obtain rfl := at0 e; exact ddel_hit
    | succ n =>
      rw [List.eraseIdx_cons_succ, ← ih hn.2 e]
      exact ddel_miss (intsEq_ne fun h => hn.1 (List.mem_map.mpr ⟨_, List.mem_of_getElem? (i := n) e, h.symm⟩))
theorem ddel_none {es : List (List Int × V)} {k : List Int} (e : dget es k = none) : ddel es k = es := by
  induction es with
  | nil => rfl
  | cons p r ih =>
    cases h : intsEq p.1 k with
    | true => obtain rfl := intsEq_eq h; rw [dget_hit] at e; cases e
    | false => rw [ddel_miss h, ih ((dget_miss h).symm.trans e)]

theorem map_erase {α β : Type} (f : α → β) : ∀ (l : List α) (n : Nat), (l.eraseIdx n).map f = (l.map f).eraseIdx n
  | [], _ => rfl
  | _ :: _, 0 => rfl
  | a :: l, n + 1 => by simp only [List.eraseIdx_cons_succ, List.map_cons, map_erase f l n]

theorem pop_ok {d : Addr} {ka : Addr} {k : List Int} {es : List (List Int × V)} {n : Nat} {Q : Value → Shared → Prop} (hu : A.units + 2 < cLine) (R : Rel prog w base s.heap σ H) (ex : σ[n]? = some d) (hκ : n ∉ κ) (hn : Hp.get H n = some (.dic es))
    (hk : (TK prog w).is s.heap k ka) (h : ∀ s' v, Pst prog w base κ σ X s (Hp.put H n (.dic (ddel es k))) s' σ → Q v s') :
    wpAny (model prog w) A (call (.builtin "dict.pop") [.ref d, .ref ka, .none]) Q E s := by
  obtain ⟨ys, hD, l1, r1⟩ := R.cell _ _ _ ex hn
  have hmem := List.mem_of_getElem? ex
  have hsys := (R.new _ hmem).2
  obtain ⟨o, ea, ep, ho, hc, hd, he, his, hnd⟩ := id hD
  have hnd' : (es.map (·.1)).Nodup := by rw [r1.keys]; exact hnd
  have hlen := size_of_entries he
  refine wpAny_call_entry F.slot_dict_pop hD.typeIs F.entry_dict_pop ?_ (F.args_dict_pop_3 _ _ _)
  show wpAny _ _ (Builtin.Dict.keyAndDefault "pop" ⟨[.ref d, .ref ka, .none], []⟩ >>= _) _ _ s
  refine wpAny_bind ?_
  unfold Builtin.Dict.keyAndDefault
  refine wpAny_bind (wpAny_notOrdered_dict hD.typeIs ?_)
  show wpAny _ _ (pure (d, Value.ref ka, some Value.none)) _ _ s
  refine wpAny_pure ?_
  show wpAny _ _ (dictEntries d >>= _) _ _ s
  refine wpAny_bind (wpAny_dictEntries ho hd (wpAny_bind (wpAny_pure ?_)))
  have fin : ∀ (s₁ : Shared), (∀ v, Q v s₁) → wpAny (model prog w) A.in1 (do
      if (Option.none : Option DictEntry).isNone = true then Builtin.Dict.missedRemoval d (.ref ka)
      rule "dict.pop.default"
      ret Value.none) (fun fin s' => ∃ v, fin = Fin.done (Flow.ret v) ∧ Q v s') E s₁ := fun s₁ hq => by
    rw [if_pos (by rfl)]
    unfold Builtin.Dict.missedRemoval
    rw [if_neg (by rw [hsys]; exact Bool.false_ne_true)]
    exact wpAny_bind (wpAny_pure (wpAny_bind (wpAny_rule (wpAny_pure ⟨_, rfl, hq _⟩))))
  show wpAny _ _ (if ea.isEmpty = true then _ else _) _ _ _
  by_cases hem : ea.isEmpty = true
  · rw [if_pos hem]
    have e0 : es = [] := by
      have : ea.size = 0 := by simpa using hem
      have := r1.length
      exact List.length_eq_zero_iff.mp (by omega)
    subst e0
    refine wpAny_bind (wpAny_rule (wpAny_bind (wpAny_pure ?_)))
    have hput : Pst prog w base κ σ X s (Hp.put H n (.dic (ddel [] k))) s σ := Rel.turn R ex hκ (Heap.SameBut.refl _ _) ⟨_, _, rfl⟩ ⟨ys, hD, l1, r1⟩
    exact fin s fun v => h _ v hput
  · rw [if_neg hem]
    refine wpAny_bind ?_
    unfold Builtin.Dict.takeOut
    try with_reducible refine wpAny_holding ?_
    refine wpAny_bind ((TK prog w).pyHash (show A.units + 1 < cLine by omega) hk ?_)
    refine wpAny_bind (wpAny_dictFind_heap (s := { s with toks := s.toks + (TK prog w).draws k }) (show A.units + 1 < cLine by omega) hk ho hd he his hnd (fun hno => ?_) (fun j p hj => ?_))
    · refine wpAny_pure ?_
      have hnone : dget es k = none := r1.no hnd (atKey_none_of_get hno)
      have hput : Pst prog w base κ σ X s (Hp.put H n (.dic (ddel es k))) { s with toks := s.toks + (TK prog w).draws k } σ := by
        rw [ddel_none hnone]
        exact Rel.turn R ex hκ (Heap.SameBut.refl _ _) ⟨s.heap, _, rfl⟩ ⟨ys, hD, l1, r1⟩
      exact fin _ fun v => h _ v hput
    · obtain ⟨pa, pv⟩ := p
      refine wpAny_bind (wpAny_dictEntries (s := { s with toks := s.toks + (TK prog w).draws k }) ho hd ?_)
      rw [entry_at he j, hj]
      refine wpAny_bind (wpAny_updateDictKeys (hz := by omega) (hf := by obtain ⟨l⟩ := ea; simp only [List.eraseIdxIfInBounds_toArray, List.size_toArray]; exact Nat.le_succ_of_le (List.length_eraseIdx_le _ _)) (s := { s with toks := s.toks + (TK prog w).draws k }) ho hd (wpAny_pure ?_))
      obtain ⟨x, hx, rx⟩ := r1.got hj
      refine wpAny_bind (wpAny_letGo (wpAny_pure ⟨_, rfl, h _ _ ?_⟩))
      have hs := Heap.SameBut.update s.heap d (Obj.mapDictKeys (·.eraseIdxIfInBounds j))
      have hin : ((ys.eraseIdx j).map (·.1)).Nodup := by
        rw [map_erase]
        exact hnd.eraseIdx _
      have P := Rel.turn (X := X) (κ := κ) (s' := { s with heap := s.heap.update d (Obj.mapDictKeys (·.eraseIdxIfInBounds j)), toks := s.toks + (TK prog w).draws k }) (c := .dic (ddel es k)) R ex hκ hs ⟨_, _, rfl⟩
      have ht : ∀ b items, s.heap.IsTuple b items → (s.heap.update d (Obj.mapDictKeys (·.eraseIdxIfInBounds j))).IsTuple b items := fun b items t => IsTuple.mono t fun o e => (hs.2 b fun q => R.tup_out t (q ▸ hmem)).trans e
      refine P ⟨ys.eraseIdx j, ⟨_, _, ep + 1, Heap.get?_update_self _ ho (Obj.isFreed_of_dict (Obj.data_mapDictKeys hd _)), hc.mapDictKeys _, Obj.data_mapDictKeys hd _, ?_, fun x hx => (TK prog w).keeps (his x (List.mem_of_mem_eraseIdx hx)) ho hd hs, hin⟩, ?_, ?_⟩
      · obtain ⟨l⟩ := ea
        have he' : l = ys.map (entryOfKey (TK prog w)) := he
        subst he'
        simp only [List.eraseIdxIfInBounds_toArray, map_erase]
      · exact Nat.le_trans (List.length_eraseIdx_le _ _) l1
      · rw [ddel_at hnd' hx]
        exact (r1.mono ht fun _ _ e => e).erase j
end
end Mine
end

section
/-! Built-in functions. -/
set_option maxRecDepth 100000
set_option linter.all false
namespace Mine
open PySem PySem.Calls PyProof.Rows

noncomputable def biVal : Bi → Value
  | .abs => .builtin "abs" | .len => .builtin "len" | .max => .builtin "max" | .int => .type "int" | .tuple => .type "tuple" | .list => .type "list" | .dict => .type "dict" | .sum => .builtin "sum"
theorem boot_bi (b : Bi) : bootBuiltins (biNm b) = some (biVal b) := by cases b <;> decide +kernel

section
variable {prog : Program} {w : World} {base : Heap} {σ X : List Addr} {H H' : Hp} {κ : List Nat} {s : Shared} {A : Around} {E : Value → Shared → Prop}

theorem VRs.two_c {h : Heap} {x y : V} {v : List Value} {M : List Value → Prop} (r : VRs h σ [x, y] v) (k : ∀ a b, VR h σ x a → VR h σ y b → M [a, b]) : M v := by
  apply r.cons_c; intro a us ra rs
  apply rs.one_c (M := fun us => M (a :: us)); intro b rb
  exact k a b ra rb

theorem VRs.one {h : Heap} {x : V} {ws : List Value} (r : VRs h σ [x] ws) : ∃ w, ws = [w] ∧ VR h σ x w := r.one_c (M := fun ws => ∃ w, ws = [w] ∧ VR h σ x w) fun u h => ⟨u, rfl, h⟩
theorem VRs.two {h : Heap} {x y : V} {ws : List Value} (r : VRs h σ [x, y] ws) : ∃ u v, ws = [u, v] ∧ VR h σ x u ∧ VR h σ y v := r.two_c (M := fun ws => ∃ u v, ws = [u, v] ∧ VR h σ x u ∧ VR h σ y v) fun u v h h' => ⟨u, v, rfl, h, h'⟩
theorem preSum_list : ∀ (is : List Int) (n : Nat), n ≤ is.length → preSum (fun i => is.getD i 0) n = (is.take n).sum := by
  intro is n
  induction n with
  | zero => intro _; simp [preSum]
  | succ n ih =>
    intro h
    have h' : n < is.length := h
    rw [preSum, ih (Nat.le_of_succ_le h), List.take_succ_eq_append_getElem h', List.sum_append]
    simp [List.getD, h']

theorem intsAre_get {ws : List Value} {is : List Int} (h : IntsAre ws is) : ∀ {i : Nat} {v : Value}, ws[i]? = some v → ∃ t, v = .int (is.getD i 0) t := by
  induction h with
  | nil => intro i v h; simp at h
  | cons n t h1 ih =>
    intro i v hv
    cases i with
    | zero => simp only [List.getElem?_cons_zero, Option.some.injEq] at hv; exact ⟨_, hv.symm⟩
    | succ i => simp only [List.getElem?_cons_succ] at hv; simpa using ih hv

section
variable {b : Bi} {vs : List V} {v : V} {as : List Value} {Q : Value → Shared → Prop} (R : Rel prog w base s.heap σ H) (rs : VRs s.heap σ vs as)
include R rs
theorem lst1_c {f : List V → Option (V × Hp)} {M : List Value → Prop} (e : lst1 vs H f = some (v, H')) (k : ∀ a xs ws n, f xs = some (v, H') → s.heap.get? a = some { cls := .type "list", data := .seq ws.toArray n } → ws.length ≤ sizeLine → VRs s.heap σ xs ws → M [.ref a]) : M as := by
  refine bo_c e fun x h1 e => ?_
  rw [one_eq h1] at rs
  apply rs.one_c; intro a ra
  revert ra; apply onRef_c e; intro n e ra
  refine bo_c e fun xs h2 e => ?_
  apply ra.ref_c; intro l ex
  obtain ⟨ws, n1, o1, l1, r1⟩ := R.cell _ _ _ ex (lstAt_eq h2)
  exact k l xs ws n1 e o1 l1 r1
theorem abs_ok (e : (bo (one vs) fun v => onInt v fun i => some (V.int (if i < 0 then -i else i), H)) = some (v, H')) (h : Out prog w base κ σ X s Q v H') : wpAny (model prog w) A (call (.builtin "abs") as) Q E s := by
  refine bo_c e fun x h1 e => ?_
  rw [one_eq h1] at rs
  apply rs.one_c; intro a ra
  revert ra; apply onInt_c e; intro i e ra
  obtain ⟨rfl, rfl⟩ := i2 e
  apply ra.int_c; intro t
  exact call_abs_int fun u tk => h _ _ _ (Pst.fresh R tk) (.int _ _)
theorem biint_ok (e : (bo (one vs) fun v => onInt v fun i => some (V.int i, H)) = some (v, H')) (h : Out prog w base κ σ X s Q v H') : wpAny (model prog w) A (call (.type "int") as) Q E s := by
  refine bo_c e fun x h1 e => ?_
  rw [one_eq h1] at rs
  apply rs.one_c; intro a ra
  revert ra; apply onInt_c e; intro i e ra
  obtain ⟨rfl, rfl⟩ := i2 e
  apply ra.int_c; intro t
  exact call_int_int (h _ _ _ (Pst.refl R) (.int _ _))
theorem max_ok (hh : A.handled = none) (e : (bo (two vs) fun t => onInt t.1 fun a => onInt t.2 fun b => some (V.int (if a < b then b else a), H)) = some (v, H')) (h : Out prog w base κ σ X s Q v H') : wpAny (model prog w) A (call (.builtin "max") as) Q E s := by
  refine bo_c e fun x h1 e => ?_
  obtain ⟨x1, x2⟩ := x
  rw [two_eq h1] at rs
  dsimp only at e rs
  apply rs.two_c; intro a b ra rb
  revert ra; apply onInt_c e; intro i e ra
  revert rb; apply onInt_c e; intro j e rb
  obtain ⟨rfl, rfl⟩ := i2 e
  apply ra.int_c; intro t; apply rb.int_c; intro u
  refine max_two_ints hh fun h' tk hk => h _ σ _ (R.keeps (s' := { s with heap := h', toks := tk }) hk ⟨_, _, rfl⟩) ?_
  split <;> exact .int _ _
theorem len_ok (e : (lst1 vs H fun xs => some (V.int xs.length, H)) = some (v, H')) (h : Out prog w base κ σ X s Q v H') : wpAny (model prog w) A (call (.builtin "len") as) Q E s := by
  apply lst1_c R rs e; intro a xs ws n e o1 l1 r1
  obtain ⟨rfl, rfl⟩ := i2 e
  refine call_len_list ⟨_, o1, rfl, _, rfl⟩ (by rw [List.size_toArray]; exact Int.lt_of_le_of_lt (Int.ofNat_le.mpr l1) (by decide)) (h _ _ _ (Pst.fresh R _) ?_)
  rw [List.size_toArray, ← r1.length]; exact .int _ _
theorem tuple_ok (e : (lst1 vs H fun xs => some (V.tup xs, H)) = some (v, H')) (h : Out prog w base κ σ X s Q v H') : wpAny (model prog w) A (call (.type "tuple") as) Q E s := by
  apply lst1_c R rs e; intro a xs ws n e o1 l1 r1
  obtain ⟨rfl, rfl⟩ := i2 e
  refine call_tuple_list ⟨_, o1, rfl, _, rfl⟩ (fun h' hk => ?_) (by rw [List.size_toArray]; exact l1)
  have P : Pst prog w base κ σ X s H { s with heap := h' } σ := R.keeps (s' := { s with heap := h' }) hk ⟨_, _, rfl⟩
  have P2 := P.trans (P.rel.alloc { cls := .type "tuple", data := .seq ws.toArray } s.toks)
  exact h _ σ _ P2 (.tup plain_tup l1 (P2.vrs r1))
omit rs in
theorem cell_new {c : C} {h' : Heap} (hsys : ∃ o, base.get? sysModules = some o) (hk : ∀ b o, s.heap.get? b = some o → h'.get? b = some o) (hc : (∀ a items, s.heap.IsTuple a items → h'.IsTuple a items) → (∀ (n : Nat) (b : Addr), σ[n]? = some b → (σ ++ [s.heap.objs.size])[n]? = some b) → CellAt prog w h' (σ ++ [s.heap.objs.size]) s.heap.objs.size c) :
    Pst prog w base κ σ X s (H ++ [c]) { s with heap := h' } (σ ++ [s.heap.objs.size]) :=
  have P : Pst prog w base κ σ X s H { s with heap := h' } σ := R.keeps (s' := { s with heap := h' }) hk ⟨_, _, rfl⟩
  P.label hsys R size_none (R.size_out (Nat.le_refl _)) (hc P.tups fun n b e => by rw [List.getElem?_append_left (List.getElem?_eq_some_iff.mp e).1]; exact e)
theorem list_ok (hsys : ∃ o, base.get? sysModules = some o) (e : (lst1 vs H fun xs => some (V.ref H.length, H ++ [.lst xs])) = some (v, H')) (h : Out prog w base κ σ X s Q v H') : wpAny (model prog w) A (call (.type "list") as) Q E s := by
  apply lst1_c R rs e; intro a xs ws n e o1 l1 r1
  obtain ⟨rfl, rfl⟩ := i2 e
  exact call_list_seq _ (.inl rfl) o1 rfl rfl (fun h' c' hk hg => h _ _ _ (cell_new R hsys hk fun ht hs => ⟨ws, c', hg, l1, r1.mono ht hs⟩) (vr_last R.len)) (by rw [List.size_toArray]; exact l1)
theorem dict_ok (hsys : ∃ o, base.get? sysModules = some o) (e : (bo (one vs) fun v => onRef v fun n => bo (dicAt H n) fun es => bi (boxed es) (some (V.ref H.length, H ++ [.dic es]))) = some (v, H')) (h : Out prog w base κ σ X s Q v H') : wpAny (model prog w) A (call (.type "dict") as) Q E s := by
  refine bo_c e fun x h1 e => ?_
  rw [one_eq h1] at rs
  apply rs.one_c; intro a ra
  revert ra; apply onRef_c e; intro n e ra
  refine bo_c e fun es h2 e => bi_c e fun hb e => ?_
  obtain ⟨rfl, rfl⟩ := i2 e
  apply ra.ref_c; intro l ex
  obtain ⟨ys, hD, l1, d⟩ := R.cell _ _ _ ex (dicAt_eq h2)
  refine dict_ofP (R.new _ (List.mem_of_getElem? ex)).2 hD l1 (fun x hx => ?_) fun h' hD' hs => h _ _ _ (cell_new R hsys (fun b o e => (hs.2 b (fun q => by subst q; exact absurd (Heap.lt_size e) (Nat.lt_irrefl _))).trans (Heap.get?_push_of_some _ e)) fun ht hs => ⟨ys, hD', l1, d.mono ht hs⟩) (vr_last R.len)
  obtain ⟨n, hn'⟩ := List.mem_iff_getElem?.mp hx
  obtain ⟨y, hy, _⟩ := d.got (k := x.1) (a := x.2.1) (v := x.2.2) hn'
  exact boxed_ok hb _ (List.mem_of_getElem? hy)
theorem sum_ok (hh : A.handled = none) (e : (lst1 vs H fun xs => bo (V.ints xs) fun is => some (V.int is.sum, H)) = some (v, H')) (h : Out prog w base κ σ X s Q v H') : wpAny (model prog w) A (call (.builtin "sum") as) Q E s := by
  apply lst1_c R rs e; intro ax xs ws n1 e o1 l1 r1
  refine bo_c e fun is hi e => ?_
  obtain ⟨rfl, rfl⟩ := i2 e
  have hia := r1.intsAre hi
  have hlen : is.length = ws.toArray.size := by rw [List.size_toArray, hia.length]
  have hlt : ∀ b ∈ [s.heap.objs.size, ax], b < (s.heap.push { cls := .type "list_iterator", data := .fields #[.ref ax, .int 0 0] }).objs.size := fun b hb => by
    rw [Heap.size_push]
    rcases List.mem_cons.mp hb with rfl | hb
    · exact Nat.lt_succ_self _
    · rw [List.mem_singleton] at hb; subst hb; exact Nat.lt_succ_of_lt (Heap.lt_size o1)
  refine call_sum_walkG (wpAny_pyIter_list ⟨_, o1, rfl, n1, rfl⟩ ⟨s.heap.objs.size, _, _, _, _, _, fun i => is.getD i 0, rfl, Walks.list (A := A.in1) hh s.heap.objs.size ax (fun e => Nat.lt_irrefl _ (e ▸ Heap.lt_size o1)) ws.toArray, ⟨⟨_, Heap.get?_push_size _ rfl, rfl, rfl⟩, ⟨_, Heap.get?_push_of_some _ o1, rfl, n1, rfl⟩⟩, hlt, fun i v hv => intsAre_get hia (by rw [← List.getElem?_toArray]; exact hv), fun h' tk t' hk => ?_⟩)
  rw [← hlen, preSum_list is is.length (Nat.le_refl _), List.take_length]
  exact h _ σ _ (R.keeps (s' := { s with heap := h', toks := tk }) (fun b o e => hk b o (by rw [List.mem_singleton]; exact fun q => Nat.lt_irrefl _ (q ▸ Heap.lt_size e)) (Heap.get?_push_of_some _ e)) ⟨_, _, rfl⟩) (.int _ _)
theorem biop_ok (hh : A.handled = none) (hsys : ∃ o, base.get? sysModules = some o) (e : biop b vs H = some (v, H')) (h : Out prog w base κ σ X s Q v H') : wpAny (model prog w) A (call (biVal b) as) Q E s := by
  cases b with
  | abs => exact abs_ok R rs e h
  | len => exact len_ok R rs e h
  | max => exact max_ok R rs hh e h
  | int => exact biint_ok R rs e h
  | tuple => exact tuple_ok R rs e h
  | list => exact list_ok R rs hsys e h
  | dict => exact dict_ok R rs hsys e h
  | sum => exact sum_ok R rs hh e h
end
end
end Mine
end

section
/-! Iterators that the library lacks: the keys of a dict with heap keys; enumerate over a tuple. -/
set_option maxRecDepth 100000
set_option linter.all false
namespace Mine
open PySem PySem.Calls PyProof.Rows
open AutoSeq1 (wpAny_loadPart')

def DictRaw (h : Heap) (a : Addr) (es : Array DictEntry) (ep : Nat) : Prop := ∃ o, h.get? a = some o ∧ o.ExactDict ∧ o.data = .dict es ep
theorem DictRaw.at {h h' : Heap} {a es ep} (x : DictRaw h a es ep) (e : ∀ o, h.get? a = some o → h'.get? a = some o) : DictRaw h' a es ep := let ⟨o, ho, r⟩ := x; ⟨o, e _ ho, r⟩

section
variable {prog : Program} {w : World} {A : Around} {E : Value → Shared → Prop} {s : Shared}

theorem iter_keys {d : Addr} {es : Array DictEntry} {ep : Nat} {Q : Value → Shared → Prop} (hd : (d == sysModules) = false) (hm : DictRaw s.heap d es ep)
    (hQ : Q (.ref s.heap.objs.size) { s with heap := s.heap.push { cls := .type "dict_keyiterator", data := .fields #[.ref d, .int 0 0, .int es.size 0, .int ep 0] } }) :
    wpAny (model prog w) A (pyIter (.ref d)) Q E s := by
  obtain ⟨o, ho, hc, hdat⟩ := id hm
  have hT : s.TypeIs (.ref d) "dict" := ⟨o, ho, hc.1⟩
  refine wpAny_pyIter_slot hT F.slot_dict_iter (wpAny_call_entry F.slot_dict_iter hT F.entry_dict_iter ?_ (F.args_dict_iter_1 _))
  unfold Builtin.«dict.__iter__»
  refine wpAny_bind ?_
  unfold Builtin.Dict.dictSlotNone
  refine wpAny_bind (wpAny_notOrdered_dict hT ?_)
  show wpAny _ _ (pure (Value.ref d)) _ _ s
  refine wpAny_pure ?_
  show wpAny _ _ (Builtin.Dict.showsAll d >>= _) _ _ s
  unfold Builtin.Dict.showsAll
  rw [if_neg (by rw [hd]; exact Bool.false_ne_true)]
  refine wpAny_bind (wpAny_pure ?_)
  refine wpAny_bind (wpAny_dictEntries ho hdat ?_)
  refine wpAny_bind (wpAny_dictEpoch ho hdat ?_)
  exact wpAny_bind (wpAny_newObj_type (wpAny_pure ⟨_, rfl, "dict_keyiterator", _, ⟨_, Heap.get?_push_size _ rfl, rfl⟩, F.slot_dict_keyiterator_next.lookup, hQ⟩))

theorem next_key {it d : Addr} {i ep : Nat} {es : Array DictEntry} (hlt : i < es.size) {Q : Option Value → Shared → Prop} (hit : s.heap.IsKeyIter it d i es.size ep) (hm : DictRaw s.heap d es ep)
    (hQ : ∀ h', h'.IsKeyIter it d (i + 1) es.size ep → Heap.SameBut it s.heap h' → Q (some es[i].key) { s with heap := h' }) :
    wpAny (model prog w) A (pyNext (.ref it)) Q E s := by
  obtain ⟨o, ho, hc, hd⟩ := id hit
  obtain ⟨od, hod, hcd, hdd⟩ := id hm
  unfold pyNext
  refine wpAny_bind (wpAny_attempt (wpAny_callSpecial?_slot (name := Str.ofString "__next__") hit.typeIs F.slot_dict_keyiterator_next
    (wpAny_call_entry F.slot_dict_keyiterator_next hit.typeIs F.entry_dict_keyiterator_next ?_ (F.args_dict_keyiterator_next_1 _))))
  refine wpAny_bind (wpAny_pure ?_)
  refine wpAny_bind ?_
  refine wpAny_bind ?_
  first | refine wpAny_bind (wpAny_typeNameOfWhole_keyiter hit.typeIs (wpAny_pure ?_)) | refine wpAny_bind (wpAny_typeNameOf_keyiter hit.typeIs (wpAny_pure ?_))
  refine wpAny_bind (wpAny_fieldsOf ho hd ?_)
  have hown : Builtin.Dict_items.ownsTuple "dict_keyiterator" = false := by decide
  simp only [hown, Bool.false_eq_true, if_false]
  show wpAny _ _ (if (Value.ref d == Value.none) = true then _ else _) _ _ s
  rw [if_neg (show ¬ ((Value.ref d == Value.none) = true) from Bool.false_ne_true)]
  refine wpAny_bind (wpAny_pure ?_)
  refine wpAny_bind (wpAny_dictEntries hod hdd ?_)
  rw [if_neg (by simp)]
  refine wpAny_bind (wpAny_pure ?_)
  refine wpAny_bind (wpAny_dictEpoch hod hdd ?_)
  rw [if_neg (by simp)]
  refine wpAny_pure ?_
  simp only [show ¬ ((i : Int) < 0) from by omega, if_false, Int.toNat_natCast, Array.getElem?_eq_getElem hlt]
  refine wpAny_bind ?_
  first | refine wpAny_bind (wpAny_typeNameOfWhole_keyiter hit.typeIs (wpAny_pure ?_)) | refine wpAny_bind (wpAny_typeNameOf_keyiter hit.typeIs (wpAny_pure ?_))
  refine wpAny_bind (wpAny_isOneOf_keyiter hit.typeIs ?_)
  show wpAny _ _ (setField (.ref it) 1 (rawInt ((i : Int) + 1)) >>= _) _ _ s
  refine wpAny_bind (wpAny_setField ho hd (by simp) ?_)
  have hit' : (s.heap.update it (Obj.mapFields (·.setIfInBounds 1 (rawInt ((i : Int) + 1))))).IsKeyIter it d (i + 1) es.size ep :=
    ⟨_, Heap.get?_update_self _ ho (Obj.isFreed_of_fields (Obj.data_mapFields hd _)), (Obj.cls_mapFields ..).trans hc, by rw [Obj.data_mapFields hd]; simp [rawInt]⟩
  refine wpAny_bind (wpAny_holding ?_)
  refine wpAny_bind (wpAny_isOneOf_keyiter (s := { s with heap := s.heap.update it (Obj.mapFields (·.setIfInBounds 1 (rawInt ((i : Int) + 1)))) }) hit'.typeIs ?_)
  show wpAny _ _ (pure es[i].key) _ _ _
  exact wpAny_pure (wpAny_pure ⟨_, rfl, wpAny_pure (hQ _ hit' (Heap.SameBut.update ..))⟩)

theorem next_key_end {it d : Addr} {ep : Nat} {es : Array DictEntry} {Q : Option Value → Shared → Prop} (hh : A.handled = none) (hit : s.heap.IsKeyIter it d es.size es.size ep) (hm : DictRaw s.heap d es ep)
    (hQ : ∀ h', Heap.ExtBut it s.heap h' → Q none { s with heap := h' }) : wpAny (model prog w) A (pyNext (.ref it)) Q E s := by
  obtain ⟨o, ho, hc, hd⟩ := id hit
  obtain ⟨od, hod, hcd, hdd⟩ := id hm
  unfold pyNext
  refine wpAny_bind (wpAny_attempt (wpAny_callSpecial?_slot (name := Str.ofString "__next__") hit.typeIs F.slot_dict_keyiterator_next
    (wpAny_call_entry F.slot_dict_keyiterator_next hit.typeIs F.entry_dict_keyiterator_next ?_ (F.args_dict_keyiterator_next_1 _))))
  refine wpAny_bind (wpAny_pure ?_)
  refine wpAny_bind ?_
  refine wpAny_bind ?_
  first | refine wpAny_bind (wpAny_typeNameOfWhole_keyiter hit.typeIs (wpAny_pure ?_)) | refine wpAny_bind (wpAny_typeNameOf_keyiter hit.typeIs (wpAny_pure ?_))
  refine wpAny_bind (wpAny_fieldsOf ho hd ?_)
  have hown : Builtin.Dict_items.ownsTuple "dict_keyiterator" = false := by decide
  simp only [hown, Bool.false_eq_true, if_false]
  show wpAny _ _ (if (Value.ref d == Value.none) = true then _ else _) _ _ s
  rw [if_neg (show ¬ ((Value.ref d == Value.none) = true) from Bool.false_ne_true)]
  refine wpAny_bind (wpAny_pure ?_)
  refine wpAny_bind (wpAny_dictEntries hod hdd ?_)
  rw [if_neg (by simp)]
  refine wpAny_bind (wpAny_pure ?_)
  refine wpAny_bind (wpAny_dictEpoch hod hdd ?_)
  rw [if_neg (by simp)]
  refine wpAny_pure ?_
  simp only [show ¬ ((es.size : Int) < 0) from by omega, if_false, Int.toNat_natCast, Array.getElem?_eq_none (Nat.le_refl _)]
  refine wpAny_bind ?_
  first | refine wpAny_bind (wpAny_typeNameOfWhole_keyiter hit.typeIs (wpAny_pure ?_)) | refine wpAny_bind (wpAny_typeNameOf_keyiter hit.typeIs (wpAny_pure ?_))
  show wpAny _ _ (setField (.ref it) 0 .none >>= _) _ _ s
  refine wpAny_bind (wpAny_setField ho hd (by simp) ?_)
  show wpAny _ _ (newExc (.type "StopIteration") [] >>= _) _ _ _
  refine wpAny_bind ?_
  simp only [newExc, newTuple]
  refine wpAny_bind (wpAny_newObj_type ?_ (by size_fits))
  refine wpAny_bind (m := firstArgMember _ _) (wpAny_of_eq (a := Value.none) (by first | rfl | (simp only [firstArgMember]; rfl)) ?_)
  refine wpAny_newObj_type ?_ (by size_fits)
  simp only [raiseNew]
  refine wpAny_bind (wpAny_handled ?_)
  rw [show A.in1.handled = none from hh]
  refine wpAny_bind (wpAny_pure (wpAny_throw ?_))
  refine wpAny_bind (wpAny_isInstance (T := "StopIteration") (b := true) ⟨_, Heap.get?_push_size _ rfl, rfl⟩ isSubtype_stop ?_)
  exact wpAny_pure (hQ _ (((Heap.SameBut.update ..).extBut.push _).push _))

/-! ### enumerate over a tuple -/
theorem meets_enumerate_tup (l : Addr) (items : Array Value) (n : Nat) (dct : Option Addr) (sl : Array (Option Value)) :
    Meets (Builtin.«enumerate.__new__» ⟨[.type "enumerate", .ref l], []⟩) (fun _ R s => s.heap.get? l = some { cls := .type "tuple", dict := dct, data := .seq items n, slots := sl } ∧
      R (.ok (.ret (.ref (s.heap.push { cls := .type "tuple_iterator", data := .fields #[.ref l, .int 0 0] }).objs.size)))
        { s with heap := (s.heap.push { cls := .type "tuple_iterator", data := .fields #[.ref l, .int 0 0] }).push { cls := .type "enumerate", data := .fields #[.none, .bool false, .ref s.heap.objs.size, rawInt 0, .none, .none] } }) :=
  .of_wp fun prog w A R s h => by
    obtain ⟨hp, g, d, tk, os⟩ := s; obtain ⟨hl, h⟩ := h
    have hsub := sub_enumerate
    have hL : Heap.IsTuple (Shared.heap ⟨hp, g, d, tk, os⟩) l items := ⟨_, hl, rfl, n, rfl⟩
    wp_walk using wpAny_loadPart' hl
    refine wpAny_stack_any fun st => wpAny_pure ?_
    split
    · rename_i c _ _ _ _ _
      cases (c == Value.type "enumerate")
      · wp_walk using wpAny_loadPart' hl, wpAny_pyIter_tuple hL
        exact ⟨_, rfl, h⟩
      · wp_walk using wpAny_loadPart' hl, wpAny_pyIter_tuple hL
        exact ⟨_, rfl, h⟩
    · wp_walk using wpAny_loadPart' hl, wpAny_pyIter_tuple hL
      exact ⟨_, rfl, h⟩
theorem call_enumerate_tup {l : Addr} {items : Array Value} {Q : Value → Shared → Prop} (hL : s.heap.IsTuple l items)
    (h : ∀ h', IsEnum h' (s.heap.objs.size + 1) s.heap.objs.size 0 .none → h'.IsTupleIter s.heap.objs.size l 0 → h'.objs.size = s.heap.objs.size + 2 →
      (∀ b o, s.heap.get? b = some o → h'.get? b = some o) → Q (.ref (s.heap.objs.size + 1)) { s with heap := h' }) :
    wpAny (model prog w) A (call (.type "enumerate") [.ref l]) Q E s := by
  obtain ⟨⟨c, dct, dt, sl⟩, hl, hc, n, hd⟩ := hL
  replace hc : c = .type "tuple" := hc
  replace hd : dt = .seq items n := hd
  subst hc hd
  refine callType_new F.called_enumerate (by decide) (F.typeCall_enumerate_1 _) (F.newCall_enumerate_1 _) (fun obj => F.args_object_init_2 obj _) F.entry_enumerate_new
    (meets_enumerate_tup l items n dct sl) ⟨hl, ?_⟩
  have hz : (s.heap.push { cls := .type "tuple_iterator", data := .fields #[.ref l, .int 0 0] }).objs.size = s.heap.objs.size + 1 := Heap.size_push ..
  show _ ∧ _
  rw [hz]
  have he : IsEnum ((s.heap.push { cls := .type "tuple_iterator", data := .fields #[.ref l, .int 0 0] }).push
      { cls := .type "enumerate", data := .fields #[.none, .bool false, .ref s.heap.objs.size, rawInt 0, .none, .none] }) (s.heap.objs.size + 1) s.heap.objs.size 0 .none := by
    have := Heap.get?_push_size (s.heap.push { cls := .type "tuple_iterator", data := .fields #[.ref l, .int 0 0] })
      (o := { cls := .type "enumerate", data := .fields #[.none, .bool false, .ref s.heap.objs.size, rawInt 0, .none, .none] }) rfl
    rw [hz] at this; exact this
  refine ⟨⟨_, he, rfl⟩, h _ he ⟨_, Heap.get?_push_of_some _ (Heap.get?_push_size _ rfl), rfl, rfl⟩ (by rw [Heap.size_push, hz]) fun b o x => Heap.get?_push_of_some _ (Heap.get?_push_of_some _ x)⟩

theorem nextOf_tup {it l : Addr} {i : Nat} {items} {x : Value} {Q : Value → Shared → Prop} (hit : s.heap.IsTupleIter it l i)
    (hl : s.heap.IsTuple l items) (hx : items[i]? = some x)
    (hQ : ∀ h', h'.IsTupleIter it l (i + 1) → Heap.SameBut it s.heap h' → Q x { s with heap := h' }) :
    wpAny (model prog w) A (Builtin.SmallTypes.nextOf (.ref it)) Q E s := by
  obtain ⟨o, ho, hc, hd⟩ := id hit
  obtain ⟨ol, hol, _, nl, hdl⟩ := hl
  unfold Builtin.SmallTypes.nextOf
  refine wpAny_bind (wpAny_callSpecial?_slot (name := Str.ofString "__next__") hit.typeIs F.slot_tuple_iterator_next
    (wpAny_call_entry F.slot_tuple_iterator_next hit.typeIs F.entry_tuple_iterator_next ?_ (F.args_tuple_iterator_next_1 _)))
  show wpAny _ _ (field (.ref it) 0 >>= _) _ _ s
  refine wpAny_bind (wpAny_field ho hd (x := .ref l) rfl ?_)
  show wpAny _ _ (if (Value.ref l == Value.none) = true then _ else _) _ _ s
  rw [if_neg (show ¬ ((Value.ref l == Value.none) = true) from Bool.false_ne_true)]
  show wpAny _ _ (field (.ref it) 1 >>= _) _ _ s
  refine wpAny_bind (wpAny_field ho hd (x := .int i 0) rfl ?_)
  show wpAny _ _ (seqItems? (.ref l) >>= _) _ _ s
  refine wpAny_bind (wpAny_seqItems hol hdl ?_)
  simp only [Int.toNat_natCast, hx]
  refine wpAny_bind (wpAny_setField ho hd (by simp) (wpAny_pure ⟨x, rfl, wpAny_pure (hQ _ ?_ (Heap.SameBut.update ..))⟩))
  exact ⟨_, Heap.get?_update_self _ ho (Obj.isFreed_of_fields (Obj.data_mapFields hd _)), (Obj.cls_mapFields ..).trans hc, by
    rw [Obj.data_mapFields hd]; simp [rawInt]⟩
theorem nextOf_tup_end {it l : Addr} {i : Nat} {items} {Q : Value → Shared → Prop} (hh : A.handled = none)
    (hit : s.heap.IsTupleIter it l i) (hl : s.heap.IsTuple l items) (hx : items[i]? = none)
    (hE : ∀ h' e, Heap.ExtBut it s.heap h' → (∃ o, h'.get? e = some o ∧ o.cls = .type "StopIteration") → E (.ref e) { s with heap := h' }) :
    wpAny (model prog w) A (Builtin.SmallTypes.nextOf (.ref it)) Q E s := by
  obtain ⟨o, ho, hc, hd⟩ := id hit
  obtain ⟨ol, hol, _, nl, hdl⟩ := hl
  unfold Builtin.SmallTypes.nextOf
  refine wpAny_bind (wpAny_callSpecial?_slot (name := Str.ofString "__next__") hit.typeIs F.slot_tuple_iterator_next
    (wpAny_call_entry F.slot_tuple_iterator_next hit.typeIs F.entry_tuple_iterator_next ?_ (F.args_tuple_iterator_next_1 _)))
  show wpAny _ _ (field (.ref it) 0 >>= _) _ _ s
  refine wpAny_bind (wpAny_field ho hd (x := .ref l) rfl ?_)
  show wpAny _ _ (if (Value.ref l == Value.none) = true then _ else _) _ _ s
  rw [if_neg (show ¬ ((Value.ref l == Value.none) = true) from Bool.false_ne_true)]
  show wpAny _ _ (field (.ref it) 1 >>= _) _ _ s
  refine wpAny_bind (wpAny_field ho hd (x := .int i 0) rfl ?_)
  show wpAny _ _ (seqItems? (.ref l) >>= _) _ _ s
  refine wpAny_bind (wpAny_seqItems hol hdl ?_)
  simp only [Int.toNat_natCast, hx]
  refine wpAny_bind (wpAny_rule (wpAny_bind (wpAny_setField ho hd (by simp) ?_)))
  show wpAny _ _ (newExc (.type "StopIteration") [] >>= _) _ _ _
  refine wpAny_bind ?_
  simp only [newExc, newTuple]
  refine wpAny_bind (wpAny_newObj_type ?_ (by size_fits))
  refine wpAny_bind (m := firstArgMember _ _) (wpAny_of_eq (a := Value.none) (by first | rfl | (simp only [firstArgMember]; rfl)) ?_)
  refine wpAny_newObj_type ?_ (by size_fits)
  simp only [raiseNew]
  refine wpAny_bind (wpAny_handled ?_)
  first | rw [show A.in1.handled = none from hh] | rw [hh]
  refine wpAny_bind (wpAny_pure (wpAny_throw ?_))
  exact hE _ _ (((Heap.SameBut.update ..).extBut.push _).push _) ⟨_, Heap.get?_push_size _ rfl, rfl⟩

theorem enum_tup_item {e it l : Addr} {i : Nat} {items : Array Value} {x old : Value} {Q : Value → Shared → Prop}
    (he : IsEnum s.heap e it i old) (hit : s.heap.IsTupleIter it l i) (hl : s.heap.IsTuple l items) (hx : items[i]? = some x) (hne : e ≠ it)
    (hQ : ∀ h', IsEnumOut h' e it ((i : Int) + 1) x s.heap.objs.size → h'.IsTupleIter it l (i + 1) →
      h'.get? s.heap.objs.size = some { cls := .type "tuple", data := .seq #[.int i s.toks, x] } → h'.objs.size = s.heap.objs.size + 1 →
      (∀ b o, b ≠ e → b ≠ it → s.heap.get? b = some o → h'.get? b = some o) → Q (.ref s.heap.objs.size) { s with heap := h', toks := s.toks + 1 }) :
    wpAny (model prog w) A (Builtin.«enumerate.__next__» ⟨[.ref e], []⟩) (fun fin s' => ∃ v, fin = .done (.ret v) ∧ Q v s') E s := by
  obtain ⟨hp, g, d, tk, os⟩ := s
  show wpAny _ _ (field (.ref e) 2 >>= _) _ _ _
  refine wpAny_bind (wpAny_field he rfl (x := .ref it) rfl ?_)
  refine wpAny_bind (nextOf_tup hit hl hx fun h₁ hit₁ hs₁ => ?_)
  replace hs₁ : Heap.SameBut it hp h₁ := hs₁
  have he₁ : IsEnum h₁ e it i old := (hs₁.2 e hne).trans he
  show wpAny _ _ (field (.ref e) 3 >>= _) _ _ ⟨h₁, g, d, tk, os⟩
  refine wpAny_bind (wpAny_field he₁ rfl (x := rawInt i) rfl ?_)
  show wpAny _ _ (field (.ref e) 4 >>= _) _ _ ⟨h₁, g, d, tk, os⟩
  refine wpAny_bind (wpAny_field he₁ rfl (x := .none) rfl ?_)
  show wpAny _ _ (mkInt i >>= _) _ _ ⟨h₁, g, d, tk, os⟩
  refine wpAny_bind (wpAny_mkInt ?_)
  show wpAny _ _ (setField (.ref e) 3 (rawInt ((i : Int) + 1)) >>= _) _ _ ⟨h₁, g, d, tk + 1, os⟩
  refine wpAny_bind (wpAny_setField_rec he₁ (by simp) fun h₂ he₂ hs₂ => ?_)
  replace hs₂ : Heap.SameBut e h₁ h₂ := hs₂
  replace he₂ : IsEnum h₂ e it ((i : Int) + 1) old := he₂
  show wpAny _ _ (setField (.ref e) 4 .none >>= _) _ _ ⟨h₂, g, d, tk + 1, os⟩
  refine wpAny_bind (wpAny_setField_rec he₂ (by simp) fun h₃ he₃ hs₃ => ?_)
  replace hs₃ : Heap.SameBut e h₂ h₃ := hs₃
  replace he₃ : IsEnum h₃ e it ((i : Int) + 1) old := he₃
  show wpAny _ _ (newTuple [.int i tk, x] >>= _) _ _ ⟨h₃, g, d, tk + 1, os⟩
  refine wpAny_bind (wpAny_newTuple ?_)
  have he₄ : IsEnum (h₃.push { cls := .type "tuple", data := .seq #[.int i tk, x] }) e it ((i : Int) + 1) old := Heap.get?_push_of_some _ he₃
  generalize hh₄ : h₃.push { cls := .type "tuple", data := .seq #[.int i tk, x] } = h₄ at he₄
  have hsz : h₃.objs.size = hp.objs.size := by rw [hs₃.1, hs₂.1, hs₁.1]
  have hel : e < hp.objs.size := Heap.lt_size he
  have ht₄ : h₄.get? hp.objs.size = some { cls := .type "tuple", data := .seq #[.int i tk, x] } := by rw [← hh₄, ← hsz]; exact Heap.get?_push_size _ rfl
  have hz₄ : h₄.objs.size = hp.objs.size + 1 := by rw [← hh₄, Heap.size_push, hsz]
  have hk₄ : ∀ b o, b ≠ e → b ≠ it → hp.get? b = some o → h₄.get? b = some o := fun b o hbe hbi hb => by
    rw [← hh₄]; exact Heap.get?_push_of_some _ (hs₃.extBut b o hbe (hs₂.extBut b o hbe (hs₁.extBut b o hbi hb)))
  have hit₄ : h₄.IsTupleIter it l (i + 1) := by
    rw [← hh₄]; obtain ⟨o, ho, r⟩ := (hit₁.extBut hs₂.extBut (Ne.symm hne)).extBut hs₃.extBut (Ne.symm hne); exact ⟨o, Heap.get?_push_of_some _ ho, r⟩
  show wpAny _ _ (Builtin.SmallTypes.ownedTupleIsFree (.ref e) >>= _) _ _ ⟨h₄, g, d, tk + 1, os⟩
  rw [hsz]
  clear hh₄ he₃ hs₃ he₂ hs₂ he₁ hs₁ hit₁ hsz h₃ h₂ h₁
  refine wpAny_bind ?_
  · unfold Builtin.SmallTypes.ownedTupleIsFree
    refine wpAny_bind (wpAny_field he₄ rfl (x := .none) rfl (wpAny_pure ?_))
    simp only [if_true]
    refine wpAny_bind (wpAny_rule ?_)
    refine wpAny_bind (wpAny_field he₄ rfl (x := old) rfl ?_)
    refine wpAny_bind (wpAny_setField_rec he₄ (by simp) fun h₅ he₅ hs₅ => ?_)
    replace hs₅ : Heap.SameBut e h₄ h₅ := hs₅
    replace he₅ : IsEnum h₅ e it ((i : Int) + 1) x := he₅
    show wpAny _ _ (Builtin.SmallTypes.ownedTupleHandOut (.ref e) (.ref hp.objs.size) >>= _) _ _ ⟨h₅, g, d, tk + 1, os⟩
    refine wpAny_bind ?_
    · unfold Builtin.SmallTypes.ownedTupleHandOut
      refine wpAny_bind (wpAny_setField_rec he₅ (by simp) fun h₆ he₆ hs₆ => ?_)
      replace hs₆ : Heap.SameBut e h₅ h₆ := hs₆
      replace he₆ : IsEnumOut h₆ e it ((i : Int) + 1) x hp.objs.size := he₆
      refine wpAny_setField_rec he₆ (by simp) fun h₇ he₇ hs₇ => ?_
      replace hs₇ : Heap.SameBut e h₆ h₇ := hs₇
      replace he₇ : IsEnumOut h₇ e it ((i : Int) + 1) x hp.objs.size := he₇
      refine wpAny_bind (wpAny_letGo (wpAny_pure ⟨_, rfl, hQ h₇ he₇ ?_ ?_ ?_ ?_⟩))
      · exact ((hit₄.extBut hs₅.extBut (Ne.symm hne)).extBut hs₆.extBut (Ne.symm hne)).extBut hs₇.extBut (Ne.symm hne)
      · exact hs₇.extBut _ _ (Nat.ne_of_gt hel) (hs₆.extBut _ _ (Nat.ne_of_gt hel) (hs₅.extBut _ _ (Nat.ne_of_gt hel) ht₄))
      · rw [hs₇.1, hs₆.1, hs₅.1, hz₄]
      · exact fun b o hbe hbi hb => hs₇.extBut b o hbe (hs₆.extBut b o hbe (hs₅.extBut b o hbe (hk₄ b o hbe hbi hb)))

theorem next_enum_tup {e it l : Addr} {i : Nat} {items : Array Value} {x old : Value} {Q : Option Value → Shared → Prop}
    (he : IsEnum s.heap e it i old) (hit : s.heap.IsTupleIter it l i) (hl : s.heap.IsTuple l items) (hx : items[i]? = some x) (hne : e ≠ it)
    (hQ : ∀ h', IsEnumOut h' e it ((i : Int) + 1) x s.heap.objs.size → h'.IsTupleIter it l (i + 1) →
      h'.get? s.heap.objs.size = some { cls := .type "tuple", data := .seq #[.int i s.toks, x] } → h'.objs.size = s.heap.objs.size + 1 →
      (∀ b o, b ≠ e → b ≠ it → s.heap.get? b = some o → h'.get? b = some o) → Q (some (.ref s.heap.objs.size)) { s with heap := h', toks := s.toks + 1 }) :
    wpAny (model prog w) A (pyNext (.ref e)) Q E s := by
  have hT : s.TypeIs (.ref e) "enumerate" := ⟨_, he, rfl⟩
  unfold pyNext
  exact wpAny_bind (wpAny_attempt (wpAny_callSpecial?_slot (name := Str.ofString "__next__") hT F.slot_enumerate_next
    (wpAny_call_entry F.slot_enumerate_next hT F.entry_enumerate_next
      (enum_tup_item he hit hl hx hne fun h' a b c d k => wpAny_pure (hQ h' a b c d k)) (F.args_enumerate_next_1 _))))

theorem next_enum_tup_end {e it l : Addr} {i : Nat} {items : Array Value} {old : Value} {Q : Option Value → Shared → Prop} (hh : A.handled = none)
    (he : IsEnum s.heap e it i old) (hit : s.heap.IsTupleIter it l i) (hl : s.heap.IsTuple l items) (hx : items[i]? = none)
    (hQ : ∀ h', Heap.ExtBut it s.heap h' → Q none { s with heap := h' }) : wpAny (model prog w) A (pyNext (.ref e)) Q E s := by
  have hT : s.TypeIs (.ref e) "enumerate" := ⟨_, he, rfl⟩
  unfold pyNext
  refine wpAny_bind (wpAny_attempt (wpAny_callSpecial?_slot (name := Str.ofString "__next__") hT F.slot_enumerate_next
    (wpAny_call_entry F.slot_enumerate_next hT F.entry_enumerate_next ?_ (F.args_enumerate_next_1 _))))
  show wpAny _ _ (field (.ref e) 2 >>= _) _ _ _
  refine wpAny_bind (wpAny_field he rfl (x := .ref it) rfl ?_)
  refine wpAny_bind (nextOf_tup_end hh hit hl hx fun h' x he' hx' => ?_)
  obtain ⟨o, ho, hc⟩ := hx'
  refine wpAny_bind (wpAny_isInstance (T := "StopIteration") (b := true) ⟨o, ho, hc⟩ isSubtype_stop ?_)
  exact wpAny_pure (hQ _ he')

theorem go_tupiter {elts : List Expr} {x1} {pos : Pos} {I l T : Addr} {i : Nat} {Q : Unit → Shared → Prop} (hit : s.heap.IsTupleIter I l i) (hQ : Q () s) :
    wpAny (model prog w) A (letOwnedTupleGo (.Tuple elts x1 pos) (.ref I) (.ref T)) Q E s := by
  obtain ⟨o, ho, hc, hd⟩ := hit
  unfold letOwnedTupleGo
  refine wpAny_bind (wpAny_load ho ?_)
  rw [hc, hd]
  simp only [show (["enumerate", "zip", "dict_itemiterator", "dict_reverseitemiterator", "odict_iterator", "itertools.zip_longest", "itertools.pairwise"].contains "tuple_iterator") = false by decide, Bool.false_and, Bool.false_eq_true, if_false]
  exact wpAny_pure hQ
end
end Mine
end

section
/-! Environments: where a name's value lies. -/
set_option maxRecDepth 100000
set_option linter.all false
namespace Mine
open PySem PySem.Calls PyProof.Rows

theorem names_nodup : names.Nodup := by decide +kernel
theorem names_big : (names.all fun s => s.cps[0]? != some 0) = true := by decide +kernel
theorem nm_inj {x y : Nat} (h : nm x = nm y) : x = y := by
  unfold nm at h
  have big : ∀ {i : Nat} {s : PySem.Str}, names[i]? = some s → s.cps[0]? ≠ some 0 := fun {i s} e => by
    have := List.all_eq_true.mp names_big s (List.mem_of_getElem? e)
    simpa using this
  cases h1 : names[x]? with
  | some s1 =>
    cases h2 : names[y]? with
    | some s2 =>
      rw [h1, h2] at h
      have h : s1 = s2 := h
      subst h
      exact (List.getElem?_inj (List.getElem?_eq_some_iff.mp h1).1 names_nodup).mp (h1.trans h2.symm)
    | none =>
      rw [h1, h2] at h
      have h : s1 = ⟨#[0, y]⟩ := h
      have := big h1
      rw [h] at this
      exact absurd rfl this
  | none =>
    cases h2 : names[y]? with
    | some s2 =>
      rw [h1, h2] at h
      have h : ⟨#[0, x]⟩ = s2 := h
      have := big h2
      rw [← h] at this
      exact absurd rfl this
    | none =>
      rw [h1, h2] at h
      have h : (⟨#[0, x]⟩ : PySem.Str) = ⟨#[0, y]⟩ := h
      injection h with h
      simpa using h

theorem En.get_set (ρ : En) (x y : Nat) (v : V) : (ρ.set x v).get y = if y = x then some v else ρ.get y := by
  induction ρ with
  | nil =>
    show (if Nat.beq y x then some v else none) = _
    by_cases h : y = x
    · subst h; rw [if_pos (Nat.beq_refl _), if_pos rfl]
    · rw [if_neg (fun e => h (Nat.eq_of_beq_eq_true e)), if_neg h]; rfl
  | cons p r ih =>
    obtain ⟨z, w⟩ := p
    show En.get (if Nat.beq x z then (x, v) :: r else (z, w) :: En.set r x v) y = if y = x then some v else (if Nat.beq y z then some w else En.get r y)
    by_cases h : x = z
    · subst h
      rw [if_pos (Nat.beq_refl _)]
      show (if Nat.beq y x then some v else En.get r y) = _
      by_cases hy : y = x
      · subst hy; rw [if_pos (Nat.beq_refl _), if_pos rfl]
      · rw [if_neg (fun e => hy (Nat.eq_of_beq_eq_true e)), if_neg hy, if_neg (fun e => hy (Nat.eq_of_beq_eq_true e))]
    · rw [if_neg (fun e => h (Nat.eq_of_beq_eq_true e))]
      show (if Nat.beq y z then some w else En.get (En.set r x v) y) = _
      rw [ih]
      by_cases hy : y = x
      · subst hy; rw [if_pos rfl, if_pos rfl, if_neg (fun e => h (Nat.eq_of_beq_eq_true e))]
      · rw [if_neg hy, if_neg hy]
theorem En.get_only {fr : List Nat} {ρ : En} {x : Nat} {v : V} (h : (En.only fr ρ).get x = some v) : x ∈ fr ∧ ρ.get x = some v := by
  induction ρ with
  | nil => cases h
  | cons p r ih =>
    obtain ⟨z, w⟩ := p
    unfold En.only at h
    rw [List.filter_cons] at h
    show _ ∧ (if Nat.beq x z then some w else En.get r x) = some v
    split at h
    · rename_i hz
      have h : (if Nat.beq x z then some w else En.get (En.only fr r) x) = some v := h
      by_cases hx : x = z
      · subst hx
        rw [if_pos (Nat.beq_refl _)] at h ⊢
        obtain ⟨y, hy, e⟩ := List.any_eq_true.mp hz
        exact ⟨by have := Nat.eq_of_beq_eq_true e; dsimp only at this; rw [this]; exact hy, h⟩
      · rw [if_neg (fun e => hx (Nat.eq_of_beq_eq_true e))] at h ⊢
        exact ih h
    · rename_i hz
      obtain ⟨a, b⟩ := ih h
      refine ⟨a, ?_⟩
      have hx : x ≠ z := fun e => hz (List.any_eq_true.mpr ⟨x, a, by subst e; exact Nat.beq_refl _⟩)
      rw [if_neg (fun e => hx (Nat.eq_of_beq_eq_true e))]
      exact b

/-- what of an environment does not change -/
structure EnvS (env : Env) (sc : Scope) : Prop where
  fn : env.scope.kind = .function
  glob : env.globals = mainGlobals
  blt : env.builtins = builtinsNs
  kind : ∀ n k, sc.names.lookup n = some k → k ≠ .free → env.kindOf n = some k
  free : ∀ n, sc.names.lookup n = some .free → env.kindOf n = some .free ∨ env.kindOf n = some .cell
  cell : ∀ n, env.kindOf n = some .cell ∨ env.kindOf n = some .free → ∃ c, env.cells.lookup n = some c
  apart : env.cells.Pairwise fun x y => x.2 ≠ y.2

/-- what the frame itself stores into -/
noncomputable def frameX (sc : Scope) (env : Env) : List Addr := env.locals :: (env.cells.filter fun p => sc.names.lookup p.1 == some .cell).map (·.2)

structure EnvR (base h : Heap) (σ : List Addr) (env : Env) (ρ : En) : Prop where
  ns : ∃ m, h.Ns env.locals m ∧ ∀ x v, ρ.get x = some v → env.kindOf (nm x) = some .local → ∃ u, m (nm x) = some u ∧ VR h σ v u
  var : ∀ x v, ρ.get x = some v → env.kindOf (nm x) = some .local ∨ ((env.kindOf (nm x) = some .cell ∨ env.kindOf (nm x) = some .free) ∧ ∃ c u, env.cells.lookup (nm x) = some c ∧ h.IsCell c (some u) ∧ VR h σ v u)
  cells : ∀ n c, (n, c) ∈ env.cells → (∃ v, h.IsCell c v) ∧ c ∉ σ ∧ base.get? c = none
  lout : env.locals ∉ σ ∧ base.get? env.locals = none

section
variable {prog : Program} {w : World} {base : Heap} {σ σ' X : List Addr} {H H' : Hp} {κ : List Nat} {s s' : Shared} {A : Around} {E : Value → Shared → Prop} {env : Env} {sc : Scope} {ρ : En}

theorem Ns.get {h : Heap} {a : Addr} {m} (n : h.Ns a m) : ∃ o es ep, h.get? a = some o ∧ o.data = .dict es ep := let ⟨o, es, ep, e, d, _⟩ := n; ⟨o, es, ep, e, d⟩
theorem EnvR.apartL (R : EnvR base s.heap σ env ρ) {n : PySem.Str} {c : Addr} (e : (n, c) ∈ env.cells) : c ≠ env.locals := by
  rintro rfl
  obtain ⟨m, hn, _⟩ := R.ns
  obtain ⟨o, es, ep, ho, hd⟩ := Ns.get hn
  obtain ⟨⟨v, o', ho', hd'⟩, _⟩ := R.cells _ _ e
  rw [ho] at ho'; cases ho'
  rw [hd] at hd'; cases hd'

/-- an environment that a step leaves alone -/
theorem EnvR.keep (R : EnvR base s.heap σ env ρ) (P : Pst prog w base κ σ X s H' s' σ') (hX : env.locals ∉ X ∧ ∀ n c, (n, c) ∈ env.cells → c ∉ X) : EnvR base s'.heap σ' env ρ := by
  have hl : ∀ o, s.heap.get? env.locals = some o → s'.heap.get? env.locals = some o := fun o e => P.keep.out e hX.1 R.lout.1
  have hc : ∀ n c, (n, c) ∈ env.cells → ∀ o, s.heap.get? c = some o → s'.heap.get? c = some o := fun n c e o ho => P.keep.out ho (hX.2 n c e) (R.cells n c e).2.1
  obtain ⟨m, hn, hm⟩ := R.ns
  obtain ⟨_, _, _, hlo, _⟩ := Ns.get hn
  refine ⟨⟨m, hn.at' hl, fun x v e k => ?_⟩, fun x v e => ?_, fun n c e => ?_, P.out hlo R.lout.1, R.lout.2⟩
  · obtain ⟨u, hu, r⟩ := hm x v e k; exact ⟨u, hu, P.vr r⟩
  · rcases R.var x v e with k | ⟨k, c, u, hcu, ⟨o, ho, hd⟩, r⟩
    · exact .inl k
    · exact .inr ⟨k, c, u, hcu, ⟨o, hc _ _ (mem_of_lookup hcu) o ho, hd⟩, P.vr r⟩
  · obtain ⟨⟨v, o, ho, hd⟩, h2, h3⟩ := R.cells n c e
    exact ⟨⟨v, o, hc n c e o ho, hd⟩, P.out ho h2, h3⟩
theorem EnvR.keep0 (R : EnvR base s.heap σ env ρ) (P : Pst prog w base κ σ [] s H' s' σ') : EnvR base s'.heap σ' env ρ := R.keep P ⟨by simp, fun _ _ _ => by simp⟩

theorem plainNm_ok {x : PySem.Str} (h : plainNm x = true) : (x == ("__debug__" : PySem.Str)) = false ∧ (x == ("__classdict__" : PySem.Str)) = false := by
  unfold plainNm at h
  rw [Bool.and_eq_true] at h
  exact ⟨by simpa using h.1, by simpa using h.2⟩

theorem load_ok {x : Nat} {v : V} {p : Pos} {Q : Value → Shared → Prop} (S : EnvS env sc) (R : EnvR base s.heap σ env ρ) (hx : plainNm (nm x) = true) (e : ρ.get x = some v) (h : ∀ u, VR s.heap σ v u → Q u s) :
    wpAny (model prog w) A (eval (.Name (nm x) p) env) Q E s := by
  obtain ⟨h1, h2⟩ := plainNm_ok hx
  refine wpAny_Name ?_ h1
  rcases R.var x v e with k | ⟨k, c, u, hcu, hc, r⟩
  · obtain ⟨m, hn, hm⟩ := R.ns
    obtain ⟨u, hu, r⟩ := hm x v e k
    exact wpAny_loadName_local S.fn k hn hu (h u r)
  · rcases k with k | k
    · exact wpAny_loadName_cell S.fn k hcu hc (h u r)
    · exact wpAny_loadName_free S.fn k hcu hc (h u r) h2

/-- an object that is no tuple and no cell is turned -/
theorem Rel.side {s' : Shared} {a : Addr} (R : Rel prog w base s.heap σ H) (ha : a ∉ σ) (hb : base.get? a = none) (hX : a ∈ X) (hs : Heap.SameBut a s.heap s'.heap) (hss : ∃ h tk, s' = { s with heap := h, toks := tk })
    (hnt : ∀ items, ¬ s.heap.IsTuple a items) (hex : ∃ o, s'.heap.get? a = some o) : Pst prog w base κ σ X s H s' σ := by
  have ht : ∀ b items, s.heap.IsTuple b items → s'.heap.IsTuple b items := fun b items t => IsTuple.mono t fun o e => (hs.2 b fun q => hnt items (q ▸ t)).trans e
  refine ⟨hss, ⟨[], by simp⟩, fun _ h => .inl h, ⟨fun b o e => ?_, fun b o e hx _ => (hs.2 b fun q => hx (q ▸ hX)).trans e⟩, ht, R.len, R.nd, fun m b d e1 e2 => ?_, R.new, fun b o e => (hs.2 b fun q => ?_).trans (R.stay b o e)⟩
  · by_cases q : b = a
    · subst q; exact hex
    · exact ⟨o, (hs.2 b q).trans e⟩
  · exact (R.cell m b d e1 e2).mono (fun o e => (hs.2 b fun q => ha (q ▸ List.mem_of_getElem? e1)).trans e) ht fun _ _ e => e
  · subst q; rw [hb] at e; cases e

theorem VR.side {a : Addr} {h h' : Heap} {v : V} {u : Value} (r : VR h σ v u) (hs : Heap.SameBut a h h') (hnt : ∀ items, ¬ h.IsTuple a items) : VR h' σ v u :=
  r.mono (fun b items t => IsTuple.mono t fun o e => (hs.2 b fun q => hnt items (q ▸ t)).trans e) fun _ _ e => e

theorem store_ok {x : Nat} {v : V} {u : Value} {Q : Unit → Shared → Prop} (S : EnvS env sc) (R : Rel prog w base s.heap σ H) (V0 : EnvR base s.heap σ env ρ) (hk0 : sc.names.lookup (nm x) = some .local ∨ sc.names.lookup (nm x) = some .cell) (r : VR s.heap σ v u)
    (h : ∀ s', Pst prog w base κ σ (frameX sc env) s H s' σ → EnvR base s'.heap σ env (ρ.set x v) → Q () s') : wpAny (model prog w) A (storeName env (nm x) u) Q E s := by
  have hp : (env.scope.kind == .class || (env.scope.kind == .module && env.locals != env.globals)) = false := by rw [S.fn]; rfl
  obtain ⟨m, hn, hm⟩ := V0.ns
  obtain ⟨oL, es, ep, hoL, hdL⟩ := Ns.get hn
  have hntL : ∀ items, ¬ s.heap.IsTuple env.locals items := fun items t => by
    obtain ⟨o, ho, _, n, hd⟩ := t
    rw [hoL] at ho; cases ho; rw [hdL] at hd; cases hd
  rcases hk0 with hk0 | hk0
  · have hk := S.kind _ _ hk0 (by decide)
    refine wpAny_storeName_local hk hn (fun h' hn' hs => h _ ?_ ?_) hp
    · obtain ⟨o', _, _, ho', _⟩ := Ns.get hn'
      exact R.side (s' := { s with heap := h', toks := s.toks + 1 }) V0.lout.1 V0.lout.2 (by simp [frameX]) hs ⟨_, _, rfl⟩ hntL ⟨o', ho'⟩
    · have hcs : ∀ n c, (n, c) ∈ env.cells → ∀ o, s.heap.get? c = some o → h'.get? c = some o := fun n c e o ho => (hs.2 c (V0.apartL e)).trans ho
      refine ⟨⟨_, hn', fun y z e k => ?_⟩, fun y z e => ?_, fun n c e => ?_, V0.lout⟩
      · rw [En.get_set] at e
        by_cases hy : y = x
        · subst hy
          rw [if_pos rfl] at e; cases e
          exact ⟨u, by simp, VR.side r hs hntL⟩
        · rw [if_neg hy] at e
          obtain ⟨u', hu', r'⟩ := hm y z e k
          exact ⟨u', by rw [if_neg (fun q => hy (nm_inj q))]; exact hu', VR.side r' hs hntL⟩
      · rw [En.get_set] at e
        by_cases hy : y = x
        · subst hy; exact .inl hk
        · rw [if_neg hy] at e
          rcases V0.var y z e with k | ⟨k, c, u', hcu, ⟨o, ho, hd⟩, r'⟩
          · exact .inl k
          · exact .inr ⟨k, c, u', hcu, ⟨o, hcs _ _ (mem_of_lookup hcu) o ho, hd⟩, VR.side r' hs hntL⟩
      · obtain ⟨⟨v, o, ho, hd⟩, h2, h3⟩ := V0.cells n c e
        exact ⟨⟨v, o, hcs n c e o ho, hd⟩, h2, h3⟩
  · have hk := S.kind _ _ hk0 (by decide)
    obtain ⟨c, hc⟩ := S.cell _ (.inl hk)
    have hmem := mem_of_lookup hc
    obtain ⟨⟨v₀, hcell⟩, hcσ, hcb⟩ := V0.cells _ _ hmem
    obtain ⟨oc, hoc, hdc⟩ := id hcell
    have hntC : ∀ items, ¬ s.heap.IsTuple c items := fun items t => by
      obtain ⟨o, ho, _, n, hd⟩ := t
      rw [hoc] at ho; cases ho; rw [hdc] at hd; cases hd
    refine wpAny_storeName_cell S.fn hk hc hcell fun h' hc' hs => h _ ?_ ?_
    · obtain ⟨o', ho', _⟩ := id hc'
      exact R.side (s' := { s with heap := h' }) hcσ hcb (List.mem_cons_of_mem _ (List.mem_map.mpr ⟨_, List.mem_filter.mpr ⟨hmem, by simp [hk0]⟩, rfl⟩)) hs ⟨_, s.toks, rfl⟩ hntC ⟨o', ho'⟩
    · refine ⟨⟨m, hn.sameBut hs (V0.apartL hmem).symm, fun y z e k => ?_⟩, fun y z e => ?_, fun n d e => ?_, V0.lout⟩
      · rw [En.get_set] at e
        by_cases hy : y = x
        · subst hy; rw [hk] at k; cases k
        · rw [if_neg hy] at e
          obtain ⟨u', hu', r'⟩ := hm y z e k
          exact ⟨u', hu', VR.side r' hs hntC⟩
      · rw [En.get_set] at e
        by_cases hy : y = x
        · subst hy
          rw [if_pos rfl] at e; cases e
          exact .inr ⟨.inl hk, c, u, hc, hc', VR.side r hs hntC⟩
        · rw [if_neg hy] at e
          rcases V0.var y z e with k | ⟨k, d, u', hcu, hd, r'⟩
          · exact .inl k
          · refine .inr ⟨k, d, u', hcu, hd.sameBut hs ?_, VR.side r' hs hntC⟩
            rintro rfl
            exact hy (nm_inj (name_of_addr S.apart (mem_of_lookup hcu) hmem))
      · obtain ⟨⟨v, hd⟩, h2, h3⟩ := V0.cells n d e
        by_cases q : d = c
        · subst q; exact ⟨⟨_, hc'⟩, h2, h3⟩
        · exact ⟨⟨v, hd.sameBut hs q⟩, h2, h3⟩
end
end Mine
end

section
/-! Walks: what an iterator gives, and what a target takes of it. -/
set_option maxRecDepth 100000
set_option linter.all false
namespace Mine
open PySem PySem.Calls PyProof.Rows

inductive Unp (h : Heap) : List Nat → Value → List Value → Prop
  | one {x : Nat} {v : Value} : Unp h [x] v [v]
  | two {x y : Nat} {t : Addr} {a b : Value} : h.IsTuple t #[a, b] → Unp h [x, y] (.ref t) [a, b]

structure Wk (prog : Program) (w : World) (A : Around) (ts : List Nat) (T : Expr) (I : Addr) (fp wr : List Addr) (n : Nat) (P : Nat → List Value → Prop) (St : Nat → Heap → Prop) : Prop where
  sub : ∀ b ∈ wr, b ∈ fp
  frame : ∀ i h h', St i h → (∀ b ∈ fp, ∀ o, h.get? b = some o → h'.get? b = some o) → St i h'
  nt : ∀ i h, St i h → ∀ b ∈ wr, (∃ o, h.get? b = some o) ∧ ∀ items, ¬ h.IsTuple b items
  item : ∀ i (s : Shared) (Q : Value → Shared → Prop) (E : Value → Shared → Prop), i < n → St i s.heap →
    (∀ v vals h' tk, Unp h' ts v vals → P i vals → St (i + 1) h' → (∀ b o, b ∉ wr → s.heap.get? b = some o → h'.get? b = some o) → Q v { s with heap := h', toks := tk }) →
    wpAny (model prog w) A (pyNext (.ref I)) (fun r s₁ => match r with
      | none => False
      | some v => wpAny (model prog w) A (letOwnedTupleGo T (.ref I) v) (fun _ s₂ => Q v s₂) E s₁) E s
  done : ∀ (s : Shared) (Q : Option Value → Shared → Prop) (E : Value → Shared → Prop), St n s.heap →
    (∀ h' tk, (∀ b o, b ∉ wr → s.heap.get? b = some o → h'.get? b = some o) → Q none { s with heap := h', toks := tk }) → wpAny (model prog w) A (pyNext (.ref I)) Q E s
  self : ∀ i (s : Shared) (Q : Value → Shared → Prop) (E : Value → Shared → Prop), St i s.heap → Q (.ref I) s → wpAny (model prog w) A (pyIter (.ref I)) Q E s

section
variable {prog : Program} {w : World} {A : Around}

/-- a plain walk, a plain target -/
theorem Wk.name {x : Nat} {p : Pos} {I : Addr} {fp wr : List Addr} {n : Nat} {P : Nat → Value → Prop} {St : Nat → Heap → Prop} (W : Walks prog w A I fp wr n P St)
    (nt : ∀ i h, St i h → ∀ b ∈ wr, (∃ o, h.get? b = some o) ∧ ∀ items, ¬ h.IsTuple b items) :
    Wk prog w A [x] (.Name (nm x) p) I fp wr n (fun i vs => ∃ v, vs = [v] ∧ P i v) St where
  sub := W.sub
  frame := W.frame
  nt := nt
  item := fun i s Q E hi st hQ => W.item i s _ E hi st fun v h' tk hv st' hk => wpAny_pure (hQ v [v] h' tk .one ⟨v, rfl, hv⟩ st' hk)
  done := W.done
  self := W.self

theorem cls_ne {h : Heap} {b : Addr} {o : Obj} {c : String} (e : h.get? b = some o) (hc : o.cls = .type c) (hne : c ≠ "tuple") : (∃ o, h.get? b = some o) ∧ ∀ items, ¬ h.IsTuple b items := by
  refine ⟨⟨o, e⟩, fun items t => ?_⟩
  obtain ⟨o', e', hc', _⟩ := t
  rw [e] at e'; cases e'
  rw [hc] at hc'
  injection hc' with q
  exact hne q

theorem Wk.listName (hh : A.handled = none) {x : Nat} {p : Pos} (I ax : Addr) (hne : ax ≠ I) (items : Array Value) :
    Wk prog w A [x] (.Name (nm x) p) I [I, ax] [I] items.size (fun i vs => ∃ v, vs = [v] ∧ items[i]? = some v) (fun i h => h.IsListIter I ax i ∧ h.IsList ax items) :=
  Wk.name (Walks.list hh I ax hne items) fun i h st b hb => by
    rw [List.mem_singleton] at hb; subst hb
    obtain ⟨o, e, hc, _⟩ := st.1
    exact cls_ne e hc (by decide)
theorem Wk.tupName (hh : A.handled = none) {x : Nat} {p : Pos} (I ax : Addr) (hne : ax ≠ I) (items : Array Value) :
    Wk prog w A [x] (.Name (nm x) p) I [I, ax] [I] items.size (fun i vs => ∃ v, vs = [v] ∧ items[i]? = some v) (fun i h => h.IsTupleIter I ax i ∧ h.IsTuple ax items) :=
  Wk.name (Walks.tuple hh I ax hne items) fun i h st b hb => by
    rw [List.mem_singleton] at hb; subst hb
    obtain ⟨o, e, hc, _⟩ := st.1
    exact cls_ne e hc (by decide)
theorem Wk.rangeName (hh : A.handled = none) {x : Nat} {p : Pos} (I : Addr) (a : Int) (n : Nat) :
    Wk prog w A [x] (.Name (nm x) p) I [I] [I] n (fun i vs => ∃ v, vs = [v] ∧ ∃ t, v = .int (a + i * 1) t) (fun i h => IsRangeIter h I (a + (i : Nat) * 1) ((n : Int) - (i : Nat)) 1) :=
  Wk.name (Walks.range hh I a 1 n) fun i h st b hb => by
    rw [List.mem_singleton] at hb; subst hb
    exact cls_ne st rfl (by decide)
theorem Wk.keyName (hh : A.handled = none) {x : Nat} {p : Pos} (I d : Addr) (hne : d ≠ I) (es : Array DictEntry) (ep : Nat) :
    Wk prog w A [x] (.Name (nm x) p) I [I, d] [I] es.size (fun i vs => ∃ h : i < es.size, vs = [es[i].key]) (fun i h => h.IsKeyIter I d i es.size ep ∧ DictRaw h d es ep) where
  sub := fun b hb => by simp at hb; simp [hb]
  frame := fun _ _ _ st hk => ⟨st.1.at fun o e => hk I (by simp) o e, st.2.at fun o e => hk d (by simp) o e⟩
  nt := fun i h st b hb => by
    rw [List.mem_singleton] at hb; subst hb
    obtain ⟨o, e, hc, _⟩ := st.1
    exact cls_ne e hc (by decide)
  item := fun i s Q E hi st hQ => by
    refine next_key hi st.1 st.2 fun h' hit' hs' => wpAny_pure ?_
    exact hQ _ [es[i].key] h' s.toks .one ⟨hi, rfl⟩ ⟨hit', st.2.at fun o e => (hs'.2 d hne).trans e⟩ fun b o hb e => hs'.extBut b o (fun h => hb (by simp [h])) e
  done := fun s Q E st hQ => next_key_end hh st.1 st.2 fun h' he' => hQ h' s.toks fun b o hb e => he' b o (fun h => hb (by simp [h])) e
  self := fun _ _ _ _ st hQ => wpAny_pyIter_keyiter st.1 hQ

theorem Wk.enumList (hh : A.handled = none) {x y k : Nat} {p q r : Pos} (e it l : Addr) (hei : e ≠ it) (hle : l ≠ e) (hli : l ≠ it) (items : Array Value) :
    Wk prog w A [x, y] (.Tuple [.Name (nm x) p, .Name (nm y) q] k r) e [e, it, l] [e, it] items.size (fun i vs => ∃ t v, items[i]? = some v ∧ vs = [.int i t, v])
      (fun i h => (∃ old, IsEnum h e it i old) ∧ h.IsListIter it l i ∧ h.IsList l items) where
  sub := (WalksT.enumerate (prog := prog) (w := w) hh e it l hei hle hli items).sub
  frame := (WalksT.enumerate (prog := prog) (w := w) hh e it l hei hle hli items).frame
  nt := fun i h st b hb => by
    rcases List.mem_cons.mp hb with rfl | hb
    · obtain ⟨old, he⟩ := st.1
      exact cls_ne he rfl (by decide)
    · rw [List.mem_singleton] at hb; subst hb
      obtain ⟨o, e, hc, _⟩ := st.2.1
      exact cls_ne e hc (by decide)
  item := fun i s Q E hi st hQ => by
    have WT := WalksT.enumerate (prog := prog) (w := w) hh e it l hei hle hli items
    refine WT.item i s _ E hi st fun T vals h' tk hv hT hTup hm hk => ?_
    obtain ⟨t, v, hx, rfl⟩ := hv
    refine WT.go _ _ _ i T _ _ E hm fun h'' st' hk' => ?_
    refine hQ (.ref T) [.int i t, v] h'' tk (.two ?_) ⟨t, v, hx, rfl⟩ st' fun b o hb e => hk' b o hb (hk b o hb e)
    exact IsTuple.mono hTup fun o e => hk' T o (WT.apart i T _ hm) e
  done := (WalksT.enumerate (prog := prog) (w := w) hh e it l hei hle hli items).done
  self := (WalksT.enumerate (prog := prog) (w := w) hh e it l hei hle hli items).self

theorem Wk.enumTup (hh : A.handled = none) {x y k : Nat} {p q r : Pos} (e it l : Addr) (hei : e ≠ it) (hle : l ≠ e) (hli : l ≠ it) (items : Array Value) :
    Wk prog w A [x, y] (.Tuple [.Name (nm x) p, .Name (nm y) q] k r) e [e, it, l] [e, it] items.size (fun i vs => ∃ t v, items[i]? = some v ∧ vs = [.int i t, v])
      (fun i h => (∃ old, IsEnum h e it i old) ∧ h.IsTupleIter it l i ∧ h.IsTuple l items) where
  sub := fun b hb => by
    rcases List.mem_cons.mp hb with rfl | hb
    · exact List.mem_cons_self ..
    · exact List.mem_cons_of_mem _ (by rcases List.mem_cons.mp hb with rfl | hb; exact List.mem_cons_self ..; cases hb)
  frame := fun i h h' hst hk => by
    obtain ⟨⟨old, he⟩, hit, hl⟩ := hst
    exact ⟨⟨old, hk e (by simp) _ he⟩, hit.at fun o x => hk it (by simp) o x, hl.at fun o x => hk l (by simp) o x⟩
  nt := fun i h st b hb => by
    rcases List.mem_cons.mp hb with rfl | hb
    · obtain ⟨old, he⟩ := st.1
      exact cls_ne he rfl (by decide)
    · rw [List.mem_singleton] at hb; subst hb
      obtain ⟨o, e, hc, _⟩ := st.2.1
      exact cls_ne e hc (by decide)
  item := fun i s Q E hi st hQ => by
    obtain ⟨⟨old, he⟩, hit, hl⟩ := st
    have hx : items[i]? = some items[i] := Array.getElem?_eq_getElem hi
    refine next_enum_tup he hit hl hx hei fun h' ho hit' hT hsz hk => ?_
    have helt : e < s.heap.objs.size := Heap.lt_size he
    have hilt : it < s.heap.objs.size := by obtain ⟨_, x, _⟩ := hit; exact Heap.lt_size x
    refine wpAny_letOwnedTupleGo_enum ho fun h'' he'' hs'' => ?_
    refine hQ (.ref s.heap.objs.size) [.int i s.toks, items[i]] h'' (s.toks + 1) (.two ⟨_, (hs''.2 _ (Nat.ne_of_gt helt)).trans hT, rfl, _, rfl⟩) ⟨_, _, hx, rfl⟩
      ⟨⟨_, by simpa using he''⟩, hit'.at fun o y => (hs''.2 it hei.symm).trans y, hl.at fun o y => (hs''.2 l hle).trans (hk l o hle hli y)⟩ fun b o hb y => ?_
    exact (hs''.2 b fun e' => hb (by simp [e'])).trans (hk b o (fun e' => hb (by simp [e'])) (fun e' => hb (by simp [e'])) y)
  done := fun s Q E hst hQ => by
    obtain ⟨⟨old, he⟩, hit, hl⟩ := hst
    exact next_enum_tup_end hh he hit hl (Array.getElem?_eq_none (Nat.le_refl _)) fun h' hx => hQ h' s.toks fun b o hb y => hx b o (fun e' => hb (by simp [e'])) y
  self := fun i s Q E hst hQ => by
    obtain ⟨⟨old, he⟩, _, _⟩ := hst
    exact wpAny_pyIter_enum he hQ

/-- a tuple of pairs -/
theorem Wk.tupPair (hh : A.handled = none) {x y k : Nat} {p q r : Pos} (I ax : Addr) (hne : ax ≠ I) (items : Array Value) (Ts : Nat → Addr) (vals : Nat → Value × Value)
    (hit : ∀ j, j < items.size → items[j]? = some (.ref (Ts j))) (hTI : ∀ j, j < items.size → Ts j ≠ I) :
    Wk prog w A [x, y] (.Tuple [.Name (nm x) p, .Name (nm y) q] k r) I (I :: ax :: (List.range items.size).map Ts) [I] items.size (fun i vs => vs = [(vals i).1, (vals i).2])
      (fun j h => h.IsTupleIter I ax j ∧ h.IsTuple ax items ∧ ∀ k, k < items.size → h.IsTuple (Ts k) #[(vals k).1, (vals k).2]) where
  sub := fun b hb => by simp at hb; simp [hb]
  frame := fun _ _ _ st hk => ⟨st.1.at fun o e => hk I (by simp) o e, st.2.1.at fun o e => hk ax (by simp) o e,
    fun k hk' => (st.2.2 k hk').at fun o e => hk (Ts k) (List.mem_cons_of_mem _ (List.mem_cons_of_mem _ (List.mem_map.mpr ⟨k, List.mem_range.mpr hk', rfl⟩))) o e⟩
  nt := fun i h st b hb => by
    rw [List.mem_singleton] at hb; subst hb
    obtain ⟨o, e, hc, _⟩ := st.1
    exact cls_ne e hc (by decide)
  item := fun i s Q E hi st hQ => by
    refine wpAny_pyNext_tuple_item st.1 st.2.1 (x := .ref (Ts i)) (hit i hi) fun h' hit' hs' => ?_
    have tup : ∀ k, k < items.size → h'.IsTuple (Ts k) #[(vals k).1, (vals k).2] := fun k hk' => (st.2.2 k hk').extBut hs'.extBut (hTI k hk')
    refine go_tupiter hit' ?_
    exact hQ (.ref (Ts i)) _ h' s.toks (.two (tup i hi)) rfl ⟨hit', st.2.1.extBut hs'.extBut hne, tup⟩ fun b o hb e => hs'.extBut b o (fun h => hb (by simp [h])) e
  done := fun s Q E st hQ => wpAny_pyNext_tuple_end hh st.1 st.2.1 (by simp) fun h' he' => hQ h' s.toks fun b o hb e => he' b o (fun h => hb (by simp [h])) e
  self := fun _ _ _ _ st hQ => wpAny_pyIter_tupleiter st.1 hQ
end
end Mine
end

section
/-! Targets. -/
set_option maxRecDepth 100000
set_option linter.all false
namespace Mine
open PySem PySem.Calls PyProof.Rows

inductive Nms : List Nat → List Expr → Prop
  | nil : Nms [] []
  | cons {x : Nat} {p : Pos} {xs : List Nat} {ES : List Expr} : Nms xs ES → Nms (x :: xs) (.Name (nm x) p :: ES)

theorem EnvR.congr {base h : Heap} {σ : List Addr} {env : Env} {ρ ρ' : En} (R : EnvR base h σ env ρ) (e : ∀ x, ρ'.get x = ρ.get x) : EnvR base h σ env ρ' := by
  obtain ⟨⟨m, hn, hm⟩, hv, hc, hl⟩ := R
  exact ⟨⟨m, hn, fun x v q => hm x v ((e x).symm.trans q)⟩, fun x v q => hv x v ((e x).symm.trans q), hc, hl⟩

section
variable {prog : Program} {w : World} {base : Heap} {σ σ' X : List Addr} {H H' : Hp} {κ : List Nat} {s s' : Shared} {A : Around} {E : Value → Shared → Prop} {env : Env} {sc : Scope} {ρ : En}

theorem draw_list {it l : Addr} {items : Array Value} (hne : l ≠ it) : ∀ (n i : Nat) (s : Shared) (Q : List Value → Shared → Prop), s.heap.IsListIter it l i → s.heap.IsList l items → i + n ≤ items.size →
    (∀ h', h'.IsListIter it l (i + n) → Heap.SameBut it s.heap h' → Q ((items.toList.drop i).take n) { s with heap := h' }) → wpAny (model prog w) A (draw (.ref it) n) Q E s
  | 0, i, s, Q, hit, _, _, hQ => by
    show wpAny _ _ (pure []) Q E s
    exact wpAny_pure (by simpa using hQ s.heap hit (Heap.SameBut.refl ..))
  | n + 1, i, s, Q, hit, ht, hle, hQ => by
    have hlt : i < items.size := by omega
    show wpAny _ _ (pyNext (.ref it) >>= _) Q E s
    refine wpAny_bind (wpAny_pyNext_list_item hit ht (x := items[i]) (by simp [hlt]) fun h₁ hit₁ hs₁ => ?_)
    refine wpAny_bind (wpAny_holding (draw_list hne n (i + 1) _ _ hit₁ (ht.extBut hs₁.extBut hne) (by omega) fun h₂ hit₂ hs₂ => wpAny_pure ?_))
    have hd : items.toList.drop i = items[i] :: items.toList.drop (i + 1) := by simp [List.drop_eq_getElem_cons, hlt]
    have := hQ h₂ (by rw [show i + (n + 1) = i + 1 + n by omega]; exact hit₂) (hs₁.trans hs₂)
    rw [hd, List.take_succ_cons] at this
    exact this

theorem unpackItems_list {t : Addr} {items : Array Value} {Q : List Value → Shared → Prop} (hh : A.handled = none) (ht : s.heap.IsList t items)
    (hQ : ∀ h', Heap.ExtBut s.heap.objs.size s.heap h' → Q items.toList { s with heap := h' }) : wpAny (model prog w) A (unpackItems (.ref t) items.size none) Q E s := by
  have hlt : t ≠ s.heap.objs.size := by obtain ⟨o, ho, _⟩ := ht; exact Nat.ne_of_lt (Heap.lt_size ho)
  unfold unpackItems
  refine wpAny_bind ?_
  · unfold notIterableAtAll
    refine wpAny_bind (wpAny_specialOf ht.typeIs slot_list_iter.lookup ?_)
    refine wpAny_pure ?_
    simp only [Bool.false_eq_true, if_false]
    refine wpAny_bind (wpAny_holding (wpAny_pyIter_list ht ?_))
    refine wpAny_bind (wpAny_holding (draw_list hlt items.size 0 _ _ ⟨_, Heap.get?_push_size _ rfl, rfl, rfl⟩ (ht.push _) (by omega) fun h₁ hit₁ hs₁ => ?_))
    have hall : List.take items.size (List.drop 0 items.toList) = items.toList := by
      rw [List.drop_zero]; exact List.take_of_length_le (by simp)
    rw [hall]
    rw [if_neg (by simp)]
    have ht₁ : h₁.IsList t items := (ht.push _).extBut hs₁.extBut hlt
    refine wpAny_bind (wpAny_holding (wpAny_pyNext_list_end hh hit₁ ht₁ (by simp) fun h₂ he₂ => ?_))
    simp only [Option.isSome_none, Bool.false_eq_true, if_false]
    refine wpAny_pure (hQ h₂ fun b o hb e => he₂ b o hb (hs₁.extBut b o hb (Heap.get?_push_of_some _ e)))

/-- a tuple or a list that is taken apart -/
inductive Apart (s : Shared) (σ : List Addr) (H : Hp) : V → List V → Prop
  | tup {vs : List V} : Apart s σ H (.tup vs) vs
  | lst {n : Nat} {vs : List V} : Hp.get H n = some (.lst vs) → Apart s σ H (.ref n) vs

theorem unpack_ok {v : V} {vs : List V} {a : Value} {Q : List Value → Shared → Prop} (hh : A.handled = none) (R : Rel prog w base s.heap σ H) (ra : VR s.heap σ v a) (ap : Apart s σ H v vs)
    (h : ∀ s' us, Pst prog w base κ σ [] s H s' σ → VRs s'.heap σ vs us → Q us s') : wpAny (model prog w) A (unpackItems a vs.length none) Q E s := by
  have ext : ∀ h', Heap.ExtBut s.heap.objs.size s.heap h' → Pst prog w base κ σ [] s H { s with heap := h' } σ := fun h' he =>
    R.keeps (s' := { s with heap := h' }) (fun b o e => he b o (fun q => by subst q; exact absurd (Heap.lt_size e) (Nat.lt_irrefl _)) e) ⟨_, _, rfl⟩
  cases ap with
  | tup =>
    cases ra with
    | @tup _ _ ws t l r =>
      have hl : vs.length = ws.toArray.size := by rw [List.size_toArray]; exact r.length
      rw [hl]
      refine unpackItems_tuple hh t fun h' he => h _ _ (ext h' he) ?_
      rw [List.toList_toArray]; exact (ext h' he).vrs r
  | lst hn =>
    cases ra with
    | ref ex =>
      obtain ⟨ws, n1, o1, l1, r⟩ := R.cell _ _ _ ex hn
      have hl : vs.length = ws.toArray.size := by rw [List.size_toArray]; exact r.length
      rw [hl]
      refine unpackItems_list hh ⟨_, o1, rfl, _, rfl⟩ fun h' he => h _ _ (ext h' he) ?_
      rw [List.toList_toArray]; exact (ext h' he).vrs r

theorem binds_ok (S : EnvS env sc) : ∀ (xs : List Nat) (us : List V) (vals : List Value) (ρ : En) (s : Shared) (Q : Unit → Shared → Prop) (f : Nat → Value → Sem Unit), (∀ x v s Q, wpAny (model prog w) A (storeName env (nm x) v) Q E s → wpAny (model prog w) A (f x v) Q E s) →
    us.length = xs.length → VRs s.heap σ us vals → (∀ x ∈ xs, sc.names.lookup (nm x) = some .local ∨ sc.names.lookup (nm x) = some .cell) → Rel prog w base s.heap σ H → EnvR base s.heap σ env ρ →
    (∀ s', Pst prog w base κ σ (frameX sc env) s H s' σ → EnvR base s'.heap σ env (ρ.sets xs us) → Q () s') → wpAny (model prog w) A (assignInOrder (xs.map f) vals) Q E s
  | [], us, vals, ρ, s, Q, f, hf, hl, r, hk, R, V0, h => by
    cases us with
    | nil => cases r; exact assignInOrder_nil (h s (Pst.refl R) V0)
    | cons => simp at hl
  | x :: xs, us, vals, ρ, s, Q, f, hf, hl, r, hk, R, V0, h => by
    cases r with
    | nil => simp at hl
    | @cons u v us vals r1 rs =>
      refine assignInOrder_cons (hf x v s _ (store_ok (κ := κ) S R V0 (hk x List.mem_cons_self) r1 fun s' P V1 => ?_))
      refine binds_ok S xs us vals _ s' Q f hf (by simpa using hl) (P.vrs rs) (fun y hy => hk y (List.mem_cons_of_mem _ hy)) P.rel V1 fun s'' P' V2 => h s'' (P.trans P') V2

theorem each_map {xs : List Nat} {ES : List Expr} (n : Nms xs ES) : ∃ ps : Nat → Pos, True := ⟨fun _ => default, trivial⟩
theorem stores_ok (S : EnvS env sc) : ∀ (xs : List Nat) (ES : List Expr) (us : List V) (vals : List Value) (ρ : En) (s : Shared) (Q : Unit → Shared → Prop), Nms xs ES →
    us.length = xs.length → VRs s.heap σ us vals → (∀ x ∈ xs, sc.names.lookup (nm x) = some .local ∨ sc.names.lookup (nm x) = some .cell) → Rel prog w base s.heap σ H → EnvR base s.heap σ env ρ →
    (∀ s', Pst prog w base κ σ (frameX sc env) s H s' σ → EnvR base s'.heap σ env (ρ.sets xs us) → Q () s') → wpAny (model prog w) A (assignInOrder ((assignEach ES env).map (·.2)) vals) Q E s
  | [], ES, us, vals, ρ, s, Q, nn, hl, r, hk, R, V0, h => by
    cases nn
    cases us with
    | nil => cases r; exact assignInOrder_nil (h s (Pst.refl R) V0)
    | cons => simp at hl
  | x :: xs, ES, us, vals, ρ, s, Q, nn, hl, r, hk, R, V0, h => by
    cases nn with
    | @cons _ p _ ES nn =>
      cases r with
      | nil => simp at hl
      | @cons u v us vals r1 rs =>
        show wpAny _ _ (assignInOrder (assign (.Name (nm x) p) env :: (assignEach ES env).map (·.2)) (v :: vals)) _ _ _
        refine assignInOrder_cons (wpAny_assign_Name (store_ok (κ := κ) S R V0 (hk x List.mem_cons_self) r1 fun s' P V1 => ?_))
        refine stores_ok S xs ES us vals _ s' Q nn (by simpa using hl) (P.vrs rs) (fun y hy => hk y (List.mem_cons_of_mem _ hy)) P.rel V1 fun s'' P' V2 => h s'' (P.trans P') V2

theorem Nms.each {xs : List Nat} {ES : List Expr} (n : Nms xs ES) (env : Env) : (assignEach ES env).length = xs.length ∧ (assignEach ES env).findIdx? (·.1) = none := by
  induction n with
  | nil => exact ⟨rfl, rfl⟩
  | @cons x p xs ES n ih =>
    refine ⟨?_, ?_⟩
    · show (assignEach ES env).length + 1 = _
      rw [ih.1]; rfl
    · show List.findIdx? _ ((false, assign (.Name (nm x) p) env) :: assignEach ES env) = none
      rw [List.findIdx?_cons, ih.2]; rfl

theorem unpackT_ok {v : V} {vs : List V} {a : Value} {xs : List Nat} {ES : List Expr} {k : Nat} {p : Pos} {Q : Unit → Shared → Prop} (hh : A.handled = none) (S : EnvS env sc) (nn : Nms xs ES) (R : Rel prog w base s.heap σ H) (V0 : EnvR base s.heap σ env ρ)
    (hk : ∀ x ∈ xs, sc.names.lookup (nm x) = some .local ∨ sc.names.lookup (nm x) = some .cell) (ra : VR s.heap σ v a) (ap : Apart s σ H v vs) (hl : vs.length = xs.length)
    (h : ∀ s', Pst prog w base κ σ (frameX sc env) s H s' σ → EnvR base s'.heap σ env (ρ.sets xs vs) → Q () s') : wpAny (model prog w) A (assign (.Tuple ES k p) env a) Q E s := by
  obtain ⟨e1, e2⟩ := nn.each env
  rw [PyProof.Rows.assign_Tuple]
  refine wpAny_bind (wpAny_standAt ?_)
  unfold unpack
  rw [e1, e2, ← hl]
  refine wpAny_bind (wpAny_holding (unpack_ok (κ := κ) hh R ra ap fun s' us P r => ?_))
  exact stores_ok (κ := κ) S xs ES vs us ρ s' Q nn hl r hk P.rel (V0.keep0 P) fun s'' P' V2 => h s'' (P.wide.trans P') V2

theorem target_ok {ts : List Nat} {T : Expr} {us : List V} {vals : List Value} {v : Value} {Q : Unit → Shared → Prop} (hh : A.handled = none) (S : EnvS env sc) (t : TrT ts T) (un : Unp s.heap ts v vals) (r : VRs s.heap σ us vals) (R : Rel prog w base s.heap σ H) (V0 : EnvR base s.heap σ env ρ)
    (hk : ∀ x ∈ ts, sc.names.lookup (nm x) = some .local ∨ sc.names.lookup (nm x) = some .cell)
    (h : ∀ s', Pst prog w base κ σ (frameX sc env) s H s' σ → EnvR base s'.heap σ env (ρ.sets ts us) → Q () s') : wpAny (model prog w) A (assign T env v) Q E s := by
  have hz : sizeLine = 16777216 := sizeLine_val
  cases t with
  | @one x p =>
    cases un with
    | one =>
      cases r with
      | cons r1 rs =>
        cases rs
        exact wpAny_assign_Name (store_ok (κ := κ) S R V0 (hk x List.mem_cons_self) r1 h)
  | @two x y k p q r' hxy =>
    cases un with
    | two ht =>
      have r0 : VR s.heap σ (.tup us) (.ref _) := .tup (ws := [_, _]) ht (by simp [hz]) r
      exact unpackT_ok (κ := κ) hh S (.cons (.cons .nil)) R V0 hk r0 .tup (by rw [r.length]; rfl) h
end
end Mine
end

section
/-! The judgments; expressions but for comprehensions. -/
set_option maxRecDepth 100000
set_option linter.all false
namespace Mine
open PySem PySem.Calls PyProof.Rows

abbrev Sum := Nat → List Nat → List V → Hp → Option (Option (V × Hp))
noncomputable def noS : Sum := fun _ _ _ _ => none

def FnAt (base : Heap) (F : Fn) (a : Addr) : Prop :=
  ∃ o d pm cd doc, base.get? a = some o ∧ o.data = .func (docDef d.name d.params d.body d.scope pm cd doc) ∧ base.CodeRec cd d.name ∧ chkFn F d = true

structure Base (base : Heap) : Prop where
  sys : ∃ o, base.get? sysModules = some o
  nolimit : base.NoLimit
  glo : ∃ mg mb, base.Ns mainGlobals mg ∧ base.Ns builtinsNs mb ∧ (∀ g, ∃ v, mg (gnm g) = some v ∧ VR base [] (gval g) v) ∧ (∀ b, mg (biNm b) = none ∧ mb (biNm b) = some (biVal b)) ∧
    (mg "range" = none ∧ mb "range" = some (.type "range")) ∧ (mg "enumerate" = none ∧ mb "enumerate" = some (.type "enumerate")) ∧ (∀ f F, tbl f = some F → ∃ a, mg (nm F.name) = some (.ref a) ∧ FnAt base F a)

def Cx (A : Around) (n : Nat) : Prop := A.handled = none ∧ A.depth + n < recursionLimit ∧ A.units + 10 * n + 100 < cLine
theorem Cx.pred {A : Around} {n : Nat} (h : Cx A (n + 1)) : Cx A n := ⟨h.1, by have := h.2.1; omega, by have := h.2.2; omega⟩
theorem Cx.in1 {A : Around} {n : Nat} (h : Cx A (n + 1)) : Cx A.in1 n := ⟨h.1, by have := h.2.1; show A.depth + n < _; omega, by have := h.2.2; show A.units + 1 + 10 * n + 100 < _; omega⟩
theorem Cx.room {A : Around} {n : Nat} (h : Cx A n) : A.units + 100 < cLine := by have := h.2.2; omega

/-- the comprehension's own names lie apart -/
structure CFree (base : Heap) (s : Shared) (C : Addr) (s' : Shared) (σ' : List Addr) : Prop where
  out : C ∉ σ'
  bas : base.get? C = none
  new : s.heap.get? C = none
  ns : ∃ m, s'.heap.Ns C m


/-- what a run gives back -/
inductive FlR (h : Heap) (σ : List Addr) : Fl → Flow → Prop
  | next : FlR h σ .next .next
  | cont : FlR h σ .cont .cont
  | ret {v : V} {u : Value} : VR h σ v u → FlR h σ (.ret v) (.ret u)

section
variable (prog : Program) (w : World) (base : Heap)
def EvOK (r : Rn) (n : Nat) : Prop := ∀ (κ : List Nat) (e : Ex) (X : Expr) (env : Env) (sc : Scope) (ρ : En) (H : Hp) (σ : List Addr) (s : Shared) (A : Around) (v : V) (H' : Hp) (Q : Value → Shared → Prop) (EE : Value → Shared → Prop),
  EnvS env sc → TrE sc e X → Cx A n → Rel prog w base s.heap σ H → EnvR base s.heap σ env ρ → r.ev κ e ρ H = some (v, H') →
  (∀ s' σ' u, Pst prog w base κ σ [] s H' s' σ' → VR s'.heap σ' v u → Q u s') → wpAny (model prog w) A (eval X env) Q EE s
def TsOK (r : Rn) (n : Nat) : Prop := ∀ (κ : List Nat) (e : Ex) (X : Expr) (env : Env) (sc : Scope) (ρ : En) (H : Hp) (σ : List Addr) (s : Shared) (A : Around) (b : Bool) (H' : Hp) (Q : Bool → Shared → Prop) (EE : Value → Shared → Prop),
  EnvS env sc → TrE sc e X → Cx A n → Rel prog w base s.heap σ H → EnvR base s.heap σ env ρ → r.ts κ e ρ H = some (b, H') →
  (∀ s' σ', Pst prog w base κ σ [] s H' s' σ' → Q b s') → wpAny (model prog w) A (isTrue X env (eval X env)) Q EE s
def ClOK (r : Rn) (n : Nat) : Prop := ∀ (κ : List Nat) (f : Nat) (F : Fn) (a : Addr) (vs : List V) (as : List Value) (H : Hp) (σ : List Addr) (s : Shared) (A : Around) (v : V) (H' : Hp) (Q : Value → Shared → Prop) (EE : Value → Shared → Prop),
  tbl f = some F → FnAt base F a → Cx A n → Rel prog w base s.heap σ H → VRs s.heap σ vs as → r.cl κ f vs H = some (v, H') →
  (∀ s' σ' u, Pst prog w base κ σ [] s H' s' σ' → VR s'.heap σ' v u → Q u s') → wpAny (model prog w) A (call (.ref a) as) Q EE s
def XsOK (r : Rn) (n : Nat) : Prop := ∀ (κ : List Nat) (b : List Sm) (BS : List Stmt) (env : Env) (sc : Scope) (ρ : En) (H : Hp) (σ : List Addr) (s : Shared) (A : Around) (fl : Fl) (ρ' : En) (H' : Hp) (Q : Flow → Shared → Prop) (EE : Value → Shared → Prop),
  EnvS env sc → TrSs sc b BS → Cx A n → Rel prog w base s.heap σ H → EnvR base s.heap σ env ρ → r.xs κ b ρ H = some (fl, ρ', H') →
  (∀ s' σ' f, Pst prog w base κ σ (frameX sc env) s H' s' σ' → EnvR base s'.heap σ' env ρ' → FlR s'.heap σ' fl f → Q f s') → wpAny (model prog w) A (execs BS env) Q EE s
def WhOK (r : Rn) (n : Nat) : Prop := ∀ (κ : List Nat) (c : Ex) (C : Expr) (b : List Sm) (BS : List Stmt) (env : Env) (sc : Scope) (ρ : En) (H : Hp) (σ : List Addr) (s : Shared) (A : Around) (fl : Fl) (ρ' : En) (H' : Hp) (RR : Result → Shared → Prop),
  EnvS env sc → TrE sc c C → TrSs sc b BS → Cx A n → Rel prog w base s.heap σ H → EnvR base s.heap σ env ρ → r.wh κ c b ρ H = some (fl, ρ', H') →
  (∀ s' σ' f, Pst prog w base κ σ (frameX sc env) s H' s' σ' → EnvR base s'.heap σ' env ρ' → FlR s'.heap σ' fl f → RR (.ok f) s') → codeAny (model prog w) A (.whileLoop C BS [] env) RR s
/-- a summary of a call, for every program that bears the table -/
def Sd (M : Nat) (f : Nat) (κ : List Nat) (vs : List V) (H : Hp) (v : V) (H' : Hp) : Prop := ∀ (prog : Program) (w : World) (base : Heap) (F : Fn) (a : Addr) (as : List Value) (σ : List Addr) (s : Shared) (A : Around) (Q : Value → Shared → Prop) (EE : Value → Shared → Prop),
  Base base → tbl f = some F → FnAt base F a → Cx A M → Rel prog w base s.heap σ H → VRs s.heap σ vs as →
  (∀ s' σ' u, Pst prog w base κ σ [] s H' s' σ' → VR s'.heap σ' v u → Q u s') → wpAny (model prog w) A (call (.ref a) as) Q EE s
def SOK (SS : Sum) (M : Nat) : Prop := ∀ f κ vs H v H', SS f κ vs H = some (some (v, H')) → Sd M f κ vs H v H'
/-- a comprehension whose list is used at once -/
def CuOK (r : Rn) (n : Nat) : Prop := ∀ (κ : List Nat) (e : Ex) (X : Expr) (env : Env) (sc : Scope) (ρ : En) (H : Hp) (σ : List Addr) (s : Shared) (A : Around) (v : V) (H' : Hp) (u : Value → Sem Unit) (Q : Unit → Shared → Prop) (EE : Value → Shared → Prop),
  EnvS env sc → TrE sc e X → Cx A n → Rel prog w base s.heap σ H → EnvR base s.heap σ env ρ → r.ev κ e ρ H = some (v, H') →
  (∀ D C s' σ', Pst prog w base κ σ [] s H' s' σ' → VR s'.heap σ' v (.ref D) → CFree base s C s' σ' → compPost (model prog w) A EE (some u) (fun _ s' => Q () s') (.ref D) C (.ok .next) s') →
  (match X with
    | .ListComp .. => wpAny (model prog w) A (evalThenUse X env u) Q EE s
    | .DictComp .. => wpAny (model prog w) A (evalThenUse X env u) Q EE s
    | _ => True)
structure OK (r : Rn) (n : Nat) : Prop where
  cu : CuOK prog w base r n
  ev : EvOK prog w base r n
  ts : TsOK prog w base r n
  cl : ClOK prog w base r n
  xs : XsOK prog w base r n
  wh : WhOK prog w base r n
end

theorem TrE.not {sc : Scope} {e : Ex} {X : Expr} {G : Prop} (t : TrE sc e X) (h : ∀ e, chkE sc e X = false) : G := absurd (t.symm.trans (h e)) (by decide)
theorem TrE.star {sc : Scope} {e : Ex} {X : Expr} (t : TrE sc e X) (rest : List Expr) (env : Env) : starEach (X :: rest) env = (false, eval X env) :: starEach rest env := by
  cases X <;> first | rfl | exact t.not fun e => by cases e <;> first | rfl | (rename_i c _; cases c <;> rfl)
theorem TrE.marks {sc : Scope} {e : Ex} {X : Expr} (t : TrE sc e X) (op : CmpOp) : behindInMarks op X = false := by
  cases X <;> first | rfl | exact t.not fun e => by cases e <;> first | rfl | (rename_i c _; cases c <;> rfl)
theorem TrE.noSlice {sc : Scope} {e : Ex} {X : Expr} (t : TrE sc e X) (o i : Value) : subscripted X false o i = operate [o, i] (getItem o i) := by
  cases X <;> first | rfl | exact t.not fun e => by cases e <;> first | rfl | (rename_i c _; cases c <;> rfl)
theorem TrE.noSet {sc : Scope} {e : Ex} {X : Expr} (t : TrE sc e X) (env : Env) (x : Value) : foldedSetIterable X env x = pure x := by
  cases X <;> first | rfl | exact t.not fun e => by cases e <;> first | rfl | (rename_i c _; cases c <;> rfl)


section
variable {prog : Program} {w : World} {base : Heap} {σ σ' X : List Addr} {H H' : Hp} {κ : List Nat} {s s' : Shared} {A : Around} {E : Value → Shared → Prop} {env : Env} {sc : Scope} {ρ : En} {r : Rn} {n : Nat}

theorem glb_ok {x : PySem.Str} (S : EnvS env sc) (h : glb sc x = true) : env.kindOf x = some .globalImplicit ∧ (x == ("__debug__" : PySem.Str)) = false := by
  unfold glb at h
  rw [Bool.and_eq_true] at h
  exact ⟨S.kind _ _ (beq_iff_eq.mp h.1) (by decide), by simpa using h.2⟩

theorem Rel.nsG (R : Rel prog w base s.heap σ H) (S : EnvS env sc) {mg : PySem.Str → Option Value} (n : base.Ns mainGlobals mg) : s.heap.Ns env.globals mg := by rw [S.glob]; exact n.at' fun o e => R.stay _ o e
theorem Rel.nsB (R : Rel prog w base s.heap σ H) (S : EnvS env sc) {mb : PySem.Str → Option Value} (n : base.Ns builtinsNs mb) : s.heap.Ns env.builtins mb := by rw [S.blt]; exact n.at' fun o e => R.stay _ o e
theorem VR.up (R : Rel prog w base s.heap σ H) {v : V} {u : Value} (r : VR base [] v u) : VR s.heap σ v u := r.mono (fun a items t => IsTuple.mono t fun o e => R.stay _ o e) fun n a e => by simp at e

theorem global_name {x : PySem.Str} {p : Pos} {v : Value} {mg mb : PySem.Str → Option Value} {Q : Value → Shared → Prop} (S : EnvS env sc) (R : Rel prog w base s.heap σ H) (g : glb sc x = true) (ng : base.Ns mainGlobals mg) (hv : mg x = some v) (h : Q v s) :
    wpAny (model prog w) A (eval (.Name x p) env) Q E s :=
  Name_function_global S.fn (glb_ok S g).1 (loadGlobal_global (R.nsG S ng) hv h) (glb_ok S g).2
theorem builtin_name {x : PySem.Str} {p : Pos} {v : Value} {mg mb : PySem.Str → Option Value} {Q : Value → Shared → Prop} (S : EnvS env sc) (R : Rel prog w base s.heap σ H) (g : glb sc x = true) (ng : base.Ns mainGlobals mg) (nb : base.Ns builtinsNs mb) (hm : mg x = none) (hv : mb x = some v) (h : Q v s) :
    wpAny (model prog w) A (eval (.Name x p) env) Q E s :=
  Name_function_global S.fn (glb_ok S g).1 (loadGlobal_builtin (R.nsG S ng) hm (R.nsB S nb) hv h) (glb_ok S g).2

/-- the arguments in a row -/
theorem evs_ok (O : EvOK prog w base r n) (S : EnvS env sc) (hA : Cx A n) : ∀ {es : List Ex} {ES : List Expr} {pos : Pos} {vs : List V} {H H' : Hp} {σ : List Addr} {s : Shared} {Q : List Value → Shared → Prop}, TrEs sc es ES → Rel prog w base s.heap σ H → EnvR base s.heap σ env ρ →
    evs r κ es ρ H = some (vs, H') → (∀ s' σ' us, Pst prog w base κ σ [] s H' s' σ' → VRs s'.heap σ' vs us → Q us s') → wpAny (model prog w) A (spliced (backTo pos (starEach ES env))) Q E s
  | [], ES, pos, vs, H, H', σ, s, Q, t, R, V0, e0, h => by
    rw [trs_nil t]
    exact some2_c (M := fun a b => (∀ s' σ' us, Pst prog w base κ σ [] s b s' σ' → VRs s'.heap σ' a us → Q us s') → wpAny (model prog w) A (spliced (backTo pos (starEach [] env))) Q E s) e0 (fun h => spliced_nil (h s σ [] (Pst.refl R) .nil)) h
  | e :: es, ES, pos, vs, H, H', σ, s, Q, t, R, V0, e0, h => by
    apply trs_cons t; intro X ES t1 ts
    refine bd_c e0 fun v H₁ h1 e0 => bd_c e0 fun vs' H₂ h2 e0 => ?_
    cases e0
    rw [t1.star]
    refine spliced_cons (O κ e X env sc ρ H σ s A v H₁ _ E S t1 hA R V0 h1 fun s' σ' u P ru => ?_)
    exact evs_ok O S hA ts P.rel (V0.keep0 P) h2 fun s'' σ'' us P' rs => h s'' σ'' (u :: us) (P.trans P') (.cons (P'.vr ru) rs)

theorem callWith_ok {pos : Pos} {f : Value} {ES : List Expr} {es : List Ex} {Q : Value → Shared → Prop} (t : TrEs sc es ES) (hf : (∃ id, f = .builtin id) ∨ (∃ T, f = .type T) ∨ (∃ a o fd, f = .ref a ∧ base.get? a = some o ∧ o.data = .func fd))
    (h : wpAny (model prog w) A (spliced (backTo pos (starEach ES env))) (fun vs s₁ => (∀ b o, base.get? b = some o → s₁.heap.get? b = some o) ∧ wpAny (model prog w) A (call f vs) Q E s₁) E s) :
    wpAny (model prog w) A (callWith pos f [] (backTo pos (starEach ES env)) []) Q E s := by
  have hplain : ∀ {es : List Ex} {ES : List Expr}, TrEs sc es ES → (backTo pos (starEach ES env)).any (·.1) = false := by
    intro es ES t
    induction es generalizing ES with
    | nil => rw [trs_nil t]; rfl
    | cons e es ih =>
      apply trs_cons t; intro X ES t1 ts
      rw [t1.star]
      show (false || (backTo pos (starEach _ env)).any (·.1)) = false
      rw [ih ts]; rfl
  have hargs : ∀ {K : Args → Shared → Prop} (g : Value), wpAny (model prog w) A (spliced (backTo pos (starEach ES env))) (fun vs s₁ => K ⟨vs, []⟩ s₁) E s → wpAny (model prog w) A (evalArgs g true (backTo pos (starEach ES env)) []) K E s := by
    intro K g hk
    cases es with
    | nil =>
      rw [trs_nil t] at hk ⊢
      unfold evalArgs
      show wpAny _ _ (spliced [] >>= _) _ _ s
      have hk : wpAny (model prog w) A (spliced []) (fun vs s₁ => K ⟨vs, []⟩ s₁) E s := hk
      refine wpAny_bind (wpAny_mono hk (fun vs s' h' => wpAny_bind (wpAny_pure ?_)) fun _ _ x => x)
      refine wpAny_holding ?_
      exact wpAny_bind (wpAny_pure (wpAny_bind (wpAny_pure (wpAny_pure h'))))
    | cons e es =>
      refine trs_cons (M := fun ES => wpAny (model prog w) A (spliced (backTo pos (starEach ES env))) (fun vs s₁ => K ⟨vs, []⟩ s₁) E s → wpAny (model prog w) A (evalArgs g true (backTo pos (starEach ES env)) []) K E s) t (fun X ES t1 ts hk => ?_) hk
      rw [t1.star] at hk ⊢
      exact evalArgs_plain hk
  rcases hf with ⟨id, rfl⟩ | ⟨T, rfl⟩ | ⟨a, o, fd, rfl, ho, hd⟩
  · exact callWith_builtin (hplain t) (hargs _ (wpAny_mono h (fun vs s₁ h₁ => h₁.2) fun _ _ x => x))
  · exact PyProof.Rows.callWith_type (hplain t) (hargs _ (wpAny_mono h (fun vs s₁ h₁ => h₁.2) fun _ _ x => x))
  · exact callWith_function (o := o) (fd := fd) (hargs _ (wpAny_mono h (fun vs s₁ h₁ => ⟨⟨h₁.1 _ _ ho, hd⟩, h₁.2⟩) fun _ _ x => x))
end
end Mine
end

section
/-! Expressions, one step. -/
set_option maxRecDepth 100000
set_option linter.all false
namespace Mine
open PySem PySem.Calls PyProof.Rows

section
variable {prog : Program} {w : World} {base : Heap} {σ σ' X : List Addr} {H H' : Hp} {κ : List Nat} {s s' : Shared} {A : Around} {E : Value → Shared → Prop} {env : Env} {sc : Scope} {ρ : En} {r : Rn} {n : Nat} {SS : Sum}

theorem VRs.le {h : Heap} {vs : List V} {us : List Value} (r : VRs h σ vs us) (hl : vs.length ≤ 1000) : us.length ≤ sizeLine := by rw [← r.length, sizeLine_val]; omega
theorem evs_length : ∀ {es : List Ex} {vs : List V} {H H' : Hp}, evs r κ es ρ H = some (vs, H') → vs.length = es.length
  | [], vs, H, H', e => by cases e; rfl
  | e :: es, vs, H, H', h => bd_c h fun v H₁ h1 h => bd_c h fun vs' H₂ h2 h => by
    cases h
    rw [List.length_cons, List.length_cons, evs_length h2]

/-- a dict of one pair -/
theorem dict1_ok {d ka : Addr} {ks : List Int} {vv : V} {vv' : Value} {H₂ : Hp} {σ₂ : List Addr} {s₂ : Shared} {Q : PUnit → Shared → Prop} (B : Base base) (R : Rel prog w base s.heap σ H) (hu : A.units < cLine)
    (hd : s₂.heap.get? d = some { cls := .type "dict", data := .dict #[] }) (hn : s.heap.get? d = none) (P : Pst prog w base κ σ [] s H₂ s₂ σ₂) (ho : d ∉ σ₂) (hk : (TK prog w).is s₂.heap ks ka) (rv : VR s₂.heap σ₂ vv vv')
    (h : ∀ s', Pst prog w base κ σ [] s (H₂ ++ [.dic [(ks, vv)]]) s' (σ₂ ++ [d]) → Q PUnit.unit s') : wpAny (model prog w) A (storeAll d [(.ref ka, vv')]) Q E s₂ := by
  have hD : s₂.heap.DictOfH (TK prog w) d [] := ⟨_, _, _, hd, ⟨rfl, rfl, rfl⟩, rfl, rfl, fun x hx => absurd hx (by simp), by simp⟩
  unfold storeAll
  rw [List.forIn_cons]
  refine wpAny_bind (wpAny_bind (wpAny_dictSet_heap (knd := TK prog w) hu hk hD (fun h' hD' hs => wpAny_pure ?_) (by simp)))
  show wpAny _ _ (forIn [] _ _) _ _ _
  rw [List.forIn_nil]
  refine wpAny_pure (h _ ?_)
  have hb : base.get? d = none := by
    cases q : base.get? d with
    | none => rfl
    | some o => rw [R.stay d o q] at hn; cases hn
  have hnt : ∀ items, ¬ s₂.heap.IsTuple d items := (cls_ne hd rfl (by decide)).2
  have hex : ∃ o, h'.get? d = some o := by obtain ⟨o, _, _, ho, _⟩ := hD'; exact ⟨o, ho⟩
  have P1 : Pst prog w base κ σ₂ [d] s₂ H₂ { s₂ with heap := h', toks := s₂.toks + (TK prog w).draws ks } σ₂ :=
    P.rel.side (s' := { s₂ with heap := h', toks := s₂.toks + (TK prog w).draws ks }) ho hb (by simp) hs ⟨h', _, rfl⟩ hnt hex
  have P2 := (P.wide (X := [d])).trans P1
  have P3 : Pst prog w base κ σ [] s H₂ { s₂ with heap := h', toks := s₂.toks + (TK prog w).draws ks } σ₂ :=
    ⟨P2.same, P2.pre, P2.new, ⟨P2.keep.1, fun b o e _ hn' => P2.keep.2 b o e (fun hm => by rw [List.mem_singleton] at hm; subst hm; rw [hn] at e; cases e) hn'⟩, P2.tups, P2.rel⟩
  have hsub : ∀ (n : Nat) (b : Addr), σ₂[n]? = some b → (σ₂ ++ [d])[n]? = some b := fun n b e => by rw [List.getElem?_append_left (List.getElem?_eq_some_iff.mp e).1]; exact e
  have e1 : storedH ([] : List (List Int × Addr × Value)) ks ka vv' = [(ks, ka, vv')] := rfl
  rw [e1] at hD'
  exact P3.label B.sys R hn ho ⟨_, hD', by simp [sizeLine_val], .cons (rv.mono P1.tups hsub) .nil⟩

theorem biVal_ok (b : Bi) : (∃ id, biVal b = .builtin id) ∨ (∃ T, biVal b = .type T) := by cases b <;> first | exact .inl ⟨_, rfl⟩ | exact .inr ⟨_, rfl⟩

/-- what an expression gives -/
def EvG (prog : Program) (w : World) (base : Heap) (κ : List Nat) (σ : List Addr) (s : Shared) (Q : Value → Shared → Prop) (v : V) (H' : Hp) : Prop := ∀ s' σ' u, Pst prog w base κ σ [] s H' s' σ' → VR s'.heap σ' v u → Q u s'
theorem EvG.of {Q : Value → Shared → Prop} {x v : V} {H₁ : Hp} (h : EvG prog w base κ σ s Q v H') (e : some (x, H₁) = some (v, H')) : EvG prog w base κ σ s Q x H₁ := some2_c (M := fun a b => EvG prog w base κ σ s Q a b → EvG prog w base κ σ s Q x H₁) e id h
theorem EvG.via {Q : Value → Shared → Prop} {v : V} {H₁ : Hp} (h : EvG prog w base κ σ s Q v H') (P : Pst prog w base κ σ [] s H₁ s' σ') : EvG prog w base κ σ' s' Q v H' := fun _ _ _ P' r => h _ _ _ (P.trans P') r

section
variable {e a b c : Ex} {X XA XB XC : Expr} {Q : Value → Shared → Prop} {EE : Value → Shared → Prop} {v x y : V} {H₁ H₂ H₃ : Hp}
theorem O_ev (O : OK prog w base r n) (S : EnvS env sc) (t : TrE sc e X) (hA : Cx A n) (R : Rel prog w base s.heap σ H) (V0 : EnvR base s.heap σ env ρ) (h1 : r.ev κ e ρ H = some (v, H')) (h : ∀ s' σ' u, Pst prog w base κ σ [] s H' s' σ' → EnvR base s'.heap σ' env ρ → VR s'.heap σ' v u → Q u s') : wpAny (model prog w) A (eval X env) Q EE s :=
  O.ev κ e X env sc ρ H σ s A v H' Q EE S t hA R V0 h1 fun s' σ' u P ru => h s' σ' u P (V0.keep0 P) ru
/-- two expressions, one after the other -/
theorem O_two (O : OK prog w base r n) (S : EnvS env sc) (ta : TrE sc a XA) (tb : TrE sc b XB) (hA : Cx A n) (R : Rel prog w base s.heap σ H) (V0 : EnvR base s.heap σ env ρ) (h1 : r.ev κ a ρ H = some (x, H₁)) (h2 : r.ev κ b ρ H₁ = some (y, H₂)) {Q : Value → Value → Shared → Prop}
    (h : ∀ s' σ' u u', Pst prog w base κ σ [] s H₂ s' σ' → EnvR base s'.heap σ' env ρ → VR s'.heap σ' x u → VR s'.heap σ' y u' → Q u u' s') : wpAny (model prog w) A (eval XA env) (fun u s₁ => wpAny (model prog w) A (eval XB env) (Q u) EE s₁) EE s :=
  O_ev O S ta hA R V0 h1 fun s₁ σ₁ u P V1 ru => O_ev O S tb hA P.rel V1 h2 fun s₂ σ₂ u' P' V2 ru' => h s₂ σ₂ u u' (P.trans P') V2 (P'.vr ru) ru'
end

theorem ev_plain (B : Base base) (O : OK prog w base r n) (κ : List Nat) (e : Ex) (X : Expr) (env : Env) (sc : Scope) (ρ : En) (H : Hp) (σ : List Addr) (s : Shared) (A : Around) (v : V) (H' : Hp) (Q : Value → Shared → Prop) (EE : Value → Shared → Prop)
    (S : EnvS env sc) (T : TrE sc e X) (hA : Cx A (n + 1)) (R : Rel prog w base s.heap σ H) (V0 : EnvR base s.heap σ env ρ) (e0 : (step tbl SS r).ev κ e ρ H = some (v, H'))
    (h : EvG prog w base κ σ s Q v H')
    (hcomp : ∀ e' ts it c fr, e = .comp e' ts it c fr → wpAny (model prog w) A (eval X env) Q EE s) (hdcomp : ∀ k v x src fr, e = .dcomp k v x src fr → wpAny (model prog w) A (eval X env) Q EE s) : wpAny (model prog w) A (eval X env) Q EE s := by
  have hA' := hA.pred
  have hroom := hA.room
  cases e with
  | int i =>
    have h := h.of e0
    apply tr_int T; intro j p
    exact wpAny_Constant_int (h _ _ _ (Pst.fresh R _) (.int _ _))
  | boo i =>
    have h := h.of e0
    apply tr_boo T; intro j p
    exact wpAny_Constant_bool (h _ _ _ (Pst.refl R) (.boo _))
  | non =>
    have h := h.of e0
    apply tr_non T; intro j p
    exact wpAny_Constant_none (h _ _ _ (Pst.refl R) .non)
  | str =>
    have h := h.of e0
    apply tr_str T; intro x j p
    exact wpAny_Constant_str (h _ _ _ (Pst.fresh R _) (.str _ _))
  | var x =>
    refine bo_c e0 fun v1 h1 e0 => ?_
    have h := h.of e0
    apply tr_var T; intro p hx
    exact load_ok S V0 hx h1 fun u ru => h _ _ _ (Pst.refl R) ru
  | glo g =>
    have h := h.of e0
    apply tr_glo T; intro p g1
    obtain ⟨mg, mb, ng, nb, hr, _⟩ := B.glo
    obtain ⟨u, hu, ru⟩ := hr g
    exact global_name (mb := mb) S R g1 ng hu (h _ _ _ (Pst.refl R) (ru.up R))
  | bin op a b =>
    refine bd_c e0 fun x H₁ h1 e0 => bd_c e0 fun y H₂ h2 e0 => ?_
    apply tr_bin T; intro XA XB p ta tb
    exact wpAny_BinOp (O_two O S ta tb hA' R V0 h1 h2 fun s₂ σ₂ u u' P _ ru ru' => binop_ok P.rel ru ru' B.sys e0 fun s₃ σ₃ u₃ P₃ r₃ => h _ _ _ (P.trans P₃) r₃)
  | neg a =>
    refine bd_c e0 fun x H₁ h1 e0 => ?_
    refine onInt_c (M := fun x => r.ev κ a ρ H = some (x, H₁) → wpAny (model prog w) A (eval X env) Q EE s) e0 (fun i e0 h1 => ?_) h1
    have h := h.of e0
    apply tr_neg T; intro XA p ta
    refine UnaryOp_ (O_ev O S ta hA' R V0 h1 fun s₁ σ₁ u P _ ru => ?_)
    apply VR.int_c ru; intro t
    exact PyProof.Rows.neg_int (h _ _ _ (P.toks _) (.int _ _))
  | lnot => cases e0
  | cmp op a b =>
    refine bd_c e0 fun x H₁ h1 e0 => bd_c e0 fun y H₂ h2 e0 => bo_c e0 fun c h3 e0 => ?_
    have h := h.of e0
    apply tr_cmp T; intro XA XB p ta tb
    exact wpAny_Compare1 (O_two O S ta tb hA' R V0 h1 h2 fun s₂ σ₂ u u' P _ ru ru' => cmpop_ok (κ := κ) (X := []) (by omega) P.rel ru ru' h3 fun s₃ P₃ => h _ _ _ (P.trans P₃) (.boo _)) (tb.marks _)
  | isNon => cases e0
  | and => cases e0
  | or => cases e0
  | ite c a b =>
    refine bd_c e0 fun t H₁ h1 e0 => ?_
    apply tr_ite T; intro XC XA XB p tc ta tb
    refine IfExp_ (O.ts κ _ _ env sc ρ H σ s A _ _ _ _ S tc hA' R V0 h1 fun s₁ σ₁ P => ?_)
    cases t with
    | true => rw [if_pos rfl]; exact O_ev O S ta hA' P.rel (V0.keep0 P) e0 fun s₂ σ₂ u' P' _ ru' => h _ _ _ (P.trans P') ru'
    | false => rw [if_neg (by decide)]; exact O_ev O S tb hA' P.rel (V0.keep0 P) e0 fun s₂ σ₂ u' P' _ ru' => h _ _ _ (P.trans P') ru'
  | sub a i =>
    refine bd_c e0 fun x H₁ h1 e0 => bd_c e0 fun y H₂ h2 e0 => bo_c e0 fun v' h3 e0 => ?_
    have h := h.of e0
    apply tr_sub T; intro XA XI p ta ti
    refine Subscript_tail (O_two O S ta ti hA' R V0 h1 h2 fun s₂ σ₂ u u' P _ ru ru' => ?_)
    obtain ⟨TT, id, hT, hl, hw⟩ := getitem_ok (κ := κ) (X := []) (A := A) (E := EE) (Q := Q) (by omega) P.rel ru ru' h3 fun s₃ u₃ P₃ r₃ => h _ _ _ (P.trans P₃) r₃
    exact tail_any hT hl hw (ti.noSlice _ _)
  | slTo a i =>
    refine bd_c e0 fun x H₁ h1 e0 => bd_c e0 fun y H₂ h2 e0 => ?_
    refine onInt_c (M := fun y => r.ev κ i ρ H₁ = some (y, H₂) → wpAny (model prog w) A (eval X env) Q EE s) e0 (fun k e0 h2 => bi_c e0 fun hk e0 => ?_) h2
    rw [Bool.and_eq_true, decide_eq_true_eq, decide_eq_true_eq] at hk
    apply tr_slTo T; intro XA XI p q ta ti
    refine Subscript_tail (O_ev O S ta hA' R V0 h1 fun s₁ σ₁ u P V1 ru => wpAny_Slice (wpAny_evalPart_none (wpAny_evalPart_some (O_ev O S ti hA' P.rel V1 h2 fun s₂ σ₂ u' P' _ ru' => wpAny_evalPart_none ?_))))
    apply VR.int_c ru'; intro t
    obtain ⟨TT, id, hT, hl, hw⟩ := slTo_ok (κ := κ) (X := []) (A := A) (E := EE) (Q := Q) (t := t) B.sys P'.rel (P'.vr ru) e0 hk.1 fun s₃ σ₃ u₃ P₃ r₃ => h _ _ _ ((P.trans P').trans P₃) r₃
    exact tail_any hT hl hw rfl
  | slFrom a i =>
    refine bd_c e0 fun x H₁ h1 e0 => bd_c e0 fun y H₂ h2 e0 => ?_
    refine onInt_c (M := fun y => r.ev κ i ρ H₁ = some (y, H₂) → wpAny (model prog w) A (eval X env) Q EE s) e0 (fun k e0 h2 => bi_c e0 fun hk e0 => ?_) h2
    rw [Bool.and_eq_true, decide_eq_true_eq, decide_eq_true_eq] at hk
    apply tr_slFrom T; intro XA XI p q ta ti
    refine Subscript_tail (O_ev O S ta hA' R V0 h1 fun s₁ σ₁ u P V1 ru => wpAny_Slice (wpAny_evalPart_some (O_ev O S ti hA' P.rel V1 h2 fun s₂ σ₂ u' P' _ ru' => wpAny_evalPart_none (wpAny_evalPart_none ?_))))
    apply VR.int_c ru'; intro t
    obtain ⟨TT, id, hT, hl, hw⟩ := slFrom_ok (κ := κ) (X := []) (A := A) (E := EE) (Q := Q) (t := t) B.sys P'.rel (P'.vr ru) e0 hk.1 fun s₃ σ₃ u₃ P₃ r₃ => h _ _ _ ((P.trans P').trans P₃) r₃
    exact tail_any hT hl hw rfl
  | tup es =>
    refine bd_c e0 fun vs H₁ h1 e0 => ?_
    have h := h.of e0
    apply tr_tup T; intro ES k p hl ts
    refine wpAny_Tuple (evs_ok O.ev S hA' ts R V0 h1 fun s₁ σ₁ us P rs => ?_)
    have hle := rs.le (by rw [evs_length h1]; exact hl)
    exact ⟨hle, h _ _ _ (P.trans (P.rel.alloc _ _)) (new_tup (P := Pst.refl P.rel (X := []) (κ := κ)) hle rs)⟩
  | lst es =>
    refine bd_c e0 fun vs H₁ h1 e0 => ?_
    have h := h.of e0
    apply tr_lst T; intro ES p hl ts
    refine wpAny_List (evs_ok O.ev S hA' ts R V0 h1 fun s₁ σ₁ us P rs => ?_)
    have hle := rs.le (by rw [evs_length h1]; exact hl)
    exact ⟨hle, h _ _ _ (P.trans (new_lst P.rel B.sys hle rs _)) (vr_last P.rel.len)⟩
  | dict0 =>
    have h := h.of e0
    apply tr_dict0 T; intro p
    refine wpAny_Dict_empty ?_
    have P := R.alloc (κ := κ) (X := []) { cls := .type "dict", data := .dict #[] } s.toks
    exact h _ _ _ (P.label B.sys R size_none (R.size_out (Nat.le_refl _)) (c := .dic []) ⟨[], ⟨_, _, _, Heap.get?_push_size _ rfl, ⟨rfl, rfl, rfl⟩, rfl, rfl, fun x hx => absurd hx (by simp), by simp⟩, by simp [sizeLine_val], .nil⟩) (vr_last R.len)
  | dict1 k v =>
    refine bd_c e0 fun kv H₁ h1 e0 => bo_c e0 fun kk hk e0 => bd_c e0 fun vv H₂ h2 e0 => ?_
    have h := h.of e0
    apply tr_dict1 T; intro K W p tk tv
    refine wpAny_Dict_any rfl rfl (by simp) (by simp) ?_
    have P0 := R.alloc (κ := κ) (X := []) { cls := .type "dict", data := .dict #[] } s.toks
    show wpAny _ _ (evalPairs [(eval K env, do let x ← eval W env; standAt p; pure x)]) _ _ _
    unfold evalPairs
    refine wpAny_bind (O_ev O S tk hA' P0.rel (V0.keep0 P0) h1 fun s₁ σ₁ u P V1 ru => ?_)
    refine wpAny_bind (wpAny_holding (wpAny_bind (O_ev O S tv hA' P.rel V1 h2 fun s₂ σ₂ u' P' _ ru' => wpAny_bind (wpAny_standAt (wpAny_pure ?_)))))
    have P2 := P.trans P'
    obtain ⟨ka, rfl, hka⟩ := (P'.vr ru).key (prog := prog) (w := w) hk
    have hd0 : (s.heap.push { cls := .type "dict", data := .dict #[] }).get? s.heap.objs.size = some { cls := .type "dict", data := .dict #[] } := Heap.get?_push_size _ rfl
    have hout : s.heap.objs.size ∉ σ := R.size_out (Nat.le_refl _)
    unfold evalPairs
    refine wpAny_bind (wpAny_holding (wpAny_pure (wpAny_pure ?_)))
    exact dict1_ok B R (by omega) (P2.keep.out hd0 (by simp) hout) size_none (P0.trans P2) (P2.out hd0 hout) hka ru' fun s' P3 => h _ _ _ P3 (vr_last P2.rel.len)
  | call f es =>
    refine bd_c e0 fun vs H₁ h1 e0 => ?_
    apply tr_call T; intro F ES p q hF g ts
    obtain ⟨mg, mb, ng, nb, _, _, _, _, hfn⟩ := B.glo
    obtain ⟨a, ha, hat⟩ := hfn f F hF
    obtain ⟨o, d, pm, cd, doc, ho, hdat, _⟩ := id hat
    refine wpAny_Call_NameR (global_name (mb := mb) S R g ng ha (callWith_ok (base := base) ts (.inr (.inr ⟨a, o, _, rfl, ho, hdat⟩)) ?_))
    refine evs_ok O.ev S hA' ts R V0 h1 fun s₁ σ₁ us P rs => ⟨P.rel.stay, ?_⟩
    exact O.cl κ f F a vs us H₁ σ₁ s₁ A _ _ _ _ hF hat hA' P.rel rs e0 fun s' σ' u P' ru => h _ _ _ (P.trans P') ru
  | bi b es =>
    refine bd_c e0 fun vs H₁ h1 e0 => ?_
    apply tr_bi T; intro ES p q g ts
    obtain ⟨mg, mb, ng, nb, _, hbi, _⟩ := B.glo
    refine wpAny_Call_NameR (builtin_name S R g ng nb (hbi b).1 (hbi b).2 (callWith_ok (base := base) ts ((biVal_ok b).imp id .inl) ?_))
    refine evs_ok O.ev S hA' ts R V0 h1 fun s₁ σ₁ us P rs => ⟨P.rel.stay, ?_⟩
    exact biop_ok P.rel rs hA.1 B.sys e0 fun s' σ' u P' ru => h _ _ _ (P.trans P') ru
  | comp => exact hcomp _ _ _ _ _ rfl
  | dcomp => exact hdcomp _ _ _ _ _ rfl

theorem ts_step (B : Base base) (O : OK prog w base r n) : TsOK prog w base (step tbl SS r) (n + 1) := by
  intro κ e X env sc ρ H σ s A b H' Q EE S T hA R V0 e0 h
  have hA' := hA.pred
  have hroom := hA.room
  have hof : ∀ {c : Bool} {H₁ : Hp}, some (c, H₁) = some (b, H') → ∀ s' σ', Pst prog w base κ σ [] s H₁ s' σ' → Q c s' := fun {c H₁} e => some2_c (M := fun a b => (∀ s' σ', Pst prog w base κ σ [] s b s' σ' → Q a s') → ∀ s' σ', Pst prog w base κ σ [] s H₁ s' σ' → Q c s') e id h
  cases e <;> try (cases e0; done)
  case var x =>
    refine bo_c e0 fun v h1 e0 => ?_
    refine onBoo_c (M := fun v => ρ.get x = some v → wpAny (model prog w) A (isTrue X env (eval X env)) Q EE s) e0 (fun c e0 h1 => ?_) h1
    apply tr_var T; intro p hx
    refine isTrue_plain (load_ok S V0 hx h1 fun u ru => ?_)
    apply VR.boo_c ru
    exact wpAny_truthy_bool (hof e0 _ _ (Pst.refl R))
  case lnot a =>
    refine bd_c e0 fun c H₁ h1 e0 => ?_
    apply tr_lnot T; intro XA p ta
    exact isTrue_not (O.ts κ _ _ env sc ρ H σ s A _ _ _ _ S ta hA' R V0 h1 fun s₁ σ₁ P => hof e0 _ _ P)
  case cmp op a b' =>
    refine bd_c e0 fun x H₁ h1 e0 => bd_c e0 fun y H₂ h2 e0 => bo_c e0 fun c h3 e0 => ?_
    apply tr_cmp T; intro XA XB p ta tb
    exact wpAny_isTrue_Compare1 (O_two O S ta tb hA' R V0 h1 h2 fun s₂ σ₂ u u' P _ ru ru' => cmpop_ok (κ := κ) (X := []) (by omega) P.rel ru ru' h3 fun s₃ P₃ => wpAny_truthy_bool (hof e0 _ _ (P.trans P₃))) (tb.marks _)
  case isNon a =>
    refine bd_c e0 fun x H₁ h1 e0 => ?_
    apply tr_isNon T; intro XA k p q ta
    refine wpAny_isTrue_Compare1 (O_ev O S ta hA' R V0 h1 fun s₁ σ₁ u P _ ru => wpAny_Constant_none ?_) rfl
    cases x with
    | non => apply VR.non_c ru; exact is_none (wpAny_truthy_bool (hof e0 _ _ P))
    | ref m => apply VR.ref_c ru; intro a ea; exact is_none (wpAny_truthy_bool (hof e0 _ _ P))
    | _ => cases e0
  case and e1 e2 =>
    refine bd_c e0 fun t H₁ h1 e0 => ?_
    apply tr_and T; intro XA XB p ta tb
    refine isTrue_and (O.ts κ _ _ env sc ρ H σ s A _ _ _ _ S ta hA' R V0 h1 fun s₁ σ₁ P => ?_)
    cases t with
    | true =>
      rw [if_pos rfl]
      refine isTrue_and (O.ts κ _ _ env sc ρ H₁ σ₁ s₁ A _ _ _ _ S tb hA' P.rel (V0.keep0 P) e0 fun s₂ σ₂ P' => ?_)
      cases b with
      | true => rw [if_pos rfl]; exact isTrue_and_nil (h _ _ (P.trans P'))
      | false => rw [if_neg (by decide)]; exact h _ _ (P.trans P')
    | false => rw [if_neg (by decide)]; exact hof e0 _ _ P
  case or e1 e2 =>
    refine bd_c e0 fun t H₁ h1 e0 => ?_
    apply tr_or T; intro XA XB p ta tb
    refine isTrue_or (O.ts κ _ _ env sc ρ H σ s A _ _ _ _ S ta hA' R V0 h1 fun s₁ σ₁ P => ?_)
    cases t with
    | true => rw [if_pos rfl]; exact hof e0 _ _ P
    | false =>
      rw [if_neg (by decide)]
      refine isTrue_or (O.ts κ _ _ env sc ρ H₁ σ₁ s₁ A _ _ _ _ S tb hA' P.rel (V0.keep0 P) e0 fun s₂ σ₂ P' => ?_)
      cases b with
      | true => rw [if_pos rfl]; exact h _ _ (P.trans P')
      | false => rw [if_neg (by decide)]; exact isTrue_or_nil (h _ _ (P.trans P'))
end
end Mine
end

section
/-! Iterables. -/
set_option maxRecDepth 100000
set_option linter.all false
namespace Mine
open PySem PySem.Calls PyProof.Rows

structure Ready (prog : Program) (w : World) (A : Around) (base : Heap) (κ κ₁ : List Nat) (σ : List Addr) (ts : List Nat) (T : Expr) (its : List (List V)) (s : Shared) (H₁ : Hp) (I : Addr) (fp wr : List Addr) (P : Nat → List Value → Prop) (St : Nat → Heap → Prop) (s₂ : Shared) (σ₂ : List Addr) : Prop where
  wk : Wk prog w A ts T I fp wr its.length P St
  st : St 0 s₂.heap
  pst : Pst prog w base κ σ [] s H₁ s₂ σ₂
  new : ∀ b ∈ wr, s.heap.get? b = none
  out : ∀ b ∈ wr, b ∉ σ₂
  foot : ∀ b ∈ fp, b ∈ wr ∨ (∃ n : Nat, σ₂[n]? = some b ∧ n ∈ κ₁) ∨ ∃ items, s₂.heap.IsTuple b items
  item : ∀ i vals, i < its.length → P i vals → ∃ is, its[i]? = some is ∧ VRs s₂.heap σ₂ is vals
  lock : ∀ n ∈ κ, n ∈ κ₁

section
variable {prog : Program} {w : World} {base : Heap} {σ σ' X : List Addr} {H H' : Hp} {κ : List Nat} {s s' : Shared} {A : Around} {E : Value → Shared → Prop} {env : Env} {sc : Scope} {ρ : En} {r : Rn} {n : Nat}

theorem rngs_length : ∀ (n : Nat) (a : Int), (rngs a n).length = n
  | 0, _ => rfl
  | n + 1, a => by simp [rngs, rngs_length n]
theorem rngs_get : ∀ (n : Nat) (a : Int) (i : Nat), i < n → (rngs a n)[i]? = some [.int (a + i * 1)]
  | 0, _, _, h => absurd h (Nat.not_lt_zero _)
  | n + 1, a, 0, _ => by simp [rngs]
  | n + 1, a, i + 1, h => by
    simp only [rngs, List.getElem?_cons_succ]
    rw [rngs_get n (a + 1) i (Nat.lt_of_succ_lt_succ h)]
    have : a + 1 + (i : Int) * 1 = a + ((i + 1 : Nat) : Int) * 1 := by push_cast; omega
    rw [this]
theorem enums_length : ∀ (xs : List V) (a : Int), (enums a xs).length = xs.length
  | [], _ => rfl
  | x :: xs, a => by simp [enums, enums_length xs]
theorem enums_get : ∀ (xs : List V) (a : Int) (i : Nat) (v : V), xs[i]? = some v → (enums a xs)[i]? = some [.int (a + i), v]
  | [], _, _, _, h => by simp at h
  | x :: xs, a, 0, v, h => by
    simp only [List.getElem?_cons_zero, Option.some.injEq] at h
    subst h; simp [enums]
  | x :: xs, a, i + 1, v, h => by
    simp only [List.getElem?_cons_succ] at h
    simp only [enums, List.getElem?_cons_succ]
    rw [enums_get xs (a + 1) i v h]
    have : a + 1 + (i : Int) = a + ((i + 1 : Nat) : Int) := by push_cast; omega
    rw [this]
theorem itemsAll_one {x : Nat} : ∀ {xs : List V} {its : List (List V)}, itemsAll [x] xs = some its → its = xs.map fun v => [v]
  | [], its, h => by cases h; rfl
  | v :: xs, its, h => bo_c h fun i h1 h => bo_c h fun is h2 h => by
    cases h; cases h1; rw [itemsAll_one h2]; rfl
theorem itemsOf_two {x y : Nat} {v : V} {is : List V} (h : itemsOf [x, y] v = some is) : ∃ a b, is = [a, b] ∧ v = .tup [a, b] :=
  bo_c h fun xs h1 h => bi_c h fun hb h => by
    cases h
    cases v with
    | tup ys =>
      cases h1
      match is, hb with
      | [a, b], _ => exact ⟨a, b, rfl, rfl⟩
    | _ => cases h1
theorem itemsAll_two {x y : Nat} : ∀ {xs : List V} {its : List (List V)}, itemsAll [x, y] xs = some its → its.length = xs.length ∧ ∀ (i : Nat) (is : List V), its[i]? = some is → ∃ a b, is = [a, b] ∧ xs[i]? = some (.tup [a, b])
  | [], its, h => by cases h; exact ⟨rfl, fun i is h => by simp at h⟩
  | v :: xs, its, h => bo_c h fun i h1 h => bo_c h fun is h2 h => by
    cases h
    obtain ⟨hl, hg⟩ := itemsAll_two h2
    refine ⟨by rw [List.length_cons, hl]; rfl, fun j js hj => ?_⟩
    cases j with
    | zero => rw [← Option.some.inj (show some i = some js from hj)]; obtain ⟨a, b, e1, e2⟩ := itemsOf_two h1; exact ⟨a, b, e1, congrArg some e2⟩
    | succ j => exact hg j js hj

theorem VRs.got {h : Heap} {x : List V} {v : List Value} (r : VRs h σ x v) {n : Nat} {u : Value} (e : v[n]? = some u) : ∃ y, x[n]? = some y ∧ VR h σ y u := by
  induction x generalizing v n with
  | nil => cases r; simp at e
  | cons a x ih =>
    cases r with
    | cons r1 b =>
      cases n with
      | zero => simp only [List.getElem?_cons_zero, Option.some.injEq] at e; subst e; exact ⟨_, rfl, r1⟩
      | succ n => simp only [List.getElem?_cons_succ] at e ⊢; exact ih b e

theorem itemsVR {h : Heap} {k : List Int} {vs : List Value} (x : ItemsAre (IK prog w) k vs) : VRs h σ (k.map .int) vs := by
  induction x with
  | nil => exact .nil
  | @cons i v ks vs h1 _ ih =>
    obtain ⟨t, rfl⟩ := Value.isInt_shape h1
    exact .cons (.int _ _) ih
theorem keyVR {h : Heap} {k : List Int} {a : Addr} (x : IsTupleKey (IK prog w) h k a) (hl : k.length ≤ sizeLine) : VR h σ (.tup (k.map .int)) (.ref a) := by
  obtain ⟨o, items, n, ho, hc, hd, hi⟩ := x
  refine .tup (ws := items.toList) ⟨o, ho, hc, n, by simpa using hd⟩ (by rw [← hi.length]; exact hl) (itemsVR hi)
theorem keysOk_mem {es : List (List Int × V)} (h : keysOk es = true) {k : List Int} {v : V} (e : (k, v) ∈ es) : k.length ≤ maxLen := Nat.le_of_ble_eq_true (List.all_eq_true.mp h _ e)

/-! a value is walked -/
section
variable {a : Value} {its : List (List V)} {κ₁ : List Nat} {s₀ : Shared} {σ₀ : List Addr} {Q : Value → Shared → Prop} {x : Nat} {p : Pos}
theorem none_of {h : Heap} {a : Addr} (k : ∀ o, h.get? a ≠ some o) : h.get? a = none := by
  cases q : h.get? a with
  | none => rfl
  | some o => exact absurd q (k o)
theorem Pst.newI (P0 : Pst prog w base κ σ₀ [] s₀ H s σ) : (∀ b ∈ [s.heap.objs.size], s₀.heap.get? b = none) ∧ ∀ b ∈ [s.heap.objs.size], b ∉ σ :=
  ⟨fun b hb => by
    rw [List.mem_singleton] at hb; subst hb
    exact none_of fun o q => by obtain ⟨o', q'⟩ := P0.keep.1 _ _ q; exact absurd (Heap.lt_size q') (Nat.lt_irrefl _), fun b hb => by rw [List.mem_singleton] at hb; subst hb; exact P0.rel.size_out (Nat.le_refl _)⟩
theorem over_tup1 {xs : List V} (hh : A.handled = none) (P0 : Pst prog w base κ σ₀ [] s₀ H s σ) (rx : VR s.heap σ (.tup xs) a)
    (h : ∀ I fp wr P St s₂, Ready prog w A base κ κ σ₀ [x] (.Name (nm x) p) (xs.map fun v => [v]) s₀ H I fp wr P St s₂ σ → Q (.ref I) s₂) : wpAny (model prog w) A (pyIter a) Q E s := by
  apply VR.tup_c rx; intro ax ws tt l rs
  have R := P0.rel
  obtain ⟨hnew, hout⟩ := P0.newI
  have hlen := rs.length
  obtain ⟨o1, ho1, _⟩ := id tt
  have hne : ax ≠ s.heap.objs.size := fun q => Nat.lt_irrefl _ (q ▸ Heap.lt_size ho1)
  refine wpAny_pyIter_tuple tt ?_
  have P1 := R.alloc (κ := κ) (X := []) { cls := .type "tuple_iterator", data := .fields #[.ref ax, .int 0 0] } s.toks
  have W := Wk.tupName (prog := prog) (w := w) hh (x := x) (p := p) s.heap.objs.size ax hne ws.toArray
  have el : ws.toArray.size = (xs.map fun v => [v]).length := by rw [List.size_toArray, ← hlen, List.length_map]
  rw [el] at W
  refine h s.heap.objs.size _ _ _ _ _ ⟨W, ⟨⟨_, Heap.get?_push_size _ rfl, rfl, rfl⟩, tt.push _⟩, P0.trans P1, hnew, hout, ?_, ?_, fun _ h => h⟩
  · intro b hb
    rcases List.mem_cons.mp hb with rfl | hb
    · exact .inl (by simp)
    · rw [List.mem_singleton] at hb; subst hb; exact .inr (.inr ⟨_, tt.push _⟩)
  · rintro i vals _ ⟨v, rfl, hv⟩
    obtain ⟨y, hy, ry⟩ := rs.got (n := i) (by simpa using hv)
    exact ⟨[y], by rw [List.getElem?_map, hy]; rfl, .cons (P1.vr ry) .nil⟩
theorem over_tup2 {xs : List V} {y k : Nat} {q r' : Pos} (hh : A.handled = none) (hi : itemsAll [x, y] xs = some its) (P0 : Pst prog w base κ σ₀ [] s₀ H s σ) (rx : VR s.heap σ (.tup xs) a)
    (h : ∀ I fp wr P St s₂, Ready prog w A base κ κ σ₀ [x, y] (.Tuple [.Name (nm x) p, .Name (nm y) q] k r') its s₀ H I fp wr P St s₂ σ → Q (.ref I) s₂) : wpAny (model prog w) A (pyIter a) Q E s := by
  apply VR.tup_c rx; intro ax ws tt l rs
  have R := P0.rel
  obtain ⟨hnew, hout⟩ := P0.newI
  have hlen := rs.length
  obtain ⟨o1, ho1, _⟩ := id tt
  have hne : ax ≠ s.heap.objs.size := fun q => Nat.lt_irrefl _ (q ▸ Heap.lt_size ho1)
  refine wpAny_pyIter_tuple tt ?_
  have P1 := R.alloc (κ := κ) (X := []) { cls := .type "tuple_iterator", data := .fields #[.ref ax, .int 0 0] } s.toks
  obtain ⟨hl2, hg⟩ := itemsAll_two hi
  have key : ∀ j, ∃ z : Addr × Value × Value, j < ws.length → ws[j]? = some (.ref z.1) ∧ s.heap.IsTuple z.1 #[z.2.1, z.2.2] ∧ ∃ a b, its[j]? = some [a, b] ∧ VR s.heap σ a z.2.1 ∧ VR s.heap σ b z.2.2 := by
    intro j
    by_cases hj : j < ws.length
    · have hj' : j < its.length := by rw [hl2, hlen]; exact hj
      obtain ⟨a, b, hab, hx⟩ := hg j its[j] (List.getElem?_eq_getElem hj')
      obtain ⟨u, hu, ru⟩ := rs.get hx
      revert hu
      apply VR.tup_c ru; intro T us tu lu ru hu
      obtain ⟨u1, u2, rfl, r1, r2⟩ := ru.two
      exact ⟨(T, u1, u2), fun _ => ⟨hu, tu, a, b, by rw [List.getElem?_eq_getElem hj', hab], r1, r2⟩⟩
    · exact ⟨(0, .none, .none), fun h => absurd h hj⟩
  obtain ⟨z, spec⟩ := Classical.axiomOfChoice key
  have hTI : ∀ j, j < ws.toArray.size → (z j).1 ≠ s.heap.objs.size := fun j hj q => by
    obtain ⟨o, ho, _⟩ := (spec j (by simpa using hj)).2.1
    exact absurd (Heap.lt_size ho) (by rw [q]; exact Nat.lt_irrefl _)
  have W := Wk.tupPair (prog := prog) (w := w) hh (x := x) (y := y) (k := k) (p := p) (q := q) (r := r') s.heap.objs.size ax hne ws.toArray (fun j => (z j).1) (fun j => (z j).2) (fun j hj => by simpa using (spec j (by simpa using hj)).1) hTI
  have hl3 : ws.toArray.size = its.length := by rw [List.size_toArray, hl2, hlen]
  rw [hl3] at W
  refine h s.heap.objs.size _ _ _ _ _ ⟨W, ⟨⟨_, Heap.get?_push_size _ rfl, rfl, rfl⟩, tt.push _, fun k hk => (spec k (by rw [← hlen, ← hl2]; exact hk)).2.1.push _⟩, P0.trans P1, hnew, hout, ?_, ?_, fun _ h => h⟩
  · intro b hb
    rcases List.mem_cons.mp hb with rfl | hb
    · exact .inl (by simp)
    · rcases List.mem_cons.mp hb with rfl | hb
      · exact .inr (.inr ⟨_, tt.push _⟩)
      · obtain ⟨j, hj, rfl⟩ := List.mem_map.mp hb
        have hj := List.mem_range.mp hj
        exact .inr (.inr ⟨_, (spec j (by rw [← hlen, ← hl2]; exact hj)).2.1.push _⟩)
  · rintro i vals hi' hv
    have hv : vals = [(z i).2.1, (z i).2.2] := hv
    subst hv
    obtain ⟨_, _, a, b, h1, h2, h3⟩ := spec i (by rw [← hlen, ← hl2]; exact hi')
    exact ⟨[a, b], h1, .cons (P1.vr h2) (.cons (P1.vr h3) .nil)⟩
theorem over_lst {m : Nat} {xs : List V} (hh : A.handled = none) (hn : Hp.get H m = some (.lst xs)) (P0 : Pst prog w base κ σ₀ [] s₀ H s σ) (rx : VR s.heap σ (.ref m) a)
    (h : ∀ I fp wr P St s₂, Ready prog w A base κ (m :: κ) σ₀ [x] (.Name (nm x) p) (xs.map fun v => [v]) s₀ H I fp wr P St s₂ σ → Q (.ref I) s₂) : wpAny (model prog w) A (pyIter a) Q E s := by
  apply VR.ref_c rx; intro ax ex
  have R := P0.rel
  obtain ⟨hnew, hout⟩ := P0.newI
  obtain ⟨ws, n1, o1, l1, rs⟩ := R.cell _ _ _ ex hn
  have hlen := rs.length
  have hne : ax ≠ s.heap.objs.size := fun q => Nat.lt_irrefl _ (q ▸ Heap.lt_size o1)
  have hL : s.heap.IsList ax ws.toArray := ⟨_, o1, rfl, n1, rfl⟩
  refine wpAny_pyIter_list hL ?_
  have P1 := R.alloc (κ := κ) (X := []) { cls := .type "list_iterator", data := .fields #[.ref ax, .int 0 0] } s.toks
  have W := Wk.listName (prog := prog) (w := w) hh (x := x) (p := p) s.heap.objs.size ax hne ws.toArray
  have el : ws.toArray.size = (xs.map fun v => [v]).length := by rw [List.size_toArray, ← hlen, List.length_map]
  rw [el] at W
  refine h s.heap.objs.size _ _ _ _ _ ⟨W, ⟨⟨_, Heap.get?_push_size _ rfl, rfl, rfl⟩, hL.push _⟩, P0.trans P1, hnew, hout, ?_, ?_, fun _ h => List.mem_cons_of_mem _ h⟩
  · intro b hb
    rcases List.mem_cons.mp hb with rfl | hb
    · exact .inl (by simp)
    · rw [List.mem_singleton] at hb; subst hb; exact .inr (.inl ⟨m, ex, List.mem_cons_self⟩)
  · rintro i vals _ ⟨v, rfl, hv⟩
    obtain ⟨y, hy, ry⟩ := rs.got (n := i) (by simpa using hv)
    exact ⟨[y], by rw [List.getElem?_map, hy]; rfl, .cons (P1.vr ry) .nil⟩
theorem over_dic {m : Nat} {es : List (List Int × V)} (hh : A.handled = none) (hn : Hp.get H m = some (.dic es)) (hko : keysOk es = true) (P0 : Pst prog w base κ σ₀ [] s₀ H s σ) (rx : VR s.heap σ (.ref m) a)
    (h : ∀ I fp wr P St s₂, Ready prog w A base κ (m :: κ) σ₀ [x] (.Name (nm x) p) (es.map fun e => [.tup (e.1.map .int)]) s₀ H I fp wr P St s₂ σ → Q (.ref I) s₂) : wpAny (model prog w) A (pyIter a) Q E s := by
  apply VR.ref_c rx; intro ax ex
  have R := P0.rel
  obtain ⟨hnew, hout⟩ := P0.newI
  obtain ⟨ys, hD, l1, d⟩ := R.cell _ _ _ ex hn
  obtain ⟨o, ea, ep, ho, hc, hd, he, hi, hnd⟩ := id hD
  have hraw : DictRaw s.heap ax ea ep := ⟨o, ho, hc, hd⟩
  have hne : ax ≠ s.heap.objs.size := fun q => Nat.lt_irrefl _ (q ▸ Heap.lt_size ho)
  have hlen : es.length = ea.size := by rw [d.length, size_of_entries he]
  refine iter_keys (R.new _ (List.mem_of_getElem? ex)).2 hraw ?_
  have P1 := R.alloc (κ := κ) (X := []) { cls := .type "dict_keyiterator", data := .fields #[.ref ax, .int 0 0, .int ea.size 0, .int ep 0] } s.toks
  have W := Wk.keyName (prog := prog) (w := w) hh (x := x) (p := p) s.heap.objs.size ax hne ea ep
  have el : ea.size = (es.map fun e => [V.tup (e.1.map .int)]).length := by rw [List.length_map, hlen]
  rw [show Wk prog w A [x] (.Name (nm x) p) s.heap.objs.size [s.heap.objs.size, ax] [s.heap.objs.size] ea.size (fun i vs => ∃ h : i < ea.size, vs = [ea[i].key]) (fun i h => h.IsKeyIter s.heap.objs.size ax i ea.size ep ∧ DictRaw h ax ea ep) = Wk prog w A [x] (.Name (nm x) p) s.heap.objs.size [s.heap.objs.size, ax] [s.heap.objs.size] (es.map fun e => [V.tup (e.1.map .int)]).length (fun i vs => ∃ h : i < ea.size, vs = [ea[i].key]) (fun i h => h.IsKeyIter s.heap.objs.size ax i ea.size ep ∧ DictRaw h ax ea ep) from congrArg (fun m => Wk prog w A [x] (.Name (nm x) p) s.heap.objs.size [s.heap.objs.size, ax] [s.heap.objs.size] m (fun i vs => ∃ h : i < ea.size, vs = [ea[i].key]) (fun i h => h.IsKeyIter s.heap.objs.size ax i ea.size ep ∧ DictRaw h ax ea ep)) el] at W
  refine h s.heap.objs.size _ _ _ _ _ ⟨W, ⟨⟨_, Heap.get?_push_size _ rfl, rfl, rfl⟩, hraw.at fun o e => Heap.get?_push_of_some _ e⟩, P0.trans P1, hnew, hout, ?_, ?_, fun _ h => List.mem_cons_of_mem _ h⟩
  · intro b hb
    rcases List.mem_cons.mp hb with rfl | hb
    · exact .inl (by simp)
    · rw [List.mem_singleton] at hb; subst hb; exact .inr (.inl ⟨m, ex, List.mem_cons_self⟩)
  · rintro i vals _ ⟨hi', rfl⟩
    have hi2 : i < ys.length := by rw [← d.length, hlen]; exact hi'
    obtain ⟨⟨k, ka, v⟩, hy⟩ : ∃ y, ys[i]? = some y := ⟨_, List.getElem?_eq_getElem hi2⟩
    obtain ⟨xv, hx, _⟩ := d.got hy
    have hex : ea[i]? = some ⟨(TK prog w).hash k, .ref ka, v⟩ := by rw [entry_at he i, hy]; rfl
    have hkey : ea[i].key = .ref ka := by
      rw [Array.getElem?_eq_getElem hi'] at hex
      rw [Option.some.inj hex]
    refine ⟨[.tup (k.map .int)], by rw [List.getElem?_map, hx]; rfl, ?_⟩
    rw [hkey]
    have hk : IsTupleKey (IK prog w) s.heap k ka := hi _ (List.mem_of_getElem? hy)
    have hkl := keysOk_mem hko (List.mem_of_getElem? hx)
    exact .cons (P1.vr (keyVR hk (by have := sizeLine_val; unfold maxLen at hkl; omega))) .nil
end
end
end Mine
end

section
/-! Every iterable; the for-loop. -/
set_option maxRecDepth 100000
set_option linter.all false
namespace Mine
open PySem PySem.Calls PyProof.Rows

section
variable {prog : Program} {w : World} {base : Heap} {σ σ' X : List Addr} {H H' : Hp} {κ κ₁ : List Nat} {s s' : Shared} {A : Around} {E : Value → Shared → Prop} {env : Env} {sc : Scope} {ρ : En} {r : Rn} {n : Nat}

theorem range_ok {x : Nat} {p : Pos} {a b : Int} {t u v : Tok} {R0 : Addr} {s₀ : Shared} {σ₀ : List Addr} {Q : Value → Shared → Prop} (hh : A.handled = none) (P0 : Pst prog w base κ σ₀ [] s₀ H s σ) (hr : IsRange s.heap R0 a b 1 t u v)
    (ha : -100000 ≤ a) (ha' : a ≤ 100000) (hb : -100000 ≤ b) (hb' : b ≤ 100000)
    (h : ∀ I fp wr P St s₂, Ready prog w A base κ κ σ₀ [x] (.Name (nm x) p) (rngs a (b - a).toNat) s₀ H I fp wr P St s₂ σ → Q (.ref I) s₂) : wpAny (model prog w) A (pyIter (.ref R0)) Q E s := by
  have R := P0.rel
  refine wpAny_pyIter_range hr (small_one (by omega) (by omega) (by omega) (by omega)) ?_
  have P1 := R.alloc (κ := κ) (X := []) { cls := .type "range_iterator", data := .fields #[rawInt a, rawInt (Builtin.Range.rangeSize a b 1), rawInt 1] } s.toks
  have W := Wk.rangeName (prog := prog) (w := w) hh (x := x) (p := p) s.heap.objs.size a (b - a).toNat
  have W' : Wk prog w A [x] (.Name (nm x) p) s.heap.objs.size [s.heap.objs.size] [s.heap.objs.size] (rngs a (b - a).toNat).length (fun i vs => ∃ v, vs = [v] ∧ ∃ t, v = .int (a + i * 1) t) (fun i h => IsRangeIter h s.heap.objs.size (a + (i : Nat) * 1) (((b - a).toNat : Int) - (i : Nat)) 1) := by
    rw [rngs_length]; exact W
  refine h s.heap.objs.size _ _ _ _ _ ⟨W', ?_, P0.trans P1, ?_, ?_, ?_, ?_, fun _ h => h⟩
  · have e1 : Builtin.Range.rangeSize a b 1 = (((b - a).toNat : Nat) : Int) - ((0 : Nat) : Int) := by rw [rangeSize_one]; split <;> omega
    have e2 : a + ((0 : Nat) : Int) * 1 = a := by simp
    show IsRangeIter _ _ _ _ _
    rw [← e1, e2]
    exact Heap.get?_push_size _ rfl
  · intro b hb
    rw [List.mem_singleton] at hb; subst hb
    cases q : s₀.heap.get? s.heap.objs.size with
    | none => rfl
    | some o => obtain ⟨o', q'⟩ := P0.keep.1 _ _ q; exact absurd (Heap.lt_size q') (Nat.lt_irrefl _)
  · intro b hb; rw [List.mem_singleton] at hb; subst hb; exact R.size_out (Nat.le_refl _)
  · intro b hb; exact .inl hb
  · rintro i vals hi ⟨v, rfl, t, rfl⟩
    rw [rngs_length] at hi
    exact ⟨_, rngs_get _ _ _ hi, .cons (.int _ _) .nil⟩

theorem enum_tail {e it : Addr} {h' : Heap} {s₀ : Shared} {σ₀ : List Addr} (P0 : Pst prog w base κ σ₀ [] s₀ H s σ) (hz : e = s.heap.objs.size + 1) (hi : it = s.heap.objs.size)
    (hk : ∀ b o, s.heap.get? b = some o → h'.get? b = some o) (hsz : h'.objs.size = s.heap.objs.size + 2) : Pst prog w base κ σ₀ [] s₀ H { s with heap := h' } σ ∧ (∀ b ∈ [e, it], s₀.heap.get? b = none) ∧ ∀ b ∈ [e, it], b ∉ σ := by
  have hge : ∀ b ∈ [e, it], s.heap.objs.size ≤ b := by
    subst hz hi
    intro b hb
    rcases List.mem_cons.mp hb with q | hb
    · rw [q]; exact Nat.le_succ _
    · rw [List.mem_singleton] at hb; rw [hb]; exact Nat.le_refl _
  refine ⟨P0.trans (P0.rel.keeps (s' := { s with heap := h' }) hk ⟨_, _, rfl⟩), fun b hb => ?_, fun b hb hm => ?_⟩
  · cases q : s₀.heap.get? b with
    | none => rfl
    | some o => obtain ⟨o', q'⟩ := P0.keep.1 _ _ q; exact absurd (Heap.lt_size q') (Nat.not_lt.mpr (hge b hb))
  · exact P0.rel.size_out (hge b hb) hm

theorem on1_c {γ : Type} {ts : List Nat} {f : Option γ} {q : γ} {M : List Nat → Prop} (e : on1 ts f = some q) (k : ∀ x, f = some q → M [x]) : M ts := by
  cases ts with
  | nil => exact (nS e).elim
  | cons x r => cases r with
    | nil => exact k x e
    | cons => exact (nS e).elim
theorem on2_c {γ : Type} {ts : List Nat} {f : Option γ} {q : γ} {M : List Nat → Prop} (e : on2 ts f = some q) (k : ∀ x y, f = some q → M [x, y]) : M ts := by
  cases ts with
  | nil => exact (nS e).elim
  | cons x r => exact on1_c (M := fun r => M (x :: r)) e fun y e => k x y e
section
variable {ts : List Nat} {a b : Ex} {its : List (List V)} {H₁ : Hp} {M : List Nat → List (List V) → List Nat → Prop}
theorem iter_rng_c (e : iter r κ ts (.rng a) ρ H = some (its, κ₁, H₁)) (k : ∀ x m, r.ev κ a ρ H = some (.int m, H₁) → (-100000 ≤ m ∧ m ≤ 100000) → M [x] (rngs 0 m.toNat) κ) : M ts its κ₁ := by
  refine bd_c e fun v H₂ h1 e => ?_
  revert h1; apply onInt_c e; intro m e h1
  apply on1_c e; intro x e
  refine bi_c e fun hb e => ?_
  simp only [Bool.and_eq_true, decide_eq_true_eq] at hb
  have k := k x m
  obtain ⟨rfl, rfl, rfl⟩ := i3 e
  exact k h1 hb
theorem iter_rng2_c (e : iter r κ ts (.rng2 a b) ρ H = some (its, κ₁, H₁)) (k : ∀ x m m' H₂, r.ev κ a ρ H = some (.int m, H₂) → r.ev κ b ρ H₂ = some (.int m', H₁) → (-100000 ≤ m ∧ m ≤ 100000) ∧ -100000 ≤ m' ∧ m' ≤ 100000 → M [x] (rngs m (m' - m).toNat) κ) : M ts its κ₁ := by
  refine bd_c e fun v H₂ h1 e => ?_
  revert h1; apply onInt_c e; intro m e h1
  refine bd_c e fun v H₃ h2 e => ?_
  revert h2; apply onInt_c e; intro m' e h2
  apply on1_c e; intro x e
  refine bi_c e fun hb e => ?_
  simp only [Bool.and_eq_true, decide_eq_true_eq] at hb
  have k := k x m m' H₂ h1
  clear h1
  obtain ⟨rfl, rfl, rfl⟩ := i3 e
  exact k h2 hb
theorem iter_enu_c (e : iter r κ ts (.enu a) ρ H = some (its, κ₁, H₁)) (k1 : ∀ x y xs, r.ev κ a ρ H = some (.tup xs, H₁) → M [x, y] (enums 0 xs) κ) (k2 : ∀ x y xs m, r.ev κ a ρ H = some (.ref m, H₁) → Hp.get H₁ m = some (.lst xs) → M [x, y] (enums 0 xs) (m :: κ)) : M ts its κ₁ := by
  refine bd_c e fun v H₂ h1 e => ?_
  apply on2_c e; intro x y e
  revert h1; apply onSeq_c e
  · intro xs e h1; have k := k1 x y xs; clear k1 k2; obtain ⟨rfl, rfl, rfl⟩ := i3 e; exact k h1
  · intro m e h1; refine bo_c e fun xs h2 e => ?_; have k := k2 x y xs m; clear k1 k2; obtain ⟨rfl, rfl, rfl⟩ := i3 e; exact k h1 (lstAt_eq h2)
theorem iter_ovr_c (e : iter r κ ts (.ovr a) ρ H = some (its, κ₁, H₁)) (k1 : ∀ ts xs is, r.ev κ a ρ H = some (.tup xs, H₁) → itemsAll ts xs = some is → M ts is κ) (k2 : ∀ x xs m, r.ev κ a ρ H = some (.ref m, H₁) → Hp.get H₁ m = some (.lst xs) → M [x] (xs.map fun v => [v]) (m :: κ))
    (k3 : ∀ x es m, r.ev κ a ρ H = some (.ref m, H₁) → Hp.get H₁ m = some (.dic es) → keysOk es = true → M [x] (es.map fun e => [.tup (e.1.map .int)]) (m :: κ)) : M ts its κ₁ := by
  refine bd_c e fun v H₂ h1 e => ?_
  revert h1; apply onSeq_c e
  · intro xs e h1; refine bo_c e fun is h2 e => ?_; have k := k1 ts xs is; clear k1 k2 k3; obtain ⟨rfl, rfl, rfl⟩ := i3 e; exact k h1 h2
  · intro m e h1
    refine bo_c e fun c h2 e => ?_
    apply on1_c e; intro x e
    cases c with
    | lst xs => have k := k2 x xs m; clear k1 k2 k3; obtain ⟨rfl, rfl, rfl⟩ := i3 e; exact k h1 h2
    | dic es => refine bi_c e fun hk e => ?_; have k := k3 x es m; clear k1 k2 k3; obtain ⟨rfl, rfl, rfl⟩ := i3 e; exact k h1 h2 hk
end

/-- what an iterable gives -/
def ItG (prog : Program) (w : World) (A : Around) (base : Heap) (κ : List Nat) (σ : List Addr) (T : Expr) (s : Shared) (H₁ : Hp) (Q : Value → Shared → Prop) (ts : List Nat) (its : List (List V)) (κ₁ : List Nat) : Prop := ∀ I fp wr P St s₂ σ₂, Ready prog w A base κ κ₁ σ ts T its s H₁ I fp wr P St s₂ σ₂ → Q (.ref I) s₂

section
variable {x y k : Nat} {p q rp : Pos} {s₁ : Shared} {σ₁ : List Addr} {H₁ : Hp} {u : Value} {Q : Value → Shared → Prop}
theorem enu_tup (hh : A.handled = none) {xs : List V} (P : Pst prog w base κ σ [] s H₁ s₁ σ₁) (ru : VR s₁.heap σ₁ (.tup xs) u) (h : ItG prog w A base κ σ (.Tuple [.Name (nm x) p, .Name (nm y) q] k rp) s H₁ Q [x, y] (enums 0 xs) κ) :
    wpAny (model prog w) A (call (.type "enumerate") [u]) (fun v s₁ => wpAny (model prog w) A (pyIter v) Q E s₁) E s₁ := by
  apply VR.tup_c ru; intro l ws tt hl rr
  obtain ⟨o1, ho1, _⟩ := id tt
  refine call_enumerate_tup tt fun h' he hit hsz hk => wpAny_pyIter_enum he ?_
  have hl1 : l < s₁.heap.objs.size := Heap.lt_size ho1
  have W := Wk.enumTup (prog := prog) (w := w) hh (x := x) (y := y) (k := k) (p := p) (q := q) (r := rp) (s₁.heap.objs.size + 1) s₁.heap.objs.size l (Nat.succ_ne_self _) (Nat.ne_of_lt (Nat.lt_succ_of_lt hl1)) (Nat.ne_of_lt hl1) ws.toArray
  have el : ws.toArray.size = (enums 0 xs).length := by rw [List.size_toArray, enums_length, rr.length]
  rw [el] at W
  obtain ⟨P2, hn, ho⟩ := enum_tail P rfl rfl hk hsz
  have tt' : h'.IsTuple l ws.toArray := IsTuple.mono tt fun o e => hk l o e
  refine h _ _ _ _ _ _ _ ⟨W, ⟨⟨_, he⟩, hit, tt'⟩, P2, hn, ho, fun b hb => ?_, ?_, fun _ h => h⟩
  · rcases List.mem_cons.mp hb with rfl | hb
    · exact .inl (by simp)
    · rcases List.mem_cons.mp hb with rfl | hb
      · exact .inl (by simp)
      · rw [List.mem_singleton] at hb; subst hb; exact .inr (.inr ⟨_, tt'⟩)
  · rintro i vals _ ⟨tk, v, hv, rfl⟩
    obtain ⟨y', hy, ry⟩ := rr.got (n := i) (by simpa using hv)
    refine ⟨_, enums_get _ _ _ _ hy, .cons ?_ (.cons (ry.mono (fun a items t => IsTuple.mono t fun o e => hk a o e) fun _ _ e => e) .nil)⟩
    rw [Int.zero_add]; exact .int _ _
theorem enu_lst (hh : A.handled = none) {m : Nat} {xs : List V} (hn : Hp.get H₁ m = some (.lst xs)) (P : Pst prog w base κ σ [] s H₁ s₁ σ₁) (ru : VR s₁.heap σ₁ (.ref m) u) (h : ItG prog w A base κ σ (.Tuple [.Name (nm x) p, .Name (nm y) q] k rp) s H₁ Q [x, y] (enums 0 xs) (m :: κ)) :
    wpAny (model prog w) A (call (.type "enumerate") [u]) (fun v s₁ => wpAny (model prog w) A (pyIter v) Q E s₁) E s₁ := by
  apply VR.ref_c ru; intro l ex
  obtain ⟨ws, n1, o1, l1, rr⟩ := P.rel.cell _ _ _ ex hn
  have hL : s₁.heap.IsList l ws.toArray := ⟨_, o1, rfl, n1, rfl⟩
  refine call_enumerate_list hL fun h' he hit hsz hk => wpAny_pyIter_enum he ?_
  have hl1 : l < s₁.heap.objs.size := Heap.lt_size o1
  have W := Wk.enumList (prog := prog) (w := w) hh (x := x) (y := y) (k := k) (p := p) (q := q) (r := rp) (s₁.heap.objs.size + 1) s₁.heap.objs.size l (Nat.succ_ne_self _) (Nat.ne_of_lt (Nat.lt_succ_of_lt hl1)) (Nat.ne_of_lt hl1) ws.toArray
  have el : ws.toArray.size = (enums 0 xs).length := by rw [List.size_toArray, enums_length, rr.length]
  rw [el] at W
  obtain ⟨P2, hn', ho⟩ := enum_tail P rfl rfl hk hsz
  have hL' : h'.IsList l ws.toArray := ⟨_, hk _ _ o1, rfl, n1, rfl⟩
  refine h _ _ _ _ _ _ _ ⟨W, ⟨⟨_, he⟩, hit, hL'⟩, P2, hn', ho, fun b hb => ?_, ?_, fun _ h => List.mem_cons_of_mem _ h⟩
  · rcases List.mem_cons.mp hb with rfl | hb
    · exact .inl (by simp)
    · rcases List.mem_cons.mp hb with rfl | hb
      · exact .inl (by simp)
      · rw [List.mem_singleton] at hb; subst hb; exact .inr (.inl ⟨m, ex, List.mem_cons_self⟩)
  · rintro i vals _ ⟨tk, v, hv, rfl⟩
    obtain ⟨y', hy, ry⟩ := rr.got (n := i) (by simpa using hv)
    refine ⟨_, enums_get _ _ _ _ hy, .cons ?_ (.cons (ry.mono (fun a items t => IsTuple.mono t fun o e => hk a o e) fun _ _ e => e) .nil)⟩
    rw [Int.zero_add]; exact .int _ _
end
theorem TrT.one_c {x : Nat} {T : Expr} {M : Expr → Prop} (t : TrT [x] T) (k : ∀ p, M (.Name (nm x) p)) : M T := by cases t; exact k _
theorem TrT.two_c {x y : Nat} {T : Expr} {M : Expr → Prop} (t : TrT [x, y] T) (k : ∀ p q n rp, M (.Tuple [.Name (nm x) p, .Name (nm y) q] n rp)) : M T := by cases t; exact k _ _ _ _
theorem TrT.pick {ts : List Nat} {T : Expr} {M : List Nat → Prop} (t : TrT ts T) (k1 : ∀ x, M [x]) (k2 : ∀ x y, M [x, y]) : M ts := by cases t; exact k1 _; exact k2 _ _

theorem iter_ok (B : Base base) (O : OK prog w base r n) {ts : List Nat} {T : Expr} {it : It} {IX : Expr} {its : List (List V)} {H₁ : Hp} {Q : Value → Shared → Prop} (S : EnvS env sc) (t : TrT ts T) (ti : TrI sc it IX) (hA : Cx A n)
    (R : Rel prog w base s.heap σ H) (V0 : EnvR base s.heap σ env ρ) (e0 : iter r κ ts it ρ H = some (its, κ₁, H₁)) (h : ItG prog w A base κ σ T s H₁ Q ts its κ₁) :
    wpAny (model prog w) A (eval IX env) (fun x s₁ => wpAny (model prog w) A (pyIter x) Q E s₁) E s := by
  obtain ⟨mg, mb, ng, nb, _, _, hrng, henu, _⟩ := B.glo
  have gl {f : PySem.Str} {q p : Pos} {es : List Ex} {ES : List Expr} {vs : List V} {fv : Value} {Q : Value → Shared → Prop} (g : glb sc f = true) (h1 : mg f = none) (h2 : mb f = some fv) (hf : ∃ T, fv = .type T) (ts : TrEs sc es ES) (he : evs r κ es ρ H = some (vs, H₁)) (k : ∀ s₁ σ₁ us, Pst prog w base κ σ [] s H₁ s₁ σ₁ → VRs s₁.heap σ₁ vs us → wpAny (model prog w) A (call fv us) Q E s₁) :
      wpAny (model prog w) A (eval (.Call (.Name f q) ES [] p) env) Q E s :=
    wpAny_Call_NameR (builtin_name S R g ng nb h1 h2 (callWith_ok (base := base) ts (.inr (.inl hf)) (evs_ok O.ev S hA ts R V0 he fun s₁ σ₁ us P rs => ⟨P.rel.stay, k s₁ σ₁ us P rs⟩)))
  have ev1 {a : Ex} {v : V} (h1 : r.ev κ a ρ H = some (v, H₁)) : evs r κ [a] ρ H = some ([v], H₁) := by unfold evs evs; rw [h1]; rfl
  have tr1 {a : Ex} {X : Expr} (t : TrE sc a X) : TrEs sc [a] [X] := by show (_ && _) = true; rw [show chkE sc a X = true from t]; rfl
  revert h t
  cases it with
  | rng a =>
    apply iter_rng_c e0; intro x m h1 hb t h
    apply tri_rng ti; intro XA p q g ta
    refine gl g hrng.1 hrng.2 ⟨_, rfl⟩ (tr1 ta) (ev1 h1) fun s₁ σ₁ us P rs => ?_
    obtain ⟨u, rfl, ru⟩ := rs.one
    apply VR.int_c ru; intro tk
    revert h
    apply t.one_c; intro p' h
    refine call_range_1 ?_
    have P1 := P.rel.alloc (κ := κ) (X := []) { cls := .type "range", data := .fields #[.int 0 s₁.toks, .int m tk, .int 1 (s₁.toks + 1)] } (s₁.toks + 1 + 1)
    refine range_ok (x := x) (p := p') hA.1 (P.trans P1) (IsRange.new ..) (by omega) (by omega) hb.1 hb.2 fun I fp wr P St s₂ rd => ?_
    rw [Int.sub_zero] at rd
    exact h I fp wr P St s₂ _ rd
  | rng2 a b =>
    apply iter_rng2_c e0; intro x m m' H₂ h1 h2 hb t h
    apply tri_rng2 ti; intro XA XB p q g ta tb
    have tr2 : TrEs sc [a, b] [XA, XB] := by show (_ && (_ && _)) = true; rw [show chkE sc a XA = true from ta, show chkE sc b XB = true from tb]; rfl
    refine gl g hrng.1 hrng.2 ⟨_, rfl⟩ tr2 (vs := [.int m, .int m']) (by unfold evs evs evs; rw [h1]; show bd (bd (r.ev κ b ρ H₂) _) _ = _; rw [h2]; rfl) fun s₁ σ₁ us P rs => ?_
    obtain ⟨u, u', rfl, ru, ru'⟩ := rs.two
    apply VR.int_c ru; intro tk
    apply VR.int_c ru'; intro tk'
    revert h
    apply t.one_c; intro p' h
    refine call_range_2 ?_
    have P1 := P.rel.alloc (κ := κ) (X := []) { cls := .type "range", data := .fields #[.int m tk, .int m' tk', .int 1 s₁.toks] } (s₁.toks + 1)
    exact range_ok (x := x) (p := p') hA.1 (P.trans P1) (IsRange.new ..) hb.1.1 hb.1.2 hb.2.1 hb.2.2 fun I fp wr P St s₂ rd => h I fp wr P St s₂ _ rd
  | enu a =>
    apply tri_enu ti; intro XA p q g ta
    apply iter_enu_c e0
    · intro x y xs h1 t h
      refine gl g henu.1 henu.2 ⟨_, rfl⟩ (tr1 ta) (ev1 h1) fun s₁ σ₁ us P rs => ?_
      obtain ⟨u, rfl, ru⟩ := rs.one
      revert h
      apply t.two_c; intro _ _ _ _ h
      exact enu_tup hA.1 P ru h
    · intro x y xs m h1 hn t h
      refine gl g henu.1 henu.2 ⟨_, rfl⟩ (tr1 ta) (ev1 h1) fun s₁ σ₁ us P rs => ?_
      obtain ⟨u, rfl, ru⟩ := rs.one
      revert h
      apply t.two_c; intro _ _ _ _ h
      exact enu_lst hA.1 hn P ru h
  | ovr a =>
    apply iter_ovr_c e0
    · intro ts xs is h1 hi t h
      refine O_ev O S ti hA R V0 h1 fun s₁ σ₁ u P _ ru => ?_
      revert h hi
      cases t with
      | one => intro hi h; rw [itemsAll_one hi] at h; exact over_tup1 hA.1 P ru fun I fp wr P St s₂ rd => h I fp wr P St s₂ _ rd
      | two => intro hi h; exact over_tup2 hA.1 hi P ru fun I fp wr P St s₂ rd => h I fp wr P St s₂ _ rd
    · intro x xs m h1 hn t h
      refine O_ev O S ti hA R V0 h1 fun s₁ σ₁ u P _ ru => ?_
      revert h
      apply t.one_c; intro p h
      exact over_lst hA.1 hn P ru fun I fp wr P St s₂ rd => h I fp wr P St s₂ _ rd
    · intro x es m h1 hn hk t h
      refine O_ev O S ti hA R V0 h1 fun s₁ σ₁ u P _ ru => ?_
      revert h
      apply t.one_c; intro p h
      exact over_dic hA.1 hn hk P ru fun I fp wr P St s₂ rd => h I fp wr P St s₂ _ rd

theorem TrI.noSet {it : It} {IX : Expr} (t : TrI sc it IX) (env : Env) (x : Value) : foldedSetIterable IX env x = pure x := by
  cases it with
  | ovr a => exact TrE.noSet t env x
  | rng a => apply tri_rng t; intros; rfl
  | rng2 a b => apply tri_rng2 t; intros; rfl
  | enu a => apply tri_enu t; intros; rfl
end
end Mine
end

section
/-! The for-loop. -/
set_option maxRecDepth 100000
set_option linter.all false
namespace Mine
open PySem PySem.Calls PyProof.Rows

section
variable {prog : Program} {w : World} {base : Heap} {σ σ' X : List Addr} {H H' : Hp} {κ κ₁ : List Nat} {s s' : Shared} {A : Around} {E : Value → Shared → Prop} {env : Env} {sc : Scope} {ρ : En} {r : Rn} {n : Nat}

/-- objects that are no tuples and no cells are turned -/
theorem Rel.sides {wr : List Addr} (R : Rel prog w base s.heap σ H) (ha : ∀ a ∈ wr, a ∉ σ) (hb : ∀ a ∈ wr, base.get? a = none) (hX : ∀ a ∈ wr, a ∈ X) (hs : ∀ b o, b ∉ wr → s.heap.get? b = some o → s'.heap.get? b = some o)
    (hss : ∃ h tk, s' = { s with heap := h, toks := tk }) (hnt : ∀ a ∈ wr, ∀ items, ¬ s.heap.IsTuple a items) (hex : ∀ a ∈ wr, (∃ o, s.heap.get? a = some o) → ∃ o, s'.heap.get? a = some o) : Pst prog w base κ σ X s H s' σ := by
  have ht : ∀ b items, s.heap.IsTuple b items → s'.heap.IsTuple b items := fun b items t => IsTuple.mono t fun o e => hs b o (fun q => hnt b q items t) e
  refine ⟨hss, ⟨[], by simp⟩, fun _ h => .inl h, ⟨fun b o e => ?_, fun b o e hx _ => hs b o (fun q => hx (hX b q)) e⟩, ht, R.len, R.nd, fun m b d e1 e2 => ?_, R.new, fun b o e => hs b o (fun q => ?_) (R.stay b o e)⟩
  · by_cases q : b ∈ wr
    · exact hex b q ⟨o, e⟩
    · exact ⟨o, hs b o q e⟩
  · exact (R.cell m b d e1 e2).mono (fun o e => hs b o (fun q => ha b q (List.mem_of_getElem? e1)) e) ht fun _ _ e => e
  · rw [hb b q] at e; cases e

/-- there, and no tuple -/
def NT (h : Heap) (b : Addr) : Prop := ∃ o, h.get? b = some o ∧ ∀ items n, o.cls = .type "tuple" → o.data ≠ .seq items n
theorem NT.not {h : Heap} {b : Addr} (x : NT h b) : ∀ items, ¬ h.IsTuple b items := fun items t => by
  obtain ⟨o, ho, hn⟩ := x
  obtain ⟨o', ho', hc, n, hd⟩ := t
  rw [ho] at ho'; cases ho'
  exact hn _ _ hc hd
theorem NT.at {h h' : Heap} {b : Addr} (x : NT h b) (e : ∀ o, h.get? b = some o → h'.get? b = some o) : NT h' b := let ⟨o, ho, r⟩ := x; ⟨o, e o ho, r⟩
theorem NT.cls {h : Heap} {b : Addr} {o : Obj} {c : String} (e : h.get? b = some o) (hc : o.cls = .type c) (hne : c ≠ "tuple") : NT h b :=
  ⟨o, e, fun items n q => by rw [hc] at q; injection q with q; exact absurd q hne⟩
theorem frameX_nt {h : Heap} (V0 : EnvR base h σ env ρ) : ∀ b ∈ frameX sc env, b ∉ σ ∧ NT h b := by
  intro b hb
  rcases List.mem_cons.mp hb with rfl | hb
  · obtain ⟨m, hn, _⟩ := V0.ns
    obtain ⟨o, es, ep, ho, hd⟩ := Ns.get hn
    exact ⟨V0.lout.1, o, ho, fun items n _ q => by rw [hd] at q; cases q⟩
  · obtain ⟨⟨n, c⟩, hm, rfl⟩ := List.mem_map.mp hb
    obtain ⟨⟨v, o, ho, hd⟩, h2, _⟩ := V0.cells _ _ (List.mem_filter.mp hm).1
    exact ⟨h2, o, ho, fun items n _ q => by rw [hd] at q; cases q⟩

section
variable {ts : List Nat} {T : Expr} {its : List (List V)} {s₀ s₂ : Shared} {H₁ : Hp} {I : Addr} {fp wr : List Addr} {P : Nat → List Value → Prop} {St : Nat → Heap → Prop} {σ₀ σ₂ : List Addr}

theorem Ready.foot_ok (rd : Ready prog w A base κ κ₁ σ₀ ts T its s₀ H₁ I fp wr P St s₂ σ₂) (L : Pst prog w base κ₁ σ₂ (wr ++ X) s₂ H s σ) (hX : ∀ b ∈ X, b ∉ wr ∧ b ∉ σ ∧ NT s.heap b) :
    ∀ b ∈ fp, b ∉ X ∧ ∀ n : Nat, σ[n]? = some b → n ∈ κ₁ := by
  intro b hb
  rcases rd.foot b hb with hw | ⟨n, hn, hk⟩ | ⟨items, t⟩
  · refine ⟨fun q => (hX b q).1 hw, fun n hn => ?_⟩
    obtain ⟨o, ho⟩ := (rd.wk.nt 0 _ rd.st b hw).1
    exact absurd (List.mem_of_getElem? hn) (L.out ho (rd.out b hw))
  · have hn' := L.sub hn
    refine ⟨fun q => (hX b q).2.1 (List.mem_of_getElem? hn'), fun m hm => ?_⟩
    have : n = m := (List.getElem?_inj (List.getElem?_eq_some_iff.mp hn').1 L.rel.nd).mp (hn'.trans hm.symm)
    exact this ▸ hk
  · have t' := L.tups _ _ t
    exact ⟨fun q => (hX b q).2.2.not _ t', fun n hn => absurd (List.mem_of_getElem? hn) (L.rel.tup_out t')⟩

theorem Ready.st_keep (rd : Ready prog w A base κ κ₁ σ₀ ts T its s₀ H₁ I fp wr P St s₂ σ₂) (L : Pst prog w base κ₁ σ₂ (wr ++ X) s₂ H s σ) (hX : ∀ b ∈ X, b ∉ wr ∧ b ∉ σ ∧ NT s.heap b) {i : Nat} (st : St i s.heap)
    (P1 : Pst prog w base κ₁ σ X s H' s' σ') : St i s'.heap :=
  rd.wk.frame i _ _ st fun b hb o e => P1.keep.2 b o e (rd.foot_ok L hX b hb).1 (rd.foot_ok L hX b hb).2

theorem Keep.up {X' : List Addr} {h h' : Heap} (k : Keep κ σ X h h') (hx : ∀ a ∈ X, a ∈ X') : Keep κ σ X' h h' := k.mono (fun _ h => h) hx
theorem Pst.up {X' : List Addr} (P : Pst prog w base κ σ X s H' s' σ') (hx : ∀ a ∈ X, a ∈ X') : Pst prog w base κ σ X' s H' s' σ' := ⟨P.same, P.pre, P.new, P.keep.up hx, P.tups, P.rel⟩
/-- what is newer than the start may be left out -/
theorem Pst.narrow {X' : List Addr} (P : Pst prog w base κ σ X s H' s' σ') (hx : ∀ a ∈ X, a ∈ X' ∨ s.heap.get? a = none) : Pst prog w base κ σ X' s H' s' σ' :=
  ⟨P.same, P.pre, P.new, ⟨P.keep.1, fun b o e hb hn => P.keep.2 b o e (fun q => by rcases hx b q with h | h; exact hb h; rw [e] at h; cases h) hn⟩, P.tups, P.rel⟩

theorem Unp.length {h : Heap} {ts : List Nat} {v : Value} {vals : List Value} (u : Unp h ts v vals) : vals.length = ts.length := by cases u <;> rfl
theorem EnvR.kept {wr : List Addr} {h h' : Heap} (V0 : EnvR base h σ env ρ) (hk : ∀ b o, b ∉ wr → h.get? b = some o → h'.get? b = some o) (hE : env.locals ∉ wr ∧ ∀ n c, (n, c) ∈ env.cells → c ∉ wr) (hnt : ∀ a ∈ wr, ∀ items, ¬ h.IsTuple a items) : EnvR base h' σ env ρ := by
  have ht : ∀ b items, h.IsTuple b items → h'.IsTuple b items := fun b items t => IsTuple.mono t fun o e => hk b o (fun q => hnt b q items t) e
  have hl := hE.1
  have hc := hE.2
  obtain ⟨m, hn, hm⟩ := V0.ns
  refine ⟨⟨m, hn.at' fun o e => hk _ o hl e, fun x v e k => ?_⟩, fun x v e => ?_, fun n c e => ?_, V0.lout⟩
  · obtain ⟨u, hu, r⟩ := hm x v e k; exact ⟨u, hu, r.mono ht fun _ _ e => e⟩
  · rcases V0.var x v e with k | ⟨k, c, u, hcu, ⟨o, ho, hd⟩, r⟩
    · exact .inl k
    · exact .inr ⟨k, c, u, hcu, ⟨o, hk _ o (hc _ _ (mem_of_lookup hcu)) ho, hd⟩, r.mono ht fun _ _ e => e⟩
  · obtain ⟨⟨v, o, ho, hd⟩, h2, h3⟩ := V0.cells n c e
    exact ⟨⟨v, o, hk _ o (hc n c e) ho, hd⟩, h2, h3⟩

/-- one turn: the item lies at its names -/
theorem Ready.turn (rd : Ready prog w A base κ κ₁ σ₀ ts T its s₀ H₁ I fp wr P St s₂ σ₂) (hh : A.handled = none) (S : EnvS env sc) (t : TrT ts T) (hk : ∀ x ∈ ts, sc.names.lookup (nm x) = some .local ∨ sc.names.lookup (nm x) = some .cell)
    (hst0 : ∀ b o, base.get? b = some o → s₀.heap.get? b = some o) (L : Pst prog w base κ₁ σ₂ (wr ++ X) s₂ H s σ) (V0 : EnvR base s.heap σ env ρ) (hX : ∀ b ∈ X, b ∉ wr ∧ b ∉ σ ∧ NT s.heap b) (hfX : ∀ b ∈ frameX sc env, b ∈ X) (hE : env.locals ∉ wr ∧ ∀ n c, (n, c) ∈ env.cells → c ∉ wr) {i : Nat} (hi : i < its.length) (st : St i s.heap)
    {Q : Unit → Shared → Prop} (h : ∀ s' is, its[i]? = some is → is.length = ts.length → Pst prog w base κ₁ σ (wr ++ X) s H s' σ → St (i + 1) s'.heap → EnvR base s'.heap σ env (ρ.sets ts is) → (∀ b o, b ∉ wr → b ∉ frameX sc env → s.heap.get? b = some o → (∀ n : Nat, σ[n]? = some b → n ∈ κ₁) → s'.heap.get? b = some o) → Q () s') :
    wpAny (model prog w) A (pyNext (.ref I)) (fun r s₁ => match r with
      | none => False
      | some v => wpAny (model prog w) A (letOwnedTupleGo T (.ref I) v) (fun _ s₁' => wpAny (model prog w) A (assign T env v) Q E s₁') E s₁) E s := by
  refine rd.wk.item i s _ E hi st fun v vals h' tk un hv st' hkeep => ?_
  obtain ⟨is, his, ris⟩ := rd.item i vals hi hv
  have hwσ : ∀ a ∈ wr, a ∉ σ := fun a ha => by
    obtain ⟨o, ho⟩ := (rd.wk.nt 0 _ rd.st a ha).1
    exact L.out ho (rd.out a ha)
  have hwb : ∀ a ∈ wr, base.get? a = none := fun a ha => by
    cases q : base.get? a with
    | none => rfl
    | some o => have := hst0 a o q; rw [rd.new a ha] at this; cases this
  have P1 : Pst prog w base κ₁ σ wr s H { s with heap := h', toks := tk } σ :=
    L.rel.sides (s' := { s with heap := h', toks := tk }) hwσ hwb (fun _ h => h) hkeep ⟨_, _, rfl⟩ (fun a ha => (rd.wk.nt i _ st a ha).2) fun a ha _ => (rd.wk.nt (i + 1) _ st' a ha).1
  have L1 := L.trans (P1.up (X' := wr ++ X) fun a ha => List.mem_append_left _ ha)
  have V1 : EnvR base h' σ env ρ := V0.keep P1 hE
  have hX1 : ∀ b ∈ X, b ∉ wr ∧ b ∉ σ ∧ NT h' b := fun b hb => ⟨(hX b hb).1, (hX b hb).2.1, (hX b hb).2.2.at fun o e => hkeep b o (hX b hb).1 e⟩
  refine target_ok (κ := κ₁) hh S t un (L1.vrs ris) P1.rel V1 hk fun s' P2 V2 => h s' is his (ris.length.trans un.length) ((P1.up (X' := wr ++ X) fun a ha => List.mem_append_left _ ha).trans (P2.up fun a ha => List.mem_append_right _ (hfX a ha))) ?_ V2 fun b o hw hf e hn => P2.keep.2 b o (hkeep b o hw e) hf hn
  exact rd.st_keep L1 hX1 st' (P2.up hfX)

/-- from the very start, without the iterator -/
theorem Ready.whole (rd : Ready prog w A base κ κ₁ σ₀ ts T its s₀ H₁ I fp wr P St s₂ σ₂) (L : Pst prog w base κ₁ σ₂ (wr ++ X) s₂ H s σ) : Pst prog w base κ σ₀ X s₀ H s σ :=
  ((rd.pst.wide (X := wr ++ X)).trans (L.lock rd.lock)).narrow fun a ha => by
    rcases List.mem_append.mp ha with h | h
    · exact .inr (rd.new a h)
    · exact .inl h
theorem Pst.done {wr : List Addr} (P : Pst prog w base κ σ X s H s' σ') {s₁ : Shared} (hw : ∀ a ∈ wr, s.heap.get? a = none) (ha : ∀ a ∈ wr, a ∉ σ') (hb : ∀ a ∈ wr, base.get? a = none) (hs : ∀ b o, b ∉ wr → s'.heap.get? b = some o → s₁.heap.get? b = some o)
    (hss : ∃ h tk, s₁ = { s' with heap := h, toks := tk }) (hnt : ∀ a ∈ wr, ∀ items, ¬ s'.heap.IsTuple a items) : Pst prog w base κ σ X s H s₁ σ' := by
  have hne : ∀ b o, s.heap.get? b = some o → b ∉ wr := fun b o e q => by rw [hw b q] at e; cases e
  have ht : ∀ b items, s'.heap.IsTuple b items → s₁.heap.IsTuple b items := fun b items t => IsTuple.mono t fun o e => hs b o (fun q => hnt b q items t) e
  refine ⟨?_, P.pre, P.new, ⟨fun b o e => ?_, fun b o e hx hn => hs b o (hne b o e) (P.keep.2 b o e hx hn)⟩, fun a items t => ht _ _ (P.tups a items t), P.rel.len, P.rel.nd, fun m b d e1 e2 => ?_, P.rel.new, fun b o e => hs b o (fun q => ?_) (P.rel.stay b o e)⟩
  · obtain ⟨h, tk, e⟩ := P.same
    obtain ⟨h', tk', e'⟩ := hss
    exact ⟨h', tk', by rw [e', e]⟩
  · obtain ⟨o', e'⟩ := P.keep.1 b o e
    exact ⟨o', hs b o' (hne b o e) e'⟩
  · exact (P.rel.cell m b d e1 e2).mono (fun o e => hs b o (fun q => ha b q (List.mem_of_getElem? e1)) e) ht fun _ _ e => e
  · rw [hb b q] at e; cases e

theorem Ready.baseNone (rd : Ready prog w A base κ κ₁ σ₀ ts T its s₀ H₁ I fp wr P St s₂ σ₂) (hst0 : ∀ b o, base.get? b = some o → s₀.heap.get? b = some o) : ∀ a ∈ wr, base.get? a = none := fun a ha => by
  cases q : base.get? a with
  | none => rfl
  | some o => have := hst0 a o q; rw [rd.new a ha] at this; cases this
theorem Ready.outNow (rd : Ready prog w A base κ κ₁ σ₀ ts T its s₀ H₁ I fp wr P St s₂ σ₂) (L : Pst prog w base κ₁ σ₂ (wr ++ X) s₂ H s σ) : ∀ a ∈ wr, a ∉ σ := fun a ha => by
  obtain ⟨o, ho⟩ := (rd.wk.nt 0 _ rd.st a ha).1
  exact L.out ho (rd.out a ha)

theorem drop_cons {α : Type} {l : List α} {i : Nat} {x : α} (h : i < l.length) (e : l[i]? = some x) : l.drop i = x :: l.drop (i + 1) := by
  rw [List.drop_eq_getElem_cons h, Option.some.inj ((List.getElem?_eq_getElem h).symm.trans e)]
theorem for_ok (B : Base base) (O : OK prog w base r n) (rd : Ready prog w A base κ κ₁ σ₀ ts T its s₀ H₁ I fp wr P St s₂ σ₂) (S : EnvS env sc) (t : TrT ts T) (hA : Cx A n) (hk : ∀ x ∈ ts, sc.names.lookup (nm x) = some .local ∨ sc.names.lookup (nm x) = some .cell)
    (hst0 : ∀ b o, base.get? b = some o → s₀.heap.get? b = some o) (hE : env.locals ∉ wr ∧ ∀ n c, (n, c) ∈ env.cells → c ∉ wr) {body : List Sm} {BS : List Stmt} (tb : TrSs sc body BS) {fl : Fl} {ρ' : En} {H' : Hp} {RR : Result → Shared → Prop}
    (V0 : EnvR base s₂.heap σ₂ env ρ) (e0 : forGo r κ₁ ts body its ρ H₁ = some (fl, ρ', H'))
    (h : ∀ s' σ' f, Pst prog w base κ σ₀ (frameX sc env) s₀ H' s' σ' → EnvR base s'.heap σ' env ρ' → FlR s'.heap σ' fl f → RR (.ok f) s') :
    codeAny (model prog w) A (.forLoop T (.ref I) BS [] env) RR s₂ := by
  have hXw : ∀ b ∈ frameX sc env, b ∉ wr := fun b hb => by
    rcases List.mem_cons.mp hb with rfl | hb
    · exact hE.1
    · obtain ⟨⟨n, c⟩, hm, rfl⟩ := List.mem_map.mp hb
      exact hE.2 n c (List.mem_filter.mp hm).1
  obtain ⟨Inv, hInv⟩ : ∃ Inv : Nat → Shared → Prop, Inv = fun m s => ∀ G : Prop, (∀ i ρ H σ, m = its.length - i → i ≤ its.length → Pst prog w base κ₁ σ₂ (wr ++ frameX sc env) s₂ H s σ → St i s.heap → EnvR base s.heap σ env ρ → forGo r κ₁ ts body (its.drop i) ρ H = some (fl, ρ', H') → G) → G := ⟨_, rfl⟩
  refine codeAny_forLoop_any Inv (fun m s hI => ?_) its.length (by rw [hInv]; exact fun G kk => kk 0 ρ H₁ σ₂ rfl (Nat.zero_le _) (Pst.refl rd.pst.rel) rd.st V0 e0)
  have hI' := hI
  rw [hInv] at hI'
  refine hI' _ fun i ρ H σ hm hi L st V e => ?_
  clear hI hI'
  rcases Nat.lt_or_ge i its.length with hlt | hge
  · refine wpAny_mono (rd.turn (X := frameX sc env) (E := notedBy (model prog w) A env fun e s' => RR (.error e) s') hA.1 S t hk hst0 L V (fun b hb => ⟨hXw b hb, frameX_nt V b hb⟩) (fun _ h => h) hE hlt st (Q := fun _ s' => wpAny (model prog w) A (execs BS env) (fun f s₃ => match f with
            | .next | .cont => ∃ m', m' < m ∧ Inv m' s₃
            | .brk => RR (.ok .next) s₃
            | .ret v => RR (.ok (.ret v)) s₃) (notedBy (model prog w) A env fun e s' => RR (.error e) s') s') fun s' is his _ P' st' V' _ => ?_) (fun r s₁ h₁ => ?_) fun _ _ x => x
    · have L' := L.trans P'
      rw [drop_cons hlt his] at e
      refine b3_c e fun fl' ρ₁ H₁' hb e => ?_
      refine O.xs κ₁ body BS env sc _ H σ s' A _ _ _ _ _ S tb hA L'.rel V' hb fun s₃ σ₃ f P3 V3 hf => ?_
      have P4 := L'.trans (P3.up fun a ha => List.mem_append_right _ ha)
      have go : forGo r κ₁ ts body (its.drop (i + 1)) ρ₁ H₁' = some (fl, ρ', H') → ∃ m', m' < m ∧ Inv m' s₃ := fun e =>
        ⟨its.length - (i + 1), hm ▸ Nat.sub_lt_sub_left hlt (Nat.lt_succ_self i), by rw [hInv]; exact fun G kk => kk (i + 1) ρ₁ H₁' σ₃ rfl hlt P4 (rd.st_keep L' (fun b hb => ⟨hXw b hb, frameX_nt V' b hb⟩) st' P3) V3 e⟩
      cases hf with
      | ret ru =>
        obtain ⟨rfl, rfl, rfl⟩ := i3 e
        exact h s₃ σ₃ _ (rd.whole P4) V3 (.ret ru)
      | next => exact go e
      | cont => exact go e
    · cases r with
      | none => exact h₁.elim
      | some v => exact h₁
  · have hi' : i = its.length := Nat.le_antisymm hi hge
    subst hi'
    rw [List.drop_length] at e
    obtain ⟨rfl, rfl, rfl⟩ := i3 e
    refine rd.wk.done s _ _ st fun h' tk hkeep => ?_
    have P9 := (rd.whole L).done (s₁ := { s with heap := h', toks := tk }) rd.new (rd.outNow L) (rd.baseNone hst0) hkeep ⟨_, _, rfl⟩ fun a ha => (rd.wk.nt _ _ st a ha).2
    refine wpAny_execs_nil (h _ _ _ P9 ?_ .next)
    exact V.kept hkeep hE fun a ha => (rd.wk.nt _ _ st a ha).2
end
end
end Mine
end

section
/-! Comprehensions: the environment and the loops. -/
set_option maxRecDepth 100000
set_option linter.all false
namespace Mine
open PySem PySem.Calls PyProof.Rows

/-- the cells that a comprehension takes along -/
noncomputable def closL (env : Env) : List (PySem.Str × NameKind) → List (PySem.Str × Addr) → List (PySem.Str × Addr)
  | [], acc => acc
  | (n, k) :: r, acc => if k == .free then closL env r ((n, (env.cells.lookup n).getD 0) :: acc) else closL env r acc

theorem closureFor_ok {env : Env} {sc : Scope} (h : ∀ x ∈ sc.names, x.2 = .free → ∃ c, env.cells.lookup x.1 = some c) : closureFor sc env = pure (closL env sc.names []) := by
  have go : ∀ (l : List (PySem.Str × NameKind)) (acc : List (PySem.Str × Addr)), (∀ x ∈ l, x.2 = .free → ∃ c, env.cells.lookup x.1 = some c) →
      (forIn l acc fun (x : PySem.Str × NameKind) (cs : List (PySem.Str × Addr)) => (if (x.2 == NameKind.free) = true then (do let c ← cellOf env x.1; pure (ForInStep.yield ((x.1, c) :: cs))) else pure (ForInStep.yield cs) : Sem (ForInStep (List (PySem.Str × Addr))))) = pure (closL env l acc) := by
    intro l
    induction l with
    | nil => intro acc _; rfl
    | cons x r ih =>
      intro acc hx
      obtain ⟨n, k⟩ := x
      rw [List.forIn_cons]
      have hr : ∀ y ∈ r, y.2 = .free → ∃ c, env.cells.lookup y.1 = some c := fun y hy => hx y (List.mem_cons_of_mem _ hy)
      cases hk : (k == NameKind.free) with
      | true =>
        obtain ⟨c, hc⟩ := hx (n, k) List.mem_cons_self (beq_iff_eq.mp hk)
        have e1 : cellOf env n = pure c := by unfold cellOf; rw [hc]
        have hc' : env.cells.lookup n = some c := hc
        have e2 : closL env ((n, k) :: r) acc = closL env r ((n, c) :: acc) := by
          show (if (k == NameKind.free) = true then _ else _) = _
          rw [if_pos hk, hc']; rfl
        rw [e2, ← ih _ hr]
        simp only [hk, if_true, e1]
        rfl
      | false =>
        have e2 : closL env ((n, k) :: r) acc = closL env r acc := by
          show (if (k == NameKind.free) = true then _ else _) = _
          rw [if_neg (by rw [hk]; decide)]
        rw [e2, ← ih _ hr]
        simp only [hk, Bool.false_eq_true, if_false]
        rfl
  show (forIn sc.names [] _ >>= fun cs => pure cs) = _
  rw [bind_pure]
  exact go sc.names [] h

theorem closL_eq (env : Env) : ∀ (l : List (PySem.Str × NameKind)) (acc : List (PySem.Str × Addr)), closL env l acc = closL env l [] ++ acc
  | [], acc => rfl
  | (n, k) :: r, acc => by
    unfold closL
    split
    · rw [closL_eq env r, closL_eq env r [_]]; simp
    · exact closL_eq env r acc
theorem closL_mem {env : Env} : ∀ {l : List (PySem.Str × NameKind)} {n : PySem.Str} {c : Addr}, (n, c) ∈ closL env l [] → (n, .free) ∈ l ∧ c = (env.cells.lookup n).getD 0
  | [], n, c, h => by cases h
  | (m, k) :: r, n, c, h => by
    unfold closL at h
    split at h
    · rename_i hk
      rw [closL_eq] at h
      rcases List.mem_append.mp h with h | h
      · obtain ⟨a, b⟩ := closL_mem h; exact ⟨List.mem_cons_of_mem _ a, b⟩
      · rw [List.mem_singleton] at h
        cases h
        rw [beq_iff_eq.mp hk]
        exact ⟨List.mem_cons_self, rfl⟩
    · obtain ⟨a, b⟩ := closL_mem h; exact ⟨List.mem_cons_of_mem _ a, b⟩
theorem closL_in {env : Env} : ∀ {l : List (PySem.Str × NameKind)} {n : PySem.Str}, (n, .free) ∈ l → (n, (env.cells.lookup n).getD 0) ∈ closL env l []
  | (m, k) :: r, n, h => by
    unfold closL
    rcases List.mem_cons.mp h with e | h
    · cases e
      rw [if_pos (by rfl), closL_eq]
      exact List.mem_append_right _ (by simp)
    · split
      · rw [closL_eq]; exact List.mem_append_left _ (closL_in h)
      · exact closL_in h
theorem cellsFrom_eq : ∀ (l : List (PySem.Str × NameKind)) (n : Nat) (acc : List (PySem.Str × Addr)), cellsFrom n l acc = cellsFrom n l [] ++ acc
  | [], n, acc => rfl
  | (m, k) :: r, n, acc => by
    unfold cellsFrom
    split
    · rw [cellsFrom_eq r, cellsFrom_eq r _ [_]]; simp
    · exact cellsFrom_eq r n acc
theorem cellsFrom_mem : ∀ {l : List (PySem.Str × NameKind)} {i : Nat} {n : PySem.Str} {c : Addr}, (n, c) ∈ cellsFrom i l [] → (n, .cell) ∈ l
  | [], i, n, c, h => by cases h
  | (m, k) :: r, i, n, c, h => by
    unfold cellsFrom at h
    split at h
    · rename_i hk
      rw [cellsFrom_eq] at h
      rcases List.mem_append.mp h with h | h
      · exact List.mem_cons_of_mem _ (cellsFrom_mem h)
      · rw [List.mem_singleton] at h
        cases h
        rw [beq_iff_eq.mp hk]
        exact List.mem_cons_self
    · exact List.mem_cons_of_mem _ (cellsFrom_mem h)
theorem cellsFrom_in : ∀ {l : List (PySem.Str × NameKind)} {i : Nat} {n : PySem.Str}, (n, .cell) ∈ l → ∃ c, (n, c) ∈ cellsFrom i l []
  | (m, k) :: r, i, n, h => by
    unfold cellsFrom
    rcases List.mem_cons.mp h with e | h
    · cases e
      rw [if_pos (by rfl), cellsFrom_eq]
      exact ⟨i, List.mem_append_right _ (by simp)⟩
    · split
      · obtain ⟨c, hc⟩ := cellsFrom_in (i := i + 1) h
        rw [cellsFrom_eq]; exact ⟨c, List.mem_append_left _ hc⟩
      · exact cellsFrom_in h

theorem lookup_of_mem {α : Type} : ∀ {l : List (PySem.Str × α)} {n : PySem.Str} {c : α}, (n, c) ∈ l → ∃ d, l.lookup n = some d
  | (m, d) :: r, n, c, h => by
    rw [List.lookup_cons]
    cases hb : n == m with
    | true => exact ⟨d, rfl⟩
    | false =>
      rcases List.mem_cons.mp h with e | h
      · cases e; simp at hb
      · exact lookup_of_mem h
theorem lookup_nodup {α : Type} : ∀ {l : List (PySem.Str × α)} {n : PySem.Str} {c : α}, (l.map (·.1)).Nodup → (n, c) ∈ l → l.lookup n = some c
  | (m, d) :: r, n, c, hn, h => by
    rw [List.map_cons, List.nodup_cons] at hn
    rw [List.lookup_cons]
    rcases List.mem_cons.mp h with e | h
    · cases e; simp
    · have : n ≠ m := fun e => hn.1 (e ▸ List.mem_map.mpr ⟨_, h, rfl⟩)
      have hb : (n == m) = false := by simpa using this
      rw [hb]; exact lookup_nodup hn.2 h
theorem lookup_append {α : Type} : ∀ {l l' : List (PySem.Str × α)} {n : PySem.Str}, (∀ c, (n, c) ∉ l) → (l ++ l').lookup n = l'.lookup n
  | [], l', n, _ => rfl
  | (m, d) :: r, l', n, h => by
    rw [List.cons_append, List.lookup_cons]
    have : n ≠ m := fun e => h d (e ▸ List.mem_cons_self)
    have hb : (n == m) = false := by simpa using this
    rw [hb]; exact lookup_append fun c hc => h c (List.mem_cons_of_mem _ hc)
theorem lookup_relabel {env : Env} {names : List (PySem.Str × NameKind)} {x : PySem.Str} :
    (names.map fun (n, k) => if (k == NameKind.free && env.scope.kind == .function && env.kindOf n == some .cell) then (n, NameKind.cell) else (n, k)).lookup x =
      (names.lookup x).map fun k => if (k == NameKind.free && env.scope.kind == .function && env.kindOf x == some .cell) then .cell else k := by
  induction names with
  | nil => rfl
  | cons p r ih =>
    obtain ⟨n, k⟩ := p
    have ih := ih
    show List.lookup x ((if (k == NameKind.free && env.scope.kind == .function && env.kindOf n == some .cell) = true then (n, NameKind.cell) else (n, k)) :: _) = _
    cases hx : x == n with
    | true =>
      have e := beq_iff_eq.mp hx
      subst e
      simp only [List.lookup_cons, hx]
      show _ = some (if _ then _ else _)
      split
      · simp [List.lookup_cons]
      · simp [List.lookup_cons]
    | false =>
      have e : List.lookup x ((n, k) :: r) = List.lookup x r := by simp [List.lookup_cons, hx]
      rw [e, ← ih]
      split <;> simp [List.lookup_cons, hx]

section
variable {prog : Program} {w : World} {base : Heap} {σ σ' X : List Addr} {H H' : Hp} {κ κ₁ : List Nat} {s s' : Shared} {A : Around} {E : Value → Shared → Prop} {env : Env} {sc sc' : Scope} {ρ : En} {r : Rn} {n : Nat}

noncomputable def compEnv (sc' : Scope) (env : Env) (C : Addr) : Env :=
  { scope := relabel sc' env, locals := C, globals := env.globals, cells := cellsFrom (C + 1) sc'.names (closL env sc'.names []), qual := env.qual, func := none, code := env.code, frame := env.frame, builtins := env.builtins }

theorem newCompEnv {Q : Env → Shared → Prop} (hQ : Q { scope := sc', locals := s.heap.objs.size, globals := env.globals, cells := cellsFrom (s.heap.objs.size + 1) sc'.names (closL env sc'.names []), qual := env.qual, func := none, code := env.code, frame := env.frame, builtins := env.builtins }
      { s with heap := pushCells (s.heap.push { cls := .type "dict", data := .dict #[] }) sc'.names }) :
    wpAny (model prog w) A (newFunctionEnv sc' env.globals (closL env sc'.names []) [] env.qual none .none (some env)) Q E s := by
  simp only [newFunctionEnv, Option.isSome_some, if_true]
  refine wpAny_bind (wpAny_alloc ?_)
  refine wpAny_bind (wpAny_layCells _ (fun name kind cells => by cases hkc : kind == NameKind.cell <;> simp [hkc]) _ _ _ _ ?_)
  rw [show ({ s with heap := s.heap.push { cls := .type "dict", data := .dict #[] } } : Shared).heap.objs.size = s.heap.objs.size + 1 from Heap.size_push ..]
  refine wpAny_bind ?_
  rw [List.forIn_nil]
  exact wpAny_pure (wpAny_pure hQ)

structure Inn (sp sc : Scope) (ts fr : List Nat) : Prop where
  fn : sc.kind = .function
  nd : (sc.names.map (·.1)).Nodup
  fre : ∀ n, (n, .free) ∈ sc.names → sp.names.lookup n = some .cell ∨ sp.names.lookup n = some .free
  own : ∀ x ∈ ts, sc.names.lookup (nm x) = some .local ∨ sc.names.lookup (nm x) = some .cell
  cap : ∀ x ∈ fr, sc.names.lookup (nm x) = some .free
theorem inner_ok {sp sc : Scope} {ts fr : List Nat} (h : inner sp sc ts fr = true) : Inn sp sc ts fr := by
  unfold inner at h
  simp only [Bool.and_eq_true, beq_iff_eq, decide_eq_true_eq, List.all_eq_true, Bool.or_eq_true, bne_iff_ne, ne_eq] at h
  obtain ⟨h1, h2, h3, h4, h5⟩ := h
  exact ⟨h1, h2, fun n hn => (h3 _ hn).resolve_left fun q => q rfl, h4, h5⟩

theorem comp_env (S : EnvS env sc) (V0 : EnvR base s.heap σ env ρ) (R : Rel prog w base s.heap σ H) {ts fr : List Nat} (N : Inn sc sc' ts fr) :
    let h₁ := pushCells (s.heap.push { cls := .type "dict", data := .dict #[] }) sc'.names
    (∀ b o, s.heap.get? b = some o → h₁.get? b = some o) ∧ EnvS (compEnv sc' env s.heap.objs.size) sc' ∧ EnvR base h₁ σ (compEnv sc' env s.heap.objs.size) (En.only fr ρ) ∧
    (∀ b ∈ frameX sc' (compEnv sc' env s.heap.objs.size), s.heap.get? b = none) ∧ ∀ n c, (n, c) ∈ (compEnv sc' env s.heap.objs.size).cells → s.heap.get? c = none ∨ ∃ m, (m, c) ∈ env.cells := by
  intro h₁
  have old : ∀ b o, s.heap.get? b = some o → h₁.get? b = some o := fun b o e => pushCells_keeps _ _ b o (Heap.get?_push_of_some _ e)
  have ok := cellsFrom_ok sc'.names (s.heap.push { cls := .type "dict", data := .dict #[] }) (s.heap.objs.size + 1) [] ⟨fun _ _ hm => (nomatch hm), List.Pairwise.nil⟩ (by rw [Heap.size_push]; exact Nat.le_refl _)
  rw [Heap.size_push] at ok
  have hkind : ∀ x, (compEnv sc' env s.heap.objs.size).kindOf x = (sc'.names.lookup x).map fun k => if (k == NameKind.free && env.scope.kind == .function && env.kindOf x == some .cell) then .cell else k := fun x => lookup_relabel
  have hfree : ∀ n, (n, NameKind.free) ∈ sc'.names → ∃ c, env.cells.lookup n = some c := fun n hn => by
    rcases N.fre n hn with h | h
    · exact S.cell n (.inl (S.kind n _ h (by decide)))
    · exact S.cell n ((S.free n h).symm)
  have hcells : (compEnv sc' env s.heap.objs.size).cells = cellsFrom (s.heap.objs.size + 1) sc'.names [] ++ closL env sc'.names [] := cellsFrom_eq _ _ _
  have hnew : ∀ n c, (n, c) ∈ cellsFrom (s.heap.objs.size + 1) sc'.names [] → h₁.IsCell c none ∧ s.heap.objs.size + 1 ≤ c := ok.empty
  have hold : ∀ n c, (n, c) ∈ closL env sc'.names [] → (n, NameKind.free) ∈ sc'.names ∧ env.cells.lookup n = some c := fun n c h => by
    obtain ⟨a, b⟩ := closL_mem h
    obtain ⟨d, hd⟩ := hfree n a
    rw [hd] at b
    exact ⟨a, by rw [hd]; exact congrArg some b.symm⟩
  have hclon : ∀ {l : List (PySem.Str × NameKind)}, (l.map (·.1)).Nodup → (∀ x ∈ l, x ∈ sc'.names) → (closL env l []).Pairwise fun x y => x.2 ≠ y.2 := by
    intro l hn hs
    induction l with
    | nil => exact List.Pairwise.nil
    | cons p r ih =>
      obtain ⟨n, k⟩ := p
      rw [List.map_cons, List.nodup_cons] at hn
      have hr := ih hn.2 fun x hx => hs x (List.mem_cons_of_mem _ hx)
      unfold closL
      split
      · rename_i hk
        rw [closL_eq, List.pairwise_append]
        refine ⟨hr, List.pairwise_singleton _ _, fun a ha b hb => ?_⟩
        rw [List.mem_singleton] at hb; subst hb
        obtain ⟨m, c⟩ := a
        obtain ⟨q1, q2⟩ := closL_mem ha
        intro e
        have f1 : (n, NameKind.free) ∈ sc'.names := by have := hs _ List.mem_cons_self; rw [beq_iff_eq.mp hk] at this; exact this
        obtain ⟨d1, e1⟩ := hfree m (hs _ (List.mem_cons_of_mem _ q1))
        obtain ⟨d2, e2⟩ := hfree n f1
        have hdd : d1 = d2 := by
          have : c = (env.cells.lookup n).getD 0 := e
          rw [q2, e1, e2] at this; exact this
        have := name_of_addr S.apart (mem_of_lookup e1) (hdd ▸ mem_of_lookup e2)
        subst this
        exact hn.1 (List.mem_map.mpr ⟨_, q1, rfl⟩)
      · exact hr
  have hnone : ∀ b, s.heap.objs.size ≤ b → s.heap.get? b = none := fun b hb => by
    cases q : s.heap.get? b with
    | none => rfl
    | some o => exact absurd (Heap.lt_size q) (Nat.not_lt.mpr hb)
  have hbnone : ∀ b, s.heap.objs.size ≤ b → base.get? b = none := fun b hb => by
    cases q : base.get? b with
    | none => rfl
    | some o => have := R.stay b o q; rw [hnone b hb] at this; cases this
  refine ⟨old, ⟨N.fn, S.glob, S.blt, fun n k e hk => ?_, fun n e => ?_, fun n e => ?_, ?_⟩, ⟨⟨fun _ => none, (Heap.Ns.new s.heap (.type "dict")).keeps (pushCells_keeps _ _), fun x v e k => ?_⟩, fun x v e => ?_, fun n c e => ?_, R.size_out (Nat.le_refl _), hbnone _ (Nat.le_refl _)⟩, fun b hb => ?_, fun n c hm => ?_⟩
  · rw [hkind, e]
    have : (k == NameKind.free) = false := by simpa using hk
    show some (if _ then _ else _) = some k
    rw [if_neg (by rw [this, Bool.false_and, Bool.false_and]; decide)]
  · rw [hkind, e]
    simp only [Option.map_some]
    split
    · exact .inr rfl
    · exact .inl rfl
  · rw [hkind] at e
    have hl : ∃ k, sc'.names.lookup n = some k ∧ (k = .cell ∨ k = .free) := by
      cases q : sc'.names.lookup n with
      | none => rw [q] at e; rcases e with e | e <;> cases e
      | some k =>
        rw [q] at e
        refine ⟨k, rfl, ?_⟩
        simp only [Option.map_some, Option.some.injEq] at e
        by_cases hf : k = .free
        · exact .inr hf
        · have hb : (k == NameKind.free) = false := by simpa using hf
          simp only [hb, Bool.false_and, Bool.false_eq_true, if_false] at e
          exact e
    obtain ⟨k, hk, hkk⟩ := hl
    have hm := mem_of_lookup hk
    rw [hcells]
    rcases hkk with rfl | rfl
    · obtain ⟨c, hc⟩ := cellsFrom_in (i := s.heap.objs.size + 1) hm
      exact lookup_of_mem (List.mem_append_left _ hc)
    · exact lookup_of_mem (List.mem_append_right _ (closL_in hm))
  · rw [hcells, List.pairwise_append]
    refine ⟨ok.apart, hclon N.nd fun _ h => h, fun a ha b hb e => ?_⟩
    obtain ⟨n, c⟩ := a
    obtain ⟨m, d⟩ := b
    have e : c = d := e
    subst e
    have h1 := (hnew n c ha).2
    obtain ⟨⟨v, o, ho, _⟩, _⟩ := V0.cells m c (mem_of_lookup (hold m c hb).2)
    exact absurd (Heap.lt_size ho) (Nat.not_lt.mpr (Nat.le_of_succ_le h1))
  · obtain ⟨hx, _⟩ := En.get_only e
    rw [hkind, N.cap x hx] at k
    simp only [Option.map_some, Option.some.injEq] at k
    split at k <;> cases k
  · obtain ⟨hx, he⟩ := En.get_only e
    refine .inr ⟨?_, ?_⟩
    · rw [hkind, N.cap x hx]
      simp only [Option.map_some]
      split
      · exact .inl rfl
      · exact .inr rfl
    · have hm := mem_of_lookup (N.cap x hx)
      rcases V0.var x v he with k | ⟨k, c, u, hcu, hcell, ru⟩
      · exfalso
        rcases N.fre _ hm with q | q
        · rw [S.kind _ _ q (by decide)] at k; cases k
        · rcases S.free _ q with q | q <;> · rw [q] at k; cases k
      · refine ⟨c, u, ?_, hcell.keeps old, ru.mono (fun a items t => IsTuple.mono t fun o e => old a o e) fun _ _ e => e⟩
        rw [hcells, lookup_append fun d hd => ?_]
        · obtain ⟨d, hd⟩ := lookup_of_mem (closL_in (env := env) hm)
          have := (hold _ _ (mem_of_lookup hd)).2
          rw [hd, ← this, hcu]
        · have h1 := cellsFrom_mem hd
          have := lookup_nodup N.nd h1
          rw [N.cap x hx] at this; cases this
  · rw [hcells] at e
    rcases List.mem_append.mp e with h | h
    · obtain ⟨h1, h2⟩ := hnew n c h
      have hge : s.heap.objs.size ≤ c := Nat.le_of_succ_le h2
      exact ⟨⟨none, h1⟩, R.size_out hge, hbnone c hge⟩
    · obtain ⟨⟨v, hv⟩, h2, h3⟩ := V0.cells n c (mem_of_lookup (hold n c h).2)
      exact ⟨⟨v, hv.keeps old⟩, h2, h3⟩
  · rcases List.mem_cons.mp hb with rfl | hb
    · exact hnone _ (Nat.le_refl _)
    · obtain ⟨⟨n, c⟩, hm, rfl⟩ := List.mem_map.mp hb
      obtain ⟨hm, hk⟩ := List.mem_filter.mp hm
      rw [hcells] at hm
      rcases List.mem_append.mp hm with h | h
      · exact hnone _ (Nat.le_of_succ_le (hnew n c h).2)
      · have h1 := lookup_nodup N.nd (hold n c h).1
        rw [h1] at hk; simp at hk
  · rw [hcells] at hm
    rcases List.mem_append.mp hm with h | h
    · exact .inl (hnone _ (Nat.le_of_succ_le (hnew n c h).2))
    · exact .inr ⟨n, mem_of_lookup (hold n c h).2⟩
end
end Mine
end

section
/-! The loop of a list comprehension. -/
set_option maxRecDepth 100000
set_option linter.all false
namespace Mine
open PySem PySem.Calls PyProof.Rows

section
variable {prog : Program} {w : World} {A : Around} {E : Value → Shared → Prop} {R : Result → Shared → Prop} {s : Shared}

theorem compLoopL {elt target iter : Expr} {ifs : List Expr} {scope : Scope} {pos : Pos} {it acc : Value} {env : Env} (I : Nat → Shared → Prop)
    (turn : ∀ n s, I n s → wpAny (model prog w) A (pyNext it) (fun r s₁ => match r with
      | none => R (.ok .next) s₁
      | some v => wpAny (model prog w) A (letOwnedTupleGo target it v) (fun _ s₁' => wpAny (model prog w) A (assign target env v) (fun _ s₂ =>
          wpAny (model prog w) A (forIn ifs true fun c r => if r = true then do let ok ← isTrue c env (eval c env); pure (ForInStep.yield ok) else pure (ForInStep.yield r)) (fun ok s₃ =>
            if ok = true then wpAny (model prog w) A (eval elt env) (fun x s₄ =>
              wpAny (model prog w) A (call (.builtin "list.append") [acc, x]) (fun _ s₅ => ∃ m, m < n ∧ I m s₅) (notedBy (model prog w) A env fun e s' => R (.error e) s') s₄) (notedBy (model prog w) A env fun e s' => R (.error e) s') s₃
            else ∃ m, m < n ∧ I m s₃) (notedBy (model prog w) A env fun e s' => R (.error e) s') s₂) (notedBy (model prog w) A env fun e s' => R (.error e) s') s₁') (notedBy (model prog w) A env fun e s' => R (.error e) s') s₁) (notedBy (model prog w) A env fun e s' => R (.error e) s') s)
    (n : Nat) (h : I n s) : codeAny (model prog w) A (.compLoop (.ListComp elt [⟨target, iter, ifs, 0⟩] scope pos) 0 it acc env) R s := by
  refine codeAny_loop rfl I (fun n s hI => ?_) n h
  show wpAny _ A ((compTurn (.ListComp elt [⟨target, iter, ifs, 0⟩] scope pos) 0 it acc env).onRaise (fun x => do noteFrame x env; theTreesLotGoes x)) _ _ s
  refine wpAny_noted ?_
  rw [compTurn_list]
  refine wpAny_bind (wpAny_standAt (wpAny_bind (wpAny_mono (turn n s hI) (fun r s₁ h₁ => ?_) fun _ _ h' => h')))
  cases r with
  | none => exact wpAny_pure h₁
  | some v =>
    refine wpAny_bind (wpAny_mono h₁ (fun _ s₁' h₁' => ?_) fun _ _ h' => h')
    refine wpAny_bind (wpAny_mono h₁' (fun _ s₂ h₂ => wpAny_bind (wpAny_mono h₂ (fun ok s₃ h₃ => ?_) fun _ _ h' => h')) fun _ _ h' => h')
    cases ok with
    | false => exact wpAny_pure ⟨rfl, h₃⟩
    | true =>
      exact wpAny_bind (wpAny_bind (wpAny_mono h₃ (fun x s₄ h₄ => wpAny_bind (wpAny_mono h₄ (fun _ s₅ h₅ => wpAny_pure (wpAny_pure ⟨rfl, h₅⟩)) fun _ _ h' => h')) fun _ _ h' => h'))

theorem compLoopD {kx vx target iter : Expr} {scope : Scope} {pos : Pos} {it : Value} {D : Addr} {env : Env} (I : Nat → Shared → Prop)
    (turn : ∀ n s, I n s → wpAny (model prog w) A (pyNext it) (fun r s₁ => match r with
      | none => R (.ok .next) s₁
      | some v => wpAny (model prog w) A (letOwnedTupleGo target it v) (fun _ s₁' => wpAny (model prog w) A (assign target env v) (fun _ s₂ =>
          wpAny (model prog w) A (eval kx env) (fun kv s₄ => wpAny (model prog w) A (eval vx env) (fun vv s₅ =>
              wpAny (model prog w) A (dictSet D kv vv) (fun _ s₆ => ∃ m, m < n ∧ I m s₆) (notedBy (model prog w) A env fun e s' => R (.error e) s') s₅) (notedBy (model prog w) A env fun e s' => R (.error e) s') s₄)
            (notedBy (model prog w) A env fun e s' => R (.error e) s') s₂) (notedBy (model prog w) A env fun e s' => R (.error e) s') s₁') (notedBy (model prog w) A env fun e s' => R (.error e) s') s₁) (notedBy (model prog w) A env fun e s' => R (.error e) s') s)
    (n : Nat) (h : I n s) : codeAny (model prog w) A (.compLoop (.DictComp kx vx [⟨target, iter, [], 0⟩] scope pos) 0 it (.ref D) env) R s := by
  refine codeAny_loop rfl I (fun n s hI => ?_) n h
  show wpAny _ A ((compTurn (.DictComp kx vx [⟨target, iter, [], 0⟩] scope pos) 0 it (.ref D) env).onRaise (fun x => do noteFrame x env; theTreesLotGoes x)) _ _ s
  refine wpAny_noted ?_
  rw [compTurn_dict]
  refine wpAny_bind (wpAny_standAt (wpAny_bind (wpAny_mono (turn n s hI) (fun r s₁ h₁ => ?_) fun _ _ h' => h')))
  cases r with
  | none => exact wpAny_pure h₁
  | some v =>
    refine wpAny_bind (wpAny_mono h₁ (fun _ s₁' h₁' => ?_) fun _ _ h' => h')
    refine wpAny_bind (wpAny_mono h₁' (fun _ s₂ h₂ => wpAny_bind (wpAny_tests_nil ?_)) fun _ _ h' => h')
    exact wpAny_bind (wpAny_bind (wpAny_mono h₂ (fun kv s₄ h₄ => wpAny_bind (wpAny_holding (wpAny_mono h₄ (fun vv s₅ h₅ => wpAny_bind (wpAny_standAt (wpAny_holding (wpAny_mono h₅ (fun _ s₆ h₆ => wpAny_pure ⟨rfl, h₆⟩) fun _ _ h' => h')))) fun _ _ h' => h'))) fun _ _ h' => h'))
end

theorem sets_off {ts : List Nat} {T : Expr} (t : TrT ts T) {is : List V} (hl : is.length = ts.length) (ρ : En) {x : Nat} (hx : x ∉ ts) : (ρ.sets ts is).get x = ρ.get x := by
  cases t with
  | @one y p =>
    match is, hl with
    | [v], _ =>
      show (ρ.set y v).get x = _
      rw [En.get_set, if_neg (fun e => hx (by simp [e]))]
  | @two y z k p q r hyz =>
    match is, hl with
    | [v, u], _ =>
      show ((ρ.set y v).set z u).get x = _
      rw [En.get_set, En.get_set, if_neg (fun e => hx (by simp [e])), if_neg (fun e => hx (by simp [e]))]
theorem sets_agree {ts : List Nat} {T : Expr} (t : TrT ts T) {is : List V} (hl : is.length = ts.length) {ρ ρ' : En} (h : ∀ x, x ∉ ts → ρ.get x = ρ'.get x) (x : Nat) : (ρ.sets ts is).get x = (ρ'.sets ts is).get x := by
  cases t with
  | @one y p =>
    match is, hl with
    | [v], _ =>
      show (ρ.set y v).get x = (ρ'.set y v).get x
      rw [En.get_set, En.get_set]
      split
      · rfl
      · rename_i hx; exact h x (by simpa using hx)
  | @two y z k p q r hyz =>
    match is, hl with
    | [v, u], _ =>
      show ((ρ.set y v).set z u).get x = ((ρ'.set y v).set z u).get x
      rw [En.get_set, En.get_set, En.get_set, En.get_set]
      split
      · rfl
      · split
        · rfl
        · rename_i h1 h2; exact h x (by simp [h1, h2])

section
variable {prog : Program} {w : World} {base : Heap} {σ σ' X : List Addr} {H H' : Hp} {κ κ₁ : List Nat} {s s' : Shared} {A : Around} {E : Value → Shared → Prop} {env : Env} {sc : Scope} {ρ : En} {r : Rn} {n : Nat}
variable {ts : List Nat} {T : Expr} {its : List (List V)} {s₀ s₂ : Shared} {H₁ : Hp} {I : Addr} {fp wr : List Addr} {P : Nat → List Value → Prop} {St : Nat → Heap → Prop} {σ₀ σ₂ : List Addr}

theorem cond_ok (O : OK prog w base r n) (S : EnvS env sc) (hA : Cx A n) {cond : Option Ex} {ifs : List Expr} (tc : TrC sc cond ifs) (R : Rel prog w base s.heap σ H) (V0 : EnvR base s.heap σ env ρ) {b : Bool} {H₁ : Hp} {Q : Bool → Shared → Prop}
    (e : condV r κ cond ρ H = some (b, H₁)) (h : ∀ s' σ', Pst prog w base κ σ [] s H₁ s' σ' → Q b s') :
    wpAny (model prog w) A (forIn ifs true fun c r => if r = true then do let ok ← isTrue c env (eval c env); pure (ForInStep.yield ok) else pure (ForInStep.yield r)) Q E s := by
  cases cond with
  | none =>
    have tc : ifs = [] := tc
    obtain ⟨rfl, rfl⟩ := i2 e
    rw [tc]
    exact wpAny_tests_nil (h _ _ (Pst.refl R))
  | some c =>
    obtain ⟨C, rfl, t⟩ := tc
    exact wpAny_tests_one (O.ts κ _ _ env sc ρ H σ s A _ _ _ _ S t hA R V0 e h)

theorem compL_ok (O : OK prog w base r n) (rd : Ready prog w A base κ κ₁ σ₀ ts T its s₀ H₁ I fp wr P St s₂ σ₂) (S : EnvS env sc) (t : TrT ts T) (hA : Cx A n) (hk : ∀ x ∈ ts, sc.names.lookup (nm x) = some .local ∨ sc.names.lookup (nm x) = some .cell)
    (hst0 : ∀ b o, base.get? b = some o → s₀.heap.get? b = some o) (hE : env.locals ∉ wr ∧ ∀ n c, (n, c) ∈ env.cells → c ∉ wr) {D : Addr} (hDw : D ∉ wr) (hDf : D ∉ frameX sc env) (hDb : base.get? D = none) {e : Ex} {X : Expr} {cond : Option Ex} {ifs : List Expr} {IX : Expr} {pos : Pos} (te : TrE sc e X) (tc : TrC sc cond ifs) {vs : List V} {H' : Hp} {RR : Result → Shared → Prop}
    {s₄ : Shared} (L0 : Pst prog w base κ₁ σ₂ (wr ++ (D :: frameX sc env)) s₂ H₁ s₄ σ₂) (hDσ : D ∉ σ₂) (st0 : St 0 s₄.heap) (V0 : EnvR base s₄.heap σ₂ env ρ) (hD : s₄.heap.get? D = some { cls := .type "list", data := .seq #[] }) (e0 : compGo r κ₁ e ts cond ρ its H₁ = some (vs, H')) (hlen : vs.length ≤ maxLen)
    (h : ∀ s' σ' us m ρ', Pst prog w base κ σ₀ (D :: frameX sc env) s₀ H' s' σ' → s'.heap.get? D = some { cls := .type "list", data := .seq us.toArray m } → D ∉ σ' → VRs s'.heap σ' vs us → EnvR base s'.heap σ' env ρ' → RR (.ok .next) s') :
    codeAny (model prog w) A (.compLoop (.ListComp X [⟨T, IX, ifs, 0⟩] sc pos) 0 (.ref I) (.ref D) env) RR s₄ := by
  have hz : sizeLine = 16777216 := sizeLine_val
  have hXw : ∀ b ∈ D :: frameX sc env, b ∉ wr := fun b hb => by
    rcases List.mem_cons.mp hb with rfl | hb
    · exact hDw
    · rcases List.mem_cons.mp hb with rfl | hb
      · exact hE.1
      · obtain ⟨⟨n, c⟩, hm, rfl⟩ := List.mem_map.mp hb
        exact hE.2 n c (List.mem_filter.mp hm).1
  obtain ⟨Inv, hInv⟩ : ∃ Inv : Nat → Shared → Prop, Inv = fun m s => ∀ G : Prop, (∀ i ρ' H σ done rest us k, m = its.length - i → i ≤ its.length → Pst prog w base κ₁ σ₂ (wr ++ (D :: frameX sc env)) s₂ H s σ → D ∉ σ → St i s.heap → EnvR base s.heap σ env ρ' → (∀ x, x ∉ ts → ρ'.get x = ρ.get x) →
      s.heap.get? D = some { cls := .type "list", data := .seq us.toArray k } → VRs s.heap σ done us → vs = done ++ rest → compGo r κ₁ e ts cond ρ (its.drop i) H = some (rest, H') → G) → G := ⟨_, rfl⟩
  refine compLoopL Inv (fun m s hI => ?_) its.length (by rw [hInv]; exact fun G kk => kk 0 ρ H₁ σ₂ [] vs [] 0 rfl (Nat.zero_le _) L0 hDσ st0 V0 (fun _ _ => rfl) hD .nil rfl e0)
  have hI' := hI
  rw [hInv] at hI'
  refine hI' _ fun i ρ' H σ done rest us k hm hi L hDσ st V hρ hD rs hvs e1 => ?_
  clear hI hI'
  have hXnow : ∀ b ∈ D :: frameX sc env, b ∉ wr ∧ b ∉ σ ∧ NT s.heap b := fun b hb => by
    refine ⟨hXw b hb, ?_⟩
    rcases List.mem_cons.mp hb with rfl | hb
    · exact ⟨hDσ, NT.cls hD rfl (by decide)⟩
    · exact frameX_nt V b hb
  rcases Nat.lt_or_ge i its.length with hlt | hge
  · refine wpAny_mono (rd.turn (X := D :: frameX sc env) (E := notedBy (model prog w) A env fun e s' => RR (.error e) s') hA.1 S t hk hst0 L V hXnow (fun b hb => List.mem_cons_of_mem _ hb) hE hlt st
      (Q := fun _ s₂' => wpAny (model prog w) A (forIn ifs true fun c r => if r = true then do let ok ← isTrue c env (eval c env); pure (ForInStep.yield ok) else pure (ForInStep.yield r)) (fun ok s₃ =>
            if ok = true then wpAny (model prog w) A (eval X env) (fun x s₄ =>
              wpAny (model prog w) A (call (.builtin "list.append") [.ref D, x]) (fun _ s₅ => ∃ m', m' < m ∧ Inv m' s₅) (notedBy (model prog w) A env fun e s' => RR (.error e) s') s₄) (notedBy (model prog w) A env fun e s' => RR (.error e) s') s₃
            else ∃ m', m' < m ∧ Inv m' s₃) (notedBy (model prog w) A env fun e s' => RR (.error e) s') s₂') fun s' is his hisl P' st' V' hkeep => ?_) (fun r s₁ h₁ => ?_) fun _ _ x => x
    · rw [drop_cons hlt his] at e1
      have V1 : EnvR base s'.heap σ env (ρ.sets ts is) := V'.congr fun x => (sets_agree t hisl hρ x).symm
      have L' := L.trans P'
      have hD' : s'.heap.get? D = some { cls := .type "list", data := .seq us.toArray k } := hkeep D _ hDw hDf hD fun n hn => absurd (List.mem_of_getElem? hn) hDσ
      have hρ' : ∀ x, x ∉ ts → (ρ.sets ts is).get x = ρ.get x := fun x hx => sets_off t hisl ρ hx
      have hX' : ∀ b ∈ D :: frameX sc env, b ∉ wr ∧ b ∉ σ ∧ NT s'.heap b := fun b hb => by
        refine ⟨hXw b hb, (hXnow b hb).2.1, ?_⟩
        rcases List.mem_cons.mp hb with rfl | hb
        · exact NT.cls hD' rfl (by decide)
        · exact (frameX_nt V1 b hb).2
      have hlt' : its.length - (i + 1) < m := hm ▸ Nat.sub_lt_sub_left hlt (Nat.lt_succ_self i)
      refine bd_c e1 fun tt H₂ hc e1 => cond_ok (κ := κ₁) O S hA tc P'.rel V1 hc fun s3 σ3 P3 => ?_
      have up0 : ∀ {σ : List Addr} {s s' : Shared} {H' : Hp} {σ' : List Addr}, Pst prog w base κ₁ σ [] s H' s' σ' → Pst prog w base κ₁ σ (wr ++ (D :: frameX sc env)) s H' s' σ' := fun P => P.up fun a ha => absurd ha List.not_mem_nil
      cases tt with
      | true =>
        refine bd_c e1 fun v H₃ hv e1 => bd_c e1 fun vs' H₄ hgo e1 => ?_
        obtain ⟨rfl, rfl⟩ := i2 e1
        rw [if_pos rfl]
        refine O_ev O S te hA P3.rel (V1.keep0 P3) hv fun s4 σ4 u P4 V4 ru => ?_
        have P34 := P3.trans P4
        have hD4 : s4.heap.get? D = some { cls := .type "list", data := .seq us.toArray k } := P34.keep.out hD' (by simp) hDσ
        have hDσ4 : D ∉ σ4 := P34.out hD' hDσ
        have P04 : Pst prog w base κ₁ σ (wr ++ (D :: frameX sc env)) s H₃ s4 σ4 := P'.trans (up0 P34)
        have rs4 := P04.vrs rs
        have hul : us.length ≤ sizeLine := by
          have := rs.length
          rw [hvs] at hlen
          rw [List.length_append] at hlen
          unfold maxLen at hlen
          omega
        refine wpAny_list_append_plain (hsz := by rw [List.size_toArray]; exact hul) ⟨k, hD4⟩ fun h' hpl hs => ?_
        obtain ⟨k', hk'⟩ := hpl
        rw [List.push_toArray] at hk'
        have P5' : Pst prog w base κ₁ σ4 [D] s4 H₃ { s4 with heap := h' } σ4 :=
          P04.rel.side (s' := { s4 with heap := h' }) hDσ4 hDb (by simp) hs ⟨_, _, rfl⟩ (NT.cls hD4 rfl (by decide)).not ⟨_, hk'⟩
        have inD : ∀ a ∈ [D], a ∈ D :: frameX sc env := fun a ha => by rw [List.mem_singleton] at ha; subst ha; exact List.mem_cons_self
        have P5 := P5'.up (X' := wr ++ (D :: frameX sc env)) fun a ha => List.mem_append_right _ (inD a ha)
        have hDl : env.locals ∉ [D] ∧ ∀ n c, (n, c) ∈ env.cells → c ∉ [D] := by
          refine ⟨fun q => hDf ?_, fun n c hm q => ?_⟩
          · rw [List.mem_singleton] at q; rw [← q]; exact List.mem_cons_self
          · rw [List.mem_singleton] at q
            subst q
            obtain ⟨⟨v', o, ho, hd'⟩, _⟩ := V.cells _ _ hm
            rw [hD] at ho; cases ho; cases hd'
        have L4 := L'.trans (up0 P34)
        have hX4 : ∀ b ∈ D :: frameX sc env, b ∉ wr ∧ b ∉ σ4 ∧ NT s4.heap b := fun b hb => by
          refine ⟨hXw b hb, ?_⟩
          rcases List.mem_cons.mp hb with rfl | hb
          · exact ⟨hDσ4, NT.cls hD4 rfl (by decide)⟩
          · exact frameX_nt V4 b hb
        have st5 : St (i + 1) h' := rd.st_keep L4 hX4 (rd.st_keep L' hX' st' (P34.up fun a ha => absurd ha List.not_mem_nil)) (P5'.up inD)
        exact ⟨_, hlt', by rw [hInv]; exact fun G kk => kk (i + 1) _ H₃ σ4 (done ++ [v]) vs' (us ++ [u]) k' rfl hlt (L4.trans P5) hDσ4 st5 (V4.keep P5' hDl) hρ' hk' (P5.vrs (rs4.append (.cons ru .nil))) (by rw [hvs, List.append_assoc]; rfl) hgo⟩
      | false =>
        rw [if_neg (by decide)]
        have hD3 : s3.heap.get? D = some { cls := .type "list", data := .seq us.toArray k } := P3.keep.out hD' (by simp) hDσ
        have P03 : Pst prog w base κ₁ σ (wr ++ (D :: frameX sc env)) s H₂ s3 σ3 := P'.trans (up0 P3)
        exact ⟨_, hlt', by rw [hInv]; exact fun G kk => kk (i + 1) _ H₂ σ3 done rest us k rfl hlt (L.trans P03) (P3.out hD' hDσ) (rd.st_keep L' hX' st' (P3.up fun a ha => absurd ha List.not_mem_nil)) (V1.keep0 P3) hρ' hD3 (P03.vrs rs) hvs e1⟩
    · cases r with
      | none => exact h₁.elim
      | some v => exact h₁
  · have hi' : i = its.length := Nat.le_antisymm hi hge
    subst hi'
    rw [List.drop_length] at e1
    obtain ⟨rfl, rfl⟩ := i2 e1
    refine rd.wk.done s _ _ st fun h' tk hkeep => ?_
    have P9 := (rd.whole L).done (s₁ := { s with heap := h', toks := tk }) rd.new (rd.outNow L) (rd.baseNone hst0) hkeep ⟨_, _, rfl⟩ fun a ha => (rd.wk.nt _ _ st a ha).2
    have ht : ∀ b items, s.heap.IsTuple b items → h'.IsTuple b items := fun b items t => IsTuple.mono t fun o e => hkeep b o (fun q => (rd.wk.nt _ _ st b q).2 items t) e
    refine h _ _ us k ρ' P9 (hkeep D _ hDw hD) hDσ ?_ (V.kept hkeep hE fun a ha => (rd.wk.nt _ _ st a ha).2)
    rw [hvs, List.append_nil]
    exact rs.mono ht fun _ _ e => e
end
end Mine
end

section
/-! The loop of a dict comprehension. -/
set_option maxRecDepth 100000
set_option linter.all false
namespace Mine
open PySem PySem.Calls PyProof.Rows

section
variable {prog : Program} {w : World} {base : Heap} {σ σ' X : List Addr} {H H' : Hp} {κ κ₁ : List Nat} {s s' : Shared} {A : Around} {E : Value → Shared → Prop} {env : Env} {sc : Scope} {ρ : En} {r : Rn} {n : Nat}
variable {T : Expr} {its : List (List V)} {s₀ s₂ : Shared} {H₁ : Hp} {I : Addr} {fp wr : List Addr} {P : Nat → List Value → Prop} {St : Nat → Heap → Prop} {σ₀ σ₂ : List Addr}

theorem DictOfH.get {h : Heap} {a : Addr} {ys : List (List Int × Addr × Value)} (D : h.DictOfH (TK prog w) a ys) : ∃ o, h.get? a = some o ∧ o.cls = .type "dict" := by
  obtain ⟨o, es, ep, ho, hc, _⟩ := D
  exact ⟨o, ho, hc.1⟩

theorem compD_ok (O : OK prog w base r n) {x : Nat} (rd : Ready prog w A base κ κ₁ σ₀ [x] T its s₀ H₁ I fp wr P St s₂ σ₂) (S : EnvS env sc) (t : TrT [x] T) (hA : Cx A n) (hk : ∀ y ∈ [x], sc.names.lookup (nm y) = some .local ∨ sc.names.lookup (nm y) = some .cell)
    (hst0 : ∀ b o, base.get? b = some o → s₀.heap.get? b = some o) (hE : env.locals ∉ wr ∧ ∀ n c, (n, c) ∈ env.cells → c ∉ wr) {D : Addr} (hDw : D ∉ wr) (hDf : D ∉ frameX sc env) (hDb : base.get? D = none) {ke ve : Ex} {KX VX : Expr} {IX : Expr} {pos : Pos} (tk : TrE sc ke KX) (tv : TrE sc ve VX) {es : List (List Int × V)} {H' : Hp} {RR : Result → Shared → Prop}
    {s₄ : Shared} (L0 : Pst prog w base κ₁ σ₂ (wr ++ (D :: frameX sc env)) s₂ H₁ s₄ σ₂) (hDσ : D ∉ σ₂) (st0 : St 0 s₄.heap) (V0 : EnvR base s₄.heap σ₂ env ρ) (hD : s₄.heap.DictOfH (TK prog w) D []) (e0 : dcompGo r κ₁ ke ve x ρ its [] H₁ = some (es, H'))
    (h : ∀ s' σ' ys ρ', Pst prog w base κ σ₀ (D :: frameX sc env) s₀ H' s' σ' → s'.heap.DictOfH (TK prog w) D ys → ys.length ≤ maxLen + 1 → D ∉ σ' → DRs s'.heap σ' es ys → EnvR base s'.heap σ' env ρ' → RR (.ok .next) s') :
    codeAny (model prog w) A (.compLoop (.DictComp KX VX [⟨T, IX, [], 0⟩] sc pos) 0 (.ref I) (.ref D) env) RR s₄ := by
  have hz : sizeLine = 16777216 := sizeLine_val
  have hXw : ∀ b ∈ D :: frameX sc env, b ∉ wr := fun b hb => by
    rcases List.mem_cons.mp hb with rfl | hb
    · exact hDw
    · rcases List.mem_cons.mp hb with rfl | hb
      · exact hE.1
      · obtain ⟨⟨n, c⟩, hm, rfl⟩ := List.mem_map.mp hb
        exact hE.2 n c (List.mem_filter.mp hm).1
  obtain ⟨Inv, hInv⟩ : ∃ Inv : Nat → Shared → Prop, Inv = fun m s => ∀ G : Prop, (∀ i ρ' H σ acc ys, m = its.length - i → i ≤ its.length → Pst prog w base κ₁ σ₂ (wr ++ (D :: frameX sc env)) s₂ H s σ → D ∉ σ → St i s.heap → EnvR base s.heap σ env ρ' → (∀ y, y ∉ [x] → ρ'.get y = ρ.get y) →
      s.heap.DictOfH (TK prog w) D ys → ys.length ≤ maxLen + 1 → DRs s.heap σ acc ys → dcompGo r κ₁ ke ve x ρ (its.drop i) acc H = some (es, H') → G) → G := ⟨_, rfl⟩
  refine compLoopD Inv (fun m s hI => ?_) its.length (by rw [hInv]; exact fun G kk => kk 0 ρ H₁ σ₂ [] [] rfl (Nat.zero_le _) L0 hDσ st0 V0 (fun _ _ => rfl) hD (Nat.zero_le _) .nil e0)
  have hI' := hI
  rw [hInv] at hI'
  refine hI' _ fun i ρ' H σ acc ys hm hi L hDσ st V hρ hD hyl rs e1 => ?_
  clear hI hI'
  obtain ⟨oD, hoD, hcD⟩ := DictOfH.get hD
  have hXnow : ∀ b ∈ D :: frameX sc env, b ∉ wr ∧ b ∉ σ ∧ NT s.heap b := fun b hb => by
    refine ⟨hXw b hb, ?_⟩
    rcases List.mem_cons.mp hb with rfl | hb
    · exact ⟨hDσ, NT.cls hoD hcD (by decide)⟩
    · exact frameX_nt V b hb
  rcases Nat.lt_or_ge i its.length with hlt | hge
  · refine wpAny_mono (rd.turn (X := D :: frameX sc env) (E := notedBy (model prog w) A env fun e s' => RR (.error e) s') hA.1 S t hk hst0 L V hXnow (fun b hb => List.mem_cons_of_mem _ hb) hE hlt st
      (Q := fun _ s₂' => wpAny (model prog w) A (eval KX env) (fun kv s₄ => wpAny (model prog w) A (eval VX env) (fun vv s₅ =>
              wpAny (model prog w) A (dictSet D kv vv) (fun _ s₆ => ∃ m', m' < m ∧ Inv m' s₆) (notedBy (model prog w) A env fun e s' => RR (.error e) s') s₅) (notedBy (model prog w) A env fun e s' => RR (.error e) s') s₄)
            (notedBy (model prog w) A env fun e s' => RR (.error e) s') s₂') fun s' is his hisl P' st' V' hkeep => ?_) (fun r s₁ h₁ => ?_) fun _ _ x => x
    · rw [drop_cons hlt his] at e1
      have V1 : EnvR base s'.heap σ env (ρ.sets [x] is) := V'.congr fun y => (sets_agree t hisl hρ y).symm
      have L' := L.trans P'
      have hkeepD : ∀ o, s.heap.get? D = some o → s'.heap.get? D = some o := fun o e => hkeep D o hDw hDf e fun n hn => absurd (List.mem_of_getElem? hn) hDσ
      have hρ' : ∀ y, y ∉ [x] → (ρ.sets [x] is).get y = ρ.get y := fun y hy => sets_off t hisl ρ hy
      have up0 : ∀ {σ : List Addr} {s s' : Shared} {H' : Hp} {σ' : List Addr}, Pst prog w base κ₁ σ [] s H' s' σ' → Pst prog w base κ₁ σ (wr ++ (D :: frameX sc env)) s H' s' σ' := fun P => P.up fun a ha => absurd ha List.not_mem_nil
      refine bd_c e1 fun kv H₂ hkv e1 => bo_c e1 fun kk hkk e1 => bd_c e1 fun vv H₃ hvv e1 => bi_c e1 fun hle e1 => ?_
      have hle := Nat.le_of_ble_eq_true hle
      refine O_ev O S tk hA P'.rel V1 hkv fun s3 σ3 uk P3 V3 rk => O_ev O S tv hA P3.rel V3 hvv fun s4 σ4 uv P4 V4 rv => ?_
      have P34 := P3.trans P4
      have hD4 : s4.heap.DictOfH (TK prog w) D ys := dictOfH_mono hD (fun o e => P34.keep.out (hkeepD o e) (by simp) hDσ) fun a items t => P34.tups _ _ (P'.tups _ _ t)
      obtain ⟨o4, ho4, hc4⟩ := DictOfH.get hD4
      obtain ⟨_, _, _, _, _, _, _, _, hnd⟩ := id hD4
      have hDσ4 : D ∉ σ4 := P34.out (hkeepD _ hoD) hDσ
      obtain ⟨ka, rfl, hka⟩ := (P4.vr rk).key (prog := prog) (w := w) hkk
      have P04 : Pst prog w base κ₁ σ (wr ++ (D :: frameX sc env)) s H₃ s4 σ4 := P'.trans (up0 P34)
      have rs4 : DRs s4.heap σ4 acc ys := rs.mono P04.tups fun _ _ => P04.sub
      have hroom := hA.room
      have hyl2 : ys.length ≤ maxLen := by rw [← rs.length]; exact hle
      refine wpAny_dictSet_heap (knd := TK prog w) (show A.units < cLine by omega) hka hD4 (fun h' hD5 hs => ?_) (by unfold maxLen at hyl2; omega)
      obtain ⟨o5, ho5, _⟩ := DictOfH.get hD5
      have P5' : Pst prog w base κ₁ σ4 [D] s4 H₃ { s4 with heap := h', toks := s4.toks + (TK prog w).draws kk } σ4 :=
        P04.rel.side (s' := { s4 with heap := h', toks := s4.toks + (TK prog w).draws kk }) hDσ4 hDb (by simp) hs ⟨_, _, rfl⟩ (NT.cls ho4 hc4 (by decide)).not ⟨_, ho5⟩
      have inD : ∀ a ∈ [D], a ∈ D :: frameX sc env := fun a ha => by rw [List.mem_singleton] at ha; subst ha; exact List.mem_cons_self
      have P5 := P5'.up (X' := wr ++ (D :: frameX sc env)) fun a ha => List.mem_append_right _ (inD a ha)
      have hDl : env.locals ∉ [D] ∧ ∀ n c, (n, c) ∈ env.cells → c ∉ [D] := by
        refine ⟨fun q => hDf ?_, fun n c hm q => ?_⟩
        · rw [List.mem_singleton] at q; rw [← q]; exact List.mem_cons_self
        · rw [List.mem_singleton] at q
          subst q
          obtain ⟨⟨v', o, ho, hd'⟩, _⟩ := V.cells _ _ hm
          obtain ⟨o2, es2, ep2, ho2, _, hd2, _⟩ := id hD
          rw [ho2] at ho; cases ho
          rw [hd2] at hd'; cases hd'
      have hX' : ∀ b ∈ D :: frameX sc env, b ∉ wr ∧ b ∉ σ ∧ NT s'.heap b := fun b hb => by
        refine ⟨hXw b hb, (hXnow b hb).2.1, ?_⟩
        rcases List.mem_cons.mp hb with rfl | hb
        · exact NT.cls (hkeepD _ hoD) hcD (by decide)
        · exact (frameX_nt V1 b hb).2
      have L4 := L'.trans (up0 P34)
      have hX4 : ∀ b ∈ D :: frameX sc env, b ∉ wr ∧ b ∉ σ4 ∧ NT s4.heap b := fun b hb => by
        refine ⟨hXw b hb, ?_⟩
        rcases List.mem_cons.mp hb with rfl | hb
        · exact ⟨hDσ4, NT.cls ho4 hc4 (by decide)⟩
        · exact frameX_nt V4 b hb
      have st5 : St (i + 1) h' := rd.st_keep L4 hX4 (rd.st_keep L' hX' st' (P34.up fun a ha => absurd ha List.not_mem_nil)) (P5'.up inD)
      exact ⟨_, hm ▸ Nat.sub_lt_sub_left hlt (Nat.lt_succ_self i), by rw [hInv]; exact fun G kkk => kkk (i + 1) _ H₃ σ4 _ _ rfl hlt (L4.trans P5) hDσ4 st5 (V4.keep P5' hDl) hρ' hD5 (Nat.le_trans (storedH_length_le (ys := ys) (k := kk) (a := ka) (v := uv)) (Nat.succ_le_succ hyl2)) (DRs.stored (rs4.mono P5.tups fun _ _ e => e) hnd (P5.vr rv)) e1⟩
    · cases r with
      | none => exact h₁.elim
      | some v => exact h₁
  · have hi' : i = its.length := Nat.le_antisymm hi hge
    subst hi'
    rw [List.drop_length] at e1
    obtain ⟨rfl, rfl⟩ := i2 e1
    refine rd.wk.done s _ _ st fun h' tk hkeep => ?_
    have P9 := (rd.whole L).done (s₁ := { s with heap := h', toks := tk }) rd.new (rd.outNow L) (rd.baseNone hst0) hkeep ⟨_, _, rfl⟩ fun a ha => (rd.wk.nt _ _ st a ha).2
    have ht : ∀ b items, s.heap.IsTuple b items → h'.IsTuple b items := fun b items t => IsTuple.mono t fun o e => hkeep b o (fun q => (rd.wk.nt _ _ st b q).2 items t) e
    exact h _ _ ys ρ' P9 (dictOfH_mono hD (fun o e => hkeep D o hDw e) ht) hyl hDσ (rs.mono ht fun _ _ e => e) (V.kept hkeep hE fun a ha => (rd.wk.nt _ _ st a ha).2)
end
end Mine
end

section
/-! Comprehensions, whole. -/
set_option maxRecDepth 100000
set_option linter.all false
namespace Mine
open PySem PySem.Calls PyProof.Rows

section
variable {prog : Program} {w : World} {base : Heap} {σ σ' X : List Addr} {H H' : Hp} {κ κ₁ : List Nat} {s s' : Shared} {A : Around} {E : Value → Shared → Prop} {env : Env} {sc sc' : Scope} {ρ : En} {r : Rn} {n : Nat} {SS : Sum}

/-- its names go: all else stands -/
theorem CFree.gone {C : Addr} {h' : Heap} (c : CFree base s C s' σ') (P : Pst prog w base κ σ [] s H' s' σ') (hs : Heap.SameBut C s'.heap h') : Pst prog w base κ σ [] s H' { s' with heap := h' } σ' := by
  obtain ⟨m, hn⟩ := c.ns
  obtain ⟨o, es, ep, ho, hd⟩ := Ns.get hn
  refine P.done (wr := [C]) (s₁ := { s' with heap := h' }) (fun a ha => ?_) (fun a ha => ?_) (fun a ha => ?_) (fun b o hb e => (hs.2 b fun q => hb (by simp [q])).trans e) ⟨_, _, rfl⟩ fun a ha items t => ?_
  · rw [List.mem_singleton] at ha; subst ha; exact c.new
  · rw [List.mem_singleton] at ha; subst ha; exact c.out
  · rw [List.mem_singleton] at ha; subst ha; exact c.bas
  · rw [List.mem_singleton] at ha; subst ha
    obtain ⟨o', ho', _, n, hd'⟩ := t
    rw [ho] at ho'; cases ho'; rw [hd] at hd'; cases hd'
theorem CFree.vr {C : Addr} {h' : Heap} (c : CFree base s C s' σ') (hs : Heap.SameBut C s'.heap h') {v : V} {u : Value} (rv : VR s'.heap σ' v u) : VR h' σ' v u := by
  obtain ⟨m, hn⟩ := c.ns
  obtain ⟨o, es, ep, ho, hd⟩ := Ns.get hn
  refine VR.side rv hs fun items t => ?_
  obtain ⟨o', ho', _, n, hd'⟩ := t
  rw [ho] at ho'; cases ho'; rw [hd] at hd'; cases hd'

/-- what both kinds share: the way to the loop -/
theorem comp_start (B : Base base) (O : OK prog w base r n) {ts fr : List Nat} {T : Expr} {it : It} {IX : Expr} {its : List (List V)} {H₁ : Hp} {e : Expr} {gs : List Comprehension} {ifs : List Expr} {pos : Pos} {newAcc : Sem Value} {o : Obj} {use : Option (Value → Sem Unit)} {Q : Value → Shared → Prop}
    (S : EnvS env sc) (t : TrT ts T) (ti : TrI sc it IX) (N : Inn sc sc' ts fr) (hA : Cx A n) (R : Rel prog w base s.heap σ H) (V0 : EnvR base s.heap σ env ρ) (hi : iter r κ ts it ρ H = some (its, κ₁, H₁)) (hcl : clausesOf e = ⟨T, IX, ifs, 0⟩ :: gs) (hof : o.isFreed = false)
    (hnew : ∀ (s : Shared) (Q : Value → Shared → Prop), Q (.ref s.heap.objs.size) { s with heap := s.heap.push o } → wpAny (model prog w) A newAcc Q E s)
    (hstart : ∀ (I D : Addr) (cenv : Env) (s₄ : Shared) (RR : Result → Shared → Prop), codeAny (model prog w) A (.compLoop e 0 (.ref I) (.ref D) cenv) RR s₄ →
      wpAny (model prog w) A (pyIter (.ref I)) (fun it' s' => codeAny (model prog w) A (.compLoop e 0 it' (.ref D) cenv) RR s') (notedBy (model prog w) A cenv fun x s' => RR (.error x) s') s₄ → codeAny (model prog w) A (.compStart e 0 (.ref I) (.ref D) cenv) RR s₄)
    (h : ∀ I fp wr P St s₂ σ₂ D C cenv s₄, Ready prog w A base κ κ₁ σ ts T its s H₁ I fp wr P St s₂ σ₂ → EnvS cenv sc' → cenv.locals = C → (cenv.locals ∉ wr ∧ ∀ n c, (n, c) ∈ cenv.cells → c ∉ wr) → D ∉ wr → D ∉ frameX sc' cenv → base.get? D = none → s.heap.get? D = none → (∀ a ∈ frameX sc' cenv, s.heap.get? a = none) → D ≠ C →
      Pst prog w base κ₁ σ₂ (wr ++ (D :: frameX sc' cenv)) s₂ H₁ s₄ σ₂ → D ∉ σ₂ → St 0 s₄.heap → EnvR base s₄.heap σ₂ cenv (En.only fr ρ) → s₄.heap.get? D = some o →
      codeAny (model prog w) A (.compLoop e 0 (.ref I) (.ref D) cenv) (compPost (model prog w) A E use Q (.ref D) C) s₄) :
    wpAny (model prog w) A (comprehension e sc' env pos newAcc false (eval IX env) use) Q E s := by
  have hfree : ∀ x ∈ sc'.names, x.2 = .free → ∃ c, env.cells.lookup x.1 = some c := fun x hx hk => by
    have hx' : (x.1, NameKind.free) ∈ sc'.names := by rw [← hk]; exact hx
    rcases N.fre _ hx' with h | h
    · exact S.cell _ (.inl (S.kind _ _ h (by decide)))
    · exact S.cell _ ((S.free _ h).symm)
  refine wpAny_comprehension_free hcl (fun x => ti.noSet env x) (closureFor_ok hfree) N.fn (fun x hx hl => lookup_nodup N.nd (by rw [← hl]; exact hx)) ?_
  refine wpAny_mono (iter_ok B O (E := E) S t ti hA R V0 hi (Q := fun it s₂ => wpAny (model prog w) A newAcc (fun acc s₃ => wpAny (model prog w) A (newFunctionEnv sc' env.globals (closL env sc'.names []) [] env.qual none .none (some env)) (fun cenv s₄ =>
        codeAny (model prog w) A (.compStart e 0 it acc { cenv with scope := relabel sc' env }) (compPost (model prog w) A E use Q acc cenv.locals) s₄) E s₃) E s₂) fun I fp wr P St s₂ σ₂ rd => ?_) (fun x s₁ h₁ => h₁) fun _ _ x => x
  refine hnew s₂ _ ?_
  refine newCompEnv ?_
  have P2 := rd.pst
  have R2 := P2.rel
  have P3 : Pst prog w base κ₁ σ₂ [] s₂ H₁ { s₂ with heap := s₂.heap.push o } σ₂ := R2.alloc o s₂.toks
  have V3 : EnvR base (s₂.heap.push o) σ₂ env ρ := (V0.keep0 P2).keep0 P3
  obtain ⟨old, S4, V4, hX4, hc4⟩ := comp_env (sc' := sc') (s := { s₂ with heap := s₂.heap.push o }) S V3 P3.rel N
  have hnD : s.heap.get? s₂.heap.objs.size = none := by
    cases q : s.heap.get? s₂.heap.objs.size with
    | none => rfl
    | some o => obtain ⟨o', q'⟩ := P2.keep.1 _ _ q; exact absurd (Heap.lt_size q') (Nat.lt_irrefl _)
  have hDb : base.get? s₂.heap.objs.size = none := by
    cases q : base.get? s₂.heap.objs.size with
    | none => rfl
    | some o => have := R.stay _ o q; rw [hnD] at this; cases this
  have hwlt : ∀ a ∈ wr, ∃ o, s₂.heap.get? a = some o := fun a ha => (rd.wk.nt 0 _ rd.st a ha).1
  have hup : ∀ b o', s₂.heap.get? b = some o' → (s₂.heap.push o).get? b = some o' := fun b o' e => Heap.get?_push_of_some _ e
  have hDobj : (s₂.heap.push o).get? s₂.heap.objs.size = some o := Heap.get?_push_size _ hof
  have hnX : ∀ a ∈ frameX sc' (compEnv sc' env (s₂.heap.push o).objs.size), s.heap.get? a = none := fun a ha => by
    have := hX4 a ha
    cases q : s.heap.get? a with
    | none => rfl
    | some o1 => obtain ⟨o', q'⟩ := P2.keep.1 _ _ q; rw [hup a o' q'] at this; cases this
  have hEw : (compEnv sc' env (s₂.heap.push o).objs.size).locals ∉ wr ∧ ∀ n c, (n, c) ∈ (compEnv sc' env (s₂.heap.push o).objs.size).cells → c ∉ wr := by
    refine ⟨fun hm => ?_, fun n c hm hw => ?_⟩
    · obtain ⟨o1, q⟩ := hwlt _ hm
      have := hX4 _ List.mem_cons_self
      rw [hup _ _ q] at this; cases this
    · rcases hc4 n c hm with q | ⟨m, q⟩
      · obtain ⟨o1, q1⟩ := hwlt _ hw
        have q : (s₂.heap.push o).get? c = none := q
        rw [hup _ _ q1] at q; cases q
      · obtain ⟨⟨v, o1, q1, _⟩, _⟩ := V0.cells m c q
        rw [rd.new c hw] at q1; cases q1
  have hDw : s₂.heap.objs.size ∉ wr := fun hm => by obtain ⟨o1, q⟩ := hwlt _ hm; exact absurd (Heap.lt_size q) (Nat.lt_irrefl _)
  have hDf : s₂.heap.objs.size ∉ frameX sc' (compEnv sc' env (s₂.heap.push o).objs.size) := fun hm => by
    have := hX4 _ hm
    have this : (s₂.heap.push o).get? s₂.heap.objs.size = none := this
    rw [hDobj] at this; cases this
  have hDC : s₂.heap.objs.size ≠ (compEnv sc' env (s₂.heap.push o).objs.size).locals := by
    show s₂.heap.objs.size ≠ (s₂.heap.push o).objs.size
    rw [Heap.size_push]; exact Nat.ne_of_lt (Nat.lt_succ_self _)
  have L0 : Pst prog w base κ₁ σ₂ (wr ++ (s₂.heap.objs.size :: frameX sc' (compEnv sc' env (s₂.heap.push o).objs.size))) s₂ H₁ { s₂ with heap := pushCells ((s₂.heap.push o).push { cls := .type "dict", data := .dict #[] }) sc'.names } σ₂ :=
    R2.keeps (s' := { s₂ with heap := pushCells ((s₂.heap.push o).push { cls := .type "dict", data := .dict #[] }) sc'.names }) (fun b o' e => old b o' (hup b o' e)) ⟨_, _, rfl⟩
  have st4 : St 0 (pushCells ((s₂.heap.push o).push { cls := .type "dict", data := .dict #[] }) sc'.names) := rd.wk.frame 0 _ _ rd.st fun b hb o' e => old b o' (hup b o' e)
  have loop := h I fp wr P St s₂ σ₂ s₂.heap.objs.size _ (compEnv sc' env (s₂.heap.push o).objs.size) { s₂ with heap := pushCells ((s₂.heap.push o).push { cls := .type "dict", data := .dict #[] }) sc'.names } rd S4 rfl hEw hDw hDf hDb hnD hnX hDC L0 (R2.size_out (Nat.le_refl _)) st4 V4 (old _ _ hDobj)
  exact hstart I s₂.heap.objs.size (compEnv sc' env (s₂.heap.push o).objs.size) _ _ loop (rd.wk.self 0 _ _ _ st4 loop)

theorem comp_list (B : Base base) (O : OK prog w base r n) {ts fr : List Nat} {T : Expr} {it : It} {IX X : Expr} {e : Ex} {cond : Option Ex} {its : List (List V)} {H₁ H₂ : Hp} {ifs : List Expr} {pos pos' : Pos} {vs : List V} {use : Option (Value → Sem Unit)} {Q : Value → Shared → Prop}
    (S : EnvS env sc) (t : TrT ts T) (ti : TrI sc it IX) (te : TrE sc' e X) (tc : TrC sc' cond ifs) (N : Inn sc sc' ts fr) (hA : Cx A n) (R : Rel prog w base s.heap σ H) (V0 : EnvR base s.heap σ env ρ) (hi : iter r κ ts it ρ H = some (its, κ₁, H₁))
    (hg : compGo r κ₁ e ts cond (En.only fr ρ) its H₁ = some (vs, H₂)) (hlen : vs.length ≤ maxLen)
    (h : ∀ D C s' σ', Pst prog w base κ σ [] s (H₂ ++ [.lst vs]) s' σ' → VR s'.heap σ' (.ref H₂.length) (.ref D) → CFree base s C s' σ' → compPost (model prog w) A E use Q (.ref D) C (.ok .next) s') :
    wpAny (model prog w) A (comprehension (.ListComp X [⟨T, IX, ifs, 0⟩] sc' pos') sc' env pos (newList []) false (eval IX env) use) Q E s := by
  refine comp_start (o := { cls := .type "list", data := .seq #[] }) (ifs := ifs) (gs := []) B O S t ti N hA R V0 hi rfl rfl (fun s Q hQ => wpAny_newObj_type hQ) (fun I D cenv s₄ RR h0 h1 => codeAny_compStart_list h0 h1) ?_
  intro I fp wr P St s₂ σ₂ D C cenv s₄ rd S4 hC hEw hDw hDf hDb hDn hXn hDC L0 hDσ st0 V4 hD
  subst hC
  refine compL_ok O rd S4 t hA N.own R.stay hEw hDw hDf hDb te tc L0 hDσ st0 V4 hD hg hlen fun s' σ' us m ρ' P' hD' hDσ' rs V' => ?_
  have P1 : Pst prog w base κ σ [] s H₂ s' σ' := P'.narrow fun a ha => by
    rcases List.mem_cons.mp ha with rfl | ha
    · exact .inr hDn
    · exact .inr (hXn a ha)
  have hsub : ∀ (n : Nat) (b : Addr), σ'[n]? = some b → (σ' ++ [D])[n]? = some b := fun n b e => by rw [List.getElem?_append_left (List.getElem?_eq_some_iff.mp e).1]; exact e
  have hle : us.length ≤ sizeLine := by rw [← rs.length, sizeLine_val]; unfold maxLen at hlen; omega
  have P2 := P1.label B.sys R hDn hDσ' (c := .lst vs) ⟨us, m, hD', hle, rs.mono (fun _ _ t => t) hsub⟩
  obtain ⟨m', hns, _⟩ := V'.ns
  refine h D _ s' _ P2 (vr_last P1.rel.len) ⟨fun hm => ?_, V'.lout.2, hXn _ List.mem_cons_self, m', hns⟩
  rcases List.mem_append.mp hm with hm | hm
  · exact V'.lout.1 hm
  · rw [List.mem_singleton] at hm; exact hDC hm.symm

theorem comp_dict (B : Base base) (O : OK prog w base r n) {x : Nat} {fr : List Nat} {p : Pos} {it : It} {IX KX VX : Expr} {ke ve : Ex} {its : List (List V)} {H₁ H₂ : Hp} {pos pos' : Pos} {es : List (List Int × V)} {use : Option (Value → Sem Unit)} {Q : Value → Shared → Prop}
    (S : EnvS env sc) (ti : TrI sc it IX) (tk : TrE sc' ke KX) (tv : TrE sc' ve VX) (N : Inn sc sc' [x] fr) (hA : Cx A n) (R : Rel prog w base s.heap σ H) (V0 : EnvR base s.heap σ env ρ) (hi : iter r κ [x] it ρ H = some (its, κ₁, H₁))
    (hg : dcompGo r κ₁ ke ve x (En.only fr ρ) its [] H₁ = some (es, H₂)) (hlen : es.length ≤ maxLen)
    (h : ∀ D C s' σ', Pst prog w base κ σ [] s (H₂ ++ [.dic es]) s' σ' → VR s'.heap σ' (.ref H₂.length) (.ref D) → CFree base s C s' σ' → compPost (model prog w) A E use Q (.ref D) C (.ok .next) s') :
    wpAny (model prog w) A (comprehension (.DictComp KX VX [⟨.Name (nm x) p, IX, [], 0⟩] sc' pos') sc' env pos newDict false (eval IX env) use) Q E s := by
  refine comp_start (o := { cls := .type "dict", data := .dict #[] }) (ifs := []) (gs := []) B O S .one ti N hA R V0 hi rfl rfl (fun s Q hQ => wpAny_newObj_type hQ) (fun I D cenv s₄ RR h0 h1 => codeAny_compStart_dict h0 h1) ?_
  intro I fp wr P St s₂ σ₂ D C cenv s₄ rd S4 hC hEw hDw hDf hDb hDn hXn hDC L0 hDσ st0 V4 hD
  subst hC
  have hD0 : s₄.heap.DictOfH (TK prog w) D [] := ⟨_, _, _, hD, ⟨rfl, rfl, rfl⟩, rfl, rfl, fun x hx => absurd hx (by simp), by simp⟩
  refine compD_ok O rd S4 .one hA N.own R.stay hEw hDw hDf hDb tk tv L0 hDσ st0 V4 hD0 hg fun s' σ' ys ρ' P' hD' hyl hDσ' rs V' => ?_
  have P1 : Pst prog w base κ σ [] s H₂ s' σ' := P'.narrow fun a ha => by
    rcases List.mem_cons.mp ha with rfl | ha
    · exact .inr hDn
    · exact .inr (hXn a ha)
  have hsub : ∀ (n : Nat) (b : Addr), σ'[n]? = some b → (σ' ++ [D])[n]? = some b := fun n b e => by rw [List.getElem?_append_left (List.getElem?_eq_some_iff.mp e).1]; exact e
  have hle : ys.length ≤ sizeLine := by rw [sizeLine_val]; unfold maxLen at hyl; omega
  have P2 := P1.label B.sys R hDn hDσ' (c := .dic es) ⟨ys, hD', hle, rs.mono (fun _ _ t => t) hsub⟩
  obtain ⟨m', hns, _⟩ := V'.ns
  refine h D _ s' _ P2 (vr_last P1.rel.len) ⟨fun hm => ?_, V'.lout.2, hXn _ List.mem_cons_self, m', hns⟩
  rcases List.mem_append.mp hm with hm | hm
  · exact V'.lout.1 hm
  · rw [List.mem_singleton] at hm; exact hDC hm.symm

theorem comp_c {e : Ex} {ts fr : List Nat} {it : It} {cnd : Option Ex} {v : V} {M : V → Hp → Prop} (e0 : (step tbl SS r).ev κ (.comp e ts it cnd fr) ρ H = some (v, H')) (k : ∀ its κ₁ H₁ vs H₂, iter r κ ts it ρ H = some (its, κ₁, H₁) → compGo r κ₁ e ts cnd (En.only fr ρ) its H₁ = some (vs, H₂) → vs.length ≤ maxLen → M (.ref H₂.length) (H₂ ++ [.lst vs])) : M v H' :=
  b3_c e0 fun its κ₁ H₁ h1 e0 => bd_c e0 fun vs H₂ h2 e0 => bi_c e0 fun hl e0 => some2_c e0 (k its κ₁ H₁ vs H₂ h1 h2 (Nat.le_of_ble_eq_true hl))
theorem dcomp_c {a b src : Ex} {x : Nat} {fr : List Nat} {v : V} {M : V → Hp → Prop} (e0 : (step tbl SS r).ev κ (.dcomp a b x src fr) ρ H = some (v, H')) (k : ∀ its κ₁ H₁ es H₂, iter r κ [x] (.ovr src) ρ H = some (its, κ₁, H₁) → dcompGo r κ₁ a b x (En.only fr ρ) its [] H₁ = some (es, H₂) → es.length ≤ maxLen → M (.ref H₂.length) (H₂ ++ [.dic es])) : M v H' :=
  b3_c e0 fun its κ₁ H₁ h1 e0 => bd_c e0 fun vs H₂ h2 e0 => bi_c e0 fun hl e0 => some2_c e0 (k its κ₁ H₁ vs H₂ h1 h2 (Nat.le_of_ble_eq_true hl))
/-- how a comprehension's list may be used -/
def CuG (prog : Program) (w : World) (base : Heap) (κ : List Nat) (σ : List Addr) (s : Shared) (A : Around) (E : Value → Shared → Prop) (use : Option (Value → Sem Unit)) (Q : Value → Shared → Prop) (v : V) (H' : Hp) : Prop := ∀ D C s' σ', Pst prog w base κ σ [] s H' s' σ' → VR s'.heap σ' v (.ref D) → CFree base s C s' σ' → compPost (model prog w) A E use Q (.ref D) C (.ok .next) s'
theorem cu_step (B : Base base) (O : OK prog w base r n) : CuOK prog w base (step tbl SS r) (n + 1) := by
  intro κ e X env sc ρ H σ s A v H' u Q EE S T hA R V0 e0 h
  have h : CuG prog w base κ σ s A EE (some u) (fun _ s' => Q () s') v H' := h
  cases e with
  | comp e ts it c fr =>
    apply tr_comp T; intro X' T' IX ifs sc' pos te tc t ti N
    revert h; apply comp_c e0; intro its κ₁ H₁ vs H₂ hi hg hl h
    exact wpAny_bind (wpAny_mono (comp_list (use := some u) (Q := fun _ s' => Q () s') B O S t ti te tc (inner_ok N) hA.pred R V0 hi hg hl h) (fun _ s' hq => wpAny_pure hq) fun _ _ e => e)
  | dcomp k v' x' src fr =>
    apply tr_dcomp T; intro KX VX IX sc' p q tk tv ti N
    revert h; apply dcomp_c e0; intro its κ₁ H₁ es H₂ hi hg hl h
    exact wpAny_bind (wpAny_mono (comp_dict (use := some u) (Q := fun _ s' => Q () s') B O S ti tk tv (inner_ok N) hA.pred R V0 hi hg hl h) (fun _ s' hq => wpAny_pure hq) fun _ _ e => e)
  | int i => apply tr_int T; intros; trivial
  | boo i => apply tr_boo T; intros; trivial
  | non => apply tr_non T; intros; trivial
  | str => apply tr_str T; intros; trivial
  | var i => apply tr_var T; intros; trivial
  | glo i => apply tr_glo T; intros; trivial
  | bin o a b => apply tr_bin T; intros; trivial
  | neg a => apply tr_neg T; intros; trivial
  | lnot a => apply tr_lnot T; intros; trivial
  | cmp o a b => apply tr_cmp T; intros; trivial
  | isNon a => apply tr_isNon T; intros; trivial
  | and a b => apply tr_and T; intros; trivial
  | or a b => apply tr_or T; intros; trivial
  | ite c a b => apply tr_ite T; intros; trivial
  | sub a b => apply tr_sub T; intros; trivial
  | slTo a b => apply tr_slTo T; intros; trivial
  | slFrom a b => apply tr_slFrom T; intros; trivial
  | tup es => apply tr_tup T; intros; trivial
  | lst es => apply tr_lst T; intros; trivial
  | dict0 => apply tr_dict0 T; intros; trivial
  | dict1 a b => apply tr_dict1 T; intros; trivial
  | call f es => apply tr_call T; intros; trivial
  | bi f es => apply tr_bi T; intros; trivial

theorem ev_step (B : Base base) (O : OK prog w base r n) : EvOK prog w base (step tbl SS r) (n + 1) := by
  intro κ e X env sc ρ H σ s A v H' Q EE S T hA R V0 e0 h
  have h : EvG prog w base κ σ s Q v H' := h
  refine ev_plain B O κ e X env sc ρ H σ s A v H' Q EE S T hA R V0 e0 h ?_ ?_
  · intro e' ts it c fr he
    subst he
    apply tr_comp T; intro X' T' IX ifs sc' pos te tc t ti N
    revert h; apply comp_c e0; intro its κ₁ H₁ vs H₂ hi hg hl h
    rw [eval_ListComp]
    refine comp_list (use := none) B O S t ti te tc (inner_ok N) hA.pred R V0 hi hg hl fun D C s' σ' P rv c => ?_
    obtain ⟨m, hn⟩ := id c.ns
    exact ⟨m, hn, fun h' hs => h _ _ _ (c.gone P hs) (c.vr hs rv)⟩
  · intro k v x src fr he
    subst he
    apply tr_dcomp T; intro KX VX IX sc' p q tk tv ti N
    revert h; apply dcomp_c e0; intro its κ₁ H₁ es H₂ hi hg hl h
    rw [arm_eval_DictComp]
    refine comp_dict (use := none) B O S ti tk tv (inner_ok N) hA.pred R V0 hi hg hl fun D C s' σ' P rv c => ?_
    obtain ⟨m, hn⟩ := id c.ns
    exact ⟨m, hn, fun h' hs => h _ _ _ (c.gone P hs) (c.vr hs rv)⟩
end
end Mine
end

section
/-! Statements: assignments. -/
set_option maxRecDepth 100000
set_option linter.all false
namespace Mine
open PySem PySem.Calls PyProof.Rows

theorem VRs.reverse {h : Heap} {σ : List Addr} {x : List V} {v : List Value} (r : VRs h σ x v) : VRs h σ x.reverse v.reverse := by
  induction x generalizing v with
  | nil => cases r; exact .nil
  | cons a x ih =>
    cases r with
    | cons r1 b =>
      rw [List.reverse_cons, List.reverse_cons]
      exact (ih b).append (.cons r1 .nil)

section
variable {prog : Program} {w : World} {base : Heap} {σ σ' X : List Addr} {H H' : Hp} {κ κ₁ : List Nat} {s s' : Shared} {A : Around} {E : Value → Shared → Prop} {env : Env} {sc sc' : Scope} {ρ : En} {r : Rn} {n : Nat}

theorem own_ok {x : Nat} (h : own sc x = true) : sc.names.lookup (nm x) = some .local ∨ sc.names.lookup (nm x) = some .cell := by
  unfold own at h
  simp only [Bool.and_eq_true, Bool.or_eq_true, beq_iff_eq] at h
  exact h.1

theorem TrNs.nms {xs : List Nat} {ES : List Expr} (t : TrNs sc xs ES) : Nms xs ES := by
  induction t with
  | nil => exact .nil
  | cons _ _ _ ih => exact .cons ih
theorem TrNs.own {xs : List Nat} {ES : List Expr} (t : TrNs sc xs ES) : ∀ x ∈ xs, sc.names.lookup (nm x) = some .local ∨ sc.names.lookup (nm x) = some .cell := by
  induction t with
  | nil => intro x hx; cases hx
  | cons h _ _ ih =>
    intro x hx
    rcases List.mem_cons.mp hx with rfl | hx
    · exact own_ok h
    · exact ih x hx
theorem TrNs.nodup {xs : List Nat} {ES : List Expr} (t : TrNs sc xs ES) : xs.Nodup := by
  induction t with
  | nil => exact List.nodup_nil
  | cons _ h _ ih => exact List.nodup_cons.mpr ⟨h, ih⟩
theorem TrNs.len {xs : List Nat} {ES : List Expr} (t : TrNs sc xs ES) : ES.length = xs.length := by
  induction t with
  | nil => rfl
  | cons _ _ _ ih => simp [ih]

theorem TrNs.names {xs : List Nat} {ES : List Expr} (t : TrNs sc xs ES) (line : Nat) : (ES.filterMap fun
    | .Name id pos => if env.kindOf id == some .local && pos.line == line then some id else none
    | _ => none).length ≤ ES.length ∧ ((ES.filterMap fun
    | .Name id pos => if env.kindOf id == some .local && pos.line == line then some id else none
    | _ => none).length = ES.length → (ES.filterMap fun
    | .Name id pos => if env.kindOf id == some .local && pos.line == line then some id else none
    | _ => none) = xs.map nm) := by
  induction t with
  | nil => exact ⟨Nat.le_refl _, fun _ => rfl⟩
  | @cons x p xs ES h1 h2 t ih =>
    by_cases hc : (env.kindOf (nm x) == some .local && p.line == line) = true
    · rw [List.filterMap_cons]
      simp only [hc, if_true, List.length_cons]
      refine ⟨Nat.succ_le_succ ih.1, fun e => ?_⟩
      rw [ih.2 (Nat.succ.inj e)]; rfl
    · rw [List.filterMap_cons]
      simp only [hc, Bool.false_eq_true, if_false, List.length_cons]
      exact ⟨Nat.le_succ_of_le ih.1, fun e => absurd ih.1 (by omega)⟩

theorem sw_tup {xs : List Nat} {ES VS : List Expr} {k k' : Nat} {q p' : Pos} (t : TrNs sc xs ES) (ha : asgOk (.Tuple VS k' p') = true) :
    swappedStores [.Tuple ES k q] (.Tuple VS k' p') env = pure none ∨ ((xs.length = 2 ∨ xs.length = 3) ∧ swappedStores [.Tuple ES k q] (.Tuple VS k' p') env = pure (some (xs.map nm))) := by
  unfold swappedStores
  dsimp only
  split
  · exact .inl rfl
  rename_i h1
  split
  · exact .inl rfl
  have hn := t.names (env := env) ((ES.head?.map (·.pos.line)).getD 0)
  split
  · exact .inl rfl
  · rename_i h3
    split
    · exact .inl rfl
    · split
      · rename_i h5
        have ha : (!(VS.all (constantsAlone 8))) = true := ha
        rw [h5] at ha; cases ha
      · refine .inr ⟨?_, ?_⟩
        · rw [← t.len]
          cases hq : (ES.length == 2 || ES.length == 3) with
          | true => simpa using hq
          | false => exact absurd (by rw [hq]; simp) h1
        · simp only [Bool.or_eq_true, bne_iff_ne, ne_eq, not_or, Decidable.not_not] at h3
          have := hn.2 h3.1
          exact congrArg (fun z => (pure (some z) : Sem (Option (List PySem.Str)))) this
theorem swapped_ok {xs : List Nat} {ES : List Expr} {e : Ex} {EX : Expr} {k : Nat} {q : Pos} (t : TrNs sc xs ES) (te : TrE sc e EX) (ha : asgOk EX = true) :
    swappedStores [.Tuple ES k q] EX env = pure none ∨ ((xs.length = 2 ∨ xs.length = 3) ∧ swappedStores [.Tuple ES k q] EX env = pure (some (xs.map nm))) := by
  cases hv : vTup EX with
  | none => exact .inl (by cases EX <;> first | rfl | cases hv)
  | some VS =>
    clear te
    revert ha hv
    cases EX <;> first | exact fun _ h => (nS h).elim | skip
    rename_i VS' k' p'
    intro ha hv
    obtain rfl := Option.some.inj hv
    exact sw_tup t ha
theorem noSwapT {e : Ex} {EX : Expr} (te : TrE sc e EX) {T : Expr} (hT : ∀ x p, T ≠ .Name x p) (line : Nat) : swapsWith EX (some T) line env = pure false := by
  cases EX <;> first | rfl | (cases T <;> first | rfl | exact absurd rfl (hT _ _)) | exact te.not fun e => by cases e <;> first | rfl | (rename_i c _; cases c <;> rfl)
end
end Mine
end

section
/-! Statements. -/
set_option maxRecDepth 100000
set_option linter.all false
namespace Mine
open PySem PySem.Calls PyProof.Rows

section
variable {prog : Program} {w : World} {base : Heap} {σ σ' X : List Addr} {H H' : Hp} {κ κ₁ : List Nat} {s s' : Shared} {A : Around} {E : Value → Shared → Prop} {env : Env} {sc sc' : Scope} {ρ ρ₁ : En} {r : Rn} {n : Nat}

theorem swap_kind {e : Ex} {EX : Expr} (te : TrE sc e EX) (x : PySem.Str) (q : Pos) (line : Nat) (env : Env) : swapsWith EX (some (.Name x q)) line env = pure false ∨ ((∃ b, swapsWith EX (some (.Name x q)) line env = pure b) ∧ ∀ W : Prop, (match (generalizing := false) EX with
    | .ListComp .. => W
    | .DictComp .. => W
    | _ => True) → W) := by
  cases EX <;> first | exact .inl rfl | exact .inr ⟨⟨_, rfl⟩, fun _ h => h⟩ | exact te.not fun e => by cases e <;> first | rfl | (rename_i c _; cases c <;> rfl)
/-- a statement that ends and goes on -/
def Goes (prog : Program) (w : World) (base : Heap) (κ : List Nat) (σ : List Addr) (sc : Scope) (env : Env) (s : Shared) (ρ₁ : En) (H₁ : Hp) (Q : Flow → Shared → Prop) : Prop :=
  ∀ s' σ', Pst prog w base κ σ (frameX sc env) s H₁ s' σ' → EnvR base s'.heap σ' env ρ₁ → Q .next s'

theorem asg_ok (O : OK prog w base r n) {x : Nat} {e : Ex} {EX : Expr} {p q : Pos} {v : V} {H₁ : Hp} {Q : Flow → Shared → Prop} (S : EnvS env sc) (ho : own sc x = true) (te : TrE sc e EX) (hA : Cx A n) (R : Rel prog w base s.heap σ H) (V0 : EnvR base s.heap σ env ρ)
    (he : r.ev κ e ρ H = some (v, H₁)) (h : Goes prog w base κ σ sc env s (ρ.set x v) H₁ Q) : wpAny (model prog w) A (exec (.Assign [.Name (nm x) q] EX p) env) Q E s := by
  have fin : swapsWith EX (some (.Name (nm x) q)) p.line env = pure false → wpAny (model prog w) A (exec (.Assign [.Name (nm x) q] EX p) env) Q E s := fun hs =>
    wpAny_Assign_Name (O.ev κ e EX env sc ρ H σ s A v H₁ _ E S te hA R V0 he fun s₁ σ₁ u P ru =>
      store_ok (κ := κ) S P.rel (V0.keep0 P) (own_ok ho) ru fun s₂ P₂ V₂ => h s₂ σ₁ (P.wide.trans P₂) V₂) hs
  have used : ∀ {D C : Addr} {s' : Shared} {σ' : List Addr}, Pst prog w base κ σ [] s H₁ s' σ' → VR s'.heap σ' v (.ref D) → CFree base s C s' σ' →
      compPost (model prog w) A E (some (assign (.Name (nm x) q) env)) (fun _ s' => Q .next s') (.ref D) C (.ok .next) s' := by
    intro D C s' σ' P rv c
    have V1 := V0.keep0 P
    show wpAny _ A (assign (.Name (nm x) q) env (.ref D)) _ _ _
    refine wpAny_assign_Name (store_ok (κ := κ) S P.rel V1 (own_ok ho) rv fun s₂ P₂ V₂ => ?_)
    obtain ⟨m, hn⟩ := id c.ns
    obtain ⟨oC, es, ep, hoC, hdC⟩ := Ns.get hn
    have hCX : C ∉ frameX sc env := fun hm => by
      have hex := (frameX_nt V0 C hm).2
      obtain ⟨o, q, _⟩ := hex
      rw [c.new] at q; cases q
    have hC2 : ∀ o, s'.heap.get? C = some o → s₂.heap.get? C = some o := fun o e => P₂.keep.out e hCX c.out
    refine ⟨m, hn.at' hC2, fun h' hs => ?_⟩
    have P3 : Pst prog w base κ σ (frameX sc env) s H₁ s₂ σ' := P.wide.trans P₂
    have hnt : ∀ items, ¬ s₂.heap.IsTuple C items := fun items t => by
      obtain ⟨o', ho', _, n, hd'⟩ := t
      rw [hC2 _ hoC] at ho'; cases ho'; rw [hdC] at hd'; cases hd'
    have hk : ∀ b o, b ∉ [C] → s₂.heap.get? b = some o → h'.get? b = some o := fun b o hb e => (hs.2 b fun q => hb (by simp [q])).trans e
    refine h _ σ' (P3.done (wr := [C]) (s₁ := { s₂ with heap := h' }) (fun a ha => ?_) (fun a ha => ?_) (fun a ha => ?_) hk ⟨_, _, rfl⟩ fun a ha => ?_) (V₂.kept hk ?_ fun a ha => ?_)
    · rw [List.mem_singleton] at ha; subst ha; exact c.new
    · rw [List.mem_singleton] at ha; subst ha; exact c.out
    · rw [List.mem_singleton] at ha; subst ha; exact c.bas
    · rw [List.mem_singleton] at ha; subst ha; exact hnt
    · have hex : ∀ b, (∃ o, s.heap.get? b = some o) → b ∉ [C] := fun b ⟨o, e⟩ hm => by rw [List.mem_singleton] at hm; subst hm; rw [c.new] at e; cases e
      obtain ⟨m0, hn0, _⟩ := V0.ns
      obtain ⟨o0, _, _, ho0, _⟩ := Ns.get hn0
      refine ⟨hex _ ⟨o0, ho0⟩, fun n c' hm => hex _ ?_⟩
      obtain ⟨⟨v', o', ho', _⟩, _⟩ := V0.cells n c' hm
      exact ⟨o', ho'⟩
    · rw [List.mem_singleton] at ha; subst ha; exact hnt
  have swap : ∀ (b : Bool), swapsWith EX (some (.Name (nm x) q)) p.line env = pure b → wpAny (model prog w) A (evalThenUse EX env (assign (.Name (nm x) q) env)) (fun _ s' => Q .next s') E s → wpAny (model prog w) A (exec (.Assign [.Name (nm x) q] EX p) env) Q E s := fun b hb hu => by
    cases b with
    | false => exact fin hb
    | true =>
      rw [exec_Assign_Name_used _ _ _ _ hb]
      exact wpAny_bind (wpAny_standAt (wpAny_bind (wpAny_mono hu (fun _ s' hq => wpAny_pure hq) fun _ _ e => e)))
  have cu := O.cu κ e EX env sc ρ H σ s A v H₁ (assign (.Name (nm x) q) env) (fun _ s' => Q .next s') E S te hA R V0 he fun D C s' σ' P rv c => used P rv c
  rcases swap_kind te (nm x) q p.line env with hs | ⟨⟨b, hs⟩, hW⟩
  · exact fin hs
  · exact swap b hs (hW _ cu)
end
end Mine
end

section
/-! Statements, one by one. -/
set_option maxRecDepth 100000
set_option linter.all false
namespace Mine
open PySem PySem.Calls PyProof.Rows

section
variable {prog : Program} {w : World} {base : Heap} {σ σ' X : List Addr} {H H' : Hp} {κ κ₁ : List Nat} {s s' : Shared} {A : Around} {E : Value → Shared → Prop} {env : Env} {sc sc' : Scope} {ρ ρ₁ : En} {r : Rn} {n : Nat}

theorem EnvR.keepF (V0 : EnvR base s.heap σ env ρ) (P : Pst prog w base κ σ [] s H' s' σ') : EnvR base s'.heap σ' env ρ := V0.keep0 P

theorem sets2 (ρ : En) {a b : Nat} (h : a ≠ b) (u v : V) (x : Nat) : ((ρ.set a u).set b v).get x = ((ρ.set b v).set a u).get x := by
  rw [En.get_set, En.get_set, En.get_set, En.get_set]
  by_cases h1 : x = a <;> by_cases h2 : x = b <;> simp [h1, h2]
  · exact absurd (h1.symm.trans h2) h
  · intro e; exact absurd e h
  · intro e; exact absurd e.symm h
theorem sets_rev {xs : List Nat} {us : List V} (hn : xs.Nodup) (hl : us.length = xs.length) (h23 : xs.length = 2 ∨ xs.length = 3) (ρ : En) (x : Nat) : (ρ.sets xs us).get x = (ρ.sets xs.reverse us.reverse).get x := by
  rcases h23 with h | h
  · match xs, us, h, hl with
    | [a, b], [u, v], _, _ =>
      have hab : a ≠ b := by simp at hn; exact hn
      exact sets2 ρ hab u v x
  · match xs, us, h, hl with
    | [a, b, c], [u, v, z], _, _ =>
      simp at hn
      show ((((ρ.set a u).set b v).set c z)).get x = (((ρ.set c z).set b v).set a u).get x
      rw [En.get_set, En.get_set, En.get_set, En.get_set, En.get_set, En.get_set]
      by_cases h1 : x = a
      · subst h1; simp [hn.1.1, hn.1.2]
      · by_cases h2 : x = b
        · subst h2; simp [h1, hn.2]
        · by_cases h3 : x = c
          · subst h3; simp [h1, h2]
          · simp [h1, h2, h3]

theorem asgT_ok (O : OK prog w base r n) {xs : List Nat} {ES : List Expr} {e : Ex} {EX : Expr} {k : Nat} {p q : Pos} {v : V} {vs : List V} {H₁ : Hp} {Q : Flow → Shared → Prop} (S : EnvS env sc) (ha : asgOk EX = true) (tn : TrNs sc xs ES) (te : TrE sc e EX) (hA : Cx A n) (R : Rel prog w base s.heap σ H) (V0 : EnvR base s.heap σ env ρ)
    (he : r.ev κ e ρ H = some (v, H₁)) (hv : v = .tup vs ∨ ∃ m, v = .ref m ∧ Hp.get H₁ m = some (.lst vs)) (hl : vs.length = xs.length) (h : Goes prog w base κ σ sc env s (ρ.sets xs vs) H₁ Q) : wpAny (model prog w) A (exec (.Assign [.Tuple ES k q] EX p) env) Q E s := by
  have hs : swapsWithSole [.Tuple ES k q] EX p.line env = pure false := noSwapT (env := env) (T := .Tuple ES k q) te (fun x p h => by cases h) p.line
  rcases swapped_ok (env := env) (k := k) (q := q) tn te ha with hw | ⟨h23, hw⟩
  · refine Assign_Tuple (O.ev κ e EX env sc ρ H σ s A v H₁ _ E S te hA R V0 he fun s₁ σ₁ u P ru => ?_) hs hw
    have ap1 : Apart s₁ σ₁ H₁ v vs := by
      rcases hv with rfl | ⟨m, rfl, hm⟩
      · exact .tup
      · exact .lst hm
    exact unpackT_ok (κ := κ) hA.1 S tn.nms P.rel (V0.keep0 P) tn.own ru ap1 hl fun s₂ P₂ V₂ => h s₂ σ₁ (P.wide.trans P₂) V₂
  · refine Assign_Tuple_swapped (O.ev κ e EX env sc ρ H σ s A v H₁ _ E S te hA R V0 he fun s₁ σ₁ u P ru => ?_) hs hw
    have ap1 : Apart s₁ σ₁ H₁ v vs := by
      rcases hv with rfl | ⟨m, rfl, hm⟩
      · exact .tup
      · exact .lst hm
    rw [List.length_map, ← hl]
    refine unpack_ok (κ := κ) hA.1 P.rel ru ap1 fun s₂ us P₂ rs => ?_
    have e1 : ((xs.map nm).reverse.map fun n => bindName env n) = xs.reverse.map fun x => bindName env (nm x) := by rw [← List.map_reverse, List.map_map]; rfl
    rw [e1]
    have P12 := P.trans P₂
    refine binds_ok (κ := κ) S xs.reverse vs.reverse us.reverse ρ s₂ _ (fun x => bindName env (nm x)) (fun x v s Q hq => bindName_ hq) (by simp [hl]) rs.reverse (fun x hx => tn.own x (List.mem_reverse.mp hx)) P12.rel ((V0.keep0 P12)) fun s₃ P₃ V₃ => ?_
    exact h s₃ _ (P12.wide.trans P₃) (V₃.congr fun x => sets_rev tn.nodup hl h23 ρ x)

theorem setI_ok (O : OK prog w base r n) {a i e : Ex} {AX IX EX : Expr} {p q : Pos} {x y v : V} {H₁ H₂ H₃ H₄ : Hp} {Q : Flow → Shared → Prop} (S : EnvS env sc) (te : TrE sc e EX) (ta : TrE sc a AX) (ti : TrE sc i IX) (hA : Cx A n) (R : Rel prog w base s.heap σ H) (V0 : EnvR base s.heap σ env ρ)
    (he : r.ev κ e ρ H = some (v, H₁)) (h1 : r.ev κ a ρ H₁ = some (x, H₂)) (h2 : r.ev κ i ρ H₂ = some (y, H₃)) (h3 : setop κ x y v H₃ = some H₄) (h : Goes prog w base κ σ sc env s ρ H₄ Q) : wpAny (model prog w) A (exec (.Assign [.Subscript AX IX q] EX p) env) Q E s := by
  have hroom := hA.room
  refine wpAny_Assign_Subscript (O.ev κ e EX env sc ρ H σ s A v H₁ _ E S te hA R V0 he fun s₁ σ₁ u P ru => ?_) (noSwapT (env := env) (T := .Subscript AX IX q) te (fun x p h => by cases h) p.line)
  refine O.ev κ a AX env sc ρ H₁ σ₁ s₁ A x H₂ _ E S ta hA P.rel (V0.keep0 P) h1 fun s₂ σ₂ u₂ P₂ r₂ => ?_
  refine O.ev κ i IX env sc ρ H₂ σ₂ s₂ A y H₃ _ E S ti hA P₂.rel ((V0.keep0 P).keep0 P₂) h2 fun s₃ σ₃ u₃ P₃ r₃ => ?_
  refine setop_ok (κ := κ) (X := []) (by omega) P₃.rel (P₃.vr r₂) r₃ (P₃.vr (P₂.vr ru)) h3 fun s₄ P₄ => ?_
  exact h s₄ σ₃ (((P.trans P₂).trans P₃).trans P₄).wide ((((V0.keep0 P).keep0 P₂).keep0 P₃).keep0 P₄)

theorem sub_assign {a i : Ex} {AX IX : Expr} {q : Pos} {x y v : V} {u : Value} {H₁ H₂ H₃ : Hp} {Q : Unit → Shared → Prop} (O : OK prog w base r n) (S : EnvS env sc) (ta : TrE sc a AX) (ti : TrE sc i IX) (hA : Cx A n) (R : Rel prog w base s.heap σ H) (V0 : EnvR base s.heap σ env ρ) (rv : VR s.heap σ v u)
    (h1 : r.ev κ a ρ H = some (x, H₁)) (h2 : r.ev κ i ρ H₁ = some (y, H₂)) (h3 : setop κ x y v H₂ = some H₃) (h : ∀ s' σ', Pst prog w base κ σ [] s H₃ s' σ' → EnvR base s'.heap σ' env ρ → Q () s') : wpAny (model prog w) A (assign (.Subscript AX IX q) env u) Q E s := by
  have hroom := hA.room
  rw [assign_Subscript]
  refine wpAny_bind (wpAny_holding (O.ev κ a AX env sc ρ H σ s A x H₁ _ E S ta hA R V0 h1 fun s₂ σ₂ u₂ P₂ r₂ => ?_))
  refine wpAny_bind (wpAny_holding (O.ev κ i IX env sc ρ H₁ σ₂ s₂ A y H₂ _ E S ti hA P₂.rel (V0.keep0 P₂) h2 fun s₃ σ₃ u₃ P₃ r₃ => ?_))
  refine wpAny_bind (wpAny_standAt (wpAny_bind (wpAny_holding (setop_ok (κ := κ) (X := []) (by omega) P₃.rel (P₃.vr r₂) r₃ (P₃.vr (P₂.vr rv)) h3 fun s₄ P₄ => ?_))))
  exact wpAny_release (h s₄ σ₃ ((P₂.trans P₃).trans P₄) (((V0.keep0 P₂).keep0 P₃).keep0 P₄))

theorem set2_ok (O : OK prog w base r n) {a i b j e : Ex} {AX IX BX JX EX : Expr} {k : Nat} {p q rr t : Pos} {x y x' y' v u : V} {H₁ H₂ H₃ H₄ H₅ H₆ H₇ : Hp} {Q : Flow → Shared → Prop} (S : EnvS env sc) (te : TrE sc e EX) (ta : TrE sc a AX) (ti : TrE sc i IX) (tb : TrE sc b BX) (tj : TrE sc j JX) (hA : Cx A n) (R : Rel prog w base s.heap σ H) (V0 : EnvR base s.heap σ env ρ)
    (he : r.ev κ e ρ H = some (.tup [v, u], H₁)) (h1 : r.ev κ a ρ H₁ = some (x, H₂)) (h2 : r.ev κ i ρ H₂ = some (y, H₃)) (h3 : setop κ x y v H₃ = some H₄) (h4 : r.ev κ b ρ H₄ = some (x', H₅)) (h5 : r.ev κ j ρ H₅ = some (y', H₆)) (h6 : setop κ x' y' u H₆ = some H₇)
    (h : Goes prog w base κ σ sc env s ρ H₇ Q) : wpAny (model prog w) A (exec (.Assign [.Tuple [.Subscript AX IX q, .Subscript BX JX rr] k t] EX p) env) Q E s := by
  have hs : swapsWithSole [.Tuple [.Subscript AX IX q, .Subscript BX JX rr] k t] EX p.line env = pure false := noSwapT (env := env) (T := .Tuple [.Subscript AX IX q, .Subscript BX JX rr] k t) te (fun x p h => by cases h) p.line
  have hw : swappedStores [.Tuple [.Subscript AX IX q, .Subscript BX JX rr] k t] EX env = pure none := by
    cases EX <;> first | rfl | skip
    unfold swappedStores
    dsimp only
    split
    · rfl
    · split
      · rfl
      · rfl
  refine Assign_Tuple (O.ev κ e EX env sc ρ H σ s A _ H₁ _ E S te hA R V0 he fun s₁ σ₁ uu P ru => ?_) hs hw
  rw [PyProof.Rows.assign_Tuple]
  refine wpAny_bind (wpAny_standAt ?_)
  unfold unpack
  have e1 : (assignEach [.Subscript AX IX q, .Subscript BX JX rr] env).length = [v, u].length := rfl
  have e2 : (assignEach [.Subscript AX IX q, .Subscript BX JX rr] env).findIdx? (·.1) = none := rfl
  rw [e1, e2]
  refine wpAny_bind (wpAny_holding (unpack_ok (κ := κ) hA.1 P.rel ru .tup fun s₂ us P₂ rs => ?_))
  obtain ⟨u1, u2, rfl, r1, r2⟩ := rs.two
  show wpAny _ _ (assignInOrder [assign (.Subscript AX IX q) env, assign (.Subscript BX JX rr) env] [u1, u2]) _ _ _
  have P12 := P.trans P₂
  refine assignInOrder_cons (sub_assign O S ta ti hA P12.rel (V0.keep0 P12) r1 h1 h2 h3 fun s₃ σ₃ P₃ V₃ => ?_)
  refine assignInOrder_cons (sub_assign O S tb tj hA P₃.rel V₃ (P₃.vr r2) h4 h5 h6 fun s₄ σ₄ P₄ V₄ => ?_)
  exact assignInOrder_nil (h s₄ σ₄ ((P12.trans P₃).trans P₄).wide V₄)

theorem augop_ok {op : Bop} {a b c : Int} {t u : Tok} {Q : Value → Shared → Prop} (e : augop op a b = some c) (h : ∀ tk v, VR s.heap σ (.int c) v → Q v { s with toks := tk }) : wpAny (model prog w) A (inplaceOp (opOf op) (.int a t) (.int b u)) Q E s := by
  cases op <;> simp only [augop, reduceCtorEq, Option.some.injEq] at e
  · subst e; exact AutoIntOps.iadd_0 (h _ _ (.int _ _))
  · subst e; exact AutoIntOps.isub_0 (h _ _ (.int _ _))

theorem loadName_ok {x : Nat} {v : V} {Q : Value → Shared → Prop} (S : EnvS env sc) (R : EnvR base s.heap σ env ρ) (hx : plainNm (nm x) = true) (e : ρ.get x = some v) (h : ∀ u, VR s.heap σ v u → Q u s) :
    wpAny (model prog w) A (loadName env (nm x)) Q E s := by
  obtain ⟨h1, h2⟩ := plainNm_ok hx
  rcases R.var x v e with k | ⟨k, c, u, hcu, hc, r⟩
  · obtain ⟨m, hn, hm⟩ := R.ns
    obtain ⟨u, hu, r⟩ := hm x v e k
    exact wpAny_loadName_local S.fn k hn hu (h u r)
  · rcases k with k | k
    · exact wpAny_loadName_cell S.fn k hcu hc (h u r)
    · exact wpAny_loadName_free S.fn k hcu hc (h u r) h2
theorem own_plain {x : Nat} (h : own sc x = true) : plainNm (nm x) = true := by
  unfold own at h
  simp only [Bool.and_eq_true] at h
  exact h.2

theorem aug_ok (O : OK prog w base r n) {x : Nat} {op : Bop} {e : Ex} {EX : Expr} {p q : Pos} {a b c : Int} {H₁ : Hp} {Q : Flow → Shared → Prop} (S : EnvS env sc) (ho : own sc x = true) (te : TrE sc e EX) (hA : Cx A n) (R : Rel prog w base s.heap σ H) (V0 : EnvR base s.heap σ env ρ)
    (hx : ρ.get x = some (.int a)) (he : r.ev κ e ρ H = some (.int b, H₁)) (hc : augop op a b = some c) (h : Goes prog w base κ σ sc env s (ρ.set x (.int c)) H₁ Q) : wpAny (model prog w) A (exec (.AugAssign (.Name (nm x) q) (opOf op) EX p) env) Q E s := by
  refine wpAny_AugAssign_Name (loadName_ok S V0 (own_plain ho) hx fun u0 r0 => ?_)
  refine O.ev κ e EX env sc ρ H σ s A _ H₁ _ E S te hA R V0 he fun s₁ σ₁ u P ru => ?_
  apply VR.int_c r0; intro t0
  apply VR.int_c ru; intro t1
  refine augop_ok (σ := σ₁) hc fun tk v rv => ?_
  have P1 := P.toks tk
  exact store_ok (κ := κ) S P1.rel (V0.keep0 P1) (own_ok ho) rv fun s₂ P₂ V₂ => h s₂ σ₁ (P1.wide.trans P₂) V₂

theorem augI_ok (O : OK prog w base r n) {a i e : Ex} {op : Bop} {AX IX EX : Expr} {p q : Pos} {x y : V} {c d u : Int} {H₁ H₂ H₃ H₅ : Hp} {Q : Flow → Shared → Prop} (S : EnvS env sc) (ta : TrE sc a AX) (ti : TrE sc i IX) (te : TrE sc e EX) (hA : Cx A n) (R : Rel prog w base s.heap σ H) (V0 : EnvR base s.heap σ env ρ)
    (h1 : r.ev κ a ρ H = some (x, H₁)) (h2 : r.ev κ i ρ H₁ = some (y, H₂)) (h3 : subop x y H₂ = some (.int c)) (he : r.ev κ e ρ H₂ = some (.int d, H₃)) (hc : augop op c d = some u) (h4 : setop κ x y (.int u) H₃ = some H₅) (h : Goes prog w base κ σ sc env s ρ H₅ Q) :
    wpAny (model prog w) A (exec (.AugAssign (.Subscript AX IX q) (opOf op) EX p) env) Q E s := by
  have hroom := hA.room
  have hi : ∀ ov iv new, augStore IX ov iv new = (do holding [new, ov, iv] (setItem ov iv new); release [new, ov, iv] []; pure .next) := by intro ov iv new; cases IX <;> first | rfl | exact ti.not fun e => by cases e <;> first | rfl | (rename_i c _; cases c <;> rfl)
  refine wpAny_AugAssign_SubscriptAny (O.ev κ a AX env sc ρ H σ s A x H₁ _ E S ta hA R V0 h1 fun s₁ σ₁ u₁ P₁ r₁ => ?_) hi
  refine O.ev κ i IX env sc ρ H₁ σ₁ s₁ A y H₂ _ E S ti hA P₁.rel (V0.keep0 P₁) h2 fun s₂ σ₂ u₂ P₂ r₂ => ?_
  obtain ⟨_, _, _, _, hw⟩ := getitem_ok (κ := κ) (X := []) (A := A) (E := E) (Q := fun old s₃ => wpAny (model prog w) A (eval EX env) (fun v s₄ => wpAny (model prog w) A (inplaceOp (opOf op) old v) (fun new s₅ =>
            wpAny (model prog w) A (setItem u₁ u₂ new) (fun _ => Q .next) E s₅) E s₄) E s₃) (by omega) P₂.rel (P₂.vr r₁) r₂ h3 fun s₃ u₃ P₃ r₃ => by
    have V3 := ((V0.keep0 P₁).keep0 P₂).keep0 P₃
    refine O.ev κ e EX env sc ρ H₂ σ₂ s₃ A _ H₃ _ E S te hA P₃.rel V3 he fun s₄ σ₄ u₄ P₄ r₄ => ?_
    apply VR.int_c r₃; intro t0
    apply VR.int_c r₄; intro t1
    refine augop_ok (σ := σ₄) hc fun tk v rv => ?_
    have P4 := P₄.toks tk
    have P34 := P₃.trans P4
    refine setop_ok (κ := κ) (X := []) (by omega) P4.rel (P34.vr (P₂.vr r₁)) (P34.vr r₂) rv h4 fun s₅ P₅ => ?_
    exact h s₅ σ₄ ((((P₁.trans P₂).trans P34).trans P₅).wide) ((V3.keep0 P4).keep0 P₅)
  exact hw
end
end Mine
end

section
/-! Statements in a row; loops; calls. -/
set_option maxRecDepth 100000
set_option linter.all false
namespace Mine
open PySem PySem.Calls PyProof.Rows

section
variable {prog : Program} {w : World} {base : Heap} {σ σ' X : List Addr} {H H' : Hp} {κ κ₁ : List Nat} {s s' : Shared} {A : Around} {E : Value → Shared → Prop} {env : Env} {sc sc' : Scope} {ρ ρ₁ : En} {r : Rn} {n : Nat} {SS : Sum}

theorem noInter (S : EnvS env sc) : interactive env = false := by unfold interactive; rw [S.fn]; rfl

theorem push_toArr {us : List Value} {u : Value} : us.toArray.push u = (us ++ [u]).toArray := by simp

theorem app_ok (O : OK prog w base r n) {a m : Nat} {e : Ex} {EX : Expr} {p q rr t : Pos} {v : V} {vs xs : List V} {H₁ : Hp} {Q : Flow → Shared → Prop} (S : EnvS env sc) (hx : plainNm (nm a) = true) (hline : (rr.endLine == t.line) = true) (te : TrE sc e EX) (hA : Cx A n) (R : Rel prog w base s.heap σ H) (V0 : EnvR base s.heap σ env ρ)
    (ha : ρ.get a = some (.ref m)) (hm : Hp.get H m = some (.lst xs)) (he : r.ev κ e ρ H = some (v, H₁)) (hκ : m ∉ κ) (hm1 : Hp.get H₁ m = some (.lst vs)) (hl : vs.length ≤ maxLen) (h : Goes prog w base κ σ sc env s ρ (Hp.put H₁ m (.lst (vs ++ [v]))) Q) :
    wpAny (model prog w) A (exec (.Expr (.Call (.Attribute (.Name (nm a) q) "append" rr) [EX] [] t) p) env) Q E s := by
  refine wpAny_Expr_any (wpAny_Call_method1_late rfl hline (by rw [te.star]; rfl) (load_ok S V0 hx ha fun u ru => ?_)) (noInter S) rfl
  apply VR.ref_c ru; intro ad ex
  · obtain ⟨ws, k, o1, _, _⟩ := R.cell _ _ _ ex hm
    refine ⟨"list", "list.append", F.plainAttrs_list, F.slot_list_append, F.type_list_append, ⟨_, o1, rfl⟩, fun b hb => by cases hb; exact ⟨_, o1, rfl⟩, ?_⟩
    refine callWith_builtin rfl (evalArgs_plain (spliced_cons (O.ev κ e EX env sc ρ H σ s A v H₁ _ E S te hA R V0 he fun s₁ σ₁ u P ru => spliced_nil ?_)))
    have ex1 := P.sub ex
    obtain ⟨us, k1, o2, l2, r2⟩ := P.rel.cell _ _ _ ex1 hm1
    have hmem := List.mem_of_getElem? ex1
    show wpAny _ _ (call (.builtin "list.append") [.ref ad, u]) _ _ _
    have hz := sizeLine_val
    have hle : us.length ≤ maxLen := by rw [← r2.length]; exact hl
    unfold maxLen at hle
    refine wpAny_list_append_plain (hsz := by rw [List.size_toArray]; omega) ⟨k1, o2⟩ fun h' hpl hs => ?_
    obtain ⟨k2, hk2⟩ := hpl
    rw [push_toArr] at hk2
    have ht : ∀ b items, s₁.heap.IsTuple b items → h'.IsTuple b items := fun b items t => IsTuple.mono t fun o e => (hs.2 b fun q => P.rel.tup_out t (q ▸ hmem)).trans e
    have P2 : Pst prog w base κ σ₁ [] s₁ (Hp.put H₁ m (.lst (vs ++ [v]))) { s₁ with heap := h' } σ₁ := Rel.turn (s' := { s₁ with heap := h' }) P.rel ex1 hκ hs ⟨_, _, rfl⟩
      ⟨us ++ [u], k2, hk2, by rw [List.length_append, List.length_singleton]; omega, (r2.mono ht fun _ _ e => e).append (.cons (ru.mono ht fun _ _ e => e) .nil)⟩
    exact h _ σ₁ (P.trans P2).wide ((V0.keep0 P).keep0 P2)

theorem popN_ok (O : OK prog w base r n) {a m : Nat} {e : Ex} {EX : Expr} {k : Nat} {p q rr t u : Pos} {kv : V} {kk : List Int} {xs es : List (List Int × V)} {H₁ : Hp} {Q : Flow → Shared → Prop} (S : EnvS env sc) (hx : plainNm (nm a) = true) (hline : (rr.endLine == t.line) = true) (te : TrE sc e EX) (hA : Cx A n) (R : Rel prog w base s.heap σ H) (V0 : EnvR base s.heap σ env ρ)
    (ha : ρ.get a = some (.ref m)) (hm : Hp.get H m = some (.dic xs)) (he : r.ev κ e ρ H = some (kv, H₁)) (hκ : m ∉ κ) (hm1 : Hp.get H₁ m = some (.dic es)) (hk : keyOf kv = some kk) (h : Goes prog w base κ σ sc env s ρ (Hp.put H₁ m (.dic (ddel es kk))) Q) :
    wpAny (model prog w) A (exec (.Expr (.Call (.Attribute (.Name (nm a) q) "pop" rr) [EX, .Constant .none k u] [] t) p) env) Q E s := by
  have hroom := hA.room
  refine wpAny_Expr_any (wpAny_Call_method2_late rfl hline (by rw [te.star]; rfl) (load_ok S V0 hx ha fun uu ru => ?_)) (noInter S) rfl
  apply VR.ref_c ru; intro ad ex
  · obtain ⟨ys, hD, _, _⟩ := R.cell _ _ _ ex hm
    obtain ⟨o, es0, ep, ho, hc, _⟩ := id hD
    refine ⟨"dict", "dict.pop", F.plainAttrs_dict, F.slot_dict_pop, F.type_dict_pop, ⟨_, ho, hc.1⟩, fun b hb => by cases hb; exact ⟨_, ho, hc.2.1⟩, ?_⟩
    refine callWith_builtin rfl (evalArgs_plain (spliced_cons (O.ev κ e EX env sc ρ H σ s A kv H₁ _ E S te hA R V0 he fun s₁ σ₁ uk P rk => spliced_cons (wpAny_Constant_none (spliced_nil ?_)))))
    obtain ⟨ka, rfl, hka⟩ := rk.key (prog := prog) (w := w) hk
    show wpAny _ _ (call (.builtin "dict.pop") [.ref ad, .ref ka, .none]) _ _ _
    exact pop_ok (X := []) (by omega) P.rel (P.sub ex) hκ hm1 hka fun s₂ v P2 => h _ σ₁ (P.trans P2).wide ((V0.keep0 P).keep0 P2)

/-- what a row of statements gives -/
def XsG (prog : Program) (w : World) (base : Heap) (κ : List Nat) (σ X : List Addr) (env : Env) (s : Shared) (Q : Flow → Shared → Prop) (fl : Fl) (ρ' : En) (H' : Hp) : Prop := ∀ s' σ' f, Pst prog w base κ σ X s H' s' σ' → EnvR base s'.heap σ' env ρ' → FlR s'.heap σ' fl f → Q f s'
theorem XsG.of {Q : Flow → Shared → Prop} {fl fl' : Fl} {ρ' : En} {H' H₁ : Hp} (h : XsG prog w base κ σ X env s Q fl ρ' H') (e : some (fl', ρ₁, H₁) = some (fl, ρ', H')) : XsG prog w base κ σ X env s Q fl' ρ₁ H₁ := by
  obtain ⟨rfl, rfl, rfl⟩ := i3 e; exact h
theorem notB {b : Bool} (h : (!b) = true) : ¬ b = true := by cases b <;> simp_all
theorem pairOf_eq {v : V} {p : V × V} (h : pairOf v = some p) : v = .tup [p.1, p.2] := by
  cases v with
  | tup xs =>
    match xs, h with
    | [a, b], h => cases h; rfl
  | _ => exact (nS h).elim
theorem Goes.go {Q : Flow → Shared → Prop} {κ : List Nat} {ρ₂ : En} {H₁ H₂ : Hp} {rest : List Sm} {fl : Fl} {ρ' : En} (goes : ∀ {ρ₁ : En} {H₁ : Hp}, r.xs κ rest ρ₁ H₁ = some (fl, ρ', H') → Goes prog w base κ σ sc env s ρ₁ H₁ Q) (e1 : some (ρ₂, H₂) = some (ρ₁, H₁)) (e : r.xs κ rest ρ₁ H₁ = some (fl, ρ', H')) : Goes prog w base κ σ sc env s ρ₂ H₂ Q := by
  obtain ⟨rfl, rfl⟩ := i2 e1; exact goes e

theorem st_step (B : Base base) (O : OK prog w base r n) {st : Sm} {SX : Stmt} {rest : List Sm} {RS : List Stmt} {fl : Fl} {ρ' : En} {Q : Flow → Shared → Prop} {EE : Value → Shared → Prop} (S : EnvS env sc) (t1 : TrS sc st SX) (ts : TrSs sc rest RS) (hA' : Cx A n) (R : Rel prog w base s.heap σ H) (V0 : EnvR base s.heap σ env ρ)
    (e0 : (step tbl SS r).xs κ (st :: rest) ρ H = some (fl, ρ', H')) (h : XsG prog w base κ σ (frameX sc env) env s Q fl ρ' H')
    (goes : ∀ {ρ₁ : En} {H₁ : Hp}, r.xs κ rest ρ₁ H₁ = some (fl, ρ', H') → Goes prog w base κ σ sc env s ρ₁ H₁ (fun f s' => match f with | .next => wpAny (model prog w) A (execs RS env) Q EE s' | f => Q f s')) :
    wpAny (model prog w) A (exec SX env) (fun f s' => match f with | .next => wpAny (model prog w) A (execs RS env) Q EE s' | f => Q f s') EE s := by
  obtain ⟨Q', hQ'⟩ : ∃ Q' : Flow → Shared → Prop, Q' = fun f s' => match f with | .next => wpAny (model prog w) A (execs RS env) Q EE s' | f => Q f s' := ⟨_, rfl⟩
  have hcont : ∀ s', Q .cont s' → Q' .cont s' := fun s' hq => by rw [hQ']; exact hq
  have hret : ∀ v s', Q (.ret v) s' → Q' (.ret v) s' := fun v s' hq => by rw [hQ']; exact hq
  rw [← hQ'] at goes ⊢
  clear hQ'
  have flows : ∀ {fl₁ : Fl} {ρ₁ : En} {H₁ : Hp}, onNext fl₁ (r.xs κ rest ρ₁ H₁) (some (fl₁, ρ₁, H₁)) = some (fl, ρ', H') → XsG prog w base κ σ (frameX sc env) env s Q' fl₁ ρ₁ H₁ := by
    intro fl₁ ρ₁ H₁ he s' σ' f P V hf
    cases hf with
    | next => exact goes he s' σ' P V
    | cont => exact hcont _ (h.of he _ _ _ P V .cont)
    | ret ru => exact hret _ _ (h.of he _ _ _ P V (.ret ru))
  cases st with
  | ret e =>
    refine bd_c e0 fun v H₁ h1 e0 => ?_
    apply ts_ret t1; intro E p te
    exact wpAny_Return_some (O_ev O S te hA' R V0 h1 fun s₁ σ₁ u P V1 ru => hret _ _ (h.of e0 _ _ _ P.wide V1 (.ret ru)))
  | asg x e =>
    refine bd_c e0 fun ρ₁ H₁ h1 e0 => bd_c h1 fun v H₂ h2 h1 => ?_
    apply ts_asg t1; intro E p q ho te
    exact asg_ok O S ho te hA' R V0 h2 (Goes.go goes h1 e0)
  | asgT xs e =>
    refine bd_c e0 fun ρ₁ H₁ h1 e0 => bd_c h1 fun v H₂ h2 h1 => bo_c h1 fun vs h3 h1 => bi_c h1 fun hl h1 => ?_
    apply ts_asgT t1; intro E ES k p q ha tn te
    refine asgT_ok O S ha tn te hA' R V0 h2 ?_ (Nat.eq_of_beq_eq_true hl) (Goes.go goes h1 e0)
    cases v with
    | tup ws => exact .inl (congrArg _ (Option.some.inj h3))
    | ref m => exact .inr ⟨m, rfl, lstAt_eq h3⟩
    | _ => exact (nS h3).elim
  | setI a i e =>
    refine bd_c e0 fun ρ₁ H₁ h1 e0 => bd_c h1 fun v H₂ h2 h1 => bd_c h1 fun x H₃ h3 h1 => bd_c h1 fun y H₄ h4 h1 => bo_c h1 fun H₅ h5 h1 => ?_
    apply ts_setI t1; intro A I E p q te ta ti
    exact setI_ok O S te ta ti hA' R V0 h2 h3 h4 h5 (Goes.go goes h1 e0)
  | set2 a i b j e =>
    refine bd_c e0 fun ρ₁ H₁ h1 e0 => bd_c h1 fun v H₂ h2 h1 => bo_c h1 fun u hp h1 => bd_c h1 fun x H₃ h3 h1 => bd_c h1 fun y H₄ h4 h1 => bo_c h1 fun H₅ h5 h1 => bd_c h1 fun x' H₆ h6 h1 => bd_c h1 fun y' H₇ h7 h1 => bo_c h1 fun H₈ h8 h1 => ?_
    apply ts_set2 t1; intro A I B J E k p q rr t te ta ti tb tj _
    exact set2_ok O S te ta ti tb tj hA' R V0 (h2.trans (by rw [pairOf_eq hp])) h3 h4 h5 h6 h7 h8 (Goes.go goes h1 e0)
  | aug x op e =>
    refine bd_c e0 fun ρ₁ H₁ h1 e0 => bo_c h1 fun old hx h1 => bd_c h1 fun v H₂ h2 h1 => ?_
    revert hx h2; apply onInt_c h1; intro a h1
    apply onInt_c h1; intro b h1 hx h2
    refine bo_c h1 fun u hu h1 => ?_
    apply ts_aug t1; intro E p q ho te
    exact aug_ok O S ho te hA' R V0 hx h2 hu (Goes.go goes h1 e0)
  | augI a i op e =>
    refine bd_c e0 fun ρ₁ H₁ h1 e0 => bd_c h1 fun x H₂ h2 h1 => bd_c h1 fun y H₃ h3 h1 => bo_c h1 fun old h4 h1 => bd_c h1 fun v H₄ h5 h1 => ?_
    revert h4 h5; apply onInt_c h1; intro c h1
    apply onInt_c h1; intro d h1 h4 h5
    refine bo_c h1 fun u hu h1 => bo_c h1 fun H₅ h6 h1 => ?_
    apply ts_augI t1; intro A I E p q ta ti te
    exact augI_ok O S ta ti te hA' R V0 h2 h3 h4 h5 hu h6 (Goes.go goes h1 e0)
  | for_ tgs it body =>
    refine b3_c e0 fun fl₁ ρ₁ H₂ h1 e0 => b3_c h1 fun its κ₁ H₁ hit hfg => ?_
    apply ts_for t1; intro T I BS' p how tt ti tb
    refine wpAny_For (iter_ok B O S tt ti hA' R V0 hit fun J fp wr P St s₂ σ₂ rd => ?_) (fun x => ti.noSet env x)
    have hE : env.locals ∉ wr ∧ ∀ n c, (n, c) ∈ env.cells → c ∉ wr := by
      obtain ⟨m0, hn0, _⟩ := V0.ns
      obtain ⟨o0, _, _, ho0, _⟩ := Ns.get hn0
      refine ⟨fun hm => (by rw [rd.new _ hm] at ho0; cases ho0), fun n c hm hw => ?_⟩
      obtain ⟨⟨v', o', ho', _⟩, _⟩ := V0.cells n c hm
      rw [rd.new _ hw] at ho'; cases ho'
    exact for_ok B O rd S tt hA' (fun x hx => own_ok (List.all_eq_true.mp how x hx)) R.stay hE tb (V0.keep0 rd.pst) hfg (flows e0)
  | whl c body =>
    refine b3_c e0 fun fl₁ ρ₁ H₁ hwh e0 => ?_
    apply ts_whl t1; intro C BS' p tc tb
    exact wpAny_While (O.wh κ c C body BS' env sc ρ H σ s A fl₁ ρ₁ H₁ _ S tc tb hA' R V0 hwh (flows e0))
  | iff c tb eb =>
    refine b3_c e0 fun fl₁ ρ₁ H₂ h1 e0 => bd_c h1 fun bb H₁ hts hx => ?_
    apply ts_iff t1; intro C TS ES p tc tt te
    refine wpAny_If (O.ts κ c C env sc ρ H σ s A bb H₁ _ EE S tc hA' R V0 hts fun s₁ σ₁ P₁ => ?_)
    have flows1 : XsG prog w base κ σ₁ (frameX sc env) env s₁ Q' fl₁ ρ₁ H₂ := fun s' σ' f P' V' hf => flows e0 s' σ' f (P₁.wide.trans P') V' hf
    cases bb with
    | true => rw [if_pos rfl]; exact O.xs κ tb TS env sc ρ H₁ σ₁ s₁ A fl₁ ρ₁ H₂ _ EE S tt hA' P₁.rel (V0.keep0 P₁) hx flows1
    | false => rw [if_neg (by decide)]; exact O.xs κ eb ES env sc ρ H₁ σ₁ s₁ A fl₁ ρ₁ H₂ _ EE S te hA' P₁.rel (V0.keep0 P₁) hx flows1
  | cont =>
    apply ts_cont t1; intro p
    exact wpAny_Continue (hcont _ (h.of e0 _ _ _ (Pst.refl R) V0 .cont))
  | exp e =>
    refine bd_c e0 fun ρ₁ H₁ h1 e0 => bd_c h1 fun v H₂ h2 h1 => ?_
    apply ts_exp t1; intro F ES ks q p te
    exact wpAny_Expr_any (O_ev O S te hA' R V0 h2 fun s₁ σ₁ u P V1 ru => Goes.go goes h1 e0 s₁ σ₁ P.wide V1) (noInter S) rfl
  | app a e =>
    refine bd_c e0 fun ρ₁ H₁ h1 e0 => bo_c h1 fun l ha h1 => ?_
    revert ha; apply onRef_c h1; intro m h1 ha
    refine bo_c h1 fun xs hm h1 => bd_c h1 fun v H₂ h2 h1 => bi_c h1 fun hκ h1 => bo_c h1 fun vs hm1 h1 => bi_c h1 fun hl h1 => ?_
    apply ts_app t1; intro E p q rr t hx hline te
    exact app_ok O S hx hline te hA' R V0 ha (lstAt_eq hm) h2 (any_beq_false (notB hκ)) (lstAt_eq hm1) (Nat.le_of_ble_eq_true hl) (Goes.go goes h1 e0)
  | popN a e =>
    refine bd_c e0 fun ρ₁ H₁ h1 e0 => bo_c h1 fun l ha h1 => ?_
    revert ha; apply onRef_c h1; intro m h1 ha
    refine bo_c h1 fun xs hm h1 => bd_c h1 fun kv H₂ h2 h1 => bi_c h1 fun hκ h1 => bo_c h1 fun es hm1 h1 => bo_c h1 fun kk hk h1 => ?_
    apply ts_popN t1; intro E k p q rr t u hx hline te
    exact popN_ok O S hx hline te hA' R V0 ha (dicAt_eq hm) h2 (any_beq_false (notB hκ)) (dicAt_eq hm1) hk (Goes.go goes h1 e0)
  | bad => exact (nS e0).elim

theorem xs_step (B : Base base) (O : OK prog w base r n) : XsOK prog w base (step tbl SS r) (n + 1) := by
  intro κ b BS env sc ρ H σ s A fl ρ' H' Q EE S T hA R V0 e0 h
  have hA' := hA.pred
  cases b with
  | nil =>
    rw [tss_nil T]
    exact wpAny_execs_nil (XsG.of (prog := prog) (w := w) (X := frameX sc env) h e0 _ _ _ (Pst.refl R) V0 .next)
  | cons st rest =>
    apply tss_cons T; intro SX RS t1 ts
    exact wpAny_execs_cons (st_step B O S t1 ts hA' R V0 e0 h fun {ρ₁ H₁} he s' σ' P V =>
      O.xs κ rest RS env sc ρ₁ H₁ σ' s' A fl ρ' H' Q EE S ts hA' P.rel V he fun s₂ σ₂ f P₂ V₂ hf => h _ _ _ (P.trans P₂) V₂ hf)

theorem wh_step (B : Base base) (O : OK prog w base r n) : WhOK prog w base (step tbl SS r) (n + 1) := by
  intro κ c C b BS env sc ρ H σ s A fl ρ' H' RR S tc tb hA R V0 e0 h
  have hA' := hA.pred
  dsimp only [step] at e0
  refine codeAny_of_tree ?_
  show wpAny _ A ((whileTurn C BS [] env).onRaise (fun x => do noteFrame x env; theTreesLotGoes x)) _ _ s
  refine wpAny_noted ?_
  simp only [whileTurn]
  refine bd_c e0 fun t H₁ h1 e0 => wpAny_bind (O.ts κ c C env sc ρ H σ s A t H₁ _ _ S tc hA' R V0 h1 fun s₁ σ₁ P₁ => ?_)
  have V1 := V0.keep0 P₁
  cases t with
  | true =>
    simp only [if_true]
    refine b3_c e0 fun fl₁ ρ₁ H₂ h2 e0 => wpAny_bind (O.xs κ b BS env sc ρ H₁ σ₁ s₁ A _ _ _ _ _ S tb hA' P₁.rel V1 h2 fun s₂ σ₂ f P₂ V₂ hf => ?_)
    have go : r.wh κ c b ρ₁ H₂ = some (fl, ρ', H') → codeAny (model prog w) A (.whileLoop C BS [] env) RR s₂ := fun e0 => O.wh κ c C b BS env sc ρ₁ H₂ σ₂ s₂ A fl ρ' H' RR S tc tb hA' P₂.rel V₂ e0 fun s' σ' f' P' V' hf' => h s' σ' f' ((P₁.wide.trans P₂).trans P') V' hf'
    cases hf with
    | next => exact wpAny_pure ⟨rfl, go e0⟩
    | cont => exact wpAny_pure ⟨rfl, go e0⟩
    | ret ru => obtain ⟨rfl, rfl, rfl⟩ := i3 e0; exact wpAny_pure (h _ _ _ (P₁.wide.trans P₂) V₂ (.ret ru))
  | false =>
    simp only [Bool.false_eq_true, if_false]
    obtain ⟨rfl, rfl, rfl⟩ := i3 e0
    exact wpAny_bind (wpAny_execs_nil (wpAny_pure (h _ _ _ P₁.wide V1 .next)))
end
end Mine
end

section
/-! Calls. -/
set_option maxRecDepth 100000
set_option linter.all false
namespace Mine
open PySem PySem.Calls PyProof.Rows

theorem zip_lookup : ∀ {ns : List PySem.Str} {as : List Value} {n : PySem.Str}, as.length = ns.length → n ∈ ns → ((ns.zip as).lookup n).isSome = true
  | [], _, _, _, h => by cases h
  | m :: ns, [], _, hl, _ => by simp at hl
  | m :: ns, a :: as, n, hl, h => by
    rw [List.zip_cons_cons, List.lookup_cons]
    cases hb : n == m with
    | true => rfl
    | false =>
      rcases List.mem_cons.mp h with e | h
      · subst e; simp at hb
      · exact zip_lookup (by simpa using hl) h

theorem zip_binds : ∀ {ns : List PySem.Str} {as : List Value} {pre : List (PySem.Str × Value)}, as.length = ns.length → ns.Nodup → (∀ n ∈ ns, ∀ v, (n, v) ∉ pre) → (ns.filterMap fun n => ((pre ++ ns.zip as).lookup n).map (n, ·)) = ns.zip as
  | [], as, pre, hl, _, _ => rfl
  | m :: ns, [], pre, hl, _, _ => by simp at hl
  | m :: ns, a :: as, pre, hl, hn, hp => by
    rw [List.nodup_cons] at hn
    have e1 : (pre ++ (m, a) :: ns.zip as).lookup m = some a := by
      rw [lookup_append fun c hc => hp m List.mem_cons_self c hc]; simp [List.lookup_cons]
    rw [List.zip_cons_cons, List.filterMap_cons, e1]
    have e2 : pre ++ (m, a) :: ns.zip as = (pre ++ [(m, a)]) ++ ns.zip as := by simp
    rw [e2]
    refine congrArg (_ :: ·) (zip_binds (by simpa using hl) hn.2 fun n hn' v hv => ?_)
    rcases List.mem_append.mp hv with hv | hv
    · exact hp n (List.mem_cons_of_mem _ hn') v hv
    · rw [List.mem_singleton] at hv
      injection hv with h1 _
      exact hn.1 (h1 ▸ hn')

theorem bind_plain {name : PySem.Str} {params : Arguments} {body : List Stmt} {scope : Scope} {pm cd doc : Value} {as : List Value} {ns : List PySem.Str} (h1 : params.posonlyargs = []) (h2 : params.vararg = none) (h3 : params.kwonlyargs = []) (h4 : params.kwarg = none)
    (hn : params.args.map (·.arg) = ns) (hl : as.length = ns.length) (hnd : ns.Nodup) : bindArgs (docDef name params body scope pm cd doc) ⟨as, []⟩ = pure (ns.zip as) := by
  have hm : (ns.filter fun n => ((ns.zip as).lookup n).isNone) = [] := by
    rw [List.filter_eq_nil_iff]
    intro n hn
    have := zip_lookup hl hn
    cases h : (ns.zip as).lookup n with
    | none => rw [h] at this; cases this
    | some v => simp
  have hb : (ns.filterMap fun n => ((ns.zip as).lookup n).map (n, ·)) = ns.zip as := zip_binds (pre := []) hl hnd fun _ _ _ h => by cases h
  unfold bindArgs docDef
  simp only [h1, h2, h3, h4, hn, List.map_nil, List.nil_append, List.append_nil, List.forIn_nil, pure_bind]
  have hs : seqItems? Value.none = pure none := rfl
  rw [hs]
  simp only [pure_bind, Option.getD_none, List.length_nil, Nat.zero_sub, List.drop_nil, Nat.sub_zero, List.take_length, hm, List.isEmpty_nil, Bool.not_true, Bool.false_eq_true, if_false, List.drop_length, List.zip_nil_left, List.forIn_nil, hb]
  rw [if_neg (by rw [hl]; simp)]

structure FnOK (F : Fn) (d : DefRec) : Prop where
  name : d.name = nm F.name
  pos : d.params.posonlyargs = []
  var : d.params.vararg = none
  kwo : d.params.kwonlyargs = []
  kwa : d.params.kwarg = none
  args : d.params.args.map (·.arg) = F.params.map nm
  own : ∀ x ∈ F.params, own d.scope x = true
  nd : F.params.Nodup
  fn : d.scope.kind = .function
  gen : d.scope.isGenerator = false
  cor : d.scope.isCoroutine = false
  cells : ((cellsFrom 0 d.scope.names []).map (·.1)).Nodup
  free : ∀ x ∈ d.scope.names, x.2 ≠ .free
  body : TrSs d.scope F.body d.body
theorem chkFn_ok {F : Fn} {d : DefRec} (h : chkFn F d = true) : FnOK F d := by
  unfold chkFn at h
  simp only [Bool.and_eq_true, beq_iff_eq, List.isEmpty_iff, Option.isNone_iff_eq_none, List.all_eq_true, decide_eq_true_eq, Bool.not_eq_true', bne_iff_ne, ne_eq] at h
  obtain ⟨h1, h2, h3, h4, h5, _, _, h6, h7, h8, h9, h10, h11, h12, h13, h14⟩ := h
  exact ⟨h1, h2, h3, h4, h5, h6, h7, h8, h9, h10, h11, h12, h13, h14⟩

theorem cellsFrom_names : ∀ (l : List (PySem.Str × NameKind)) (i j : Nat) (acc acc' : List (PySem.Str × Addr)), acc.map (·.1) = acc'.map (·.1) → (cellsFrom i l acc).map (·.1) = (cellsFrom j l acc').map (·.1)
  | [], i, j, acc, acc', h => h
  | (n, k) :: r, i, j, acc, acc', h => by
    unfold cellsFrom
    split
    · exact cellsFrom_names r _ _ _ _ (by simp [h])
    · exact cellsFrom_names r i j acc acc' h

section
variable {prog : Program} {w : World} {base : Heap} {σ σ' X : List Addr} {H H' : Hp} {κ κ₁ : List Nat} {s s' : Shared} {A : Around} {E : Value → Shared → Prop} {env : Env} {sc sc' : Scope} {ρ ρ₁ : En} {r : Rn} {n : Nat} {SS : Sum}

theorem bindL_none (kd : PySem.Str → Option NameKind) : ∀ (bs : List (PySem.Str × Value)) (m : PySem.Str → Option Value) (x : PySem.Str), (∀ v, (x, v) ∉ bs) → bindL kd bs m x = m x
  | [], m, x, _ => rfl
  | (n, v) :: r, m, x, h => by
    have hr : ∀ v, (x, v) ∉ r := fun v hv => h v (List.mem_cons_of_mem _ hv)
    have hne : x ≠ n := fun e => h v (e ▸ List.mem_cons_self)
    show bindL kd r _ x = m x
    rw [bindL_none kd r _ x hr]
    split
    · show (if x = n then some v else m x) = m x
      rw [if_neg hne]
    · rfl
theorem bindC_none (kd : PySem.Str → Option NameKind) : ∀ (bs : List (PySem.Str × Value)) (m : PySem.Str → Option Value) (x : PySem.Str), (∀ v, (x, v) ∉ bs) → bindC kd bs m x = m x
  | [], m, x, _ => rfl
  | (n, v) :: r, m, x, h => by
    have hr : ∀ v, (x, v) ∉ r := fun v hv => h v (List.mem_cons_of_mem _ hv)
    have hne : x ≠ n := fun e => h v (e ▸ List.mem_cons_self)
    show bindC kd r _ x = m x
    rw [bindC_none kd r _ x hr]
    split
    · rfl
    · show (if x = n then some v else m x) = m x
      rw [if_neg hne]

theorem zip_not {xs : List Nat} {as : List Value} {x : Nat} (h : x ∉ xs) : ∀ v, (nm x, v) ∉ (xs.map nm).zip as := fun v hv => by
  have := (List.of_mem_zip hv).1
  obtain ⟨y, hy, e⟩ := List.mem_map.mp this
  exact h (nm_inj e ▸ hy)

theorem sets_none : ∀ (xs : List Nat) (vs : List V) (ρ : En) (x : Nat), x ∉ xs → (ρ.sets xs vs).get x = ρ.get x
  | [], vs, ρ, x, _ => by cases vs <;> rfl
  | y :: xs, [], ρ, x, _ => rfl
  | y :: xs, v :: vs, ρ, x, h => by
    show ((ρ.set y v).sets xs vs).get x = _
    rw [sets_none xs vs _ x fun hm => h (List.mem_cons_of_mem _ hm), En.get_set, if_neg fun e => h (by simp [e])]

/-- the arguments lie where the frame looks -/
theorem bound_ok {h : Heap} {kd : PySem.Str → Option NameKind} : ∀ (xs : List Nat) (vs : List V) (as : List Value) (ρ : En) (m cm : PySem.Str → Option Value), xs.Nodup → vs.length = xs.length → VRs h σ vs as →
    (∀ x v, ρ.get x = some v → x ∉ xs → ∃ u, VR h σ v u ∧ (kd (nm x) = some .local → m (nm x) = some u) ∧ (kd (nm x) ≠ some .local → cm (nm x) = some u)) →
    ∀ x v, (ρ.sets xs vs).get x = some v → ∃ u, VR h σ v u ∧ (kd (nm x) = some .local → bindL kd ((xs.map nm).zip as) m (nm x) = some u) ∧ (kd (nm x) ≠ some .local → bindC kd ((xs.map nm).zip as) cm (nm x) = some u)
  | [], vs, as, ρ, m, cm, _, _, _, h0, x, v, e => by
    have e : ρ.get x = some v := by cases vs <;> exact e
    exact h0 x v e (by simp)
  | y :: xs, vs, as, ρ, m, cm, hn, hl, r, h0, x, v, e => by
    cases r with
    | nil => simp at hl
    | @cons v0 u0 vs as r0 rs =>
      rw [List.nodup_cons] at hn
      have e : ((ρ.set y v0).sets xs vs).get x = some v := e
      show ∃ u, _ ∧ (_ → bindL kd ((xs.map nm).zip as) _ (nm x) = some u) ∧ (_ → bindC kd ((xs.map nm).zip as) _ (nm x) = some u)
      refine bound_ok xs vs as (ρ.set y v0) _ _ hn.2 (by simpa using hl) rs (fun z vz ez hz => ?_) x v e
      rw [En.get_set] at ez
      by_cases hzy : z = y
      · subst hzy
        rw [if_pos rfl] at ez; cases ez
        refine ⟨u0, r0, fun hk => ?_, fun hk => ?_⟩
        · rw [if_pos hk]; simp
        · rw [if_neg hk]; simp
      · rw [if_neg hzy] at ez
        obtain ⟨u, ru, h1, h2⟩ := h0 z vz ez (by simp [hzy, hz])
        have hne : nm z ≠ nm y := fun q => hzy (nm_inj q)
        refine ⟨u, ru, fun hk => ?_, fun hk => ?_⟩
        · split
          · show (if nm z = nm y then some u0 else m (nm z)) = some u
            rw [if_neg hne]; exact h1 hk
          · exact h1 hk
        · split
          · exact h2 hk
          · show (if nm z = nm y then some u0 else cm (nm z)) = some u
            rw [if_neg hne]; exact h2 hk

theorem nodup_nm : ∀ {xs : List Nat}, xs.Nodup → (xs.map nm).Nodup
  | [], _ => List.nodup_nil
  | x :: xs, h => by
    rw [List.nodup_cons] at h
    rw [List.map_cons, List.nodup_cons]
    refine ⟨fun hm => ?_, nodup_nm h.2⟩
    obtain ⟨y, hy, e⟩ := List.mem_map.mp hm
    exact h.1 (nm_inj e ▸ hy)

theorem cl_step {M : Nat} (hS : SOK SS M) (hM : M ≤ n) (B : Base base) (O : OK prog w base r n) : ClOK prog w base (step tbl SS r) (n + 1) := by
  intro κ f F a vs as H σ s A v H' Q EE hF hat hA R rs e0 h
  have e0 : (match SS f κ vs H with
    | some res => res
    | none => bo (tbl f) fun F => bi (Nat.beq F.params.length vs.length) (b3 (r.xs κ F.body (En.sets [] F.params vs) H) fun fl _ H₁ => outOf fl H₁)) = some (v, H') := e0
  cases hres : SS f κ vs H with
  | some res =>
    rw [hres] at e0
    exact hS f κ vs H v H' (hres.trans (congrArg some e0)) prog w base F a as σ s A Q EE B hF hat ⟨hA.1, by have := hA.2.1; omega, by have := hA.2.2; omega⟩ R rs h
  | none =>
    rw [hres, hF] at e0
    refine bi_c e0 fun hlen e0 => b3_c e0 fun fl ρ'' H₁ hx e0 => ?_
    clear hres
    have hlen := Nat.eq_of_beq_eq_true hlen
    obtain ⟨o, d, pm, cd, doc, ho, hdat, hcd, hchk⟩ := hat
    have K := chkFn_ok hchk
    have hlas : as.length = (F.params.map nm).length := by rw [List.length_map, ← rs.length, hlen]
    have hnd : (F.params.map nm).Nodup := nodup_nm K.nd
    have hL : ∀ n, d.scope.names.lookup n = some .cell → ∃ c, (cellsFrom (s.heap.objs.size + 1) d.scope.names []).lookup n = some c := fun n hn => by
      obtain ⟨c, hc⟩ := cellsFrom_in (i := s.heap.objs.size + 1) (mem_of_lookup hn)
      exact lookup_of_mem hc
    have hbnone : ∀ b, s.heap.objs.size ≤ b → base.get? b = none := fun b hb => by
      cases q : base.get? b with
      | none => rfl
      | some o => exact absurd (Heap.lt_size (R.stay b o q)) (Nat.not_lt.mpr hb)
    refine wpAny_call (call_cells_ret (by have := hA.2.1; omega) (R.stay _ _ ho) hdat (B.nolimit.keeps R.stay) (hcd.keeps R.stay) (bind_plain K.pos K.var K.kwo K.kwa K.args hlas hnd) (fun x hx => ?_) (fun h₁ tk FR C => ?_) K.cor K.gen K.fn)
    · obtain ⟨n, v0⟩ := x
      have := (List.of_mem_zip hx).1
      obtain ⟨y, hy, rfl⟩ := List.mem_map.mp this
      rcases own_ok (K.own y hy) with q | q
      · exact .inl q
      · obtain ⟨c, hc⟩ := hL _ q
        exact .inr ⟨q, by rw [hc]; rfl⟩
    · have P0 : Pst prog w base κ σ [] s H { s with heap := h₁, toks := tk } σ := R.keeps (s' := { s with heap := h₁, toks := tk }) FR.keep ⟨_, _, rfl⟩
      have S : EnvS (envOfC d.name d.scope s.heap.objs.size a cd) d.scope := by
        refine ⟨K.fn, rfl, rfl, fun n k e _ => e, fun n e => absurd rfl (K.free _ (mem_of_lookup e)), fun n e => ?_, C.apart⟩
        rcases e with e | e
        · exact hL n e
        · exact absurd rfl (K.free _ (mem_of_lookup e))
      have bound := bound_ok (h := h₁) (σ := σ) (kd := (envOfC d.name d.scope s.heap.objs.size a cd).kindOf) F.params vs as [] (fun _ => none) (fun _ => none) K.nd hlen.symm (P0.vrs rs) fun x v e => by cases e
      have V0 : EnvR base h₁ σ (envOfC d.name d.scope s.heap.objs.size a cd) (En.sets [] F.params vs) := by
        refine ⟨⟨_, FR.ns, fun x v e k => ?_⟩, fun x v e => ?_, fun n c e => ?_, R.size_out (Nat.le_refl _), hbnone _ (Nat.le_refl _)⟩
        · obtain ⟨u, ru, h1, _⟩ := bound x v e
          exact ⟨u, h1 k, ru⟩
        · have hx : x ∈ F.params := by
            by_cases q : x ∈ F.params
            · exact q
            · rw [sets_none _ _ _ _ q] at e; cases e
          rcases own_ok (K.own x hx) with q | q
          · exact .inl q
          · obtain ⟨u, ru, _, h2⟩ := bound x v e
            obtain ⟨c, hc⟩ := hL _ q
            have hnl : (envOfC d.name d.scope s.heap.objs.size a cd).kindOf (nm x) ≠ some .local := fun q' => by
              have q' : d.scope.names.lookup (nm x) = some .local := q'
              rw [q] at q'; cases q'
            exact .inr ⟨.inl q, c, u, hc, h2 hnl ▸ C.cell _ c hc, ru⟩
        · have hnd' : ((cellsFrom (s.heap.objs.size + 1) d.scope.names []).map (·.1)).Nodup := by
            rw [cellsFrom_names d.scope.names (s.heap.objs.size + 1) 0 [] [] rfl]; exact K.cells
          have hlk := lookup_nodup hnd' e
          have hlt := C.above n c e
          exact ⟨⟨_, C.cell n c hlk⟩, R.size_out (Nat.le_of_lt hlt), hbnone c (Nat.le_of_lt hlt)⟩
      have hA2 : Cx (A.deeper (envOfC d.name d.scope s.heap.objs.size a cd)) n := by
        refine ⟨hA.1, ?_, ?_⟩
        · show A.depth + 1 + n < _
          have := hA.2.1; omega
        · show A.units + 3 + 10 * n + 100 < _
          have := hA.2.2; omega
      have hnew : ∀ b ∈ frameX d.scope (envOfC d.name d.scope s.heap.objs.size a cd), b ∈ ([] : List Addr) ∨ s.heap.get? b = none := fun b hb => by
        have hge : s.heap.objs.size ≤ b := by
          rcases List.mem_cons.mp hb with rfl | hb
          · exact Nat.le_refl _
          · obtain ⟨⟨n, c⟩, hm, rfl⟩ := List.mem_map.mp hb
            exact Nat.le_of_lt (C.above n c (List.mem_filter.mp hm).1)
        refine .inr ?_
        cases q : s.heap.get? b with
        | none => rfl
        | some o => exact absurd (Heap.lt_size q) (Nat.not_lt.mpr hge)
      refine O.xs κ F.body d.body _ d.scope _ H σ { s with heap := h₁, toks := tk } _ _ _ _ _ _ S K.body hA2 P0.rel V0 hx fun s' σ' fl P' V' hf => ?_
      have P9 := (P0.up (X' := frameX d.scope (envOfC d.name d.scope s.heap.objs.size a cd)) (by simp)).trans P' |>.narrow hnew
      cases hf with
      | ret ru => obtain ⟨rfl, rfl⟩ := i2 e0; exact h _ _ _ P9 ru
      | next => obtain ⟨rfl, rfl⟩ := i2 e0; exact h _ _ _ P9 .non
      | cont => exact (nS e0).elim

theorem ok_all {M : Nat} (hS : SOK SS M) (B : Base base) : ∀ n, OK prog w base (run tbl SS n) (n + M)
  | 0 => by
    refine ⟨?_, ?_, ?_, ?_, ?_, ?_⟩
    · intro κ e X env sc ρ H σ s A v H' u Q EE S T hA R V0 e0; cases e0
    · intro κ e X env sc ρ H σ s A v H' Q EE S T hA R V0 e0; cases e0
    · intro κ e X env sc ρ H σ s A b H' Q EE S T hA R V0 e0; cases e0
    · intro κ f F a vs as H σ s A v H' Q EE hF hat hA R rs e0; cases e0
    · intro κ b BS env sc ρ H σ s A fl ρ' H' Q EE S T hA R V0 e0; cases e0
    · intro κ c C b BS env sc ρ H σ s A fl ρ' H' RR S tc tb hA R V0 e0; cases e0
  | n + 1 => by
    have O := ok_all hS B n
    rw [Nat.add_right_comm]
    exact ⟨cu_step B O, ev_step B O, ts_step B O, cl_step hS (Nat.le_add_left _ _) B O, xs_step B O, wh_step B O⟩
end

theorem sok_none : SOK noS 0 := fun f κ vs H v H' e => by cases e
/-- a run is a summary -/
theorem Sd.run {SS : Sum} {M n : Nat} (hS : SOK SS M) {f : Nat} {κ : List Nat} {vs : List V} {H H' : Hp} {v : V} (e : (run tbl SS n).cl κ f vs H = some (v, H')) : Sd (n + M) f κ vs H v H' :=
  fun prog w base F a as σ s A Q EE B hF hat hA R rs h => (ok_all (prog := prog) (w := w) hS B n).cl κ f F a vs as H σ s A v H' Q EE hF hat hA R rs e h
theorem Cx.mono {A : Around} {n m : Nat} (h : Cx A n) (hm : m ≤ n) : Cx A m := ⟨h.1, by have := h.2.1; omega, by have := h.2.2; omega⟩
theorem Sd.mono {M M' f : Nat} {κ : List Nat} {vs : List V} {H H' : Hp} {v : V} (x : Sd M f κ vs H v H') (h : M ≤ M') : Sd M' f κ vs H v H' :=
  fun prog w base F a as σ s A Q EE B hF hat hA R rs k => x prog w base F a as σ s A Q EE B hF hat (hA.mono h) R rs k
end Mine
end

section
/-! The join with the head: what the top gives, the script as cell 0. -/
set_option maxRecDepth 100000
set_option linter.all false
namespace Mine
open PySem PySem.Calls PySem.W PyProof.Rows

noncomputable def hide (h : Heap) (a : Addr) : Heap := h.update a fun o => { o with data := .freed }
theorem hide_self (h : Heap) (a : Addr) : (hide h a).get? a = none := by
  obtain ⟨objs, l⟩ := h
  unfold hide Heap.update Heap.get?
  simp only [Array.getElem?_modify, if_true]
  cases objs[a]? <;> rfl
theorem hide_other (h : Heap) {a b : Addr} (hne : b ≠ a) : (hide h a).get? b = h.get? b := Heap.get?_update_other _ _ (Ne.symm hne)

theorem fns_get {q : List DefRec} : ∀ {Fs : List Fn}, chkAll Fs q = true → ∀ {f : Nat} {F : Fn}, Fs[f]? = some F → ∃ d ∈ q, chkFn F d = true := by
  induction q with
  | nil =>
    intro Fs h f F e
    cases Fs with
    | nil => simp at e
    | cons => cases h
  | cons d ds ih =>
    intro Fs h f F e
    cases Fs with
    | nil => simp at e
    | cons G Gs =>
      have h : (chkFn G d && chkAll Gs ds) = true := h
      rw [Bool.and_eq_true] at h
      cases f with
      | zero =>
        simp only [List.getElem?_cons_zero, Option.some.injEq] at e
        subst e
        exact ⟨d, List.mem_cons_self, h.1⟩
      | succ f =>
        simp only [List.getElem?_cons_succ] at e
        obtain ⟨d', hd, hc⟩ := ih h.2 e
        exact ⟨d', List.mem_cons_of_mem _ hd, hc⟩

noncomputable def freeNm (q : Program) (x : PySem.Str) : Bool :=
  !(startupNames.contains x) && !((looseW q []).contains x) && !(((recsOf q).map (·.name)).contains x) && !(((litsOf q).map (·.1)).contains x) && !(((clssOf q (looseW q [])).map (·.name)).contains x) && x != "__name__"
noncomputable def freeAll (q : Program) : Bool := [Bi.abs, .len, .max, .int, .tuple, .list, .dict, .sum].all (fun b => freeNm q (biNm b)) && (freeNm q "range" && freeNm q "enumerate")
noncomputable def litOk (q : Program) : Bool := (wlitsOf q).any (fun c => c.1 == ("R0" : PySem.Str) && decide (c.2 = .tuple [.int 0, .int 1])) && (wlitsOf q).any (fun c => c.1 == ("R1" : PySem.Str) && decide (c.2 = .tuple [.int 1, .int 1]))

theorem boot_range : bootBuiltins "range" = some (.type "range") := by decide +kernel
theorem boot_enum : bootBuiltins "enumerate" = some (.type "enumerate") := by decide +kernel

theorem tup_inv {h : Heap} {v : Value} {xs : List WData} {as : List Addr} (r : ReadsLit h v (.tuple xs) as) : ∃ a o vs n, v = .ref a ∧ h.get? a = some o ∧ o.cls = .type "tuple" ∧ o.data = .seq vs n ∧ ReadsAllW [] (fun _ => none) h vs.toList xs as := by
  cases r with
  | tuple ho hc hd ri => exact ⟨_, _, _, _, rfl, ho, hc, hd, ri⟩
theorem lit_two {h : Heap} {v : Value} {i j : Int} {as : List Addr} (r : ReadsLit h v (.tuple [.int i, .int j]) as) : VR h [] (.tup [.int i, .int j]) v := by
  obtain ⟨a, o, vs, n, rfl, ho, hc, hd, rs⟩ := tup_inv r
  obtain ⟨v1, ws, _, _, e, _, r1, rs⟩ := readsAllW_cons_inv rs
  obtain ⟨v2, us, _, _, rfl, _, r2, rs⟩ := readsAllW_cons_inv rs
  obtain ⟨rfl, _⟩ := readsAllW_nil_inv rs
  obtain ⟨t1, rfl, _⟩ := readsW_int_inv r1
  obtain ⟨t2, rfl, _⟩ := readsW_int_inv r2
  exact .tup (ws := [.int i t1, .int j t2]) ⟨o, ho, hc, n, hd.trans (congrArg (fun v => Data.seq v n) (Array.toList_inj.mp e))⟩ (sizeLine_val ▸ (by decide : 2 ≤ 16777216)) (.cons (.int _ _) (.cons (.int _ _) .nil))
theorem well_int {P : Params} {h : Heap} {v : Value} {i : Int} (w : Well P h v (.int i)) : ∃ t, v = .int i t := by cases w; exact ⟨_, rfl⟩
theorem wellAll_nil {P : Params} {h : Heap} {vs : List Value} (w : WellAll P h vs []) : vs = [] := by cases w; rfl
theorem well_list {P : Params} {h : Heap} {v : Value} {xs : List WData} (w : Well P h v (.list xs)) : ∃ a vs, v = .ref a ∧ h.get? a = some { cls := .type "list", data := .seq vs.toArray } ∧ WellAll P h vs xs := by
  cases w with
  | list e ws => exact ⟨_, _, rfl, e, ws⟩
theorem list_ints {P : Params} {h : Heap} {σ : List Addr} : ∀ {xs : List WData} {vs : List Value}, WellAll P h vs xs → (∀ x ∈ xs, ∃ i, x = WData.int i) → ∃ is : List Int, is.length = xs.length ∧ VRs h σ (is.map .int) vs
  | [], vs, w, _ => by rw [wellAll_nil w]; exact ⟨[], rfl, .nil⟩
  | x :: xs, vs, w, hi => by
    obtain ⟨v, vs', rfl, w1, ws⟩ := wellAll_cons_inv w
    obtain ⟨i, rfl⟩ := hi x List.mem_cons_self
    obtain ⟨t, rfl⟩ := well_int w1
    obtain ⟨is, hl, rs⟩ := list_ints ws fun y hy => hi y (List.mem_cons_of_mem _ hy)
    exact ⟨i :: is, congrArg Nat.succ hl, .cons (.int _ _) rs⟩

noncomputable abbrev RR0 : RowW := PySem.Challenge.rw_xm0139_01.row.toRowW

theorem has_int {y : WData} (h : WShape.has [] y .int = true) : ∃ i, y = WData.int i := by
  cases y <;> first | exact ⟨_, rfl⟩ | exact nomatch (show false = true from h)
theorem has_list {y : WData} (h : WShape.has [] y (.list .int) = true) : ∃ xs, y = .list xs ∧ WShape.hasItems [] xs .int = true := by
  cases y <;> first | exact ⟨_, rfl, (Bool.or_false _).symm.trans h⟩ | exact nomatch (show false = true from h)
theorem items_int : ∀ {xs : List WData}, WShape.hasItems [] xs .int = true → ∀ x ∈ xs, ∃ i, x = WData.int i
  | [], _, x, h => by cases h
  | y :: ys, hh, x, h => and_c (show (WShape.has [] y .int && WShape.hasItems [] ys .int) = true from hh) fun h1 h2 => by
    rcases List.mem_cons.mp h with rfl | h
    · exact has_int h1
    · exact items_int h2 x h
theorem has_one {args : List WData} {s : WShape} (h : WShape.hasAll [] args [s] = true) : ∃ x, args = [x] ∧ WShape.has [] x s = true := by
  cases args with
  | nil => cases h
  | cons x r =>
    exact and_c (show (WShape.has [] x s && WShape.hasAll [] r []) = true from h) fun h1 h2 => by
      cases r with
      | nil => exact ⟨x, rfl, h1⟩
      | cons => cases h2
theorem pre_len {xs : List WData} (h : RR0.pre.holds [] { args := [.list xs] } = true) : xs.length ≤ 63 := by
  have h3 : WTm.holds [] (.and (.not (.lit (.bool (decide ((63 : Int) < (xs.length : Int)))))) (.lit (.bool true))) { args := [.list xs] } = true := h
  cases hd : decide ((63 : Int) < (xs.length : Int)) with
  | true => rw [hd] at h3; exact nomatch (show false = true from h3)
  | false => exact Nat.le_of_not_lt fun hl => of_decide_eq_false hd (Int.ofNat_lt.mpr hl)
theorem pre_ok {args : List WData} (h : RR0.claim.pre args = true) : ∃ xs, args = [.list xs] ∧ xs.length ≤ 63 ∧ ∀ x ∈ xs, ∃ i, x = WData.int i :=
  and_c (show (WShape.hasAll [] args [.list .int] && RR0.pre.holds [] { args := args }) = true from h) fun h1 h2 => by
    obtain ⟨x, rfl, h3⟩ := has_one h1
    obtain ⟨xs, rfl, h4⟩ := has_list h3
    exact ⟨xs, rfl, pre_len h2, items_int h4⟩

theorem same_true : same (WData.bool true) (WData.bool true) = true := by decide +kernel
theorem post_ok (xs : List WData) : RR0.claim.post [.list xs] (.bool true) [.list xs] = true := by
  show (WShape.has [] (.bool true) .bool && WTm.holds [] (.eq .res (.lit (.bool true))) { args := [.list xs], res := some (.bool true), after := [.list xs] }) = true
  exact (congrArg (fun b => WTm.holds [] (.lit (.bool b)) { args := [.list xs] }) same_true : _)
theorem walk_ok {q : Program} {d : DefRec} {YP : World → Heap → Prop} (hd : d.name = ("law" : PySem.Str)) (h1 : chkAll fns (recsOf q) = true) (h2 : freeAll q = true) (h3 : litOk q = true) (h4 : importsNone q = true)
    (hP : ∀ is : List Int, is.length ≤ 63 → ∃ H', Sd 690 43 [0] [.ref 0] [.lst (is.map .int)] (.boo true) H') : WalkO q [] (XL q []) YP RR0 d [] fun f vs => call f vs := by
  intro w s₀ s₁ mg mb G hY a o pm cd doc dV kV ho hdat hcr hdf hmg hgens args vals as hpre hlay hrd hwell hsys
  obtain ⟨xs, rfl, hlen, hint⟩ := pre_ok hpre
  have T := G.T
  obtain ⟨v0, _, rfl, w1, ws⟩ := wellAll_cons_inv hwell
  obtain rfl := wellAll_nil ws
  obtain ⟨sa, vs, rfl, hsa, wl⟩ := well_list w1
  let base := hide s₁.heap sa
  have keep : ∀ b o, s₁.heap.get? b = some o → (∀ vs n, o.data ≠ .seq vs n) → base.get? b = some o := fun b o e hn => by
    have hne : b ≠ sa := by rintro rfl; rw [hsa] at e; cases e; exact hn _ _ rfl
    rw [show base.get? b = _ from hide_other _ hne]; exact e
  have keepT : ∀ b o, s₁.heap.get? b = some o → o.cls = .type "tuple" → base.get? b = some o := fun b o e hn => by
    have hne : b ≠ sa := by rintro rfl; rw [hsa] at e; cases e; injection hn with q; exact absurd q (by decide)
    rw [show base.get? b = _ from hide_other _ hne]; exact e
  have keepNs : ∀ {x : Addr} {m}, s₁.heap.Ns x m → base.Ns x m := fun {x m} n => by
    obtain ⟨o, es, ep, e, hd, r⟩ := n
    exact ⟨o, es, ep, keep _ _ e (by intro vs n q; rw [hd] at q; cases q), hd, r⟩
  have fnAt : ∀ f F, tbl f = some F → ∃ a, mg (nm F.name) = some (.ref a) ∧ FnAt base F a := fun f F hF => by
    obtain ⟨d', hd', hc⟩ := fns_get h1 (f := f) (F := F) hF
    obtain ⟨a, o, pm, code, doc, e1, e2, e3, e4⟩ := T.fn d' hd'
    have hn := (chkFn_ok hc).name
    rw [hn] at e1
    refine ⟨a, e1, o, d', pm, code, doc, keep _ _ e2 (by intro vs n q; rw [e3] at q; cases q), e3, ?_, hc⟩
    obtain ⟨c, oc, vs, t, q1, q2, q3, q4⟩ := e4
    exact ⟨c, oc, vs, t, q1, keep _ _ q2 (by intro vs' n q; rw [q3] at q; cases q), q3, q4⟩
  have free : ∀ x, freeNm q x = true → mg x = none ∧ mb x = bootBuiltins x := fun x hx => by
    unfold freeNm at hx
    simp only [Bool.and_eq_true, Bool.not_eq_true', List.contains_eq_mem, decide_eq_false_iff_not, bne_iff_ne, ne_eq] at hx
    obtain ⟨⟨⟨⟨⟨q1, q2⟩, q3⟩, q4⟩, q5⟩, q6⟩ := hx
    exact ⟨T.free x q1 q2 q3 q4 q5, T.builtins x q6⟩
  have B : Base base := by
    refine ⟨?_, ?_, mg, mb, keepNs T.g, keepNs T.b, fun g => ?_, fun b => ?_, ?_, ?_, fnAt⟩
    · obtain ⟨mm, hn, _⟩ := (T.seer h4).mods
      obtain ⟨o, _, _, e, _⟩ := keepNs hn
      exact ⟨o, e⟩
    · obtain ⟨mc, hn, hq⟩ := T.nolimit
      exact ⟨mc, keepNs hn, hq⟩
    · have up : ∀ {v : Value} {x : V}, VR s₁.heap [] x v → VR base [] x v := fun r => r.mono (fun a items t => by
        obtain ⟨o, e, hc, r⟩ := t
        exact ⟨o, keepT _ _ e hc, hc, r⟩) fun _ _ e => e
      have lit : ∀ (x : PySem.Str) (i j : Int), (wlitsOf q).any (fun c => c.1 == x && decide (c.2 = .tuple [.int i, .int j])) = true → ∃ v, mg x = some v ∧ VR base [] (.tup [.int i, .int j]) v := fun x i j h => by
        obtain ⟨⟨n, d⟩, hc, hq⟩ := List.any_eq_true.mp h
        refine and_c hq fun q1 q2 => ?_
        obtain ⟨v, e1, e2⟩ := G.W.lits _ hc
        rw [beq_iff_eq.mp q1] at e1
        rw [of_decide_eq_true q2] at e2
        exact ⟨v, e1, up (lit_two e2)⟩
      exact and_c h3 fun l1 l2 => by
        cases g with
        | zero => exact lit _ _ _ l1
        | succ g => exact lit _ _ _ l2
    · unfold freeAll at h2
      rw [Bool.and_eq_true, List.all_eq_true] at h2
      have := free _ (h2.1 b (by cases b <;> simp))
      exact ⟨this.1, this.2.trans (boot_bi b)⟩
    · unfold freeAll at h2
      simp only [Bool.and_eq_true] at h2
      have := free _ h2.2.1
      exact ⟨this.1, this.2.trans boot_range⟩
    · unfold freeAll at h2
      simp only [Bool.and_eq_true] at h2
      have := free _ h2.2.2
      exact ⟨this.1, this.2.trans boot_enum⟩
  obtain ⟨is, hisl, rs⟩ := list_ints (σ := [sa]) wl hint
  obtain ⟨H', sd⟩ := hP is (by rw [hisl]; exact hlen)
  obtain ⟨a', ha', hat⟩ := fnAt 43 fn43 rfl
  have hnm : nm fn43.name = ("law" : PySem.Str) := by decide +kernel
  rw [hnm, ← hd, hmg] at ha'
  cases ha'
  have hsys' : (sa == sysModules) = false := by
    cases hrd with
    | cons r1 rs1 => cases r1 with
      | list e1 e2 e3 e4 => exact hsys sa (by simp)
  have R : Rel RR0.prog w base s₁.heap [sa] [.lst (is.map .int)] := by
    refine ⟨rfl, by simp, fun n b c e1 e2 => ?_, fun b hb => ?_, fun b o e => ?_⟩
    · cases n with
      | zero =>
        simp only [List.getElem?_cons_zero, Option.some.injEq] at e1
        subst e1
        cases e2
        refine ⟨vs, 0, hsa, ?_, rs⟩
        rw [← rs.length, List.length_map, hisl, sizeLine_val]; omega
      | succ n => simp at e1
    · rw [List.mem_singleton] at hb
      subst hb
      exact ⟨hide_self _ _, hsys'⟩
    · have hne : b ≠ sa := by rintro rfl; rw [show base.get? b = none from hide_self _ _] at e; cases e
      rw [show base.get? b = _ from hide_other _ hne] at e; exact e
  refine sd RR0.prog w base fn43 a [.ref sa] [sa] s₁ callerA _ _ B rfl hat ⟨rfl, by decide, by decide⟩ R (.cons (.ref rfl) .nil) fun s' σ' u P ru => ?_
  cases ru
  have keepAll : ∀ b o, s₁.heap.get? b = some o → s'.heap.get? b = some o := fun b o e => P.keep.2 b o e (by simp) fun n hn => by
    cases n with
    | zero => simp
    | succ n => simp at hn
  obtain ⟨h', tk, hs'⟩ := P.same
  refine ⟨.inl ⟨.bool true, .bool true, [], rfl, fun cls => rfl, .bool true, post_ok xs, fun _ => ⟨List.nodup_nil, by simp⟩⟩, OldK.of_keep keepAll, by rw [hs'], AllBare.of_eq (by rw [hs']; exact hgens)⟩
end Mine
end

section
/-! Summaries: what may be forgotten, what may be carried over. -/
set_option maxRecDepth 100000
set_option linter.all false
namespace Mine
open PySem PySem.Calls PyProof.Rows

mutual
noncomputable def V.bel (n : Nat) : V → Bool
  | .tup xs => V.bels n xs
  | .ref m => Nat.blt m n
  | _ => true
noncomputable def V.bels (n : Nat) : List V → Bool
  | [] => true
  | x :: xs => V.bel n x && V.bels n xs
end
noncomputable def dbel (n : Nat) : List (List Int × V) → Bool
  | [] => true
  | (_, x) :: r => V.bel n x && dbel n r
noncomputable def C.bel (n : Nat) : C → Bool
  | .lst xs => V.bels n xs
  | .dic es => dbel n es
mutual
noncomputable def V.ren (φ : Nat → Nat) : V → V
  | .tup xs => .tup (V.rens φ xs)
  | .ref m => .ref (φ m)
  | .non => .non
  | .boo b => .boo b
  | .int i => .int i
  | .str => .str
noncomputable def V.rens (φ : Nat → Nat) : List V → List V
  | [] => []
  | x :: xs => V.ren φ x :: V.rens φ xs
end
noncomputable def dren (φ : Nat → Nat) : List (List Int × V) → List (List Int × V)
  | [] => []
  | (k, x) :: r => (k, V.ren φ x) :: dren φ r
noncomputable def C.ren (φ : Nat → Nat) : C → C
  | .lst xs => .lst (V.rens φ xs)
  | .dic es => .dic (dren φ es)

mutual
theorem VR.bel {h : Heap} {σ : List Addr} {x : V} {v : Value} (r : VR h σ x v) : x.bel σ.length = true := by
  cases r with
  | non => rfl
  | boo => rfl
  | int => rfl
  | str => rfl
  | tup t l rs => exact VRs.bels rs
  | ref e => exact Nat.blt_eq.mpr (List.getElem?_eq_some_iff.mp e).1
theorem VRs.bels {h : Heap} {σ : List Addr} {x : List V} {v : List Value} (r : VRs h σ x v) : V.bels σ.length x = true := by
  cases r with
  | nil => rfl
  | cons a b => exact Bool.and_eq_true_iff.mpr ⟨VR.bel a, VRs.bels b⟩
end
mutual
theorem VR.down {h : Heap} {σ l : List Addr} {x : V} {v : Value} (r : VR h (σ ++ l) x v) (hb : x.bel σ.length = true) : VR h σ x v := by
  cases r with
  | non => exact .non
  | boo => exact .boo _
  | int => exact .int _ _
  | str => exact .str _ _
  | tup t hl rs => exact .tup t hl (VRs.down rs hb)
  | ref e => exact .ref (by rw [List.getElem?_append_left (Nat.blt_eq.mp hb)] at e; exact e)
theorem VRs.down {h : Heap} {σ l : List Addr} {x : List V} {v : List Value} (r : VRs h (σ ++ l) x v) (hb : V.bels σ.length x = true) : VRs h σ x v := by
  cases r with
  | nil => exact .nil
  | cons a b =>
    have hb := Bool.and_eq_true_iff.mp hb
    exact .cons (VR.down a hb.1) (VRs.down b hb.2)
end
theorem DRs.bel {h : Heap} {σ : List Addr} {x : List (List Int × V)} {v : List (List Int × Addr × Value)} (r : DRs h σ x v) : dbel σ.length x = true := by
  induction r with
  | nil => rfl
  | cons a _ ih => exact Bool.and_eq_true_iff.mpr ⟨a.bel, ih⟩
theorem DRs.down {h : Heap} {σ l : List Addr} {x : List (List Int × V)} {v : List (List Int × Addr × Value)} (r : DRs h (σ ++ l) x v) (hb : dbel σ.length x = true) : DRs h σ x v := by
  induction r with
  | nil => exact .nil
  | cons a _ ih =>
    have hb := Bool.and_eq_true_iff.mp hb
    exact .cons (a.down hb.1) (ih hb.2)

mutual
theorem VR.unren {h : Heap} {σ σ₁ : List Addr} {φ : Nat → Nat} {x : V} {v : Value} (hφ : ∀ m < σ₁.length, σ₁[m]? = σ[φ m]?) (r : VR h σ (x.ren φ) v) (hb : x.bel σ₁.length = true) : VR h σ₁ x v := by
  cases x with
  | non => cases r; exact .non
  | boo => cases r; exact .boo _
  | int => cases r; exact .int _ _
  | str => cases r; exact .str _ _
  | tup xs => cases r with | tup t hl rs => exact .tup t hl (VRs.unren hφ rs hb)
  | ref m => cases r with | ref e => exact .ref (by rw [hφ m (Nat.blt_eq.mp hb)]; exact e)
theorem VRs.unren {h : Heap} {σ σ₁ : List Addr} {φ : Nat → Nat} {x : List V} {v : List Value} (hφ : ∀ m < σ₁.length, σ₁[m]? = σ[φ m]?) (r : VRs h σ (V.rens φ x) v) (hb : V.bels σ₁.length x = true) : VRs h σ₁ x v := by
  cases x with
  | nil => cases r; exact .nil
  | cons x xs =>
    have hb := Bool.and_eq_true_iff.mp hb
    cases r with | cons a b => exact .cons (VR.unren hφ a hb.1) (VRs.unren hφ b hb.2)
end
theorem DRs.unren {h : Heap} {σ σ₁ : List Addr} {φ : Nat → Nat} (hφ : ∀ m < σ₁.length, σ₁[m]? = σ[φ m]?) : ∀ {x : List (List Int × V)} {v : List (List Int × Addr × Value)}, DRs h σ (dren φ x) v → dbel σ₁.length x = true → DRs h σ₁ x v
  | [], v, r, _ => by cases r; exact .nil
  | (k, x) :: xs, v, r, hb => by
    have hb := Bool.and_eq_true_iff.mp hb
    cases r with | cons a b => exact .cons (a.unren hφ hb.1) (DRs.unren hφ b hb.2)

section
variable {prog : Program} {w : World} {base : Heap} {σ σ' X : List Addr} {H H' J : Hp} {κ κ₁ : List Nat} {s s' : Shared} {M f : Nat} {vs : List V} {v : V}

theorem CellAt.bel {h : Heap} {a : Addr} {c : C} (x : CellAt prog w h σ a c) : c.bel σ.length = true := by
  cases c with
  | lst xs => obtain ⟨ws, n, _, _, r⟩ := x; exact r.bels
  | dic es => obtain ⟨ys, _, _, r⟩ := x; exact r.bel
theorem CellAt.down {h : Heap} {l : List Addr} {a : Addr} {c : C} (x : CellAt prog w h (σ ++ l) a c) (hb : c.bel σ.length = true) : CellAt prog w h σ a c := by
  cases c with
  | lst xs => obtain ⟨ws, n, e, q, r⟩ := x; exact ⟨ws, n, e, q, r.down hb⟩
  | dic es => obtain ⟨ys, e, q, r⟩ := x; exact ⟨ys, e, q, r.down hb⟩
theorem CellAt.unren {h : Heap} {σ₁ : List Addr} {φ : Nat → Nat} {a : Addr} {c : C} (hφ : ∀ m < σ₁.length, σ₁[m]? = σ[φ m]?) (x : CellAt prog w h σ a (c.ren φ)) (hb : c.bel σ₁.length = true) : CellAt prog w h σ₁ a c := by
  cases c with
  | lst xs => obtain ⟨ws, n, e, q, r⟩ := x; exact ⟨ws, n, e, q, r.unren hφ hb⟩
  | dic es => obtain ⟨ys, e, q, r⟩ := x; exact ⟨ys, e, q, r.unren hφ hb⟩

/-- what came behind may be forgotten -/
theorem Pst.forget (R : Rel prog w base s.heap σ H) (P : Pst prog w base κ σ [] s (H ++ J) s' σ') : Pst prog w base κ σ [] s H s' σ := by
  obtain ⟨l, rfl⟩ := P.pre
  refine ⟨P.same, ⟨[], by simp⟩, fun _ h => .inl h, P.keep, P.tups, R.len, R.nd, fun n a c e1 e2 => ?_, R.new, P.rel.stay⟩
  have hlt := Hp.get_lt e2
  have h1 := P.rel.cell n a c (by rw [List.getElem?_append_left (by rw [R.len]; exact hlt)]; exact e1) (by rw [Hp.get_append hlt]; exact e2)
  exact h1.down (R.cell n a c e1 e2).bel

theorem Sd.forget (x : Sd M f κ vs H v (H ++ J)) (hv : v.bel H.length = true) : Sd M f κ vs H v H :=
  fun prog w base F a as σ s A Q EE B hF hat hA R rs h => x prog w base F a as σ s A Q EE B hF hat hA R rs fun s' σ' u P ru => by
    refine h s' σ u (P.forget R) ?_
    obtain ⟨l, rfl⟩ := P.pre
    exact ru.down (by rw [R.len]; exact hv)

theorem Sd.forgetNew {j : Nat} {c : C} (x : Sd M f κ vs H (.ref j) (H ++ J)) (hj : H.length ≤ j) (hc : Hp.get (H ++ J) j = some c) (hb : c.bel H.length = true) : Sd M f κ vs H (.ref H.length) (H ++ [c]) :=
  fun prog w base F a as σ s A Q EE B hF hat hA R rs h => x prog w base F a as σ s A Q EE B hF hat hA R rs fun s' σ' u P ru => by
    cases ru with
    | @ref _ b e =>
      have P0 := P.forget R
      obtain ⟨l, rfl⟩ := P.pre
      have hbσ : b ∉ σ := fun hm => by
        obtain ⟨m, hm⟩ := List.mem_iff_getElem?.mp hm
        have hlt := (List.getElem?_eq_some_iff.mp hm).1
        have e2 : (σ ++ l)[m]? = some b := by rw [List.getElem?_append_left hlt]; exact hm
        have := (List.getElem?_inj (List.getElem?_eq_some_iff.mp e2).1 P.rel.nd).mp (e2.trans e.symm)
        have := R.len
        omega
      have hn : s.heap.get? b = none := (P.new b (List.mem_of_getElem? e)).resolve_left hbσ
      have x1 := (P.rel.cell j b c e hc).down (by rw [R.len]; exact hb)
      have hsub : ∀ (n : Nat) (b' : Addr), σ[n]? = some b' → (σ ++ [b])[n]? = some b' := fun n b' e => by rw [List.getElem?_append_left (List.getElem?_eq_some_iff.mp e).1]; exact e
      exact h s' _ _ (P0.label B.sys R hn hbσ (x1.mono (fun _ e => e) (fun _ _ t => t) hsub)) (vr_last R.len)

/-- a call that leaves its heap alone, carried over from a small heap -/
theorem Sd.carry {H₁ H₁' : Hp} {vs₁ : List V} {φ : Nat → Nat} (x : Sd M f κ₁ vs₁ H₁ v H₁') (hκ : ∀ n < H₁.length, n ∈ κ₁) (hinj : ∀ m < H₁.length, ∀ n < H₁.length, φ m = φ n → m = n) (hv : v.bel 0 = true)
    (hH : ∀ n < H₁.length, ∃ c, Hp.get H₁ n = some c ∧ Hp.get H (φ n) = some (c.ren φ) ∧ c.bel H₁.length = true) (hvs : V.bels H₁.length vs₁ = true) : Sd M f κ (V.rens φ vs₁) H v H :=
  fun prog w base F a as σ s A Q EE B hF hat hA R rs h => by
    let σ₁ : List Addr := (List.range H₁.length).map fun n => (σ[φ n]?).getD 0
    have hl : σ₁.length = H₁.length := by simp [σ₁]
    have hφ : ∀ m < σ₁.length, σ₁[m]? = σ[φ m]? := fun m hm => by
      rw [hl] at hm
      obtain ⟨c, _, e, _⟩ := hH m hm
      have hlt : φ m < σ.length := by rw [R.len]; exact Hp.get_lt e
      simp only [σ₁, List.getElem?_map, List.getElem?_range hm, Option.map_some]
      rw [List.getElem?_eq_getElem hlt]; rfl
    have R1 : Rel prog w base s.heap σ₁ H₁ := by
      refine ⟨hl, ?_, fun n b c e1 e2 => ?_, fun b hb => ?_, R.stay⟩
      · show ((List.range H₁.length).map fun n => (σ[φ n]?).getD 0).Pairwise (· ≠ ·)
        rw [List.pairwise_map]
        refine List.Pairwise.imp_of_mem (fun {i j} hi hj hij e => ?_) List.pairwise_lt_range
        have hi := List.mem_range.mp hi
        have hj := List.mem_range.mp hj
        obtain ⟨c, _, e1, _⟩ := hH i hi
        obtain ⟨c', _, e2, _⟩ := hH j hj
        have h1 : φ i < σ.length := by rw [R.len]; exact Hp.get_lt e1
        have h2 : φ j < σ.length := by rw [R.len]; exact Hp.get_lt e2
        rw [List.getElem?_eq_getElem h1, List.getElem?_eq_getElem h2] at e
        have e : σ[φ i] = σ[φ j] := e
        have := (List.getElem?_inj h1 R.nd).mp ((List.getElem?_eq_getElem h1).trans ((congrArg some e).trans (List.getElem?_eq_getElem h2).symm))
        exact absurd (hinj i hi j hj this) (Nat.ne_of_lt hij)
      · have hn : n < H₁.length := Hp.get_lt e2
        obtain ⟨c', q1, q2, q3⟩ := hH n hn
        rw [e2] at q1; cases q1
        rw [hφ n (by rw [hl]; exact hn)] at e1
        exact (R.cell _ _ _ e1 q2).unren hφ (by rw [hl]; exact q3)
      · obtain ⟨n, hn⟩ := List.mem_iff_getElem?.mp hb
        rw [hφ n (List.getElem?_eq_some_iff.mp hn).1] at hn
        exact R.new b (List.mem_of_getElem? hn)
    refine x prog w base F a as σ₁ s A Q EE B hF hat hA R1 (rs.unren hφ (by rw [hl]; exact hvs)) fun s' σ' u P ru => ?_
    have hk : ∀ b o, s.heap.get? b = some o → s'.heap.get? b = some o := fun b o e => P.keep.2 b o e (by simp) fun n hn => hκ n (by rw [← hl]; exact (List.getElem?_eq_some_iff.mp hn).1)
    have P1 : Pst prog w base κ σ [] s H s' σ := R.keeps hk P.same
    refine h s' σ u P1 ?_
    have hu : VR s'.heap [] v u := by
      have : VR s'.heap ([] ++ σ') v u := by simpa using ru
      exact this.down hv
    exact hu.mono (fun _ _ t => t) fun n a e => by simp at e
end
end Mine
end

section
/-! A typed logic for the small language: what an expression's value is, in a heap that grows; one cell may be mutable. -/
set_option maxRecDepth 100000
set_option linter.all false
namespace Mine
open PySem

section
variable {tb : Nat → Option Fn} {S : Sum} {r : Rn} {κ : List Nat} {ρ : En} {H : Hp} {c : Ex} {b t e : List Sm} {rest : List Sm} {ts : List Nat} {it : It}
theorem wh_eq : (step tb S r).wh κ c b ρ H = bd (r.ts κ c ρ H) fun t H₁ => bt t (b3 (r.xs κ b ρ H₁) fun f ρ₁ H₂ => onRet f (fun v => some (.ret v, ρ₁, H₂)) (r.wh κ c b ρ₁ H₂)) (some (.next, ρ, H₁)) := rfl
theorem iff_eq : (step tb S r).xs κ (.iff c t e :: rest) ρ H = b3 (bd (r.ts κ c ρ H) fun b H₁ => bt b (r.xs κ t ρ H₁) (r.xs κ e ρ H₁)) fun f ρ₁ H₁ => onNext f (r.xs κ rest ρ₁ H₁) (some (f, ρ₁, H₁)) := rfl
theorem whl_eq : (step tb S r).xs κ (.whl c b :: rest) ρ H = b3 (r.wh κ c b ρ H) fun f ρ₁ H₁ => onNext f (r.xs κ rest ρ₁ H₁) (some (f, ρ₁, H₁)) := rfl
theorem for_eq : (step tb S r).xs κ (.for_ ts it b :: rest) ρ H = b3 (b3 (iter r κ ts it ρ H) fun its κ₁ H₁ => forGo r κ₁ ts b its ρ H₁) fun f ρ₁ H₁ => onNext f (r.xs κ rest ρ₁ H₁) (some (f, ρ₁, H₁)) := rfl
end

abbrev P := List (List Int × Int)
noncomputable def rv (c : Int) : V := .tup [.int c, .int 1]
noncomputable def toD : P → List (List Int × V)
  | [] => []
  | e :: r => (e.1, rv e.2) :: toD r
abbrev Z := List Int
noncomputable def toL (z : Z) : List V := z.map .int

inductive Ty where
  | d (b : Bool) (c : C)
  | r (z0 z1 z2 : Z)
  | w (n : Int) (p : P)
  | c (v : V)
  | u
noncomputable abbrev Ty.p (b : Bool) (p : P) : Ty := .d b (.dic (toD p))
noncomputable abbrev Ty.z (b : Bool) (z : Z) : Ty := .d b (.lst (toL z))
noncomputable abbrev Ty.i (i : Int) : Ty := .c (.int i)
def isAt (m : Option Nat) (H : Hp) (l : Nat) (c : C) : Prop := m ≠ some l ∧ Hp.get H l = some c
/-- what a value is; new ones lie at lo or behind -/
def Ty.ok (lo : Nat) (m : Option Nat) (t : Ty) (v : V) (H : Hp) : Prop := match t with
  | .d b e => ∃ l, v = .ref l ∧ isAt m H l e ∧ (b = true → lo ≤ l)
  | .r z0 z1 z2 => ∃ R r0 r1 r2, v = .ref R ∧ isAt m H R (.lst [.ref r0, .ref r1, .ref r2]) ∧ isAt m H r0 (.lst (toL z0)) ∧ isAt m H r1 (.lst (toL z1)) ∧ isAt m H r2 (.lst (toL z2))
  | .w n p => ∃ l, v = .tup [.int n, .ref l] ∧ isAt m H l (.dic (toD p))
  | .c x => v = x
  | .u => True
noncomputable def Ty.weak (t : Ty) : Ty := match t with
  | .d _ e => .d false e
  | .r z0 z1 z2 => .r z0 z1 z2
  | .w n p => .w n p
  | .c x => .c x
  | .u => .u
/-- a call may give it -/
def Ty.fits (t : Ty) : Prop := match t with
  | .d b _ => b = true
  | .r _ _ _ => False
  | .w _ _ => False
  | .c _ => True
  | .u => False
def Le (m : Option Nat) (H H' : Hp) : Prop := H.length ≤ H'.length ∧ ∀ l, l < H.length → m ≠ some l → Hp.get H' l = Hp.get H l
theorem Le.refl {m : Option Nat} {H : Hp} : Le m H H := ⟨Nat.le_refl _, fun _ _ _ => rfl⟩
theorem Le.trans {m : Option Nat} {H H' H'' : Hp} (a : Le m H H') (b : Le m H' H'') : Le m H H'' := ⟨Nat.le_trans a.1 b.1, fun l h1 h2 => (b.2 l (Nat.lt_of_lt_of_le h1 a.1) h2).trans (a.2 l h1 h2)⟩
theorem Le.any {m : Option Nat} {H H' : Hp} (a : Le none H H') : Le m H H' := ⟨a.1, fun l h _ => a.2 l h fun e => by cases e⟩
theorem Le.app {m : Option Nat} {H J : Hp} : Le m H (H ++ J) := ⟨by rw [List.length_append]; exact Nat.le_add_right _ _, fun l h _ => Hp.get_append h⟩
theorem Le.put {H : Hp} {l : Nat} {c : C} : Le (some l) H (Hp.put H l c) := ⟨by rw [Hp.put_length]; exact Nat.le_refl _, fun k _ h => Hp.get_put_ne fun e => h (by rw [e])⟩
theorem isAt.mono {m : Option Nat} {H H' : Hp} {l : Nat} {c : C} (a : isAt m H l c) (b : Le m H H') : isAt m H' l c := ⟨a.1, (b.2 l (Hp.get_lt a.2) a.1).trans a.2⟩
theorem isAt.any {m : Option Nat} {H : Hp} {l : Nat} {c : C} (a : isAt m H l c) : isAt none H l c := ⟨(fun e => by cases e), a.2⟩
/-- how a type's truth is carried over -/
theorem Ty.ok.turn {lo lo' : Nat} {m m' : Option Nat} {t : Ty} {v : V} {H H' : Hp} (h : t.ok lo m v H) (hl : ∀ l, lo ≤ l → lo' ≤ l) (k : ∀ l c, isAt m H l c → isAt m' H' l c) : t.ok lo' m' v H' := by
  cases t with
  | d b c => obtain ⟨l, e, a, b⟩ := h; exact ⟨l, e, k _ _ a, fun h => hl _ (b h)⟩
  | r z0 z1 z2 => obtain ⟨R, r0, r1, r2, e, a, a0, a1, a2⟩ := h; exact ⟨R, r0, r1, r2, e, k _ _ a, k _ _ a0, k _ _ a1, k _ _ a2⟩
  | w n p => obtain ⟨l, e, a⟩ := h; exact ⟨l, e, k _ _ a⟩
  | c x => exact h
  | u => trivial
theorem Ty.ok.mono {lo : Nat} {m : Option Nat} {t : Ty} {v : V} {H H' : Hp} (h : t.ok lo m v H) (b : Le m H H') : t.ok lo m v H' := h.turn (fun _ h => h) fun _ _ a => a.mono b
theorem Ty.ok.lo {lo lo' : Nat} {m : Option Nat} {t : Ty} {v : V} {H : Hp} (h : t.ok lo m v H) (hl : lo' ≤ lo) : t.ok lo' m v H := h.turn (fun _ h => Nat.le_trans hl h) fun _ _ a => a
theorem Ty.ok.weak {lo lo' : Nat} {m : Option Nat} {t : Ty} {v : V} {H : Hp} (h : t.ok lo m v H) : t.weak.ok 0 none v H := by
  cases t with
  | d b c => obtain ⟨l, e, a, _⟩ := h; exact ⟨l, e, a.any, fun h => by cases h⟩
  | r z0 z1 z2 => exact Ty.ok.turn (t := .r z0 z1 z2) (lo := 0) h (fun _ _ => Nat.zero_le _) fun _ _ a => a.any
  | w n p => exact Ty.ok.turn (t := .w n p) (lo := 0) h (fun _ _ => Nat.zero_le _) fun _ _ a => a.any
  | c x => exact h
  | u => trivial
theorem Ty.ok.old {lo lo' : Nat} {m : Option Nat} {t : Ty} {v : V} {H : Hp} (h : t.ok lo m v H) : t.weak.ok lo' m v H := by
  cases t with
  | d b c => obtain ⟨l, e, a, _⟩ := h; exact ⟨l, e, a, fun h => by cases h⟩
  | r z0 z1 z2 => exact h
  | w n p => exact h
  | c x => exact h
  | u => trivial
theorem Ty.ok.fit {lo lo' : Nat} {m : Option Nat} {t : Ty} {v : V} {H : Hp} (h : t.ok lo none v H) (hf : t.fits) (hl : lo' ≤ lo) (hm : ∀ l, m = some l → l < lo) : t.ok lo' m v H := by
  have ne : ∀ l, lo ≤ l → m ≠ some l := fun l h e => absurd (hm l e) (Nat.not_lt.mpr h)
  cases t with
  | d b c => obtain ⟨l, e, a, b⟩ := h; exact ⟨l, e, ⟨ne l (b hf), a.2⟩, fun _ => Nat.le_trans hl (b hf)⟩
  | r z0 z1 z2 => exact hf.elim
  | w n p => exact hf.elim
  | c x => exact h
  | u => exact hf.elim

theorem Ty.ok.up {lo lo' : Nat} {m : Option Nat} {t : Ty} {v : V} {H : Hp} (h : t.weak.ok lo m v H) : t.weak.ok lo' m v H := by
  cases t with
  | d b c => obtain ⟨l, e, a, _⟩ := h; exact ⟨l, e, a, fun h => by cases h⟩
  | r z0 z1 z2 => exact h
  | w n p => exact h
  | c x => exact h
  | u => trivial
/-- a mode: what is mutable, and what holds of it -/
structure Dm where
  ι : Type
  m : Option Nat
  St : ι → Hp → Prop
  up : ∀ {s H H'}, St s H → Le none H H' → St s H'
  lt : ∀ {s H l}, St s H → m = some l → l < H.length
  lo : Nat
  le : ∀ {s H}, St s H → lo ≤ H.length
noncomputable def D0 (k : Nat) : Dm := ⟨Unit, none, fun _ H => k ≤ H.length, fun h b => Nat.le_trans h b.1, fun _ e => (by cases e), k, fun h => h⟩
noncomputable def Mt {ι : Type} (mk : ι → C) (k l : Nat) : Dm := ⟨ι, some l, fun s H => Hp.get H l = some (mk s) ∧ k ≤ H.length, fun h b => ⟨(b.2 _ (Hp.get_lt h.1) fun e => by cases e).trans h.1, Nat.le_trans h.2 b.1⟩, fun h e => (by cases e; exact Hp.get_lt h.1), k, fun h => h.2⟩

noncomputable def alook {α : Type} : List (Nat × α) → Nat → Option α
  | [], _ => none
  | e :: r, x => bif Nat.beq e.1 x then some e.2 else alook r x
abbrev Tc := List (Nat × Ty)
noncomputable def vlook (Γ : Tc) (x : Nat) : Option Ty := bo (alook Γ x) fun t => some t.weak
def Has (lo : Nat) (m : Option Nat) (Γ : Tc) (ρ : En) (H : Hp) : Prop := ∀ x t, alook Γ x = some t → ∃ v, ρ.get x = some v ∧ t.ok lo m v H
noncomputable def lowK (κ : List Nat) (H : Hp) : Bool := κ.all (fun i => Nat.blt i H.length)
theorem lowK_mono {κ : List Nat} {H H' : Hp} (h : lowK κ H = true) (b : H.length ≤ H'.length) : lowK κ H' = true :=
  List.all_eq_true.mpr fun n hn => Nat.blt_eq.mpr (Nat.lt_of_lt_of_le (Nat.blt_eq.mp (List.all_eq_true.mp h n hn)) b)
theorem get_set_eq {ρ : En} {x : Nat} {v : V} : (En.set ρ x v).get x = some v := by
  induction ρ with
  | nil => show (if Nat.beq x x then _ else _) = _; rw [if_pos (Nat.beq_refl x)]
  | cons e r ih =>
    show En.get (if Nat.beq x e.1 then (x, v) :: r else e :: En.set r x v) x = _
    cases h : Nat.beq x e.1 with
    | true => rw [if_pos rfl]; show (if Nat.beq x x then _ else _) = _; rw [if_pos (Nat.beq_refl x)]
    | false => rw [if_neg Bool.false_ne_true]; show (if Nat.beq x e.1 then _ else _) = _; rw [h, if_neg Bool.false_ne_true]; exact ih
theorem get_set_ne {ρ : En} {x y : Nat} {v : V} (h : Nat.beq x y = false) : (En.set ρ y v).get x = ρ.get x := by
  induction ρ with
  | nil => show (if Nat.beq x y then _ else _) = _; rw [h]; rfl
  | cons e r ih =>
    show En.get (if Nat.beq y e.1 then (y, v) :: r else e :: En.set r y v) x = _
    cases hz : Nat.beq y e.1 with
    | true =>
      have e1 : y = e.1 := Nat.eq_of_beq_eq_true hz
      rw [if_pos rfl]
      show (if Nat.beq x y then _ else _) = if Nat.beq x e.1 then some e.2 else _
      rw [← e1, h]; rfl
    | false =>
      rw [if_neg Bool.false_ne_true]
      show (if Nat.beq x e.1 then _ else _) = if Nat.beq x e.1 then _ else _
      rw [ih]
theorem beq_sym {a b : Nat} (h : Nat.beq a b = false) : Nat.beq b a = false := Bool.eq_false_iff.mpr fun q => by rw [Nat.eq_of_beq_eq_true q, Nat.beq_refl] at h; cases h
theorem Has.mono {lo : Nat} {m : Option Nat} {Γ : Tc} {ρ : En} {H H' : Hp} (h : Has lo m Γ ρ H) (b : Le m H H') : Has lo m Γ ρ H' := fun x t e => let ⟨v, e1, e2⟩ := h x t e; ⟨v, e1, e2.mono b⟩
theorem Has.set {lo : Nat} {m : Option Nat} {Γ : Tc} {ρ : En} {H : Hp} {x : Nat} {t : Ty} {v : V} (h : Has lo m Γ ρ H) (a : t.ok lo m v H) : Has lo m ((x, t) :: Γ) (ρ.set x v) H := fun y t' e => by
  have e : (bif Nat.beq x y then some t else alook Γ y) = some t' := e
  cases hb : Nat.beq x y with
  | true => rw [hb, cond_true] at e; obtain rfl := Option.some.inj e; rw [← Nat.eq_of_beq_eq_true hb]; exact ⟨v, get_set_eq, a⟩
  | false =>
    rw [hb, cond_false] at e
    obtain ⟨u, e1, e2⟩ := h y t' e
    exact ⟨u, (get_set_ne (beq_sym hb)).trans e1, e2⟩
theorem Has.nil {lo : Nat} {m : Option Nat} {ρ : En} {H : Hp} : Has lo m [] ρ H := fun _ _ e => (by cases e)
noncomputable def bindT : List Nat → List V → Tc → Tc
  | [], _, Γ => Γ
  | x :: ts, vs, Γ => match vs with
    | [] => Γ
    | v :: vs => bindT ts vs ((x, .c v) :: Γ)
/-- Γ' tells no more than Γ -/
def Sub (Γ' Γ : Tc) : Prop := ∀ x t, alook Γ' x = some t → alook Γ x = some t
theorem Sub.cons {Γ : Tc} {x : Nat} {t : Ty} (h : alook Γ x = none) : Sub Γ ((x, t) :: Γ) := fun y u e => by
  show (bif Nat.beq x y then some t else alook Γ y) = some u
  cases hb : Nat.beq x y with
  | true => rw [← Nat.eq_of_beq_eq_true hb, h] at e; cases e
  | false => exact e
theorem Sub.nil {Γ : Tc} : Sub [] Γ := fun _ _ e => by cases e
theorem Sub.and {Γ Γ' : Tc} {x : Nat} {t : Ty} (h : alook Γ x = some t) (hs : Sub Γ' Γ) : Sub ((x, t) :: Γ') Γ := fun y u e => by
  have e : (bif Nat.beq x y then some t else alook Γ' y) = some u := e
  cases hb : Nat.beq x y with
  | true => rw [hb, cond_true] at e; rw [← Nat.eq_of_beq_eq_true hb, h]; exact e
  | false => rw [hb, cond_false] at e; exact hs y u e
theorem Sub.refl {Γ : Tc} : Sub Γ Γ := fun _ _ e => e
theorem Sub.trans {Γ Γ' Γ'' : Tc} (a : Sub Γ Γ') (b : Sub Γ' Γ'') : Sub Γ Γ'' := fun x t e => b x t (a x t e)

structure Cfg (D : Dm) (Γ : Tc) (s : D.ι) (κ : List Nat) (ρ : En) (H : Hp) : Prop where
  low : lowK κ H = true
  fre : ∀ l, D.m = some l → κ.any (Nat.beq l) = false
  st : D.St s H
  has : Has D.lo D.m Γ ρ H
theorem Cfg.grow {D : Dm} {Γ : Tc} {s : D.ι} {κ : List Nat} {ρ : En} {H H' : Hp} (c : Cfg D Γ s κ ρ H) (l : Le none H H') : Cfg D Γ s κ ρ H' := ⟨lowK_mono c.low l.1, c.fre, D.up c.st l, c.has.mono l.any⟩
theorem Cfg.set {D : Dm} {Γ : Tc} {s : D.ι} {κ : List Nat} {ρ : En} {H : Hp} {x : Nat} {t : Ty} {v : V} (c : Cfg D Γ s κ ρ H) (o : t.ok D.lo D.m v H) : Cfg D ((x, t) :: Γ) s κ (ρ.set x v) H := ⟨c.low, c.fre, c.st, c.has.set o⟩
theorem Cfg.sub {D : Dm} {Γ Γ' : Tc} {s : D.ι} {κ : List Nat} {ρ : En} {H : Hp} (c : Cfg D Γ s κ ρ H) (h : Sub Γ' Γ) : Cfg D Γ' s κ ρ H := ⟨c.low, c.fre, c.st, fun x t e => c.has x t (h x t e)⟩
theorem any_beq_ne {κ : List Nat} {a n : Nat} (h : κ.any (Nat.beq a) = false) (hn : n ≠ a) : (n :: κ).any (Nat.beq a) = false := by
  rw [List.any_cons, h, Bool.or_false]
  exact Bool.eq_false_iff.mpr fun e => hn (Nat.eq_of_beq_eq_true e).symm
theorem Cfg.lock {D : Dm} {Γ : Tc} {s : D.ι} {κ : List Nat} {ρ : En} {H : Hp} {l : Nat} {c : C} (g : Cfg D Γ s κ ρ H) (a : isAt D.m H l c) : Cfg D Γ s (l :: κ) ρ H :=
  ⟨by unfold lowK; rw [List.all_cons, Nat.blt_eq.mpr (Hp.get_lt a.2)]; exact g.low, fun k hk => any_beq_ne (g.fre k hk) fun e => a.1 (by rw [e]; exact hk), g.st, g.has⟩
theorem Cfg.new {D : Dm} {Γ : Tc} {s : D.ι} {κ : List Nat} {ρ : En} {H : Hp} (g : Cfg D Γ s κ ρ H) (c : C) : Cfg D Γ s κ ρ (H ++ [c]) ∧ (Ty.d true c).ok H.length D.m (.ref H.length) (H ++ [c]) :=
  ⟨g.grow Le.app, _, rfl, ⟨fun e => Nat.lt_irrefl _ (D.lt g.st e), Hp.get_length⟩, fun _ => Nat.le_refl _⟩
theorem any_beq_lt {κ : List Nat} {H : Hp} (h : lowK κ H = true) : κ.any (Nat.beq H.length) = false := by
  rw [List.any_eq_false]
  intro n hn e
  have h1 := Nat.blt_eq.mp (List.all_eq_true.mp h n hn)
  rw [Nat.eq_of_beq_eq_true e] at h1
  exact Nat.lt_irrefl _ h1

section
variable (S : Sum) (D : Dm) (n : Nat)
/-- an expression; statements that return; statements that go on; a loop -/
def EV (Γ : Tc) (s : D.ι) (e : Ex) (t : Ty) (s' : D.ι) : Prop := ∀ κ ρ H, Cfg D Γ s κ ρ H → ∀ G : Prop, (∀ v H', (run tbl S n).ev κ e ρ H = some (v, H') → Cfg D Γ s' κ ρ H' → Le D.m H H' → t.ok H.length D.m v H' → G) → G
def TE (Γ : Tc) (s : D.ι) (e : Ex) (b : Bool) (s' : D.ι) : Prop := ∀ κ ρ H, Cfg D Γ s κ ρ H → ∀ G : Prop, (∀ H', (run tbl S n).ts κ e ρ H = some (b, H') → Cfg D Γ s' κ ρ H' → Le D.m H H' → G) → G
def XR (Γ : Tc) (s : D.ι) (ss : List Sm) (t : Ty) (s' : D.ι) : Prop := ∀ κ ρ H, Cfg D Γ s κ ρ H → ∀ G : Prop, (∀ v ρ' H', (run tbl S n).xs κ ss ρ H = some (.ret v, ρ', H') → D.St s' H' → Le D.m H H' → t.ok D.lo D.m v H' → G) → G
def XN (Γ : Tc) (s : D.ι) (ss : List Sm) (Γ' : Tc) (s' : D.ι) : Prop := ∀ κ ρ H, Cfg D Γ s κ ρ H → ∀ G : Prop, (∀ ρ' H', (run tbl S n).xs κ ss ρ H = some (.next, ρ', H') → Cfg D Γ' s' κ ρ' H' → Le D.m H H' → G) → G
def FN (Γ : Tc) (s : D.ι) (ts : List Nat) (ss : List Sm) (its : List (List V)) (Γ' : Tc) (s' : D.ι) : Prop := ∀ κ ρ H, Cfg D Γ s κ ρ H → ∀ G : Prop, (∀ ρ' H', forGo (run tbl S n) κ ts ss its ρ H = some (.next, ρ', H') → Cfg D Γ' s' κ ρ' H' → Le D.m H H' → G) → G
def WN (Γ : Tc) (s : D.ι) (c : Ex) (ss : List Sm) (Γ' : Tc) (s' : D.ι) : Prop := ∀ κ ρ H, Cfg D Γ s κ ρ H → ∀ G : Prop, (∀ ρ' H', (run tbl S n).wh κ c ss ρ H = some (.next, ρ', H') → Cfg D Γ' s' κ ρ' H' → Le D.m H H' → G) → G
/-- a statement that goes on -/
def SN (Γ : Tc) (s : D.ι) (st : Sm) (Γ' : Tc) (s' : D.ι) : Prop := ∀ rest κ ρ H, Cfg D Γ s κ ρ H → ∀ G : Prop, (∀ ρ' H', (run tbl S (n + 1)).xs κ (st :: rest) ρ H = (run tbl S n).xs κ rest ρ' H' → Cfg D Γ' s' κ ρ' H' → Le D.m H H' → G) → G
/-- a call that leaves what stood -/
def J1 (f : Nat) (t u : Ty) : Prop := ∀ κ H v, lowK κ H = true → t.weak.ok 0 none v H → ∀ G : Prop, (∀ w H', (run tbl S n).cl κ f [v] H = some (w, H') → Le none H H' → u.ok H.length none w H' → G) → G
def J2 (f : Nat) (t t' u : Ty) : Prop := ∀ κ H v v', lowK κ H = true → t.weak.ok 0 none v H → t'.weak.ok 0 none v' H → ∀ G : Prop, (∀ w H', (run tbl S n).cl κ f [v, v'] H = some (w, H') → Le none H H' → u.ok H.length none w H' → G) → G
def J3 (f : Nat) (t t' t'' u : Ty) : Prop := ∀ κ H v v' v'', lowK κ H = true → t.weak.ok 0 none v H → t'.weak.ok 0 none v' H → t''.weak.ok 0 none v'' H → ∀ G : Prop, (∀ w H', (run tbl S n).cl κ f [v, v', v''] H = some (w, H') → Le none H H' → u.ok H.length none w H' → G) → G
end

section
variable {S : Sum} {D : Dm} {n : Nat} {Γ Γ' Γ₁ : Tc} {s s' s₁ s₂ s₃ : D.ι} {a b d : Ex} {t t' t'' u : Ty} {v w z : V} {i j k : Int} {ss tt b' : List Sm} {x y f : Nat} {c : C} {xs : List V} {p : Bool}
theorem Cfg.put {κ : List Nat} {ρ : En} {H H₀ : Hp} (g : Cfg D Γ s κ ρ H) (l : Le D.m H₀ H) (g₀ : Cfg D Γ₁ s₁ κ ρ H₀) (o : t.ok H₀.length D.m v H) : Cfg D ((x, t) :: Γ) s κ (ρ.set x v) H := g.set (o.lo (D.le g₀.st))
theorem EV.var (h : vlook Γ x = some u) : EV S D (n + 1) Γ s (.var x) u s := fun κ ρ H g G q => bo_c h fun t h1 h2 => by
  obtain ⟨v, e1, e2⟩ := g.has x t h1
  obtain rfl := Option.some.inj h2
  exact q v H (bo_eq e1) g Le.refl e2.old
theorem EV.con (h : ∀ r κ ρ H, (step tbl S r).ev κ a ρ H = some (v, H)) : EV S D (n + 1) Γ s a (.c v) s := fun κ ρ H g G q => q v H (h _ _ _ _) g Le.refl rfl
theorem EV.int : EV S D (n + 1) Γ s (.int i) (.i i) s := EV.con fun _ _ _ _ => rfl
theorem EV.new (h : ∀ r κ ρ H, (step tbl S r).ev κ a ρ H = some (.ref H.length, H ++ [c])) : EV S D (n + 1) Γ s a (.d true c) s := fun κ ρ H g G q => q _ _ (h _ _ _ _) (g.new c).1 Le.app (g.new c).2
theorem EV.and2 (ha : EV S D n Γ s a t s₁) (hb : EV S D n Γ s₁ b u s₂) {κ : List Nat} {ρ : En} {H : Hp} (g : Cfg D Γ s κ ρ H) {G : Prop} (q : ∀ v w H₁ H₂, (run tbl S n).ev κ a ρ H = some (v, H₁) → (run tbl S n).ev κ b ρ H₁ = some (w, H₂) → Cfg D Γ s₂ κ ρ H₂ → Le D.m H H₂ → t.ok H.length D.m v H₂ → u.ok H.length D.m w H₂ → G) : G :=
  ha κ ρ H g G fun v H1 e1 g1 l1 o1 => hb κ ρ H1 g1 G fun w H2 e2 g2 l2 o2 => q v w H1 H2 e1 e2 g2 (l1.trans l2) (o1.mono l2) (o2.lo l1.1)
theorem EV.un (hk : ∀ r κ ρ H H', r.ev κ a ρ H = some (v, H') → (step tbl S r).ev κ b ρ H = some (w, H')) (ha : EV S D n Γ s a (.c v) s₁) : EV S D (n + 1) Γ s b (.c w) s₁ := fun κ ρ H g G q =>
  ha κ ρ H g G fun _ H1 e1 g1 l1 o1 => q _ H1 (hk _ _ _ _ _ (o1 ▸ e1)) g1 l1 rfl
theorem EV.neg (ha : EV S D n Γ s a (.i i) s₁) : EV S D (n + 1) Γ s (.neg a) (.i (-i)) s₁ := EV.un (fun r κ ρ H H' e => bd_eq (f := fun x H₁ => onInt x fun i => some (V.int (-i), H₁)) (x := .int i) e) ha
theorem EV.bin2s (hk : ∀ r κ ρ H H₁ H₂ v w, r.ev κ a ρ H = some (v, H₁) → r.ev κ b ρ H₁ = some (w, H₂) → D.St s₂ H₂ → t.ok 0 D.m v H₂ → u.ok 0 D.m w H₂ → (step tbl S r).ev κ d ρ H = some (z, H₂)) (ha : EV S D n Γ s a t s₁) (hb : EV S D n Γ s₁ b u s₂) : EV S D (n + 1) Γ s d (.c z) s₂ := fun κ ρ H g G q =>
  ha.and2 hb g fun v w H1 H2 e1 e2 g2 l o1 o2 => q _ H2 (hk _ _ _ _ _ _ _ _ e1 e2 g2.st (o1.lo (Nat.zero_le _)) (o2.lo (Nat.zero_le _))) g2 l rfl
theorem EV.bin2 (hk : ∀ r κ ρ H H₁ H₂, r.ev κ a ρ H = some (v, H₁) → r.ev κ b ρ H₁ = some (w, H₂) → (step tbl S r).ev κ d ρ H = some (z, H₂)) (ha : EV S D n Γ s a (.c v) s₁) (hb : EV S D n Γ s₁ b (.c w) s₂) : EV S D (n + 1) Γ s d (.c z) s₂ :=
  EV.bin2s (fun r κ ρ H H₁ H₂ v w e1 e2 _ o1 o2 => by cases o1; cases o2; exact hk r κ ρ H H₁ H₂ e1 e2) ha hb
theorem EV.wk (ha : EV S D n Γ s a t s₁) : EV S D n Γ s a t.weak s₁ := fun κ ρ H g G q => ha κ ρ H g G fun v H1 e1 g1 l1 o1 => q v H1 e1 g1 l1 o1.old
theorem EV.bin {op : Bop} (hk : ∀ H, binop op (.int i) (.int j) H = some (.int k, H)) (ha : EV S D n Γ s a (.i i) s₁) (hb : EV S D n Γ s₁ b (.i j) s₂) : EV S D (n + 1) Γ s (.bin op a b) (.i k) s₂ := EV.bin2 (fun r κ ρ H H₁ H₂ e1 e2 => (bd_eq e1).trans ((bd_eq e2).trans (hk _))) ha hb
theorem EV.tup2 (ha : EV S D n Γ s a (.c v) s₁) (hb : EV S D n Γ s₁ b (.c w) s₂) : EV S D (n + 1) Γ s (.tup [a, b]) (.c (.tup [v, w])) s₂ := EV.bin2 (fun r κ ρ H H₁ H₂ e1 e2 => bd_eq ((bd_eq e1).trans (bd_eq ((bd_eq e2).trans rfl)))) ha hb
theorem EV.tup3 (ha : EV S D n Γ s a (.c v) s₁) (hb : EV S D n Γ s₁ b (.c w) s₂) (hd : EV S D n Γ s₂ d (.c z) s₃) : EV S D (n + 1) Γ s (.tup [a, b, d]) (.c (.tup [v, w, z])) s₃ := fun κ ρ H g G q =>
  ha.and2 hb g fun _ _ H1 H2 e1 e2 g2 l o1 o2 => hd κ ρ H2 g2 G fun _ H3 e3 g3 l3 o3 => q _ H3 (bd_eq ((bd_eq (o1 ▸ e1)).trans (bd_eq ((bd_eq (o2 ▸ e2)).trans (bd_eq ((bd_eq (o3 ▸ e3)).trans rfl)))))) g3 (l.trans l3) rfl
theorem EV.sub (ha : EV S D n Γ s a (.c (.tup xs)) s₁) (hb : EV S D n Γ s₁ b (.i i) s₂) (hn : nth xs i = some w) : EV S D (n + 1) Γ s (.sub a b) (.c w) s₂ := EV.bin2 (fun r κ ρ H H₁ H₂ e1 e2 => (bd_eq e1).trans ((bd_eq e2).trans (bo_eq (show subop (.tup xs) (.int i) _ = some w from hn)))) ha hb
theorem Cfg.call {κ : List Nat} {ρ : En} {H : Hp} (g : Cfg D Γ s κ ρ H) {H' H₀ : Hp} (l : Le none H H') (l0 : Le D.m H₀ H) (o : u.ok H.length none w H') (hf : u.fits) : u.ok H₀.length D.m w H' := o.fit hf l0.1 fun _ e => D.lt g.st e
theorem EV.call1 (hc : J1 S n f t u) (ha : EV S D n Γ s a t s₁) (hf : u.fits := by trivial) : EV S D (n + 1) Γ s (.call f [a]) u s₁ := fun κ ρ H g G q =>
  ha κ ρ H g G fun v H1 e1 g1 l1 o1 => hc κ H1 v g1.low (o1.weak (lo' := 0)) G fun w H2 e2 l2 o2 => q w H2 ((bd_eq ((bd_eq e1).trans rfl)).trans e2) (g1.grow l2) (l1.trans l2.any) (g1.call l2 l1 o2 hf)
theorem EV.call2 (hc : J2 S n f t t' u) (ha : EV S D n Γ s a t s₁) (hb : EV S D n Γ s₁ b t' s₂) (hf : u.fits := by trivial) : EV S D (n + 1) Γ s (.call f [a, b]) u s₂ := fun κ ρ H g G q =>
  ha.and2 hb g fun v w H1 H2 e1 e2 g2 l o1 o2 => hc κ H2 v w g2.low (o1.weak (lo' := 0)) (o2.weak (lo' := 0)) G fun z H3 e3 l3 o3 => q z H3 ((bd_eq ((bd_eq e1).trans (bd_eq ((bd_eq e2).trans rfl)))).trans e3) (g2.grow l3) (l.trans l3.any) (g2.call l3 l o3 hf)
theorem EV.call3 (hc : J3 S n f t t' t'' u) (ha : EV S D n Γ s a t s₁) (hb : EV S D n Γ s₁ b t' s₂) (hd : EV S D n Γ s₂ d t'' s₃) (hf : u.fits := by trivial) : EV S D (n + 1) Γ s (.call f [a, b, d]) u s₃ := fun κ ρ H g G q =>
  ha.and2 hb g fun v w H1 H2 e1 e2 g2 l o1 o2 => hd κ ρ H2 g2 G fun z H3 e3 g3 l3 o3 => hc κ H3 v w z g3.low ((o1.mono l3).weak (lo' := 0)) ((o2.mono l3).weak (lo' := 0)) (o3.weak (lo' := 0)) G fun y H4 e4 l4 o4 =>
    q y H4 ((bd_eq ((bd_eq e1).trans (bd_eq ((bd_eq e2).trans (bd_eq ((bd_eq e3).trans rfl)))))).trans e4) (g3.grow l4) ((l.trans l3).trans l4.any) (g3.call l4 (l.trans l3) o4 hf)
theorem EV.ite (ht : TE S D n Γ s d p s₁) (h1 : p = true → EV S D n Γ s₁ a t s₂) (h2 : p = false → EV S D n Γ s₁ b t s₂) : EV S D (n + 1) Γ s (.ite d a b) t s₂ := fun κ ρ H g G q => ht κ ρ H g G fun H1 e1 g1 l1 => by
  cases p with
  | true => exact h1 rfl κ ρ H1 g1 G fun v H2 e2 g2 l2 o2 => q v H2 ((bd_eq e1).trans e2) g2 (l1.trans l2) (o2.lo l1.1)
  | false => exact h2 rfl κ ρ H1 g1 G fun v H2 e2 g2 l2 o2 => q v H2 ((bd_eq e1).trans e2) g2 (l1.trans l2) (o2.lo l1.1)
theorem TE.cmp {op : Cop} (ha : EV S D n Γ s a t s₁) (hb : EV S D n Γ s₁ b u s₂) (hc : ∀ v w H, t.ok 0 D.m v H → u.ok 0 D.m w H → D.St s₂ H → cmpop op v w H = some p) : TE S D (n + 1) Γ s (.cmp op a b) p s₂ := fun κ ρ H g G q =>
  ha.and2 hb g fun v w H1 H2 e1 e2 g2 l o1 o2 => q H2 ((bd_eq e1).trans ((bd_eq e2).trans (bo_eq (hc v w H2 (o1.lo (Nat.zero_le _)) (o2.lo (Nat.zero_le _)) g2.st)))) g2 l
theorem TE.cc {op : Cop} (hc : ∀ H, cmpop op v w H = some p) (ha : EV S D n Γ s a (.c v) s₁) (hb : EV S D n Γ s₁ b (.c w) s₂) : TE S D (n + 1) Γ s (.cmp op a b) p s₂ := TE.cmp ha hb fun _ _ H o1 o2 _ => by cases o1; cases o2; exact hc H
theorem TE.and {q : Bool} (ha : TE S D n Γ s a p s₁) (hb : p = true → TE S D n Γ s₁ b q s₁) : TE S D (n + 1) Γ s (.and a b) (p && q) s₁ := fun κ ρ H g G k => ha κ ρ H g G fun H1 e1 g1 l1 => by
  cases p with
  | true => exact hb rfl κ ρ H1 g1 G fun H2 e2 g2 l2 => k H2 ((bd_eq e1).trans e2) g2 (l1.trans l2)
  | false => exact k H1 (bd_eq e1) g1 l1
theorem TE.or {q : Bool} (ha : TE S D n Γ s a p s₁) (hb : p = false → TE S D n Γ s₁ b q s₁) : TE S D (n + 1) Γ s (.or a b) (p || q) s₁ := fun κ ρ H g G k => ha κ ρ H g G fun H1 e1 g1 l1 => by
  cases p with
  | false => exact hb rfl κ ρ H1 g1 G fun H2 e2 g2 l2 => k H2 ((bd_eq e1).trans e2) g2 (l1.trans l2)
  | true => exact k H1 (bd_eq e1) g1 l1

theorem XR.ret (h : EV S D n Γ s a t s') : XR S D (n + 1) Γ s (.ret a :: ss) t s' := fun κ ρ H g G q => h κ ρ H g G fun v H1 e1 g1 l1 o1 => q v ρ H1 (bd_eq e1) g1.st l1 (o1.lo (D.le g.st))
theorem XR.retv (h : alook Γ x = some t) : XR S D (n + 2) Γ s (.ret (.var x) :: ss) t s := fun κ ρ H g G q => by
  obtain ⟨v, e1, e2⟩ := g.has x t h
  exact q v ρ H (bd_eq (show (run tbl S (n + 1)).ev κ (.var x) ρ H = some (v, H) from bo_eq e1)) g.st Le.refl e2
theorem XR.asg2 (ha : EV S D n Γ s a t s₁) (hb : EV S D n Γ s₁ b u s₂) (hr : XR S D (n + 1) ((y, u) :: (x, t) :: Γ) s₂ ss t' s') : XR S D (n + 2) Γ s (.asgT [x, y] (.tup [a, b]) :: ss) t' s' := fun κ ρ H g G q =>
  ha.and2 hb g fun v w H1 H2 e1 e2 g2 l o1 o2 => hr κ ((ρ.set x v).set y w) H2 ((g2.set (o1.lo (D.le g.st))).set (o2.lo (D.le g.st))) G fun v3 ρ3 H3 e3 st3 l3 o3 => by
    have e4 : (run tbl S (n + 1)).ev κ (.tup [a, b]) ρ H = some (.tup [v, w], H2) := bd_eq ((bd_eq e1).trans (bd_eq ((bd_eq e2).trans rfl)))
    exact q v3 ρ3 H3 ((bd_eq ((bd_eq e4).trans rfl)).trans e3) st3 (l.trans l3) o3
theorem XR.asgW {p : P} (h : EV S D n Γ s a (.w k p) s₁) (hr : XR S D n ((y, .p false p) :: (x, .i k) :: Γ) s₁ ss t' s') : XR S D (n + 1) Γ s (.asgT [x, y] a :: ss) t' s' := fun κ ρ H g G q => h κ ρ H g G fun v H1 e1 g1 l1 o1 => by
  obtain ⟨l, rfl, o⟩ := o1
  exact hr κ ((ρ.set x (.int k)).set y (.ref l)) H1 ((g1.set (t := .i k) rfl).set (t := .p false p) ⟨l, rfl, o, fun h => by cases h⟩) G fun v2 ρ2 H2 e2 st2 l2 o2 => q v2 ρ2 H2 ((bd_eq ((bd_eq e1).trans rfl)).trans e2) st2 (l1.trans l2) o2
theorem SN.asg (h : EV S D n Γ s a t s₁) : SN S D n Γ s (.asg x a) ((x, t) :: Γ) s₁ := fun rest κ ρ H g G q => h κ ρ H g G fun v H1 e1 g1 l1 o1 => q (ρ.set x v) H1 (bd_eq (bd_eq e1)) (g1.put l1 g o1) l1
theorem SN.exp (h : EV S D n Γ s a t s₁) : SN S D n Γ s (.exp a) Γ s₁ := fun rest κ ρ H g G q => h κ ρ H g G fun v H1 e1 g1 l1 o1 => q ρ H1 (bd_eq (bd_eq e1)) g1 l1
theorem SN.iff (ht : TE S D n Γ s a p s₁) (h1 : p = true → XN S D n Γ s₁ ss Γ' s₂) (h2 : p = false → XN S D n Γ s₁ tt Γ' s₂) : SN S D n Γ s (.iff a ss tt) Γ' s₂ := fun rest κ ρ H g G q => ht κ ρ H g G fun H1 e1 g1 l1 => by
  cases p with
  | true => exact h1 rfl κ ρ H1 g1 G fun ρ2 H2 e2 g2 l2 => q ρ2 H2 (iff_eq.trans ((b3_eq ((bd_eq e1).trans e2)).trans rfl)) g2 (l1.trans l2)
  | false => exact h2 rfl κ ρ H1 g1 G fun ρ2 H2 e2 g2 l2 => q ρ2 H2 (iff_eq.trans ((b3_eq ((bd_eq e1).trans e2)).trans rfl)) g2 (l1.trans l2)
theorem SN.whl (h : WN S D n Γ s a ss Γ' s₁) : SN S D n Γ s (.whl a ss) Γ' s₁ := fun rest κ ρ H g G q => h κ ρ H g G fun ρ1 H1 e1 g1 l1 => q ρ1 H1 (whl_eq.trans ((b3_eq e1).trans rfl)) g1 l1
theorem WN.stop (ht : TE S D n Γ s a false s₁) : WN S D (n + 1) Γ s a ss Γ s₁ := fun κ ρ H g G q => ht κ ρ H g G fun H1 e1 g1 l1 => q ρ H1 (wh_eq.trans ((bd_eq e1).trans rfl)) g1 l1
theorem WN.turn (ht : TE S D n Γ s a true s₁) (hb : XN S D n Γ s₁ ss Γ₁ s₂) (hr : WN S D n Γ₁ s₂ a ss Γ' s') : WN S D (n + 1) Γ s a ss Γ' s' := fun κ ρ H g G q => ht κ ρ H g G fun H1 e1 g1 l1 => hb κ ρ H1 g1 G fun ρ2 H2 e2 g2 l2 => hr κ ρ2 H2 g2 G fun ρ3 H3 e3 g3 l3 =>
  q ρ3 H3 (wh_eq.trans ((bd_eq e1).trans ((b3_eq e2).trans e3))) g3 ((l1.trans l2).trans l3)
theorem XR.seq {st : Sm} (h : SN S D n Γ s st Γ₁ s₁) (hr : XR S D n Γ₁ s₁ ss t s') : XR S D (n + 1) Γ s (st :: ss) t s' := fun κ ρ H g G q => h ss κ ρ H g G fun ρ1 H1 e1 g1 l1 => hr κ ρ1 H1 g1 G fun v ρ2 H2 e2 st2 l2 o2 => q v ρ2 H2 (e1.trans e2) st2 (l1.trans l2) o2
theorem XR.asg (h : EV S D n Γ s a t s₁) (hr : XR S D n ((x, t) :: Γ) s₁ ss t' s') : XR S D (n + 1) Γ s (.asg x a :: ss) t' s' := XR.seq (SN.asg h) hr
theorem XN.seq {st : Sm} (h : SN S D n Γ s st Γ₁ s₁) (hr : XN S D n Γ₁ s₁ ss Γ' s') : XN S D (n + 1) Γ s (st :: ss) Γ' s' := fun κ ρ H g G q => h ss κ ρ H g G fun ρ1 H1 e1 g1 l1 => hr κ ρ1 H1 g1 G fun ρ2 H2 e2 g2 l2 => q ρ2 H2 (e1.trans e2) g2 (l1.trans l2)
theorem XR.iffR (ht : TE S D n Γ s a true s₁) (h : XR S D n Γ s₁ tt t s') : XR S D (n + 1) Γ s (.iff a tt b' :: ss) t s' := fun κ ρ H g G q => ht κ ρ H g G fun H1 e1 g1 l1 => h κ ρ H1 g1 G fun v ρ2 H2 e2 st2 l2 o2 => q v ρ2 H2 (iff_eq.trans ((b3_eq ((bd_eq e1).trans e2)).trans rfl)) st2 (l1.trans l2) o2
theorem XN.nil : XN S D (n + 1) Γ s [] Γ s := fun κ ρ H g G q => q ρ H rfl g Le.refl
theorem XN.one {st : Sm} (h : SN S D (n + 1) Γ s st Γ₁ s₁) : XN S D (n + 2) Γ s [st] Γ₁ s₁ := XN.seq h XN.nil
theorem XN.sub (h : XN S D n Γ s ss Γ₁ s₁) (hs : Sub Γ' Γ₁) : XN S D n Γ s ss Γ' s₁ := fun κ ρ H g G q => h κ ρ H g G fun ρ1 H1 e1 g1 l1 => q ρ1 H1 e1 (g1.sub hs) l1
theorem SN.sub {st : Sm} (h : SN S D n Γ s st Γ₁ s₁) (hs : Sub Γ' Γ₁) : SN S D n Γ s st Γ' s₁ := fun rest κ ρ H g G q => h rest κ ρ H g G fun ρ1 H1 e1 g1 l1 => q ρ1 H1 e1 (g1.sub hs) l1
theorem FN.nil {ts : List Nat} : FN S D n Γ s ts ss [] Γ s := fun κ ρ H g G q => q ρ H rfl g Le.refl
theorem Cfg.sets {κ : List Nat} {H : Hp} : ∀ {ts : List Nat} {vs : List V} {Γ : Tc} {ρ : En}, Cfg D Γ s κ ρ H → Cfg D (bindT ts vs Γ) s κ (En.sets ρ ts vs) H
  | [], [], _, _, g => g
  | [], _ :: _, _, _, g => g
  | _ :: _, [], _, _, g => g
  | x :: ts, v :: vs, _, _, g => Cfg.sets (ts := ts) (vs := vs) (g.set (t := .c v) rfl)
theorem FN.cons {ts : List Nat} {vs : List V} (h : XN S D n (bindT ts vs Γ) s ss Γ₁ s₁) {its : List (List V)} (hr : FN S D n Γ₁ s₁ ts ss its Γ' s') : FN S D n Γ s ts ss (vs :: its) Γ' s' := fun κ ρ H g G q => h κ (En.sets ρ ts vs) H g.sets G fun ρ1 H1 e1 g1 l1 =>
  hr κ ρ1 H1 g1 G fun ρ2 H2 e2 g2 l2 => q ρ2 H2 ((b3_eq e1).trans e2) g2 (l1.trans l2)
theorem FN.then {ts : List Nat} {its its' : List (List V)} (h : FN S D n Γ s ts ss its Γ₁ s₁) (hr : FN S D n Γ₁ s₁ ts ss its' Γ' s') : FN S D n Γ s ts ss (its ++ its') Γ' s' := by
  induction its generalizing Γ s with
  | nil => exact fun κ ρ H g G q => h κ ρ H g G fun ρ1 H1 e1 g1 l1 => by obtain ⟨_, rfl, rfl⟩ := i3 e1; exact hr κ ρ H g1 G q
  | cons it its ih =>
    refine fun κ ρ H g G q => h κ ρ H g G fun ρ1 H1 e1 g1 l1 => hr κ ρ1 H1 g1 G fun ρ2 H2 e2 g2 l2 => q ρ2 H2 ?_ g2 (l1.trans l2)
    clear h hr q ih
    have go : ∀ (its : List (List V)) ρ H, forGo (run tbl S n) κ ts ss its ρ H = some (.next, ρ1, H1) → forGo (run tbl S n) κ ts ss (its ++ its') ρ H = some (.next, ρ2, H2) := fun its => by
      induction its with
      | nil => intro ρ H e; obtain ⟨_, rfl, rfl⟩ := i3 e; exact e2
      | cons a l ih =>
        intro ρ H e
        refine b3_c e fun fl ρ₁ H₁ e3 e4 => (b3_eq e3).trans ?_
        cases fl with
        | ret v => cases e4
        | next => exact ih _ _ e4
        | cont => exact ih _ _ e4
    exact go (it :: its) ρ H e1
/-- the loop over a list -/
theorem FN.fold {α β : Type} {ts : List Nat} {it : α → List V} (Γ : β → Tc) (f : β → D.ι) (stp : β → α → β) (I : β → List α → Prop) (h : ∀ a s l, I s (a :: l) → XN S D n (bindT ts (it a) (Γ s)) (f s) ss (Γ (stp s a)) (f (stp s a)) ∧ I (stp s a) l) : ∀ (l : List α) (s : β), I s l → FN S D n (Γ s) (f s) ts ss (l.map it) (Γ (l.foldl stp s)) (f (l.foldl stp s))
  | [], s, _ => FN.nil
  | a :: l, s, hI => FN.cons (h a s l hI).1 (FN.fold Γ f stp I h l (stp s a) (h a s l hI).2)
/-- what is walked -/
def IT (S : Sum) (D : Dm) (n : Nat) (Γ : Tc) (s : D.ι) (ts : List Nat) (it : It) (its : List (List V)) (s' : D.ι) : Prop := ∀ κ ρ H, Cfg D Γ s κ ρ H → ∀ G : Prop, (∀ κ' H', iter (run tbl S n) κ ts it ρ H = some (its, κ', H') → Cfg D Γ s' κ' ρ H' → Cfg D Γ s' κ ρ H' → Le D.m H H' → G) → G
theorem SN.for_ {ts : List Nat} {it : It} {body : List Sm} {its : List (List V)} (hi : IT S D n Γ s ts it its s₁) (hb : FN S D n Γ s₁ ts body its Γ' s₂) : SN S D n Γ s (.for_ ts it body) Γ' s₂ := fun rest κ ρ H g G q =>
  hi κ ρ H g G fun κ' H1 e1 g1 g1' l1 => hb κ' ρ H1 g1 G fun ρ2 H2 e2 g2 l2 => q ρ2 H2 (for_eq.trans ((b3_eq ((b3_eq e1).trans e2)).trans rfl)) ⟨lowK_mono g1'.low l2.1, g1'.fre, g2.st, g2.has⟩ (l1.trans l2)
theorem IT.lst {m : Nat} {b : Bool} (h : EV S D n Γ s a (.d b (.lst xs)) s₁) : IT S D n Γ s [m] (.ovr a) (xs.map fun v => [v]) s₁ := fun κ ρ H g G q => h κ ρ H g G fun v H1 e1 g1 l1 o1 => by
  obtain ⟨l, rfl, o, _⟩ := o1
  exact q (l :: κ) H1 ((bd_eq e1).trans (bo_eq o.2)) (g1.lock o) g1 l1
theorem IT.dic {m : Nat} {b : Bool} {es : List (List Int × V)} (h : EV S D n Γ s a (.d b (.dic es)) s₁) (hk : keysOk es = true) : IT S D n Γ s [m] (.ovr a) (es.map fun e => [.tup (e.1.map .int)]) s₁ := fun κ ρ H g G q => h κ ρ H g G fun v H1 e1 g1 l1 o1 => by
  obtain ⟨l, rfl, o, _⟩ := o1
  exact q (l :: κ) H1 ((bd_eq e1).trans ((bo_eq o.2).trans (bi_eq hk))) (g1.lock o) g1 l1
theorem IT.enuT {m m' : Nat} (h : EV S D n Γ s a (.c (.tup xs)) s₁) : IT S D n Γ s [m, m'] (.enu a) (enums 0 xs) s₁ := fun κ ρ H g G q => h κ ρ H g G fun v H1 e1 g1 l1 o1 => q κ H1 (bd_eq (f := fun v H₁ => on2 [m, m'] (onSeq v (fun xs => some (enums 0 xs, κ, H₁)) fun n => bo (lstAt H₁ n) fun xs => some (enums 0 xs, n :: κ, H₁))) (x := .tup xs) (o1 ▸ e1)) g1 g1 l1
theorem IT.enuL {m m' : Nat} {b : Bool} (h : EV S D n Γ s a (.d b (.lst xs)) s₁) : IT S D n Γ s [m, m'] (.enu a) (enums 0 xs) s₁ := fun κ ρ H g G q => h κ ρ H g G fun v H1 e1 g1 l1 o1 => by
  obtain ⟨l, rfl, o, _⟩ := o1
  exact q (l :: κ) H1 (bd_eq (f := fun v H₁ => on2 [m, m'] (onSeq v (fun xs => some (enums 0 xs, κ, H₁)) fun n => bo (lstAt H₁ n) fun xs => some (enums 0 xs, n :: κ, H₁))) (x := .ref l) e1 |>.trans (bo_eq (f := fun xs => some (enums 0 xs, l :: κ, H1)) (lstAt_of o.2))) (g1.lock o) g1 l1
theorem IT.rng {m : Nat} (h : EV S D n Γ s a (.i i) s₁) (hb : -100000 ≤ i ∧ i ≤ 100000) : IT S D n Γ s [m] (.rng a) (rngs 0 i.toNat) s₁ := fun κ ρ H g G q => h κ ρ H g G fun v H1 e1 g1 l1 o1 =>
  q κ H1 (bd_eq (f := fun v H₁ => onInt v fun n => on1 [m] (bi (decide (-100000 ≤ n) && decide (n ≤ 100000)) (some (rngs 0 n.toNat, κ, H₁)))) (x := .int i) (o1 ▸ e1) |>.trans (bi_eq (by rw [decide_eq_true hb.1, decide_eq_true hb.2]; rfl))) g1 g1 l1
theorem IT.rng2 {m : Nat} (ha : EV S D n Γ s a (.i i) s₁) (hb : EV S D n Γ s₁ b (.i j) s₂) (h1 : -100000 ≤ i ∧ i ≤ 100000) (h2 : -100000 ≤ j ∧ j ≤ 100000) : IT S D n Γ s [m] (.rng2 a b) (rngs i (j - i).toNat) s₂ := fun κ ρ H g G q => ha.and2 hb g fun v w H1 H2 e1 e2 g2 l o1 o2 =>
  q κ H2 (bd_eq (f := fun v H₁ => onInt v fun m' => bd ((run tbl S n).ev κ b ρ H₁) fun v' H₂ => onInt v' fun n => on1 [m] (bi ((decide (-100000 ≤ m') && decide (m' ≤ 100000)) && (decide (-100000 ≤ n) && decide (n ≤ 100000))) (some (rngs m' (n - m').toNat, κ, H₂)))) (x := .int i) (o1 ▸ e1) |>.trans ((bd_eq (f := fun v' H₂ => onInt v' fun n => on1 [m] (bi ((decide (-100000 ≤ i) && decide (i ≤ 100000)) && (decide (-100000 ≤ n) && decide (n ≤ 100000))) (some (rngs i (n - i).toNat, κ, H₂)))) (x := .int j) (o2 ▸ e2)).trans (bi_eq (by rw [decide_eq_true h1.1, decide_eq_true h1.2, decide_eq_true h2.1, decide_eq_true h2.2]; rfl)))) g2 g2 l
theorem cl_of {F : Fn} {κ : List Nat} {vs : List V} {H H' : Hp} {ρ' : En} (hS : S f κ vs H = none) (hF : tbl f = some F) (hl : Nat.beq F.params.length vs.length = true) (e : (run tbl S n).xs κ F.body (En.sets [] F.params vs) H = some (.ret w, ρ', H')) : (run tbl S (n + 1)).cl κ f vs H = some (w, H') := by
  show (match S f κ vs H with | some res => res | none => _) = _
  rw [hS]
  exact (bo_eq hF).trans ((bi_eq hl).trans ((b3_eq e).trans rfl))
theorem J1.of {F : Fn} (hS : ∀ κ v H, S f κ [v] H = none) (hF : tbl f = some F) (hp : F.params = [x]) (hb : ∀ k, XR S (D0 k) n [(x, t.weak)] () F.body u ()) : J1 S (n + 1) f t u := fun κ H v lo o G q =>
  hb H.length κ (En.sets [] [x] [v]) H ⟨lo, (fun l e => by cases e), Nat.le_refl _, Has.nil.set o.up⟩ G fun w ρ' H' e1 _ l1 o1 => q w H' (cl_of (hS _ _ _) hF (by rw [hp]; rfl) (by rw [hp]; exact e1)) l1 o1
theorem J2.of {F : Fn} (hS : ∀ κ v v' H, S f κ [v, v'] H = none) (hF : tbl f = some F) (hp : F.params = [x, y]) (hb : ∀ k, XR S (D0 k) n [(y, t'.weak), (x, t.weak)] () F.body u ()) : J2 S (n + 1) f t t' u := fun κ H v v' lo o o' G q =>
  hb H.length κ (En.sets [] [x, y] [v, v']) H ⟨lo, (fun l e => by cases e), Nat.le_refl _, (Has.nil.set o.up).set o'.up⟩ G fun w ρ' H' e1 _ l1 o1 => q w H' (cl_of (hS _ _ _ _) hF (by rw [hp]; rfl) (by rw [hp]; exact e1)) l1 o1
theorem J3.of {F : Fn} {z : Nat} (hS : ∀ κ v v' v'' H, S f κ [v, v', v''] H = none) (hF : tbl f = some F) (hp : F.params = [x, y, z]) (hb : ∀ k, XR S (D0 k) n [(z, t''.weak), (y, t'.weak), (x, t.weak)] () F.body u ()) : J3 S (n + 1) f t t' t'' u := fun κ H v v' v'' lo o o' o'' G q =>
  hb H.length κ (En.sets [] [x, y, z] [v, v', v'']) H ⟨lo, (fun l e => by cases e), Nat.le_refl _, ((Has.nil.set o.up).set o'.up).set o''.up⟩ G fun w ρ' H' e1 _ l1 o1 => q w H' (cl_of (hS _ _ _ _ _) hF (by rw [hp]; rfl) (by rw [hp]; exact e1)) l1 o1
/-- a new cell is made and worked on to the end -/
theorem XR.mut {ι : Type} {mk : ι → C} {a0 a1 : ι} {lo : Nat} (ha : EV S (D0 lo) n Γ () a (.d true (mk a0)) ()) (hr : ∀ l, XR S (Mt mk lo l) n ((x, .c (.ref l)) :: Γ) a0 ss (.c (.ref l)) a1) : XR S (D0 lo) (n + 1) Γ () (.asg x a :: ss) (.d true (mk a1)) () := fun κ ρ H g G q =>
  ha κ ρ H g G fun w H1 e1 g1 l1 o1 => by
    obtain ⟨l, rfl, o, hl⟩ := o1
    have hl := hl rfl
    have ne : ∀ k, k < H.length → some l ≠ some k := fun k hk e => by cases e; exact absurd hk (Nat.not_lt.mpr hl)
    have g2 : Cfg (Mt mk lo l) Γ a0 κ ρ H1 := ⟨g1.low, fun k e => by
        cases e
        rw [List.any_eq_false]
        intro n hn e
        have h1 := Nat.blt_eq.mp (List.all_eq_true.mp g.low n hn)
        rw [← Nat.eq_of_beq_eq_true e] at h1
        exact absurd h1 (Nat.not_lt.mpr hl), ⟨o.2, g1.st⟩, fun x t e => by
        obtain ⟨v, e1, e2⟩ := g.has x t e
        exact ⟨v, e1, e2.turn (fun _ h => h) fun k c a => ⟨ne k (Hp.get_lt a.2), (a.mono l1).2⟩⟩⟩
    refine hr l κ (ρ.set x (.ref l)) H1 (g2.set (t := .c (.ref l)) rfl) G fun v2 ρ2 H2 e2 st2 l2 o2 => ?_
    cases o2
    exact q _ ρ2 H2 ((bd_eq (bd_eq e1)).trans e2) st2.2 ⟨Nat.le_trans l1.1 l2.1, fun k hk _ => (l2.2 k (Nat.lt_of_lt_of_le hk l1.1) (ne k hk)).trans (l1.2 k hk fun e => by cases e)⟩ ⟨l, rfl, ⟨(fun e => by cases e), st2.1⟩, fun _ => Nat.le_trans g.st hl⟩
/-- from a walk to a summary -/
theorem Le.ex {H H' : Hp} (h : Le none H H') : ∃ J, H' = H ++ J := by
  induction H generalizing H' with
  | nil => exact ⟨H', rfl⟩
  | cons c r ih =>
    cases H' with
    | nil => exact absurd h.1 (Nat.not_succ_le_zero _)
    | cons c' r' =>
      have h0 : some c' = some c := h.2 0 (Nat.succ_pos _) fun e => by cases e
      obtain ⟨J, hJ⟩ := ih (H' := r') ⟨Nat.le_of_succ_le_succ h.1, fun l hl _ => h.2 (l + 1) (Nat.succ_lt_succ hl) fun e => by cases e⟩
      exact ⟨J, by rw [Option.some.inj h0, hJ]; rfl⟩
theorem Sd.low {M : Nat} {κ : List Nat} {vs : List V} {H H' : Hp} (x : Sd M f (κ.filter fun i => Nat.blt i H.length) vs H v H') : Sd M f κ vs H v H' := fun prog w base F a as σ s A Q EE B hF hat hA R rs h => x prog w base F a as σ s A Q EE B hF hat hA R rs fun s' σ' u P ru =>
  h s' σ' u ⟨P.same, P.pre, P.new, ⟨P.keep.1, fun b o e hx hn => P.keep.2 b o e hx fun n hb => List.mem_filter.mpr ⟨hn n hb, Nat.blt_eq.mpr (by rw [← R.len]; exact (List.getElem?_eq_some_iff.mp hb).1)⟩⟩, P.tups, P.rel⟩ ru
theorem low_filter {κ : List Nat} {H : Hp} : lowK (κ.filter fun i => Nat.blt i H.length) H = true := List.all_eq_true.mpr fun n hn => (List.mem_filter.mp hn).2
theorem sd_ofC {M : Nat} {κ : List Nat} {vs : List V} {H H' : Hp} (hS : SOK S M) (e : (run tbl S n).cl κ f vs H = some (v, H')) (l : Le none H H') (hv : v.bel H.length = true) : Sd (n + M) f κ vs H v H := by
  obtain ⟨J, rfl⟩ := l.ex; exact (Sd.run hS e).forget hv
theorem sd_ofD {M : Nat} {κ : List Nat} {vs : List V} {H H' : Hp} (hS : SOK S M) (e : (run tbl S n).cl κ f vs H = some (w, H')) (l : Le none H H') (o : (Ty.d true c).ok H.length none w H') (hc : c.bel H.length = true) : Sd (n + M) f κ vs H (.ref H.length) (H ++ [c]) := by
  obtain ⟨J, rfl⟩ := l.ex
  obtain ⟨k, rfl, a, hk⟩ := o
  exact (Sd.run hS e).forgetNew (hk rfl) a.2 hc
end
end Mine
end

section
/-! Rational numbers: summary SA. -/
set_option maxRecDepth 100000
set_option linter.all false
namespace Mine
open PySem

section
variable {S : Sum} {D : Dm} {n : Nat} {Γ Γ' Γ₁ : Tc} {s s' s₁ s₂ s₃ : D.ι} {a b d : Ex} {t t' t'' u : Ty} {v w z : V} {i j k : Int} {ss tt : List Sm} {x y f : Nat} {c : C} {xs : List V} {p : Bool}
theorem SN.asg2 (ha : EV S D n Γ s a t s₁) (hb : EV S D n Γ s₁ b u s₂) : SN S D (n + 1) Γ s (.asgT [x, y] (.tup [a, b])) ((y, u) :: (x, t) :: Γ) s₂ := fun rest κ ρ H g G q =>
  ha.and2 hb g fun v w H1 H2 e1 e2 g2 l o1 o2 => by
    have e4 : (run tbl S (n + 1)).ev κ (.tup [a, b]) ρ H = some (.tup [v, w], H2) := bd_eq ((bd_eq e1).trans (bd_eq ((bd_eq e2).trans rfl)))
    exact q ((ρ.set x v).set y w) H2 (bd_eq ((bd_eq e4).trans rfl)) ((g2.set (o1.lo (D.le g.st))).set (o2.lo (D.le g.st))) l
theorem EV.bi1 {f : Bi} (hb : ∀ H, biop f [v] H = some (w, H)) (ha : EV S D n Γ s a (.c v) s₁) : EV S D (n + 1) Γ s (.bi f [a]) (.c w) s₁ := EV.un (fun r κ ρ H H' e => (bd_eq ((bd_eq e).trans rfl)).trans (hb _)) ha
theorem J2.hit (h : ∀ κ H, S f κ [v, w] H = some (some (z, H))) : J2 S (n + 1) f (.c v) (.c w) (.c z) := fun κ H x y lo o o' G q => by
  cases o; cases o'
  refine q z H ?_ Le.refl rfl
  show (match S f κ [v, w] H with | some res => res | none => _) = _
  rw [h]
theorem J1.hit (h : ∀ κ H, S f κ [v] H = some (some (z, H))) : J1 S (n + 1) f (.c v) (.c z) := fun κ H x lo o G q => by
  cases o
  refine q z H ?_ Le.refl rfl
  show (match S f κ [v] H with | some res => res | none => _) = _
  rw [h]
theorem mul_k (h1 : small i = true) (h2 : small j = true) (H : Hp) : binop .mul (.int i) (.int j) H = some (.int (i * j), H) := by
  show bi (small i && small j) _ = _
  rw [h1, h2]; rfl
theorem eq_k (h : decide (i = j) = p) (H : Hp) : cmpop .eq (.int i) (.int j) H = some p := congrArg some h
theorem ne_k (h : (!decide (i = j)) = p) (H : Hp) : cmpop .ne (.int i) (.int j) H = some p := congrArg some h
end

/-! ## the greatest common divisor -/
noncomputable def gc : Ex := .cmp .ne (.var 1) (.int 0)
noncomputable def gb : List Sm := [.asgT [0, 1] (.tup [(.var 1), (.bin .mod (.var 0) (.var 1))])]
theorem fmod_nat (a b : Nat) : ((a : Int)).fmod (b : Int) = ((a % b : Nat) : Int) := by
  rw [Int.fmod_eq_emod_of_nonneg _ (Int.natCast_nonneg b)]; rfl
theorem half_mod {b r : Nat} (h : r ≤ b) (hr : 0 < r) : 2 * (b % r) < b := by
  have h1 := Nat.mod_lt b hr
  have h2 : b % r ≤ b - r := by rw [Nat.mod_eq_sub_mod h]; exact Nat.mod_le _ _
  omega
theorem two_sub {x y : Nat} {t u t' u' : Ty} (hxy : Nat.beq x y = false) {Γ : Tc} : Sub [(x, t), (y, u)] ((y, u) :: (x, t) :: Γ) := fun z q e => by
  have e : (bif Nat.beq x z then some t else bif Nat.beq y z then some u else none) = some q := e
  show (bif Nat.beq y z then some u else bif Nat.beq x z then some t else _) = some q
  cases h1 : Nat.beq x z with
  | true => rw [Nat.eq_of_beq_eq_true h1] at hxy; rw [beq_sym hxy, cond_false, cond_true]; rw [h1] at e; exact e
  | false =>
    rw [h1, cond_false] at e
    cases h2 : Nat.beq y z with
    | true => rw [h2] at e; exact e
    | false => rw [h2] at e; cases e
section
variable {S : Sum} {D : Dm} {s : D.ι} {n : Nat}
theorem gcd_test {a b : Nat} {p : Bool} (h : (!decide ((b : Int) = 0)) = p) : TE S D (n + 2) [(0, .i a), (1, .i b)] s gc p s := TE.cc (ne_k h) (EV.var rfl) EV.int
theorem gcd_body {a b : Nat} (hb : ¬ (b : Int) = 0) : XN S D (n + 5) [(0, .i a), (1, .i b)] s gb [(0, .i b), (1, .i (a % b : Nat))] s :=
  XN.sub (XN.one (SN.asg2 (EV.var rfl) (EV.bin (fun H => by
    show bi (!decide ((b : Int) = 0)) _ = _
    rw [decide_eq_false hb, fmod_nat]; rfl) (EV.var rfl) (EV.var rfl)))) (two_sub (t' := .i 0) (u' := .i 0) rfl)
theorem gcd_w : ∀ (k m a b : Nat), b < 2 ^ k → WN S D (m + 2 * k + 7) [(0, .i a), (1, .i b)] s gc gb [(0, .i (Nat.gcd a b : Nat)), (1, .i 0)] s
  | 0, m, a, b, h => by
    have hb : b = 0 := Nat.lt_one_iff.mp h
    subst hb
    rw [Nat.gcd_zero_right]
    exact WN.stop (gcd_test rfl)
  | k + 1, m, a, b, h => by
    by_cases hb : b = 0
    · subst hb
      rw [Nat.gcd_zero_right]
      exact WN.stop (gcd_test rfl)
    · have hb' : ¬ (b : Int) = 0 := fun e => hb (Int.ofNat_inj.mp e)
      refine WN.turn (n := m + 2 * k + 8) (gcd_test (by rw [decide_eq_false hb']; rfl)) (gcd_body (n := m + 2 * k + 3) hb') ?_
      by_cases hr : a % b = 0
      · have : Nat.gcd a b = b := by rw [Nat.gcd_comm, Nat.gcd_rec, hr, Nat.gcd_zero_left]
        rw [this, hr]
        exact WN.stop (gcd_test rfl)
      · have hr' : ¬ ((a % b : Nat) : Int) = 0 := fun e => hr (Int.ofNat_inj.mp e)
        have hlt : a % b < b := Nat.mod_lt _ (Nat.pos_of_ne_zero hb)
        have h2 := half_mod (Nat.le_of_lt hlt) (Nat.pos_of_ne_zero hr)
        have e1 : Nat.gcd (a % b) (b % (a % b)) = Nat.gcd a b :=
          calc Nat.gcd (a % b) (b % (a % b)) = Nat.gcd (b % (a % b)) (a % b) := Nat.gcd_comm _ _
            _ = Nat.gcd (a % b) b := (Nat.gcd_rec _ _).symm
            _ = Nat.gcd b a := (Nat.gcd_rec b a).symm
            _ = Nat.gcd a b := Nat.gcd_comm _ _
        rw [← e1]
        exact WN.turn (gcd_test (by rw [decide_eq_false hr']; rfl)) (gcd_body (n := m + 2 * k + 2) hr') (gcd_w k m (a % b) (b % (a % b)) (by rw [Nat.pow_succ] at h; omega))
end
theorem abs_k (i : Int) (H : Hp) : biop .abs [.int i] H = some (.int (i.natAbs : Nat), H) := by
  have : (if i < 0 then -i else i) = (i.natAbs : Int) := by split <;> omega
  exact congrArg (fun z => some (V.int z, H)) this
theorem gcd_J {S : Sum} (hS : ∀ κ v v' H, S 1 κ [v, v'] H = none) (k m : Nat) (a b : Int) (h : b.natAbs < 2 ^ k) : J2 S (m + 2 * k + 10) 1 (.i a) (.i b) (.i (Int.gcd a b : Nat)) :=
  J2.of (x := 0) (y := 1) (F := fn1) hS rfl rfl fun lo => by
    show XR S (D0 lo) (m + 2 * k + 9) _ _ [.asgT [0, 1] (.tup [(.bi .abs [(.var 0)]), (.bi .abs [(.var 1)])]), .whl gc gb, .ret (.var 0)] _ _
    exact XR.seq (SN.sub (SN.asg2 (EV.bi1 (abs_k a) (EV.var rfl)) (EV.bi1 (abs_k b) (EV.var rfl))) (two_sub (t' := .i 0) (u' := .i 0) rfl)) (XR.seq (SN.whl (gcd_w k m a.natAbs b.natAbs h)) (XR.retv rfl))

/-! ## the summaries -/
noncomputable def L128 : Nat := 2 ^ 128
theorem ints_eq : ∀ {ks : List V} {k : List Int}, V.ints ks = some k → ks = k.map .int
  | [], k, h => by obtain rfl := Option.some.inj h; rfl
  | v :: r, k, h => onInt_c (M := fun v => v :: r = k.map .int) h fun i h => bo_c h fun is h1 h => by obtain rfl := Option.some.inj h; rw [ints_eq h1]; rfl
theorem keyOf_eq {v : V} {k : List Int} (h : keyOf v = some k) : v = .tup (k.map .int) := keyOf_c (M := fun v => v = .tup (k.map .int)) h fun xs h => by rw [ints_eq h]
noncomputable def prV (t : Int × Int) : V := .tup [.int t.1, .int t.2]
noncomputable def p2 (v : V) : Option (Int × Int) := bo (keyOf v) two
theorem p2_eq {v : V} {t : Int × Int} (h : p2 v = some t) : v = prV t := bo_c h fun k h1 h => by rw [keyOf_eq h1, two_eq h]; rfl
noncomputable def ratG (t b : Int) : Int := if 0 < b then (Int.gcd t b : Nat) else 0 - (Int.gcd t b : Nat)
noncomputable def ratV (t b : Int) : V := .tup [.int (t.fdiv (ratG t b)), .int (b.fdiv (ratG t b))]
noncomputable def ratOk (b : Int) : Bool := !decide (b = 0) && Nat.blt b.natAbs L128
noncomputable def sml (x y : Int × Int) : Bool := small x.1 && (small x.2 && (small y.1 && small y.2))
/-- what the four operations hand to rat -/
noncomputable def rat4 (f : Nat) (x y : Int × Int) : Int × Int := bif Nat.beq f 3 then (x.1 * y.2 + y.1 * x.2, x.2 * y.2) else bif Nat.beq f 4 then (x.1 * y.2 - y.1 * x.2, x.2 * y.2) else bif Nat.beq f 5 then (x.1 * y.1, x.2 * y.2) else (x.1 * y.2, x.2 * y.1)
noncomputable def s1 (vs : List V) (H : Hp) : Option (Option (V × Hp)) := bo (two vs) fun u => onInt u.1 fun a => onInt u.2 fun b => bi (Nat.blt b.natAbs L128) (some (some (.int (Int.gcd a b : Nat), H)))
noncomputable def s2 (vs : List V) (H : Hp) : Option (Option (V × Hp)) := bo (two vs) fun u => onInt u.1 fun a => onInt u.2 fun b => bi (ratOk b) (some (some (ratV a b, H)))
noncomputable def s4 (f : Nat) (vs : List V) (H : Hp) : Option (Option (V × Hp)) := bo (two vs) fun u => bo (p2 u.1) fun x => bo (p2 u.2) fun y => bi (sml x y && ratOk (rat4 f x y).2) (some (some (ratV (rat4 f x y).1 (rat4 f x y).2, H)))
noncomputable def s7 (vs : List V) (H : Hp) : Option (Option (V × Hp)) := bo (one vs) fun u => bo (p2 u) fun x => some (some (.tup [.int (0 - x.1), .int x.2], H))
noncomputable def SG : Sum := fun f κ vs H => bif Nat.beq f 1 then s1 vs H else none
noncomputable def SR : Sum := fun f κ vs H => bif Nat.beq f 2 then s2 vs H else SG f κ vs H
noncomputable def SA : Sum := fun f κ vs H => bif Nat.ble 3 f && Nat.ble f 6 then s4 f vs H else bif Nat.beq f 7 then s7 vs H else SR f κ vs H

theorem beq_c' {a b : Nat} {x y r : Option (Option (V × Hp))} {G : Prop} (e : (bif Nat.beq a b then x else y) = r) (k1 : a = b → x = r → G) (k2 : y = r → G) : G := by
  cases h : Nat.beq a b with
  | true => rw [h] at e; exact k1 (Nat.eq_of_beq_eq_true h) e
  | false => rw [h] at e; exact k2 e
theorem J2.sum {S : Sum} {M n f : Nat} {κ : List Nat} {v w z : V} {H : Hp} (hS : SOK S M) (h : J2 S n f (.c v) (.c w) (.c z)) (hz : z.bel H.length = true) : Sd (n + M) f κ [v, w] H z H :=
  Sd.low (h _ H v w low_filter rfl rfl _ fun y H' e l o => by cases o; exact sd_ofC hS e l hz)
theorem J1.sum {S : Sum} {M n f : Nat} {κ : List Nat} {v z : V} {H : Hp} (hS : SOK S M) (h : J1 S n f (.c v) (.c z)) (hz : z.bel H.length = true) : Sd (n + M) f κ [v] H z H :=
  Sd.low (h _ H v low_filter rfl _ fun y H' e l o => by cases o; exact sd_ofC hS e l hz)
theorem SG_ok : SOK SG 266 := fun f κ vs H v H' e => beq_c' e (fun hf e => bo_c e fun u h1 e => by
  obtain ⟨u1, u2⟩ := u
  rw [hf, two_eq h1]
  dsimp only at e ⊢
  apply onInt_c e; intro a e
  apply onInt_c e; intro b e
  refine bi_c e fun hb e => ?_
  obtain ⟨rfl, rfl⟩ := i2 (Option.some.inj e)
  exact J2.sum (n := 266) sok_none (gcd_J (fun _ _ _ _ => rfl) 128 0 a b (Nat.blt_eq.mp hb)) rfl) fun e => (nS e).elim

theorem ratG_ne {t b : Int} (hb : b ≠ 0) : ratG t b ≠ 0 := by
  unfold ratG
  have : Int.gcd t b ≠ 0 := fun e => hb (Int.gcd_eq_zero_iff.mp e).2
  split <;> omega
theorem ratG_small {t b : Int} (hb : b ≠ 0) (hl : b.natAbs < L128) : small (ratG t b) = true := by
  have hg : Int.gcd t b ≤ b.natAbs := Nat.gcd_le_right _ (Int.natAbs_pos.mpr hb)
  have h1 : (ratG t b).natAbs = Int.gcd t b := by unfold ratG; split <;> omega
  have h2 : L128 ≤ lim := by decide +kernel
  unfold small
  rw [h1]
  exact Nat.ble_eq.mpr (by omega)
theorem div_k {i j : Int} (h1 : j ≠ 0) (h2 : small j = true) (H : Hp) : binop .fdiv (.int i) (.int j) H = some (.int (i.fdiv j), H) := by
  show bi (!decide (j = 0) && small j) _ = _
  rw [decide_eq_false h1, h2]; rfl
theorem rat_J {S : Sum} (hS : ∀ κ v v' H, S 2 κ [v, v'] H = none) (h1 : ∀ a b, b.natAbs < L128 → ∀ κ H, S 1 κ [.int a, .int b] H = some (some (.int (Int.gcd a b : Nat), H))) (m : Nat) (t b : Int) (h : ratOk b = true) : J2 S (m + 9) 2 (.i t) (.i b) (.c (ratV t b)) :=
  and_c h fun hb hl => by
    have hb : b ≠ 0 := by simpa using hb
    have hl := Nat.blt_eq.mp hl
    have hg := ratG_ne (t := t) hb
    have hs := ratG_small (t := t) hb hl
    refine J2.of (x := 8) (y := 6) (F := fn2) hS rfl rfl fun lo => ?_
    show XR S (D0 lo) (m + 8) _ _ [.iff (.cmp .eq (.var 6) (.int 0)) [.bad] [], .asg 7 (.ite (.cmp .gt (.var 6) (.int 0)) (.call 1 [(.var 8), (.var 6)]) (.bin .sub (.int 0) (.call 1 [(.var 8), (.var 6)]))), .ret (.tup [(.bin .fdiv (.var 8) (.var 7)), (.bin .fdiv (.var 6) (.var 7))])] _ _
    have call : ∀ (m : Nat) (Γ : Tc), vlook Γ 8 = some (.i t) → vlook Γ 6 = some (.i b) → EV S (D0 lo) (m + 3) Γ () (.call 1 [(.var 8), (.var 6)]) (.i (Int.gcd t b : Nat)) () := fun m Γ g8 g6 => EV.call2 (J2.hit (h1 t b hl)) (EV.var g8) (EV.var g6)
    refine XR.seq (SN.iff (TE.cc (p := false) (eq_k (decide_eq_false hb)) (EV.var rfl) EV.int) (fun h => by cases h) fun _ => XN.nil) ?_
    refine XR.asg (t := .i (ratG t b)) (EV.ite (p := decide (0 < b)) (TE.cc (fun H => rfl) (EV.var rfl) EV.int) (fun hp => ?_) fun hp => ?_) (XR.ret (EV.tup2 (EV.bin (div_k hg hs) (EV.var rfl) (EV.var rfl)) (EV.bin (div_k hg hs) (EV.var rfl) (EV.var rfl))))
    · rw [ratG, if_pos (of_decide_eq_true hp)]; exact call _ _ rfl rfl
    · rw [ratG, if_neg (of_decide_eq_false hp)]; exact EV.bin (fun H => rfl) EV.int (call _ _ rfl rfl)
theorem SG_hit (a b : Int) (h : b.natAbs < L128) (κ : List Nat) (H : Hp) : SG 1 κ [.int a, .int b] H = some (some (.int (Int.gcd a b : Nat), H)) := by
  show bi (Nat.blt b.natAbs L128) _ = _
  rw [Nat.blt_eq.mpr h]; rfl
theorem SR_ok : SOK SR 280 := fun f κ vs H v H' e => beq_c' e (fun hf e => bo_c e fun u h1 e => by
  obtain ⟨u1, u2⟩ := u
  rw [hf, two_eq h1]
  dsimp only at e ⊢
  apply onInt_c e; intro a e
  apply onInt_c e; intro b e
  refine bi_c e fun hb e => ?_
  obtain ⟨rfl, rfl⟩ := i2 (Option.some.inj e)
  exact (J2.sum (n := 9) SG_ok (rat_J (fun _ _ _ _ => rfl) SG_hit 0 a b hb) rfl).mono (by decide)) fun e => (SG_ok _ _ _ _ _ _ e).mono (by decide)
theorem SR_hit {t b : Int} (h : ratOk b = true) (κ : List Nat) (H : Hp) : SR 2 κ [.int t, .int b] H = some (some (ratV t b, H)) := by
  show bi (ratOk b) _ = _
  rw [h]; rfl
theorem op_J {f : Nat} {x y : Int × Int} (hx : sml x y = true) (ho : ratOk (rat4 f x y).2 = true) (hf : 3 ≤ f ∧ f ≤ 6) : J2 SR 12 f (.c (prV x)) (.c (prV y)) (.c (ratV (rat4 f x y).1 (rat4 f x y).2)) :=
  and_c hx fun a1 h => and_c h fun a2 h => and_c h fun b1 b2 => by
    have g : ∀ {Γ : Tc} {lo i : Nat} {z : Int × Int} {j : Int} {w : Int} {s : Unit} {n : Nat}, vlook Γ i = some (.c (prV z)) → nth [.int z.1, .int z.2] j = some (.int w) → EV SR (D0 lo) (n + 2) Γ s (.sub (.var i) (.int j)) (.i w) s := fun h hn => EV.sub (EV.var h) EV.int hn
    have call : ∀ {lo : Nat} {Γ : Tc} {a b : Ex} {t d : Int}, ratOk d = true → EV SR (D0 lo) 9 Γ () a (.i t) () → EV SR (D0 lo) 9 Γ () b (.i d) () → EV SR (D0 lo) 10 Γ () (.call 2 [a, b]) (.c (ratV t d)) () := fun h ha hb => EV.call2 (J2.hit (SR_hit h)) ha hb
    match f, hf with
    | 3, _ => exact J2.of (x := 0) (y := 1) (F := fn3) (fun _ _ _ _ => rfl) rfl rfl fun lo => XR.ret (n := 10) (call ho (EV.bin (fun _ => rfl) (EV.bin (mul_k a1 b2) (g rfl rfl) (g rfl rfl)) (EV.bin (mul_k b1 a2) (g rfl rfl) (g rfl rfl))) (EV.bin (mul_k a2 b2) (g rfl rfl) (g rfl rfl)))
    | 4, _ => exact J2.of (x := 0) (y := 1) (F := fn4) (fun _ _ _ _ => rfl) rfl rfl fun lo => XR.ret (n := 10) (call ho (EV.bin (fun _ => rfl) (EV.bin (mul_k a1 b2) (g rfl rfl) (g rfl rfl)) (EV.bin (mul_k b1 a2) (g rfl rfl) (g rfl rfl))) (EV.bin (mul_k a2 b2) (g rfl rfl) (g rfl rfl)))
    | 5, _ => exact J2.of (x := 0) (y := 1) (F := fn5) (fun _ _ _ _ => rfl) rfl rfl fun lo => XR.ret (n := 10) (call ho (EV.bin (mul_k a1 b1) (g rfl rfl) (g rfl rfl)) (EV.bin (mul_k a2 b2) (g rfl rfl) (g rfl rfl)))
    | 6, _ => exact J2.of (x := 0) (y := 1) (F := fn6) (fun _ _ _ _ => rfl) rfl rfl fun lo => XR.ret (n := 10) (call ho (EV.bin (mul_k a1 b2) (g rfl rfl) (g rfl rfl)) (EV.bin (mul_k a2 b1) (g rfl rfl) (g rfl rfl)))
theorem neg_J {x : Int × Int} : J1 SR 12 7 (.c (prV x)) (.c (.tup [.int (0 - x.1), .int x.2])) :=
  J1.of (x := 0) (F := fn7) (fun _ _ _ => rfl) rfl rfl fun lo => XR.ret (n := 10) (EV.tup2 (EV.bin (fun _ => rfl) EV.int (EV.sub (EV.var rfl) EV.int rfl)) (EV.sub (EV.var rfl) EV.int rfl))
theorem SA_ok : SOK SA 300 := fun f κ vs H v H' e => by
  have e : (bif Nat.ble 3 f && Nat.ble f 6 then s4 f vs H else bif Nat.beq f 7 then s7 vs H else SR f κ vs H) = some (some (v, H')) := e
  cases h36 : Nat.ble 3 f && Nat.ble f 6 with
  | true =>
    rw [h36] at e
    refine bo_c e fun u h1 e => bo_c e fun x h2 e => bo_c e fun y h3 e => bi_c e fun h4 e => and_c h4 fun h5 h6 => ?_
    rw [two_eq h1, p2_eq h2, p2_eq h3]
    obtain ⟨rfl, rfl⟩ := i2 (Option.some.inj e)
    exact (J2.sum SR_ok (op_J h5 h6 (and_c h36 fun a b => ⟨Nat.le_of_ble_eq_true a, Nat.le_of_ble_eq_true b⟩)) rfl).mono (by decide)
  | false =>
    rw [h36] at e
    refine beq_c' e (fun hf e => bo_c e fun u h1 e => bo_c e fun x h2 e => ?_) fun e => (SR_ok _ _ _ _ _ _ e).mono (by decide)
    rw [hf, one_eq h1, p2_eq h2]
    obtain ⟨rfl, rfl⟩ := i2 (Option.some.inj e)
    exact (J1.sum SR_ok neg_J rfl).mono (by decide)
end Mine
end

section
/-! Polynomials: the pure part; rules for cells and comprehensions. -/
set_option maxRecDepth 100000
set_option linter.all false
namespace Mine
open PySem

noncomputable def pget : P → List Int → Option Int
  | [], _ => none
  | e :: r, x => if intsEq e.1 x then some e.2 else pget r x
noncomputable def pset : P → List Int → Int → P
  | [], x, v => [(x, v)]
  | e :: r, x, v => if intsEq e.1 x then (e.1, v) :: r else e :: pset r x v
noncomputable def pdel : P → List Int → P
  | [], _ => []
  | e :: r, x => if intsEq e.1 x then r else e :: pdel r x
noncomputable def addT (p : P) (k : List Int) (c : Int) : P := if (pget p k).getD 0 + c = 0 then pdel p k else pset p k ((pget p k).getD 0 + c)
theorem pget_cons (e : List Int × Int) (r : P) (k : List Int) : pget (e :: r) k = if intsEq e.1 k then some e.2 else pget r k := rfl
theorem pdel_cons (e : List Int × Int) (r : P) (k : List Int) : pdel (e :: r) k = if intsEq e.1 k then r else e :: pdel r k := rfl
theorem pset_cons (e : List Int × Int) (r : P) (k : List Int) (c : Int) : pset (e :: r) k c = if intsEq e.1 k then (e.1, c) :: r else e :: pset r k c := rfl

theorem dget_toD (p : P) (k : List Int) : dget (toD p) k = (pget p k).map rv := by
  induction p with
  | nil => rfl
  | cons e r ih => show (bif intsEq e.1 k then _ else dget (toD r) k) = Option.map rv (if intsEq e.1 k then _ else _); rw [ih]; cases intsEq e.1 k <;> rfl
theorem dset_toD (p : P) (k : List Int) (c : Int) : dset (toD p) k (rv c) = toD (pset p k c) := by
  induction p with
  | nil => rfl
  | cons e r ih => show (bif intsEq e.1 k then _ else _ :: dset (toD r) k (rv c)) = toD (if intsEq e.1 k then _ else _); rw [ih]; cases intsEq e.1 k <;> rfl
theorem ddel_toD (p : P) (k : List Int) : ddel (toD p) k = toD (pdel p k) := by
  induction p with
  | nil => rfl
  | cons e r ih => show (bif intsEq e.1 k then _ else _ :: ddel (toD r) k) = toD (if intsEq e.1 k then _ else _); rw [ih]; cases intsEq e.1 k <;> rfl
theorem toD_map (p : P) : toD p = p.map fun e => (e.1, rv e.2) := by
  induction p with
  | nil => rfl
  | cons e r ih => exact congrArg ((e.1, rv e.2) :: ·) ih
theorem toD_length (p : P) : (toD p).length = p.length := by rw [toD_map, List.length_map]
theorem ints_map : ∀ k : List Int, V.ints (k.map .int) = some k
  | [] => rfl
  | i :: r => (bo_eq (f := fun is => some (i :: is)) (ints_map r))
theorem keyOf_map (k : List Int) : keyOf (.tup (k.map .int)) = some k := ints_map k
theorem ratV_one (t : Int) : ratV t 1 = rv t := by
  have : ratG t 1 = 1 := by rw [ratG, if_pos (by decide), Int.gcd_one]; rfl
  rw [ratV, this, Int.fdiv_one]; rfl
theorem ratOk_one : ratOk 1 = true := by decide +kernel
theorem small_one : small 1 = true := by decide +kernel

/-! ## the norm, the keys -/
noncomputable def nrm : P → Nat
  | [] => 0
  | e :: r => e.2.natAbs + nrm r
theorem nrm_cons (e : List Int × Int) (r : P) : nrm (e :: r) = e.2.natAbs + nrm r := rfl
theorem nrm_pdel (p : P) (k : List Int) : nrm (pdel p k) + ((pget p k).getD 0).natAbs = nrm p := by
  induction p with
  | nil => rfl
  | cons e r ih =>
    rw [pdel_cons, pget_cons]
    cases intsEq e.1 k with
    | true => exact Nat.add_comm _ _
    | false => exact (Nat.add_assoc _ _ _).trans (congrArg (e.2.natAbs + ·) ih)
theorem nrm_pset (p : P) (k : List Int) (c : Int) : nrm (pset p k c) + ((pget p k).getD 0).natAbs = nrm p + c.natAbs := by
  induction p with
  | nil => exact Nat.add_comm _ 0
  | cons e r ih =>
    rw [pset_cons, pget_cons]
    cases intsEq e.1 k with
    | true => show c.natAbs + nrm r + e.2.natAbs = e.2.natAbs + nrm r + c.natAbs; omega
    | false => exact (Nat.add_assoc _ _ _).trans ((congrArg (e.2.natAbs + ·) ih).trans (Nat.add_assoc _ _ _).symm)
theorem nrm_addT (p : P) (k : List Int) (c : Int) : nrm (addT p k c) ≤ nrm p + c.natAbs := by
  unfold addT
  have h1 := nrm_pdel p k
  have h2 := nrm_pset p k ((pget p k).getD 0 + c)
  split <;> omega
theorem len_addT (p : P) (k : List Int) (c : Int) : (addT p k c).length ≤ p.length + 1 := by
  have h1 : (pdel p k).length ≤ p.length := by
    induction p with
    | nil => exact Nat.le_refl _
    | cons e r ih =>
      rw [pdel_cons]
      split
      · exact Nat.le_succ _
      · exact Nat.succ_le_succ ih
  have h2 : ∀ c, (pset p k c).length ≤ p.length + 1 := fun c => by
    clear h1
    induction p with
    | nil => exact Nat.le_refl _
    | cons e r ih =>
      rw [pset_cons]
      split
      · exact Nat.le_succ _
      · exact Nat.succ_le_succ ih
  unfold addT
  split
  · exact Nat.le_succ_of_le h1
  · exact h2 _
theorem nrm_mem {p : P} {e : List Int × Int} (h : e ∈ p) : e.2.natAbs ≤ nrm p := by
  induction p with
  | nil => cases h
  | cons x r ih =>
    rcases List.mem_cons.mp h with rfl | h
    · exact Nat.le_add_right _ _
    · exact Nat.le_trans (ih h) (Nat.le_add_left _ _)
theorem nrm_small {p : P} (h : nrm p ≤ lim) {e : List Int × Int} (he : e ∈ p) : small e.2 = true := Nat.ble_eq.mpr (Nat.le_trans (nrm_mem he) h)
theorem pget_in {p : P} {k : List Int} {c : Int} (e : pget p k = some c) : (k, c) ∈ p := by
  induction p with
  | nil => cases e
  | cons x r ih =>
    rw [pget_cons] at e
    cases h : intsEq x.1 k with
    | true => rw [h] at e; rw [← intsEq_eq h, ← Option.some.inj e]; exact List.mem_cons_self ..
    | false => rw [h] at e; exact List.mem_cons_of_mem _ (ih e)

noncomputable def keysNd : P → Bool
  | [] => true
  | e :: r => (pget r e.1).isNone && keysNd r
theorem nd_cons {e : List Int × Int} {r : P} : keysNd (e :: r) = true ↔ pget r e.1 = none ∧ keysNd r = true := by
  show ((pget r e.1).isNone && keysNd r) = true ↔ _
  rw [Bool.and_eq_true, Option.isNone_iff_eq_none]
theorem pget_self (e : List Int × Int) (r : P) : pget (e :: r) e.1 = some e.2 := by rw [pget_cons, intsEq_self]; rfl
theorem pget_mem {p : P} (h : keysNd p = true) {e : List Int × Int} (he : e ∈ p) : pget p e.1 = some e.2 := by
  induction p with
  | nil => cases he
  | cons x r ih =>
    have h := nd_cons.mp h
    rcases List.mem_cons.mp he with rfl | he
    · exact pget_self _ _
    · rw [pget_cons, if_neg fun q => by rw [intsEq_eq q, ih h.2 he] at h; cases h.1]
      exact ih h.2 he
theorem pset_new {p : P} {k : List Int} {c : Int} (h : pget p k = none) : pset p k c = p ++ [(k, c)] := by
  induction p with
  | nil => rfl
  | cons x r ih =>
    rw [pget_cons] at h
    rw [pset_cons]
    cases hk : intsEq x.1 k with
    | true => rw [hk] at h; cases h
    | false => rw [hk] at h; exact congrArg (x :: ·) (ih h)
theorem pget_pset (p : P) (k x : List Int) (c : Int) : pget (pset p k c) x = if intsEq k x then some c else pget p x := by
  induction p with
  | nil => rfl
  | cons e r ih =>
    rw [pset_cons]
    cases h : intsEq e.1 k with
    | true => rw [if_pos rfl, pget_cons, pget_cons, intsEq_eq h]; cases intsEq k x <;> rfl
    | false =>
      rw [if_neg Bool.false_ne_true, pget_cons, pget_cons, ih]
      cases hx : intsEq e.1 x with
      | true => rw [if_pos rfl, if_pos rfl, if_neg fun q => by rw [intsEq_eq hx, ← intsEq_eq q, intsEq_self] at h; cases h]
      | false => rfl
theorem pget_map {p : P} {k : List Int} {g : Int → Int} : pget (p.map fun e => (e.1, g e.2)) k = (pget p k).map g := by
  induction p with
  | nil => rfl
  | cons x r ih => rw [List.map_cons, pget_cons, pget_cons, ih]; cases intsEq x.1 k <;> rfl
theorem keysNd_map {p : P} {g : Int → Int} : keysNd (p.map fun e => (e.1, g e.2)) = keysNd p := by
  induction p with
  | nil => rfl
  | cons x r ih => show ((pget (r.map _) x.1).isNone && keysNd (r.map _)) = _; rw [pget_map, ih, Option.isNone_map]; rfl
noncomputable def its (p : P) : List (List V) := p.map fun e => [V.tup (e.1.map V.int)]
theorem toD_items (p : P) : (toD p).map (fun e => [V.tup (e.1.map V.int)]) = its p := by rw [toD_map, List.map_map]; rfl

/-! ## what may be worked with -/
noncomputable def nlim : Nat := 1000000000
structure OkP (p : P) : Prop where
  nd : keysNd p = true
  bx : p.all (fun e => boxK e.1) = true
  nr : nrm p ≤ nlim
  ln : p.length ≤ 1000
theorem OkP.lim {p : P} (h : OkP p) : nrm p ≤ lim := Nat.le_trans h.nr (by decide +kernel)
theorem boxed_toD {p : P} (h : OkP p) : boxed (toD p) = true := by
  unfold boxed; rw [toD_map, List.all_map]; exact h.bx
theorem OkP.k3 {p : P} (h : OkP p) {e : List Int × Int} (he : e ∈ p) : ∃ a b c : Nat, a < 3 ∧ b < 12 ∧ c < 7 ∧ e.1 = [(a : Int), (b : Int), (c : Int)] := boxK_ok (List.all_eq_true.mp h.bx e he)
theorem OkP.keys {p : P} (h : OkP p) : keysOk (toD p) = true := by
  unfold keysOk
  rw [toD_map, List.all_map]
  exact List.all_eq_true.mpr fun e he => by
    obtain ⟨a, b, c, _, _, _, q⟩ := h.k3 he
    show Nat.ble e.1.length maxLen = true
    rw [q]; rfl
noncomputable def pTerm (k : List Int) (c : Int) : P := if c = 0 then [] else [(k, c)]
noncomputable def pAdd (p q : P) : P := q.foldl (fun f e => addT f e.1 e.2) p
noncomputable def pNeg (p : P) : P := p.map fun e => (e.1, -e.2)
noncomputable def pScl (p : P) (c : Int) : P := if c = 0 then [] else p.map fun e => (e.1, e.2 * c)
noncomputable def pSub (p q : P) : P := pAdd p (pNeg q)
noncomputable def kadd (a b : List Int) : List Int := List.zipWith (· + ·) a b
noncomputable def mulRow (f : P) (e : List Int × Int) (l : P) : P := l.foldl (fun f a => addT f (kadd a.1 e.1) (a.2 * e.2)) f
noncomputable def mulAcc (f p q : P) : P := q.foldl (fun f e => mulRow f e p) f
noncomputable def pMul (p q : P) : P := mulAcc [] p q
noncomputable def kget (k : List Int) (i : Nat) : Int := (k[i]?).getD 0
noncomputable def klow (k : List Int) (i : Nat) : List Int := k.set i (kget k i - 1)
noncomputable def derT (i : Nat) (f : P) (e : List Int × Int) : P := if 0 < kget e.1 i then addT f (klow e.1 i) (e.2 * kget e.1 i) else f
noncomputable def derAcc (i : Nat) (f p : P) : P := p.foldl (derT i) f
noncomputable def pDer (p : P) (i : Nat) : P := derAcc i [] p
noncomputable def letterP (n : Nat) : P := match n with
  | 0 => [([1, 0, 0], 1)]
  | n + 1 => match n with
    | 0 => [([0, 1, 0], 1)]
    | _ + 1 => [([0, 0, 1], 1)]
theorem nrm_pNeg (p : P) : nrm (pNeg p) = nrm p := by
  induction p with
  | nil => rfl
  | cons e r ih => show (-e.2).natAbs + nrm (pNeg r) = e.2.natAbs + nrm r; rw [ih, Int.natAbs_neg]
theorem OkP.neg {p : P} (h : OkP p) : OkP (pNeg p) :=
  ⟨by unfold pNeg; rw [keysNd_map (g := fun c => -c)]; exact h.nd, by unfold pNeg; rw [List.all_map]; exact h.bx, by rw [nrm_pNeg]; exact h.nr, by unfold pNeg; rw [List.length_map]; exact h.ln⟩

/-! ## rules -/
section
variable {S : Sum} {D : Dm} {n : Nat} {Γ Γ' Γ₁ : Tc} {s s' s₁ s₂ s₃ : D.ι} {a b d : Ex} {t t' t'' u : Ty} {v w z : V} {i j k : Int} {ss tt : List Sm} {x y f : Nat} {c : C} {xs : List V} {p : Bool}
theorem subop_dic {H : Hp} {l : Nat} {es : List (List Int × V)} {kk : List Int} (h : Hp.get H l = some (.dic es)) (hk : keyOf v = some kk) (hd : dget es kk = some w) : subop (.ref l) v H = some w := (bo_eq h).trans ((bo_eq hk).trans hd)
theorem subop_lst {H : Hp} {l : Nat} (h : Hp.get H l = some (.lst xs)) (hd : nth xs i = some w) : subop (.ref l) (.int i) H = some w := (bo_eq h).trans hd
theorem EV.subD {q : Bool} {es : List (List Int × V)} {kk : List Int} (hk : keyOf v = some kk) (hd : dget es kk = some w) (ha : EV S D n Γ s a (.d q (.dic es)) s₁) (hb : EV S D n Γ s₁ b (.c v) s₂) : EV S D (n + 1) Γ s (.sub a b) (.c w) s₂ :=
  EV.bin2s (fun r κ ρ H H₁ H₂ x y e1 e2 _ o1 o2 => by
    obtain ⟨l, rfl, o, _⟩ := o1
    cases o2
    exact (bd_eq e1).trans ((bd_eq e2).trans (bo_eq (subop_dic o.2 hk hd)))) ha hb
theorem EV.subL {q : Bool} (hd : nth xs i = some w) (ha : EV S D n Γ s a (.d q (.lst xs)) s₁) (hb : EV S D n Γ s₁ b (.i i) s₂) : EV S D (n + 1) Γ s (.sub a b) (.c w) s₂ :=
  EV.bin2s (fun r κ ρ H H₁ H₂ x y e1 e2 _ o1 o2 => by
    obtain ⟨l, rfl, o, _⟩ := o1
    cases o2
    exact (bd_eq e1).trans ((bd_eq e2).trans (bo_eq (subop_lst o.2 hd)))) ha hb
theorem ev_bi1 {r : Rn} {κ : List Nat} {ρ : En} {H H' H'' : Hp} {bf : Bi} (e : r.ev κ a ρ H = some (v, H')) (h : biop bf [v] H' = some (w, H'')) : (step tbl S r).ev κ (.bi bf [a]) ρ H = some (w, H'') := (bd_eq ((bd_eq e).trans rfl)).trans h
theorem lst1_of {γ : Type} {H : Hp} {l : Nat} {g : List V → Option γ} (h : Hp.get H l = some (.lst xs)) : lst1 [.ref l] H g = g xs := bo_eq (lstAt_of h)
theorem EV.tupl {q : Bool} (ha : EV S D n Γ s a (.d q (.lst xs)) s₁) : EV S D (n + 1) Γ s (.bi .tuple [a]) (.c (.tup xs)) s₁ := fun κ ρ H g G k => ha κ ρ H g G fun v H1 e1 g1 l1 o1 => by
  obtain ⟨l, rfl, o, _⟩ := o1
  exact k _ H1 (ev_bi1 (bf := .tuple) e1 (lst1_of o.2)) g1 l1 rfl
theorem EV.len {q : Bool} (ha : EV S D n Γ s a (.d q (.lst xs)) s₁) : EV S D (n + 1) Γ s (.bi .len [a]) (.i xs.length) s₁ := fun κ ρ H g G k => ha κ ρ H g G fun v H1 e1 g1 l1 o1 => by
  obtain ⟨l, rfl, o, _⟩ := o1
  exact k _ H1 (ev_bi1 (bf := .len) e1 (lst1_of o.2)) g1 l1 rfl
/-- a new cell from the value of one expression -/
theorem EV.new1 (hk : ∀ r κ ρ H H' v, r.ev κ a ρ H = some (v, H') → t.ok 0 D.m v H' → (step tbl S r).ev κ b ρ H = some (.ref H'.length, H' ++ [c])) (ha : EV S D n Γ s a t s₁) : EV S D (n + 1) Γ s b (.d true c) s₁ := fun κ ρ H g G k => ha κ ρ H g G fun v H1 e1 g1 l1 o1 =>
  k _ _ (hk _ _ _ _ _ _ e1 (o1.lo (Nat.zero_le _))) (g1.new c).1 (l1.trans Le.app) ((g1.new c).2.lo l1.1)
theorem EV.new2 (hk : ∀ r κ ρ H H₁ H₂ v w, r.ev κ a ρ H = some (v, H₁) → r.ev κ b ρ H₁ = some (w, H₂) → t.ok 0 D.m v H₂ → u.ok 0 D.m w H₂ → (step tbl S r).ev κ d ρ H = some (.ref H₂.length, H₂ ++ [c])) (ha : EV S D n Γ s a t s₁) (hb : EV S D n Γ s₁ b u s₂) : EV S D (n + 1) Γ s d (.d true c) s₂ := fun κ ρ H g G k => ha.and2 hb g fun v w H1 H2 e1 e2 g2 l o1 o2 =>
  k _ _ (hk _ _ _ _ _ _ _ _ e1 e2 (o1.lo (Nat.zero_le _)) (o2.lo (Nat.zero_le _))) (g2.new c).1 (l.trans Le.app) ((g2.new c).2.lo l.1)
theorem EV.listN {q : Bool} (ha : EV S D n Γ s a (.d q (.lst xs)) s₁) : EV S D (n + 1) Γ s (.bi .list [a]) (.d true (.lst xs)) s₁ := EV.new1 (fun r κ ρ H H' v e o => by
  obtain ⟨l, rfl, o, _⟩ := o
  exact ev_bi1 (bf := .list) e (lst1_of o.2)) ha
theorem EV.dictN {q : Bool} {es : List (List Int × V)} (hb : boxed es = true) (ha : EV S D n Γ s a (.d q (.dic es)) s₁) : EV S D (n + 1) Γ s (.bi .dict [a]) (.d true (.dic es)) s₁ := EV.new1 (fun r κ ρ H H' v e o => by
  obtain ⟨l, rfl, o, _⟩ := o
  exact ev_bi1 (bf := .dict) e (show bo (dicAt H' l) _ = _ from (bo_eq (dicAt_of o.2)).trans (bi_eq hb))) ha
theorem EV.dict0 : EV S D (n + 1) Γ s .dict0 (.p true []) s := EV.new fun _ _ _ _ => rfl
theorem EV.dict1 {kk : List Int} (hk : keyOf v = some kk) (ha : EV S D n Γ s a (.c v) s₁) (hb : EV S D n Γ s₁ b (.c w) s₂) : EV S D (n + 1) Γ s (.dict1 a b) (.d true (.dic [(kk, w)])) s₂ :=
  EV.new2 (fun r κ ρ H H₁ H₂ x y e1 e2 o1 o2 => by cases o1; cases o2; exact (bd_eq e1).trans ((bo_eq hk).trans (bd_eq e2))) ha hb
theorem EV.lst1 (ha : EV S D n Γ s a (.c v) s₁) : EV S D (n + 1) Γ s (.lst [a]) (.d true (.lst [v])) s₁ := EV.new1 (fun r κ ρ H H' x e o => by cases o; exact bd_eq ((bd_eq e).trans rfl)) ha
theorem EV.glo {g : Nat} : EV S D (n + 1) Γ s (.glo g) (.c (gval g)) s := EV.con fun _ _ _ _ => rfl

/-! comprehensions -/
noncomputable def onlyT (fr : List Nat) (Γ : Tc) : Tc := Γ.filter fun e => fr.any (Nat.beq e.1)
theorem any_beq_eq {fr : List Nat} {a b : Nat} (h : Nat.beq a b = true) : fr.any (Nat.beq a) = fr.any (Nat.beq b) := by rw [Nat.eq_of_beq_eq_true h]
theorem get_only {fr : List Nat} (h : fr.any (Nat.beq x) = true) : ∀ ρ : En, (En.only fr ρ).get x = ρ.get x
  | [] => rfl
  | e :: r => by
    show En.get (match fr.any (Nat.beq e.1) with | true => e :: En.only fr r | false => En.only fr r) x = if Nat.beq x e.1 then some e.2 else En.get r x
    cases hb : Nat.beq x e.1 with
    | true => rw [← any_beq_eq hb, h]; show (if Nat.beq x e.1 then _ else _) = _; rw [hb]; rfl
    | false =>
      rw [if_neg Bool.false_ne_true, ← get_only h r]
      cases fr.any (Nat.beq e.1) with
      | true => show (if Nat.beq x e.1 then _ else _) = _; rw [hb]; rfl
      | false => rfl
theorem look_only {fr : List Nat} : ∀ {Γ : Tc}, alook (onlyT fr Γ) x = some t → fr.any (Nat.beq x) = true ∧ alook Γ x = some t
  | [], h => by cases h
  | e :: r, h => by
    have h : alook (match fr.any (Nat.beq e.1) with | true => e :: onlyT fr r | false => onlyT fr r) x = some t := h
    show _ ∧ (bif Nat.beq e.1 x then some e.2 else alook r x) = some t
    cases hf : fr.any (Nat.beq e.1) with
    | true =>
      rw [hf] at h
      have h : (bif Nat.beq e.1 x then some e.2 else alook (onlyT fr r) x) = some t := h
      cases hb : Nat.beq e.1 x with
      | true => rw [hb] at h; exact ⟨(any_beq_eq hb).symm.trans hf, h⟩
      | false => rw [hb] at h; exact look_only h
    | false =>
      rw [hf] at h
      obtain ⟨h1, h2⟩ := look_only h
      cases hb : Nat.beq e.1 x with
      | true => rw [any_beq_eq hb, h1] at hf; cases hf
      | false => exact ⟨h1, h2⟩
theorem Cfg.only {κ : List Nat} {ρ : En} {H : Hp} (g : Cfg D Γ s κ ρ H) (fr : List Nat) : Cfg D (onlyT fr Γ) s κ (En.only fr ρ) H :=
  ⟨g.low, g.fre, g.st, fun x t h => by
    obtain ⟨h1, h2⟩ := look_only h
    obtain ⟨v, e1, e2⟩ := g.has x t h2
    exact ⟨v, (get_only h1 ρ).trans e1, e2⟩⟩
/-- item by item -/
noncomputable def CI (S : Sum) (D : Dm) (n : Nat) (Γ : Tc) (s : D.ι) (a : Ex) (ts : List Nat) : List (List V) → List V → Prop
  | [], vs => vs = []
  | it :: its, vs => ∃ v vs', vs = v :: vs' ∧ EV S D n (bindT ts it Γ) s a (.c v) s ∧ CI S D n Γ s a ts its vs'
theorem CI.cons {ts : List Nat} {it : List V} {its : List (List V)} {v : V} {vs : List V} (h : EV S D n (bindT ts it Γ) s a (.c v) s) (r : CI S D n Γ s a ts its vs) : CI S D n Γ s a ts (it :: its) (v :: vs) := ⟨v, vs, rfl, h, r⟩
theorem CI.maps {α : Type} {ts : List Nat} {it : α → List V} {g : α → V} : ∀ {l : List α}, (∀ x ∈ l, EV S D n (bindT ts (it x) Γ) s a (.c (g x)) s) → CI S D n Γ s a ts (l.map it) (l.map g)
  | [], _ => rfl
  | x :: l, h => .cons (h x (List.mem_cons_self ..)) (CI.maps fun y hy => h y (List.mem_cons_of_mem _ hy))
theorem compGo_cons {r : Rn} {ts : List Nat} {it : List V} {its : List (List V)} {vs : List V} {κ : List Nat} {ρ : En} {H H1 H2 : Hp} (e : r.ev κ a (En.sets ρ ts it) H = some (v, H1)) (h : compGo r κ a ts none ρ its H1 = some (vs, H2)) : compGo r κ a ts none ρ (it :: its) H = some (v :: vs, H2) :=
  (bd_eq (o := condV r κ none (En.sets ρ ts it) H) rfl).trans ((bd_eq e).trans (bd_eq h))
theorem compGo_of {ts : List Nat} : ∀ {its : List (List V)} {vs : List V} {κ : List Nat} {ρ : En} {H : Hp}, CI S D n Γ s a ts its vs → Cfg D Γ s κ ρ H → ∀ G : Prop, (∀ H', compGo (run tbl S n) κ a ts none ρ its H = some (vs, H') → vs.length = its.length → Cfg D Γ s κ ρ H' → Le D.m H H' → G) → G
  | [], vs, κ, ρ, H, h, c, G, q => by obtain rfl : vs = [] := h; exact q H rfl rfl c Le.refl
  | it :: its, vs, κ, ρ, H, h, c, G, q => by
    obtain ⟨v, vs, rfl, h, hr⟩ := h
    refine h κ (En.sets ρ ts it) H c.sets G fun w H1 e1 g1 l1 o1 => ?_
    cases o1
    exact compGo_of hr ⟨g1.low, g1.fre, g1.st, c.has.mono l1⟩ G fun H2 e2 el g2 l2 => q H2 (compGo_cons e1 e2) (congrArg Nat.succ el) g2 (l1.trans l2)
theorem ev_comp {r : Rn} {ts fr : List Nat} {it : It} {its : List (List V)} {vs : List V} {κ κ₁ : List Nat} {ρ : En} {H H₁ H₂ : Hp} (h1 : iter r κ ts it ρ H = some (its, κ₁, H₁)) (h2 : compGo r κ₁ a ts none (En.only fr ρ) its H₁ = some (vs, H₂)) (hl : vs.length ≤ maxLen) : (step tbl S r).ev κ (.comp a ts it none fr) ρ H = some (.ref H₂.length, H₂ ++ [.lst vs]) := (b3_eq h1).trans ((bd_eq h2).trans (bi_eq (Nat.ble_eq.mpr hl)))
theorem EV.comp {ts fr : List Nat} {it : It} {its : List (List V)} {vs : List V} (hi : IT S D n Γ s ts it its s₁) (h : CI S D n (onlyT fr Γ) s₁ a ts its vs) (hl : its.length ≤ maxLen) : EV S D (n + 1) Γ s (.comp a ts it none fr) (.d true (.lst vs)) s₁ := fun κ ρ H c G q =>
  hi κ ρ H c G fun κ' H1 e1 c1 c1' l1 => compGo_of h (c1.only fr) G fun H2 e2 el c2 l2 => by
    have c3 : Cfg D Γ s₁ κ ρ H2 := ⟨lowK_mono c1'.low l2.1, c1'.fre, c2.st, c1'.has.mono l2⟩
    exact q _ _ (ev_comp e1 e2 (by rw [el]; exact hl)) (c3.new _).1 ((l1.trans l2).trans Le.app) ((c3.new _).2.lo (l1.trans l2).1)
theorem dcompGo_of {g : Int → Int} : ∀ {l acc : P} {κ : List Nat} {ρ : En} {H : Hp}, (∀ e ∈ l, EV S D n ((x, .c (.tup (e.1.map .int))) :: Γ) s a (.c (.tup (e.1.map .int))) s) → (∀ e ∈ l, EV S D n ((x, .c (.tup (e.1.map .int))) :: Γ) s b (.c (rv (g e.2))) s) → keysNd l = true → (∀ e ∈ l, pget acc e.1 = none) → acc.length + l.length ≤ maxLen → Cfg D Γ s κ ρ H →
    ∀ G : Prop, (∀ H', dcompGo (run tbl S n) κ a b x ρ (its l) (toD acc) H = some (toD (acc ++ l.map fun e => (e.1, g e.2)), H') → Cfg D Γ s κ ρ H' → Le D.m H H' → G) → G
  | [], acc, κ, ρ, H, _, _, _, _, _, c, G, q => q H (by rw [List.map_nil, List.append_nil]; rfl) c Le.refl
  | e :: l, acc, κ, ρ, H, h1, h2, hn, hf, hl, c, G, q => h1 e (List.mem_cons_self ..) κ (ρ.set x (.tup (e.1.map .int))) H (c.set rfl) G fun v H1 e1 g1 l1 o1 => by
    cases o1
    refine h2 e (List.mem_cons_self ..) κ (ρ.set x (.tup (e.1.map .int))) H1 g1 G fun v H2 e2 g2 l2 o2 => ?_
    cases o2
    have c2 : Cfg D Γ s κ ρ H2 := ⟨g2.low, g2.fre, g2.st, c.has.mono (l1.trans l2)⟩
    have hn := nd_cons.mp hn
    have hne := hf e (List.mem_cons_self ..)
    rw [show its (e :: l) = [V.tup (e.1.map .int)] :: its l from rfl] at q
    refine dcompGo_of (g := g) (acc := acc ++ [(e.1, g e.2)]) (fun x hx => h1 x (List.mem_cons_of_mem _ hx)) (fun x hx => h2 x (List.mem_cons_of_mem _ hx)) hn.2 (fun x hx => ?_) (Nat.le_trans (Nat.le_of_eq (by rw [List.length_append]; exact Nat.succ_add_eq_add_succ _ _)) hl) c2 G fun H3 e3 g3 l3 => q H3 ?_ g3 ((l1.trans l2).trans l3)
    · rw [← pset_new hne, pget_pset, if_neg fun q => by rw [intsEq_eq q, pget_mem hn.2 hx] at hn; cases hn.1]
      exact hf x (List.mem_cons_of_mem _ hx)
    · refine (bd_eq e1).trans ((bo_eq (keyOf_map _)).trans ((bd_eq e2).trans ((bi_eq (by rw [toD_length]; exact Nat.ble_eq.mpr (Nat.le_trans (Nat.le_add_right _ _) hl))).trans ?_)))
      rw [dset_toD, pset_new hne, e3, List.append_assoc]; rfl
theorem EV.dcomp {fr : List Nat} {q : P} {bq : Bool} {g : Int → Int} (hq : OkP q) (hd : EV S D n Γ s d (.p bq q) s₁) (h1 : ∀ e ∈ q, EV S D n ((x, .c (.tup (e.1.map .int))) :: onlyT fr Γ) s₁ a (.c (.tup (e.1.map .int))) s₁) (h2 : ∀ e ∈ q, EV S D n ((x, .c (.tup (e.1.map .int))) :: onlyT fr Γ) s₁ b (.c (rv (g e.2))) s₁) :
    EV S D (n + 1) Γ s (.dcomp a b x d fr) (.p true (q.map fun e => (e.1, g e.2))) s₁ := fun κ ρ H c G k =>
  IT.dic (m := x) hd hq.keys κ ρ H c G fun κ' H1 e1 c1 c1' l1 => dcompGo_of (g := g) (acc := []) h1 h2 hq.nd (fun _ _ => rfl) (Nat.le_trans (Nat.le_trans (Nat.le_of_eq (Nat.zero_add _)) hq.ln) (by decide)) (c1.only fr) G fun H2 e2 c2 l2 => by
    have c3 : Cfg D Γ s₁ κ ρ H2 := ⟨lowK_mono c1'.low l2.1, c1'.fre, c2.st, c1'.has.mono l2⟩
    rw [toD_items] at e1
    exact k _ _ ((b3_eq e1).trans ((bd_eq e2).trans (bi_eq (by rw [toD_length, List.nil_append, List.length_map]; exact Nat.ble_eq.mpr (Nat.le_trans hq.ln (by decide)))))) (c3.new _).1 ((l1.trans l2).trans Le.app) ((c3.new _).2.lo (l1.trans l2).1)
end
end Mine
end

section
/-! Polynomials: the functions of the program. -/
set_option maxRecDepth 100000
set_option linter.all false
namespace Mine
open PySem

/-- what the summaries must and must not say -/
structure Fits (S : Sum) : Prop where
  r3 : ∀ κ vs H, S 3 κ vs H = s4 3 vs H
  r5 : ∀ κ vs H, S 5 κ vs H = s4 5 vs H
  r7 : ∀ κ vs H, S 7 κ vs H = s7 vs H
  no : ∀ κ vs H, [0, 8, 9, 10, 11, 12, 13, 14, 15, 16, 27, 28, 29, 30, 31, 32, 37, 38, 40].all (fun f => (S f κ vs H).isNone) = true
theorem Fits.none {S : Sum} (h : Fits S) {f : Nat} {κ : List Nat} {vs : List V} {H : Hp} (hf : f ∈ [0, 8, 9, 10, 11, 12, 13, 14, 15, 16, 27, 28, 29, 30, 31, 32, 37, 38, 40] := by decide) : S f κ vs H = .none :=
  Option.isNone_iff_eq_none.mp (List.all_eq_true.mp (h.no κ vs H) f hf)

section
variable {S : Sum} {D : Dm} {n : Nat} {Γ Γ' Γ₁ : Tc} {s s' s₁ s₂ s₃ : D.ι} {a b d : Ex} {t t' t'' u : Ty} {v w z : V} {i j k : Int} {ss tt : List Sm} {x y f : Nat} {c : C} {xs : List V} {p : Bool} (F : Fits S)
include F
theorem s4_hit {f : Nat} {a b : Int} {H : Hp} (ha : small a = true) (hb : small b = true) (h1 : (rat4 f (a, 1) (b, 1)).2 = 1) : s4 f [rv a, rv b] H = some (some (rv (rat4 f (a, 1) (b, 1)).1, H)) := by
  show bi (sml (a, 1) (b, 1) && ratOk (rat4 f (a, 1) (b, 1)).2) (some (some (ratV (rat4 f (a, 1) (b, 1)).1 (rat4 f (a, 1) (b, 1)).2, H))) = _
  rw [h1, ratOk_one, ratV_one, show sml (a, 1) (b, 1) = true by unfold sml; rw [ha, hb, small_one]; rfl]; rfl
theorem radd_J (hi : small i = true) (hj : small j = true) : J2 S (n + 1) 3 (.c (rv i)) (.c (rv j)) (.c (rv (i + j))) := J2.hit fun κ H => by
  rw [F.r3, s4_hit F hi hj rfl]
  exact congrArg (fun z => some (some (rv z, H))) (show i * 1 + j * 1 = i + j by rw [Int.mul_one, Int.mul_one])
theorem rmul_J (hi : small i = true) (hj : small j = true) : J2 S (n + 1) 5 (.c (rv i)) (.c (rv j)) (.c (rv (i * j))) := J2.hit fun κ H => by
  rw [F.r5]; exact s4_hit F hi hj rfl
theorem rneg_J : J1 S (n + 1) 7 (.c (rv i)) (.c (rv (-i))) := J1.hit fun κ H => by
  rw [F.r7, show rv (-i) = rv (0 - i) by rw [Int.zero_sub]]; rfl

/-- the product of powers -/
theorem pp_J {a b c a' b' c' : Int} : J2 S (n + 8) 0 (.c (.tup [.int a, .int b, .int c])) (.c (.tup [.int a', .int b', .int c'])) (.c (.tup [.int (a + a'), .int (b + b'), .int (c + c')])) :=
  J2.of (x := 0) (y := 1) (F := fn0) (fun _ _ _ _ => F.none) rfl rfl fun lo => by
    show XR S (D0 lo) (n + 7) _ _ [.ret (.bi .tuple [(.comp (.bin .add (.var 2) (.sub (.var 1) (.var 3))) [3, 2] (.enu (.var 0)) none [1])])] _ _
    have one : ∀ (m : Int) (e e' : Int), nth [.int a', .int b', .int c'] m = some (.int e') → EV S (D0 lo) (n + 4) (bindT [3, 2] [.int m, .int e] (onlyT [1] [(1, .c (.tup [.int a', .int b', .int c'])), (0, .c (.tup [.int a, .int b, .int c]))])) () (.bin .add (.var 2) (.sub (.var 1) (.var 3))) (.i (e + e')) () := fun m e e' h =>
      EV.bin (fun _ => rfl) (EV.var rfl) (EV.sub (EV.var rfl) (EV.var rfl) h)
    exact XR.ret (EV.tupl (EV.comp (its := enums 0 [.int a, .int b, .int c]) (IT.enuT (EV.var rfl)) (.cons (one 0 a a' rfl) (.cons (one 1 b b' rfl) (.cons (one 2 c c' rfl) rfl))) (show 3 ≤ maxLen by decide)))

theorem key_map {a b c : Int} : ([a, b, c] : List Int).map V.int = [.int a, .int b, .int c] := rfl
omit F in
theorem eq_zero (i : Int) (H : Hp) : cmpop .eq (rv i) (gval 0) H = some (decide (i = 0)) := by
  show some (decide (i = 0) && true) = _
  rw [Bool.and_true]
theorem term_J {k : List Int} : J2 S (n + 8) 8 (.c (.tup (k.map .int))) (.c (rv i)) (.p true (pTerm k i)) :=
  J2.of (x := 16) (y := 15) (F := fn8) (fun _ _ _ _ => F.none) rfl rfl fun lo => by
    show XR S (D0 lo) (n + 7) _ _ [.ret (.ite (.cmp .eq (.var 15) (.glo 0)) .dict0 (.dict1 (.var 16) (.var 15)))] _ _
    refine XR.ret (EV.ite (TE.cc (eq_zero i) (EV.var rfl) EV.glo) (fun h => ?_) fun h => ?_)
    · rw [pTerm, if_pos (of_decide_eq_true h)]; exact EV.dict0
    · rw [pTerm, if_neg (of_decide_eq_false h)]; exact EV.dict1 (keyOf_map k) (EV.var rfl) (EV.var rfl)
theorem letter_J {i : Nat} (hi : i < 3) : J2 S (n + 10) 9 (.i i) (.i 3) (.p true (letterP i)) :=
  J2.of (x := 3) (y := 18) (F := fn9) (fun _ _ _ _ => F.none) rfl rfl fun lo => by
    show XR S (D0 lo) (n + 9) _ _ [.ret (.dict1 (.bi .tuple [(.comp (.ite (.cmp .eq (.var 19) (.var 3)) (.int 1) (.int 0)) [19] (.rng (.var 18)) none [3])]) (.glo 1))] _ _
    have one : ∀ (m : Int), EV S (D0 lo) (n + 5) (bindT [19] [.int m] (onlyT [3] [(18, .i 3), (3, .i i)])) () (.ite (.cmp .eq (.var 19) (.var 3)) (.int 1) (.int 0)) (.i (bif decide (m = (i : Int)) then 1 else 0)) () := fun m =>
      EV.ite (TE.cc (eq_k rfl) (EV.var rfl) (EV.var rfl)) (fun h => by rw [h]; exact EV.int) fun h => by rw [h]; exact EV.int
    have key : EV S (D0 lo) (n + 7) _ _ (.bi .tuple [(.comp (.ite (.cmp .eq (.var 19) (.var 3)) (.int 1) (.int 0)) [19] (.rng (.var 18)) none [3])]) _ _ := EV.tupl (EV.comp (its := rngs 0 3) (IT.rng (i := 3) (EV.var (Γ := [(18, .i 3), (3, .i i)]) rfl) (by decide)) (.cons (one 0) (.cons (one 1) (.cons (one 2) rfl))) (show 3 ≤ maxLen by decide))
    match i, hi, key with
    | 0, _, key => exact XR.ret (EV.dict1 rfl key EV.glo)
    | 1, _, key => exact XR.ret (EV.dict1 rfl key EV.glo)
    | 2, _, key => exact XR.ret (EV.dict1 rfl key EV.glo)

/-! ## the mutable cell -/
section
variable {ι : Type} {mk : ι → C} {lo l : Nat} {p p' : ι} {e : Ex}
omit F
theorem Cfg.putM {κ : List Nat} {ρ : En} {H : Hp} (g : Cfg (Mt mk lo l) Γ p κ ρ H) (p' : ι) : Cfg (Mt mk lo l) Γ p' κ ρ (Hp.put H l (mk p')) :=
  ⟨lowK_mono g.low (by rw [Hp.put_length]; exact Nat.le_refl _), g.fre, ⟨Hp.get_put_self (Hp.get_lt g.st.1), by rw [Hp.put_length]; exact g.st.2⟩, g.has.mono Le.put⟩
theorem SN.setM (he : EV S (Mt mk lo l) n Γ p e (.c v) p) (ha : EV S (Mt mk lo l) n Γ p a (.c (.ref l)) p) (hi : EV S (Mt mk lo l) n Γ p b (.c w) p) (hs : ∀ κ H, κ.any (Nat.beq l) = false → Hp.get H l = some (mk p) → setop κ (.ref l) w v H = some (Hp.put H l (mk p'))) : SN S (Mt mk lo l) n Γ p (.setI a b e) Γ p' := fun rest κ ρ H g G q =>
  he.and2 ha g fun v1 v2 H1 H2 e1 e2 g2 l2 o1 o2 => hi κ ρ H2 g2 G fun v3 H3 e3 g3 l3 o3 => by
    cases o1; cases o2; cases o3
    exact q ρ _ (bd_eq ((bd_eq e1).trans ((bd_eq e2).trans ((bd_eq e3).trans (bo_eq (hs κ H3 (g3.fre l rfl) g3.st.1)))))) (g3.putM p') ((l2.trans l3).trans Le.put)
end
section
variable {lo l : Nat} {p : P}
noncomputable abbrev mkP (p : P) : C := .dic (toD p)
omit F in
theorem SN.popM {k : List Int} (h : alook Γ x = some (.c (.ref l))) (hk : EV S (Mt mkP lo l) n Γ p a (.c (.tup (k.map .int))) p) : SN S (Mt mkP lo l) n Γ p (.popN x a) Γ (pdel p k) := fun rest κ ρ H g G q => by
  obtain ⟨u, e0, rfl⟩ := g.has x _ h
  refine hk κ ρ H g G fun v1 H1 e1 g1 l1 o1 => ?_
  cases o1
  have st : Hp.get H1 l = some (.dic (toD p)) := g1.st.1
  refine q ρ _ (bd_eq ((bo_eq (f := fun l => onRef l fun n' => bo (dicAt H n') fun _ => bd ((run tbl S n).ev κ a ρ H) fun kv H₁ => bi (!κ.any (Nat.beq n')) (bo (dicAt H₁ n') fun es => bo (keyOf kv) fun kk => some (ρ, Hp.put H₁ n' (.dic (ddel es kk))))) e0).trans ((bo_eq (dicAt_of g.st.1)).trans ((bd_eq e1).trans ((bi_eq (by rw [g1.fre l rfl]; rfl)).trans ((bo_eq (dicAt_of st)).trans ((bo_eq (keyOf_map k)).trans (by rw [ddel_toD])))))))) (g1.putM (pdel p k)) (l1.trans Le.put)
end
omit F in
theorem EV.inlN3 {f z : Nat} {F' : Fn} {v1 v2 v3 : V} (hS : ∀ κ vs H, S f κ vs H = .none) (hF : tbl f = some F') (hp : F'.params = [x, y, z]) (ha : EV S D (n + 1) Γ s a (.c v1) s₁) (hb : EV S D (n + 1) Γ s₁ b (.c v2) s₂) (hd : EV S D (n + 1) Γ s₂ d (.c v3) s₃) (hx : XN S D n [(z, .c v3), (y, .c v2), (x, .c v1)] s₃ F'.body Γ' s') : EV S D (n + 2) Γ s (.call f [a, b, d]) (.c .non) s' := fun κ ρ H g G q =>
  ha.and2 hb g fun w1 w2 H1 H2 e1 e2 g2 l o1 o2 => hd κ ρ H2 g2 G fun w3 H3 e3 g3 l3 o3 => by
    cases o1; cases o2; cases o3
    refine hx κ (En.sets [] [x, y, z] [v1, v2, v3]) H3 ⟨g3.low, g3.fre, g3.st, ((Has.nil.set (t := .c v1) rfl).set (t := .c v2) rfl).set (t := .c v3) rfl⟩ G fun ρ4 H4 e4 g4 l4 => ?_
    have hc : (run tbl S (n + 1)).cl κ f [v1, v2, v3] H3 = some (.non, H4) := by
      show (match S f κ [v1, v2, v3] H3 with | some res => res | none => _) = _
      rw [hS]
      exact (bo_eq hF).trans ((bi_eq (by rw [hp]; rfl)).trans ((b3_eq (by rw [hp]; exact e4)).trans rfl))
    exact q _ H4 ((bd_eq ((bd_eq e1).trans (bd_eq ((bd_eq e2).trans (bd_eq ((bd_eq e3).trans rfl)))))).trans hc) ⟨g4.low, g4.fre, g4.st, g3.has.mono l4⟩ ((l.trans l3).trans l4) rfl

/-! a term comes to the sum -/
section
variable {lo l : Nat} {p : P} {k : List Int}
omit F in
theorem EV.subM {e : Int} (he : pget p k = some e) (ha : EV S (Mt mkP lo l) n Γ p a (.c (.ref l)) p) (hb : EV S (Mt mkP lo l) n Γ p b (.c (.tup (k.map .int))) p) : EV S (Mt mkP lo l) (n + 1) Γ p (.sub a b) (.c (rv e)) p :=
  EV.bin2s (fun r κ ρ H H₁ H₂ x y e1 e2 st o1 o2 => by
    cases o1; cases o2
    exact (bd_eq e1).trans ((bd_eq e2).trans (bo_eq (subop_dic st.1 (keyOf_map k) (by rw [dget_toD, he]; rfl))))) ha hb
theorem addT_E (hp : nrm p ≤ lim) (hi : small i = true) (hl : p.length ≤ maxLen) (ha : EV S (Mt mkP lo l) (n + 9) Γ p a (.c (.ref l)) p) (hb : EV S (Mt mkP lo l) (n + 9) Γ p b (.c (.tup (k.map .int))) p) (hd : EV S (Mt mkP lo l) (n + 9) Γ p d (.c (rv i)) p) :
    EV S (Mt mkP lo l) (n + 10) Γ p (.call 11 [a, b, d]) (.c .non) (addT p k i) := by
  refine EV.inlN3 (F' := fn11) (x := 21) (y := 16) (z := 15) (fun _ _ _ => F.none) rfl rfl ha hb hd (?_ : XN S (Mt mkP lo l) (n + 8) _ _ [.asg 23 (.ite (.cmp .inn (.var 16) (.var 21)) (.call 3 [(.sub (.var 21) (.var 16)), (.var 15)]) (.var 15)), .iff (.cmp .eq (.var 23) (.glo 0)) [.popN 21 (.var 16)] [.setI (.var 21) (.var 16) (.var 23)]] [(23, .c (rv ((pget p k).getD 0 + i))), (15, .c (rv i)), (16, .c (.tup (k.map .int))), (21, .c (.ref l))] _)
  refine XN.seq (s₁ := p) (SN.asg (t := .c (rv ((pget p k).getD 0 + i))) (EV.ite (p := (pget p k).isSome) (TE.cmp (EV.var rfl) (EV.var rfl) fun v w H o1 o2 st => ?_) (fun h => ?_) fun h => ?_)) (XN.one (SN.iff (TE.cc (eq_zero _) (EV.var rfl) EV.glo) (fun h => XN.one ?_) fun h => XN.one ?_))
  · cases o1; cases o2
    refine (bo_eq st.1).trans ((bo_eq (keyOf_map k)).trans ?_)
    rw [dget_toD, Option.isSome_map]
  · obtain ⟨e, he⟩ := Option.isSome_iff_exists.mp h
    rw [he]
    exact EV.call2 (radd_J F (nrm_small hp (pget_in he)) hi) (EV.subM he (EV.var rfl) (EV.var rfl)) (EV.var rfl)
  · rw [Option.isSome_eq_false_iff.mp h |> Option.isNone_iff_eq_none.mp, show (none : Option Int).getD 0 + i = i from Int.zero_add i]
    exact EV.var rfl
  · rw [addT, if_pos (of_decide_eq_true h)]
    exact SN.popM rfl (EV.var rfl)
  · rw [addT, if_neg (of_decide_eq_false h)]
    refine SN.setM (EV.var rfl) (EV.var rfl) (EV.var rfl) fun κ H hκ hH => ?_
    refine (bi_eq (by rw [hκ]; rfl)).trans ((bo_eq hH).trans ((bo_eq (keyOf_map k)).trans ((bi_eq (by rw [toD_length]; exact Nat.ble_eq.mpr hl)).trans ?_)))
    rw [dset_toD]
end
end
end Mine
end

section
/-! Polynomials: sum, opposite, multiple, product, slope. -/
set_option maxRecDepth 100000
set_option linter.all false
namespace Mine
open PySem

theorem nrm_mulRow (e : List Int × Int) : ∀ (l f : P), nrm (mulRow f e l) ≤ nrm f + nrm l * e.2.natAbs
  | [], f => Nat.le_add_right _ _
  | a :: l, f => by
    have h1 := nrm_mulRow e l (addT f (kadd a.1 e.1) (a.2 * e.2))
    have h2 := nrm_addT f (kadd a.1 e.1) (a.2 * e.2)
    rw [Int.natAbs_mul] at h2
    rw [nrm_cons, Nat.add_mul, ← Nat.add_assoc]
    exact Nat.le_trans h1 (Nat.add_le_add_right h2 _)
theorem len_mulRow (e : List Int × Int) : ∀ (l f : P), (mulRow f e l).length ≤ f.length + l.length
  | [], f => Nat.le_refl _
  | a :: l, f => Nat.le_trans (len_mulRow e l _) (Nat.le_trans (Nat.add_le_add_right (len_addT f _ _) _) (Nat.le_of_eq (Nat.succ_add_eq_add_succ _ _)))
theorem nrm_mulAcc (p : P) : ∀ (q f : P), nrm (mulAcc f p q) ≤ nrm f + nrm p * nrm q
  | [], f => Nat.le_add_right _ _
  | e :: q, f => by
    rw [nrm_cons, Nat.mul_add, ← Nat.add_assoc]
    exact Nat.le_trans (nrm_mulAcc p q (mulRow f e p)) (Nat.add_le_add_right (nrm_mulRow e p f) _)
theorem len_mulAcc (p : P) : ∀ (q f : P), (mulAcc f p q).length ≤ f.length + p.length * q.length
  | [], f => Nat.le_add_right _ _
  | e :: q, f => by
    rw [List.length_cons, Nat.mul_succ, Nat.add_comm (p.length * q.length), ← Nat.add_assoc]
    exact Nat.le_trans (len_mulAcc p q (mulRow f e p)) (Nat.add_le_add_right (len_mulRow e p f) _)
theorem OkP.kb {p : P} (h : OkP p) {e : List Int × Int} (he : e ∈ p) (i : Nat) : (kget e.1 i).natAbs ≤ 12 := by
  obtain ⟨a, b, c, h1, h2, h3, q⟩ := h.k3 he
  rw [q]
  match i with
  | 0 => exact Nat.le_trans (Nat.le_of_lt h1) (by decide)
  | 1 => exact Nat.le_of_lt h2
  | 2 => exact Nat.le_trans (Nat.le_of_lt h3) (by decide)
  | i + 3 => exact Nat.zero_le _
theorem nrm_derT {i : Nat} {f : P} {e : List Int × Int} (h : (kget e.1 i).natAbs ≤ 12) : nrm (derT i f e) ≤ nrm f + e.2.natAbs * 12 := by
  unfold derT
  split
  · have h2 := nrm_addT f (klow e.1 i) (e.2 * kget e.1 i)
    rw [Int.natAbs_mul] at h2
    exact Nat.le_trans h2 (Nat.add_le_add_left (Nat.mul_le_mul_left _ h) _)
  · exact Nat.le_add_right _ _
theorem len_derT {i : Nat} {f : P} {e : List Int × Int} : (derT i f e).length ≤ f.length + 1 := by
  unfold derT
  split
  · exact len_addT _ _ _
  · exact Nat.le_succ _
theorem nrm_derAcc (i : Nat) : ∀ (p f : P), (∀ e ∈ p, (kget e.1 i).natAbs ≤ 12) → nrm (derAcc i f p) ≤ nrm f + nrm p * 12
  | [], f, _ => Nat.le_add_right _ _
  | e :: p, f, h => by
    rw [nrm_cons, Nat.add_mul, ← Nat.add_assoc]
    exact Nat.le_trans (nrm_derAcc i p (derT i f e) fun x hx => h x (List.mem_cons_of_mem _ hx)) (Nat.add_le_add_right (nrm_derT (h e (List.mem_cons_self ..))) _)
theorem len_derAcc (i : Nat) : ∀ (p f : P), (derAcc i f p).length ≤ f.length + p.length
  | [], f => Nat.le_refl _
  | e :: p, f => Nat.le_trans (len_derAcc i p _) (Nat.le_trans (Nat.add_le_add_right len_derT _) (Nat.le_of_eq (Nat.succ_add_eq_add_succ _ _)))

/-- room for one more, and for what is left -/
def Room (f : P) (a b : Nat) : Prop := nrm f + a ≤ lim ∧ f.length + b ≤ maxLen
theorem Room.use {f : P} {a a' b : Nat} (h : Room f (a' + a) (b + 1)) : nrm f ≤ lim ∧ a' ≤ lim ∧ f.length ≤ maxLen := ⟨Nat.le_trans (Nat.le_add_right _ _) h.1, Nat.le_trans (Nat.le_trans (Nat.le_add_right _ _) (Nat.le_add_left _ _)) h.1, Nat.le_trans (Nat.le_add_right _ _) h.2⟩
theorem Room.next {f g : P} {a a' b : Nat} (h : Room f (a' + a) (b + 1)) (h1 : nrm g ≤ nrm f + a') (h2 : g.length ≤ f.length + 1) : Room g a b :=
  ⟨Nat.le_trans (Nat.add_le_add_right h1 a) (Nat.le_trans (Nat.le_of_eq (Nat.add_assoc _ _ _)) h.1), Nat.le_trans (Nat.add_le_add_right h2 b) (Nat.le_trans (Nat.le_of_eq (Nat.succ_add_eq_add_succ _ _)) h.2)⟩
theorem Room.nextG {f g : P} {a a' b b' : Nat} (h : Room f (a' + a) (b' + b)) (h1 : nrm g ≤ nrm f + a') (h2 : g.length ≤ f.length + b') : Room g a b :=
  ⟨Nat.le_trans (Nat.add_le_add_right h1 a) (Nat.le_trans (Nat.le_of_eq (Nat.add_assoc _ _ _)) h.1), Nat.le_trans (Nat.add_le_add_right h2 b) (Nat.le_trans (Nat.le_of_eq (Nat.add_assoc _ _ _)) h.2)⟩
theorem two_lim : nlim + nlim ≤ lim := by decide +kernel

section
variable {S : Sum} {D : Dm} {n : Nat} {Γ : Tc} {s s₁ : D.ι} {a b d : Ex} {v w : V} {i j : Int} {x y : Nat} (F : Fits S) {b1 b2 : Bool} {p q : P}
theorem subP (hp : keysNd p = true) {e : List Int × Int} (he : e ∈ p) (ha : EV S D n Γ s a (.p b1 p) s) (hb : EV S D n Γ s b (.c (.tup (e.1.map .int))) s) : EV S D (n + 1) Γ s (.sub a b) (.c (rv e.2)) s :=
  EV.subD (keyOf_map e.1) (by rw [dget_toD, pget_mem hp he]; rfl) ha hb
theorem IT.poly {m : Nat} (hp : OkP p) (h : EV S D n Γ s a (.p b1 p) s₁) : IT S D n Γ s [m] (.ovr a) (p.map fun e => [.tup (e.1.map .int)]) s₁ := by
  have h' := IT.dic (m := m) h hp.keys
  rw [toD_items] at h'
  exact h'
theorem Sub.one {x : Nat} {t : Ty} (h : alook Γ x = none) : Sub Γ ((x, t) :: Γ) := Sub.cons h
include F
theorem add_J (hp : OkP p) (hq : OkP q) : J2 S (n + 20) 10 (.p b1 p) (.p b2 q) (.p true (pAdd p q)) :=
  J2.of (x := 0) (y := 1) (F := fn10) (fun _ _ _ _ => F.none) rfl rfl fun lo => by
    show XR S (D0 lo) (n + 19) _ _ [.asg 21 (.bi .dict [(.var 0)]), .for_ [16] (.ovr (.var 1)) [.exp (.call 11 [(.var 21), (.var 16), (.sub (.var 1) (.var 16))])], .ret (.var 21)] _ _
    refine XR.mut (mk := mkP) (a1 := pAdd p q) (EV.dictN (boxed_toD hp) (EV.var rfl)) fun l => ?_
    refine XR.seq (Γ₁ := [(21, .c (.ref l)), (1, .p false q), (0, .p false p)]) (SN.for_ (IT.poly hq (EV.var rfl)) (FN.fold (D := Mt mkP lo l) (α := List Int × Int) (β := P) (it := fun e => [.tup (e.1.map .int)]) (fun _ => [(21, .c (.ref l)), (1, .p false q), (0, .p false p)]) (fun f => f) (fun (f : P) e => addT f e.1 e.2) (fun f l => (∀ e ∈ l, e ∈ q) ∧ Room f (nrm l) l.length) (fun e f l hI => ?_) q p ⟨fun _ h => h, Nat.le_trans (Nat.add_le_add hp.nr hq.nr) two_lim, Nat.le_trans (Nat.add_le_add hp.ln hq.ln) (show 1000 + 1000 ≤ maxLen by decide)⟩)) (XR.retv rfl)
    have he := hI.1 e (List.mem_cons_self ..)
    obtain ⟨r1, r2, r3⟩ := hI.2.use
    exact ⟨XN.sub (XN.one (SN.exp (addT_E F (n := n + 6) r1 (nrm_small hq.lim he) r3 (EV.var rfl) (EV.var rfl) (subP (b1 := false) hq.nd he (EV.var rfl) (EV.var rfl))))) (Sub.one rfl), fun x hx => hI.1 x (List.mem_cons_of_mem _ hx), hI.2.next (nrm_addT f e.1 e.2) (len_addT f e.1 e.2)⟩
theorem neg_J' (hp : OkP p) : J1 S (n + 8) 12 (.p b1 p) (.p true (pNeg p)) :=
  J1.of (x := 0) (F := fn12) (fun _ _ _ => F.none) rfl rfl fun lo => XR.ret (n := n + 6) (EV.dcomp (g := fun c => -c) hp (EV.var rfl) (fun e he => EV.var rfl) fun e he => EV.call1 (rneg_J F) (subP (b1 := false) hp.nd he (EV.var rfl) (EV.var rfl)))
theorem sub_J (hp : OkP p) (hq : OkP q) : J2 S (n + 23) 13 (.p b1 p) (.p b2 q) (.p true (pSub p q)) :=
  J2.of (x := 0) (y := 1) (F := fn13) (fun _ _ _ _ => F.none) rfl rfl fun lo => XR.ret (n := n + 21) (EV.call2 (add_J F (n := n) (b1 := false) hp hq.neg) (EV.var rfl) (EV.call1 (neg_J' F (n := n + 11) (b1 := false) hq) (EV.var rfl)))
theorem scl_J (hp : OkP p) (hi : small i = true) : J2 S (n + 10) 14 (.p b1 p) (.c (rv i)) (.p true (pScl p i)) :=
  J2.of (x := 0) (y := 15) (F := fn14) (fun _ _ _ _ => F.none) rfl rfl fun lo => by
    show XR S (D0 lo) (n + 9) _ _ [.iff (.cmp .eq (.var 15) (.glo 0)) [.ret .dict0] [], .ret (.dcomp (.var 16) (.call 5 [(.sub (.var 0) (.var 16)), (.var 15)]) 16 (.var 0) [0, 15])] _ _
    have ht : TE S (D0 lo) (n + 8) [(15, .c (rv i)), (0, .p false p)] () (.cmp .eq (.var 15) (.glo 0)) (decide (i = 0)) () := TE.cc (eq_zero i) (EV.var rfl) EV.glo
    rw [pScl]
    by_cases h : i = 0
    · rw [if_pos h]
      rw [decide_eq_true h] at ht
      exact XR.iffR ht (XR.ret EV.dict0)
    · rw [if_neg h]
      rw [decide_eq_false h] at ht
      exact XR.seq (SN.iff ht (fun h => by cases h) fun _ => XN.nil) (XR.ret (EV.dcomp (g := fun c => c * i) hp (EV.var rfl) (fun e he => EV.var rfl) fun e he => EV.call2 (rmul_J F (nrm_small hp.lim he) hi) (subP (b1 := false) hp.nd he (EV.var rfl) (EV.var rfl)) (EV.var rfl)))
theorem mul_J (hp : OkP p) (hq : OkP q) : J2 S (n + 22) 15 (.p b1 p) (.p b2 q) (.p true (pMul p q)) :=
  J2.of (x := 0) (y := 1) (F := fn15) (fun _ _ _ _ => F.none) rfl rfl fun lo => by
    show XR S (D0 lo) (n + 21) _ _ [.asg 21 .dict0, .for_ [16] (.ovr (.var 1)) [.for_ [2] (.ovr (.var 0)) [.exp (.call 11 [(.var 21), (.call 0 [(.var 2), (.var 16)]), (.call 5 [(.sub (.var 0) (.var 2)), (.sub (.var 1) (.var 16))])])]], .ret (.var 21)] _ _
    have hlim : nrm p * nrm q ≤ lim := Nat.le_trans (Nat.mul_le_mul hp.nr hq.nr) (by decide +kernel)
    have hlen : p.length * q.length ≤ maxLen := Nat.le_trans (Nat.mul_le_mul hp.ln hq.ln) (by decide)
    refine XR.mut (mk := mkP) (a0 := []) (a1 := pMul p q) EV.dict0 fun l => ?_
    refine XR.seq (Γ₁ := [(21, .c (.ref l)), (1, .p false q), (0, .p false p)]) (SN.for_ (IT.poly hq (EV.var rfl)) (FN.fold (D := Mt mkP lo l) (α := List Int × Int) (β := P) (it := fun e => [.tup (e.1.map .int)]) (fun _ => [(21, .c (.ref l)), (1, .p false q), (0, .p false p)]) (fun f => f) (fun (f : P) e => mulRow f e p) (fun f l => (∀ e ∈ l, e ∈ q) ∧ Room f (nrm p * nrm l) (p.length * l.length)) (fun e f r hI => ?_) q [] ⟨fun _ h => h, Nat.le_trans (Nat.le_of_eq (Nat.zero_add _)) hlim, Nat.le_trans (Nat.le_of_eq (Nat.zero_add _)) hlen⟩)) (XR.retv rfl)
    have he := hI.1 e (List.mem_cons_self ..)
    have hR := hI.2
    rw [nrm_cons, Nat.mul_add, List.length_cons, Nat.mul_succ, Nat.add_comm (p.length * r.length)] at hR
    refine ⟨XN.sub (Γ₁ := [(16, .c (.tup (e.1.map .int))), (21, .c (.ref l)), (1, .p false q), (0, .p false p)]) (XN.one (SN.for_ (IT.poly hp (EV.var rfl)) (FN.fold (D := Mt mkP lo l) (α := List Int × Int) (β := P) (it := fun e => [.tup (e.1.map .int)]) (fun _ => [(16, .c (.tup (e.1.map .int))), (21, .c (.ref l)), (1, .p false q), (0, .p false p)]) (fun f => f) (fun (f : P) a => addT f (kadd a.1 e.1) (a.2 * e.2)) (fun f l => (∀ e ∈ l, e ∈ p) ∧ Room f (nrm l * e.2.natAbs) l.length) (fun a f' l' hJ => ?_) p f ⟨fun _ h => h, Nat.le_trans (Nat.add_le_add_left (Nat.le_trans (Nat.mul_le_mul_left _ (Nat.le_add_right _ _)) (Nat.le_of_eq (Nat.mul_add _ _ _))) _) hR.1, Nat.le_trans (Nat.add_le_add_left (Nat.le_add_right _ _) _) hR.2⟩))) (Sub.one rfl), fun x hx => hI.1 x (List.mem_cons_of_mem _ hx), hR.nextG (nrm_mulRow e p f) (len_mulRow e p f)⟩
    · have ha := hJ.1 a (List.mem_cons_self ..)
      have hS := hJ.2
      rw [nrm_cons, Nat.add_mul] at hS
      obtain ⟨r1, r2, r3⟩ := hS.use
      rw [← Int.natAbs_mul] at r2
      obtain ⟨x0, x1, x2, _, _, _, qa⟩ := hp.k3 ha
      obtain ⟨y0, y1, y2, _, _, _, qe⟩ := hq.k3 he
      have hpp : J2 S (n + 15) 0 (.c (.tup (a.1.map .int))) (.c (.tup (e.1.map .int))) (.c (.tup ((kadd a.1 e.1).map .int))) := by
        rw [qa, qe]; exact pp_J F (n := n + 7)
      exact ⟨XN.sub (XN.one (SN.exp (addT_E F (n := n + 7) r1 (Nat.ble_eq.mpr r2) r3 (EV.var rfl) (EV.call2 hpp (EV.var rfl) (EV.var rfl)) (EV.call2 (rmul_J F (nrm_small hp.lim ha) (nrm_small hq.lim he)) (subP (b1 := false) hp.nd ha (EV.var rfl) (EV.var rfl)) (subP (b1 := false) hq.nd he (EV.var rfl) (EV.var rfl)))))) (Sub.one rfl), fun x hx => hJ.1 x (List.mem_cons_of_mem _ hx), hS.next (by rw [← Int.natAbs_mul]; exact nrm_addT _ _ _) (len_addT _ _ _)⟩
end
end Mine
end

section
/-! Polynomials: slope; the form law_twelve. -/
set_option maxRecDepth 100000
set_option linter.all false
namespace Mine
open PySem

section
variable {S : Sum} {D : Dm} {n : Nat} {Γ : Tc} {s s₁ s₂ s' : D.ι} {a b d e1 e2 : Ex} {v w z : V} {i j k : Int} {x y f : Nat} {t t' u : Ty} {ss : List Sm}
theorem EV.binV {op : Bop} (hk : ∀ H, binop op v w H = some (z, H)) (ha : EV S D n Γ s a (.c v) s₁) (hb : EV S D n Γ s₁ b (.c w) s₂) : EV S D (n + 1) Γ s (.bin op a b) (.c z) s₂ := EV.bin2 (fun r κ ρ H H₁ H₂ e1 e2 => (bd_eq e1).trans ((bd_eq e2).trans (hk _))) ha hb
theorem EV.slT (h : ∀ H, bi (decide (0 ≤ k) && decide (k ≤ 1000000)) (slTo v k.toNat H) = some (z, H)) (ha : EV S D n Γ s a (.c v) s₁) (hb : EV S D n Γ s₁ b (.i k) s₂) : EV S D (n + 1) Γ s (.slTo a b) (.c z) s₂ := EV.bin2 (fun r κ ρ H H₁ H₂ e1 e2 => (bd_eq e1).trans ((bd_eq (f := fun y H₂ => onInt y fun k => bi (decide (0 ≤ k) && decide (k ≤ 1000000)) (slTo v k.toNat H₂)) (x := .int k) e2).trans (h _))) ha hb
theorem EV.slF (h : ∀ H, bi (decide (0 ≤ k) && decide (k ≤ 1000000)) (slFrom v k.toNat H) = some (z, H)) (ha : EV S D n Γ s a (.c v) s₁) (hb : EV S D n Γ s₁ b (.i k) s₂) : EV S D (n + 1) Γ s (.slFrom a b) (.c z) s₂ := EV.bin2 (fun r κ ρ H H₁ H₂ e1 e2 => (bd_eq e1).trans ((bd_eq (f := fun y H₂ => onInt y fun k => bi (decide (0 ≤ k) && decide (k ≤ 1000000)) (slFrom v k.toNat H₂)) (x := .int k) e2).trans (h _))) ha hb
theorem EV.tup1 (ha : EV S D n Γ s a (.c v) s₁) : EV S D (n + 1) Γ s (.tup [a]) (.c (.tup [v])) s₁ := EV.un (fun r κ ρ H H' e => bd_eq ((bd_eq e).trans rfl)) ha
theorem der_key {a b c : Int} {i : Nat} (hi : i < 3) (h16 : vlook Γ 16 = some (.c (.tup [.int a, .int b, .int c]))) (h3 : vlook Γ 3 = some (.i i)) :
    EV S D (n + 2) Γ s (.sub (.var 16) (.var 3)) (.i (kget [a, b, c] i)) s ∧ EV S D (n + 6) Γ s (.bin .add (.bin .add (.slTo (.var 16) (.var 3)) (.tup [(.bin .sub (.sub (.var 16) (.var 3)) (.int 1))])) (.slFrom (.var 16) (.bin .add (.var 3) (.int 1)))) (.c (.tup ((klow [a, b, c] i).map .int))) s := by
  have g : ∀ m, EV S D (m + 1) Γ s (.var 16) (.c (.tup [.int a, .int b, .int c])) s := fun m => EV.var h16
  have g3 : ∀ m, EV S D (m + 1) Γ s (.var 3) (.i i) s := fun m => EV.var h3
  have plus : ∀ m, EV S D (m + 2) Γ s (.bin .add (.var 3) (.int 1)) (.i (i + 1)) s := fun m => EV.bin (fun _ => rfl) (g3 m) EV.int
  match i, hi, g3, plus with
  | 0, _, g3, plus => exact ⟨EV.sub (g _) (g3 _) rfl, EV.binV (fun _ => rfl) (EV.binV (fun _ => rfl) (EV.slT (fun _ => rfl) (g _) (g3 _)) (EV.tup1 (EV.bin (fun _ => rfl) (EV.sub (g _) (g3 _) rfl) EV.int))) (EV.slF (fun _ => rfl) (g _) (plus _))⟩
  | 1, _, g3, plus => exact ⟨EV.sub (g _) (g3 _) rfl, EV.binV (fun _ => rfl) (EV.binV (fun _ => rfl) (EV.slT (fun _ => rfl) (g _) (g3 _)) (EV.tup1 (EV.bin (fun _ => rfl) (EV.sub (g _) (g3 _) rfl) EV.int))) (EV.slF (fun _ => rfl) (g _) (plus _))⟩
  | 2, _, g3, plus => exact ⟨EV.sub (g _) (g3 _) rfl, EV.binV (fun _ => rfl) (EV.binV (fun _ => rfl) (EV.slT (fun _ => rfl) (g _) (g3 _)) (EV.tup1 (EV.bin (fun _ => rfl) (EV.sub (g _) (g3 _) rfl) EV.int))) (EV.slF (fun _ => rfl) (g _) (plus _))⟩
end
section
variable {S : Sum} {n : Nat} (F : Fits S) {b1 b2 : Bool} {p q : P}
include F
theorem der_J (hp : OkP p) {i : Nat} (hi : i < 3) : J2 S (n + 22) 16 (.p b1 p) (.i i) (.p true (pDer p i)) :=
  J2.of (x := 0) (y := 3) (F := fn16) (fun _ _ _ _ => F.none) rfl rfl fun lo => by
    show XR S (D0 lo) (n + 21) _ _ [.asg 21 .dict0, .for_ [16] (.ovr (.var 0)) [.iff (.cmp .gt (.sub (.var 16) (.var 3)) (.int 0)) [.asg 29 (.bin .add (.bin .add (.slTo (.var 16) (.var 3)) (.tup [(.bin .sub (.sub (.var 16) (.var 3)) (.int 1))])) (.slFrom (.var 16) (.bin .add (.var 3) (.int 1)))), .exp (.call 11 [(.var 21), (.var 29), (.call 5 [(.sub (.var 0) (.var 16)), (.tup [(.sub (.var 16) (.var 3)), (.int 1)])])])] []], .ret (.var 21)] _ _
    have hlim : nrm p * 12 ≤ lim := Nat.le_trans (Nat.mul_le_mul_right _ hp.nr) (by decide +kernel)
    refine XR.mut (mk := mkP) (a0 := []) (a1 := pDer p i) EV.dict0 fun l => ?_
    refine XR.seq (Γ₁ := [(21, .c (.ref l)), (3, .i i), (0, .p false p)]) (SN.for_ (IT.poly hp (EV.var rfl)) (FN.fold (D := Mt mkP lo l) (α := List Int × Int) (β := P) (it := fun e => [.tup (e.1.map .int)]) (fun _ => [(21, .c (.ref l)), (3, .i i), (0, .p false p)]) (fun f => f) (derT i) (fun f l => (∀ e ∈ l, e ∈ p) ∧ Room f (nrm l * 12) l.length) (fun e f r hI => ?_) p [] ⟨fun _ h => h, Nat.le_trans (Nat.le_of_eq (Nat.zero_add _)) hlim, Nat.le_trans (Nat.le_of_eq (Nat.zero_add _)) (Nat.le_trans hp.ln (show 1000 ≤ maxLen by decide))⟩)) (XR.retv rfl)
    have he := hI.1 e (List.mem_cons_self ..)
    have hR := hI.2
    rw [nrm_cons, Nat.add_mul] at hR
    obtain ⟨r1, r2, r3⟩ := hR.use
    have kb := hp.kb he i
    refine ⟨XN.one (SN.iff (p := decide (0 < kget e.1 i)) (s₁ := f) (TE.cc (v := .int (kget e.1 i)) (fun _ => rfl) ?_ EV.int) (fun h => ?_) fun h => ?_), fun x hx => hI.1 x (List.mem_cons_of_mem _ hx), hR.next (nrm_derT kb) len_derT⟩
    · obtain ⟨a, b, c, _, _, _, q⟩ := hp.k3 he
      rw [q]; exact (der_key hi rfl rfl).1
    · rw [derT, if_pos (of_decide_eq_true h)]
      have h2 : small (e.2 * kget e.1 i) = true := Nat.ble_eq.mpr (by rw [Int.natAbs_mul]; exact Nat.le_trans (Nat.mul_le_mul_left _ kb) r2)
      have hk : ∀ m (Γ : Tc), vlook Γ 16 = some (.c (.tup (e.1.map .int))) → vlook Γ 3 = some (.i i) → EV S (Mt mkP lo l) (m + 2) Γ f (.sub (.var 16) (.var 3)) (.i (kget e.1 i)) f ∧ EV S (Mt mkP lo l) (m + 6) Γ f (.bin .add (.bin .add (.slTo (.var 16) (.var 3)) (.tup [(.bin .sub (.sub (.var 16) (.var 3)) (.int 1))])) (.slFrom (.var 16) (.bin .add (.var 3) (.int 1)))) (.c (.tup ((klow e.1 i).map .int))) f := fun m Γ => by
        obtain ⟨a, b, c, _, _, _, q⟩ := hp.k3 he
        rw [q]; exact der_key hi
      exact XN.sub (XN.seq (s₁ := f) (SN.asg (hk (n + 11) _ rfl rfl).2) (XN.one (SN.exp (addT_E F (n := n + 6) r1 h2 r3 (EV.var rfl) (EV.var rfl) (EV.call2 (rmul_J F (nrm_small hp.lim he) (Nat.ble_eq.mpr (Nat.le_trans kb (by decide +kernel)))) (subP (b1 := false) hp.nd he (EV.var rfl) (EV.var rfl)) (EV.tup2 (hk (n + 11) _ rfl rfl).1 EV.int)))))) (.and rfl (.and rfl (.and rfl .nil)))
    · rw [derT, if_neg (of_decide_eq_false h)]
      exact XN.sub XN.nil (Sub.one rfl)
end
end Mine
end

section
/-! The three letters; law_twelve. -/
set_option maxRecDepth 100000
set_option linter.all false
namespace Mine
open PySem

noncomputable def pTw0 (f : P) : P := pMul (pDer f 0) (pSub (pMul (letterP 0) (letterP 0)) (letterP 1))
noncomputable def pTw1' (f : P) : P := pMul (pDer f 1) (pSub (pMul (letterP 0) (letterP 1)) (letterP 2))
noncomputable def pTw2' (f : P) : P := pMul (pDer f 2) (pSub (pMul (letterP 0) (letterP 2)) (pMul (letterP 1) (letterP 1)))
noncomputable def pTw1 (f : P) : P := pScl (pTw1' f) 4
noncomputable def pTw2 (f : P) : P := pScl (pTw2' f) 6
noncomputable def pTw (f : P) : P := pAdd (pAdd (pTw0 f) (pTw1 f)) (pTw2 f)
structure OkTw (f : P) : Prop where
  f0 : OkP f
  d0 : OkP (pDer f 0)
  d1 : OkP (pDer f 1)
  d2 : OkP (pDer f 2)
  t0 : OkP (pTw0 f)
  t1' : OkP (pTw1' f)
  t2' : OkP (pTw2' f)
  t1 : OkP (pTw1 f)
  t2 : OkP (pTw2 f)
  t01 : OkP (pAdd (pTw0 f) (pTw1 f))
noncomputable def okP (p : P) : Bool := keysNd p && (p.all (fun e => boxK e.1) && (Nat.ble (nrm p) nlim && Nat.ble p.length 1000))
theorem okP_ok {p : P} (h : okP p = true) : OkP p := and_c h fun h1 h => and_c h fun h2 h => and_c h fun h3 h4 => ⟨h1, h2, Nat.le_of_ble_eq_true h3, Nat.le_of_ble_eq_true h4⟩
theorem okL (i : Nat) (h : i < 3) : OkP (letterP i) := by
  match i, h with
  | 0, _ => exact okP_ok (by decide +kernel)
  | 1, _ => exact okP_ok (by decide +kernel)
  | 2, _ => exact okP_ok (by decide +kernel)

theorem xs_asgT {S : Sum} {r : Rn} {κ ts : List Nat} {a : Ex} {ss : List Sm} {ρ : En} {H H1 : Hp} {v : V} {vs : List V} (e : r.ev κ a ρ H = some (v, H1)) (hp : partsOf v H1 = some vs) (hl : Nat.beq vs.length ts.length = true) : (step tbl S r).xs κ (.asgT ts a :: ss) ρ H = r.xs κ ss (En.sets ρ ts vs) H1 :=
  bd_eq ((bd_eq e).trans ((bo_eq hp).trans (bi_eq hl)))
section
variable {S : Sum} {D : Dm} {n : Nat} {Γ : Tc} {s s' : D.ι} {ss : List Sm} {t : Ty} (F : Fits S)
noncomputable abbrev lets : Ex := .comp (.call 9 [(.var 3), (.int 3)]) [3] (.rng (.int 3)) none []
include F
theorem XR.letters (hr : XR S D (n + 13) ((77, .p false (letterP 2)) :: (76, .p false (letterP 1)) :: (58, .p false (letterP 0)) :: Γ) s ss t s') : XR S D (n + 14) Γ s (.asgT [58, 76, 77] lets :: ss) t s' := fun κ ρ H g G q => by
  have hc : ∀ m : Nat, m < 3 → EV S D (n + 12) [(3, .i m)] s (.call 9 [.var 3, .int 3]) (.p true (letterP m)) s := fun m hm => EV.call2 (letter_J F (n := n + 1) hm) (EV.var rfl) EV.int
  have c0 : ∀ {H'}, Cfg D Γ s κ ρ H' → ∀ m : Int, Cfg D [(3, .i m)] s κ (En.set (En.only [] ρ) 3 (.int m)) H' := fun g m => Cfg.set ⟨g.low, g.fre, g.st, Has.nil⟩ rfl
  refine hc 0 (by decide) κ _ H (c0 g 0) G fun v0 H1 e1 g1 l1 o1 => ?_
  have k1 : Cfg D Γ s κ ρ H1 := ⟨g1.low, g1.fre, g1.st, g.has.mono l1⟩
  refine hc 1 (by decide) κ _ H1 (c0 k1 1) G fun v1 H2 e2 g2 l2 o2 => ?_
  have k2 : Cfg D Γ s κ ρ H2 := ⟨g2.low, g2.fre, g2.st, k1.has.mono l2⟩
  refine hc 2 (by decide) κ _ H2 (c0 k2 2) G fun v2 H3 e3 g3 l3 o3 => ?_
  have k3 : Cfg D Γ s κ ρ H3 := ⟨g3.low, g3.fre, g3.st, k2.has.mono l3⟩
  have hg : compGo (run tbl S (n + 12)) κ (.call 9 [.var 3, .int 3]) [3] none (En.only [] ρ) (rngs 0 3) H = some ([v0, v1, v2], H3) := compGo_cons e1 (compGo_cons e2 (compGo_cons e3 rfl))
  have hcell : lstAt (H3 ++ [.lst [v0, v1, v2]]) H3.length = some [v0, v1, v2] := lstAt_of Hp.get_length
  have k4 := (k3.new (.lst [v0, v1, v2])).1
  have l4 : Le D.m H3 (H3 ++ [C.lst [v0, v1, v2]]) := Le.app
  have p0 : (Ty.p false (letterP 0)).ok D.lo D.m v0 (H3 ++ [.lst [v0, v1, v2]]) := Ty.ok.old (t := .p true (letterP 0)) (((o1.mono l2).mono l3).mono l4)
  have p1 : (Ty.p false (letterP 1)).ok D.lo D.m v1 (H3 ++ [.lst [v0, v1, v2]]) := Ty.ok.old (t := .p true (letterP 1)) ((o2.mono l3).mono l4)
  have p2 : (Ty.p false (letterP 2)).ok D.lo D.m v2 (H3 ++ [.lst [v0, v1, v2]]) := Ty.ok.old (t := .p true (letterP 2)) (o3.mono l4)
  have k5 : Cfg D ((77, .p false (letterP 2)) :: (76, .p false (letterP 1)) :: (58, .p false (letterP 0)) :: Γ) s κ (En.sets ρ [58, 76, 77] [v0, v1, v2]) (H3 ++ [.lst [v0, v1, v2]]) := ((k4.set p0).set p1).set p2
  have hit : iter (run tbl S (n + 12)) κ [3] (.rng (.int 3)) ρ H = some (rngs 0 3, κ, H) := rfl
  have hcomp : (run tbl S (n + 13)).ev κ lets ρ H = some (.ref H3.length, H3 ++ [.lst [v0, v1, v2]]) := ev_comp hit hg (show 3 ≤ maxLen by decide)
  have hx : (run tbl S (n + 14)).xs κ (.asgT [58, 76, 77] lets :: ss) ρ H = (run tbl S (n + 13)).xs κ ss (En.sets ρ [58, 76, 77] [v0, v1, v2]) (H3 ++ [.lst [v0, v1, v2]]) := xs_asgT hcomp hcell rfl
  exact hr κ _ _ k5 G fun v ρ2 H5 e5 st5 l5 o5 => q v ρ2 H5 (hx.trans e5) st5 ((((l1.trans l2).trans l3).trans l4).trans l5) o5
end
section
variable {S : Sum} {n : Nat} (F : Fits S) {b1 : Bool} {p : P}
include F
theorem tw_J (h : OkTw p) : J1 S (n + 40) 37 (.p b1 p) (.p true (pTw p)) :=
  J1.of (x := 78) (F := fn37) (fun _ _ _ => F.none) rfl rfl fun lo => by
    have l0 := okL 0 (by decide)
    have l1 := okL 1 (by decide)
    have l2 := okL 2 (by decide)
    have m00 : OkP (pMul (letterP 0) (letterP 0)) := okP_ok (by decide +kernel)
    have m01 : OkP (pMul (letterP 0) (letterP 1)) := okP_ok (by decide +kernel)
    have m02 : OkP (pMul (letterP 0) (letterP 2)) := okP_ok (by decide +kernel)
    have m11 : OkP (pMul (letterP 1) (letterP 1)) := okP_ok (by decide +kernel)
    have c0 : OkP (pSub (pMul (letterP 0) (letterP 0)) (letterP 1)) := okP_ok (by decide +kernel)
    have c1 : OkP (pSub (pMul (letterP 0) (letterP 1)) (letterP 2)) := okP_ok (by decide +kernel)
    have c2 : OkP (pSub (pMul (letterP 0) (letterP 2)) (pMul (letterP 1) (letterP 1))) := okP_ok (by decide +kernel)
    have dr : ∀ (m : Nat) (Γ : Tc) (i : Nat), i < 3 → vlook Γ 78 = some (.p false p) → EV S (D0 lo) (m + 23) Γ () (.call 16 [.var 78, .int i]) (.p true (pDer p i)) () := fun m Γ i hi hv => EV.call2 (der_J F (n := m) (b1 := false) h.f0 hi) (EV.var hv) EV.int
    have mm : ∀ (m : Nat) (Γ : Tc) (a b : Nat) (p q : P), OkP p → OkP q → vlook Γ a = some (.p false p) → vlook Γ b = some (.p false q) → EV S (D0 lo) (m + 23) Γ () (.call 15 [.var a, .var b]) (.p true (pMul p q)) () := fun m Γ a b p q hp hq ha hb => EV.call2 (mul_J F (n := m) (b1 := false) (b2 := false) hp hq) (EV.var ha) (EV.var hb)
    refine XR.letters F (n := n + 25) ?_
    refine XR.asg (t := .p true (pTw0 p)) (EV.call2 (mul_J F (n := n + 14) h.d0 c0) (dr (n + 13) _ 0 (by decide) rfl) (EV.call2 (sub_J F (n := n + 12) m00 l1) (mm (n + 12) _ _ _ _ _ l0 l0 rfl rfl) (EV.var (u := .p false (letterP 1)) rfl))) ?_
    refine XR.asg (t := .p true (pTw1 p)) (EV.call2 (scl_J F (n := n + 25) h.t1' (by decide +kernel)) (EV.call2 (mul_J F (n := n + 12) h.d1 c1) (dr (n + 11) _ 1 (by decide) rfl) (EV.call2 (sub_J F (n := n + 10) m01 l2) (mm (n + 10) _ _ _ _ _ l0 l1 rfl rfl) (EV.var (u := .p false (letterP 2)) rfl))) (EV.tup2 EV.int EV.int)) ?_
    refine XR.asg (t := .p true (pTw2 p)) (EV.call2 (scl_J F (n := n + 24) h.t2' (by decide +kernel)) (EV.call2 (mul_J F (n := n + 11) h.d2 c2) (dr (n + 10) _ 2 (by decide) rfl) (EV.call2 (sub_J F (n := n + 9) m02 m11) (mm (n + 9) _ _ _ _ _ l0 l2 rfl rfl) (mm (n + 9) _ _ _ _ _ l1 l1 rfl rfl))) (EV.tup2 EV.int EV.int)) ?_
    exact XR.ret (EV.call2 (add_J F (n := n + 13) h.t01 h.t2) (EV.call2 (add_J F (n := n + 12) (b1 := false) (b2 := false) h.t0 h.t1) (EV.var rfl) (EV.var rfl)) (EV.var (u := .p false (pTw2 p)) rfl))
end
end Mine
end

section
/-! Rows of numbers: the simple functions. -/
set_option maxRecDepth 100000
set_option linter.all false
namespace Mine
open PySem

noncomputable def trimN (z : Z) : Nat → Nat
  | 0 => 0
  | n + 1 => if (z[n]?).getD 0 = 0 then trimN z n else n + 1
noncomputable def zTrim (z : Z) : Z := z.take (trimN z z.length)
theorem toL_get (z : Z) (i : Nat) : (toL z)[i]? = (z[i]?).map V.int := by unfold toL; rw [List.getElem?_map]
theorem toL_len (z : Z) : (toL z).length = z.length := List.length_map _
theorem nth_toL {z : Z} {i : Nat} (h : i < z.length) : nth (toL z) (i : Int) = some (.int ((z[i]?).getD 0)) := by
  unfold nth
  rw [decide_eq_true (Int.natCast_nonneg i), Int.toNat_natCast, toL_get, List.getElem?_eq_getElem h]; rfl
theorem trimN_le (z : Z) : ∀ k, trimN z k ≤ k
  | 0 => Nat.le_refl _
  | k + 1 => by
    rw [trimN]
    split
    · exact Nat.le_succ_of_le (trimN_le z k)
    · exact Nat.le_refl _
theorem rngs_eq : ∀ (n : Nat) (a : Int), rngs a n = (List.range n).map fun i : Nat => [V.int (a + i)]
  | 0, a => rfl
  | n + 1, a => by
    rw [rngs, rngs_eq n (a + 1), List.range_succ_eq_map, List.map_cons, List.map_map, Int.natCast_zero, Int.add_zero]
    refine congrArg _ (List.map_congr_left fun i _ => ?_)
    show [V.int (a + 1 + i)] = [V.int (a + ((i + 1 : Nat) : Int))]
    rw [Int.natCast_add, Int.add_assoc, Int.add_comm 1]; rfl
theorem rngs0 (n : Nat) : rngs 0 n = (List.range n).map fun i : Nat => [V.int i] := by
  rw [rngs_eq]; exact List.map_congr_left fun i _ => by rw [Int.zero_add]
theorem enums_eq : ∀ (z : Z) (a : Int), enums a (toL z) = (List.range z.length).map fun i : Nat => [V.int (a + i), V.int ((z[i]?).getD 0)]
  | [], a => rfl
  | x :: z, a => by
    show [V.int a, V.int x] :: enums (a + 1) (toL z) = _
    rw [enums_eq z (a + 1), List.length_cons, List.range_succ_eq_map, List.map_cons, List.map_map, Int.natCast_zero, Int.add_zero]
    refine congrArg _ (List.map_congr_left fun i _ => ?_)
    show [V.int (a + 1 + i), V.int ((z[i]?).getD 0)] = [V.int (a + ((i + 1 : Nat) : Int)), V.int ((z[i]?).getD 0)]
    rw [Int.natCast_add, Int.add_assoc, Int.add_comm 1]; rfl
noncomputable def zNeg (z : Z) : Z := z.map fun x => -x
noncomputable def zScl (z : Z) (k : Int) : Z := if k = 0 then [] else z.map fun x => x * k
noncomputable def zSlope (z : Z) : Z := (List.range z.length).map fun i : Nat => (i : Int) * (z[i]?).getD 0
noncomputable def zRaw (a b : Z) : Z := (List.range (max a.length b.length)).map fun i => (a[i]?).getD 0 + (b[i]?).getD 0
noncomputable def zAdd (a b : Z) : Z := zTrim (zRaw a b)
noncomputable def zSub (z y : Z) : Z := zAdd z (zNeg y)
noncomputable def zLong (z : Z) (n : Nat) : Z := z.take n ++ List.replicate (n - z.length) 0
def smZ (z : Z) : Prop := ∀ x ∈ z, small x = true
theorem smZ.get {z : Z} (h : smZ z) {i : Nat} (hi : i < z.length) : small ((z[i]?).getD 0) = true := by rw [List.getElem?_eq_getElem hi]; exact h _ (List.getElem_mem hi)
theorem small_nat {i : Nat} (h : i ≤ 1000) : small (i : Int) = true := Nat.ble_eq.mpr (Nat.le_trans h (by decide +kernel))

section
variable {S : Sum} {D : Dm} {n : Nat} {Γ Γ' : Tc} {s s₁ s₂ s' : D.ι} {a b d e : Ex} {v w : V} {i j k : Int} {x : Nat} {t u : Ty} {ss : List Sm} {xs ys : List V} {q q' : Bool} {z y : Z}
theorem EV.slL {m : Nat} (hm : m ≤ 1000) (ha : EV S D n Γ s a (.z q z) s₁) (hb : EV S D n Γ s₁ b (.i m) s₂) : EV S D (n + 1) Γ s (.slTo a b) (.z true (z.take m)) s₂ :=
  EV.new2 (fun r κ ρ H H₁ H₂ v w e1 e2 o1 o2 => by
    obtain ⟨l, rfl, o, _⟩ := o1
    cases o2
    refine (bd_eq e1).trans ((bd_eq (f := fun y H₂ => onInt y fun k => bi (decide (0 ≤ k) && decide (k ≤ 1000000)) (slTo (.ref l) k.toNat H₂)) (x := .int m) e2).trans ((bi_eq ?_).trans ((bo_eq (lstAt_of o.2)).trans ?_)))
    · rw [Bool.and_eq_true, decide_eq_true_iff, decide_eq_true_iff]; exact ⟨Int.natCast_nonneg m, Int.le_trans (Int.ofNat_le.mpr hm) (by decide)⟩
    · unfold toL; rw [List.map_take]; rfl) ha hb
theorem EV.addL (hl : z.length + y.length ≤ maxLen) (ha : EV S D n Γ s a (.z q z) s₁) (hb : EV S D n Γ s₁ b (.z q' y) s₂) : EV S D (n + 1) Γ s (.bin .add a b) (.z true (z ++ y)) s₂ :=
  EV.new2 (fun r κ ρ H H₁ H₂ v w e1 e2 o1 o2 => by
    obtain ⟨l, rfl, o, _⟩ := o1
    obtain ⟨l', rfl, o', _⟩ := o2
    refine (bd_eq e1).trans ((bd_eq e2).trans ((bo_eq (lstAt_of o.2)).trans ((bo_eq (lstAt_of o'.2)).trans ((bi_eq ?_).trans ?_))))
    · rw [toL_len, toL_len]; exact Nat.ble_eq.mpr hl
    · unfold toL; rw [List.map_append]) ha hb
theorem EV.mulL {m : Nat} (hm : i.toNat = m) (h1 : -100000 ≤ i) (h2 : i ≤ 100000) (ha : EV S D n Γ s a (.d q (.lst [v])) s₁) (hb : EV S D n Γ s₁ b (.i i) s₂) : EV S D (n + 1) Γ s (.bin .mul a b) (.d true (.lst (List.replicate m v))) s₂ :=
  EV.new2 (fun r κ ρ H H₁ H₂ x y e1 e2 o1 o2 => by
    obtain ⟨l, rfl, o, _⟩ := o1
    cases o2
    refine (bd_eq e1).trans ((bd_eq e2).trans ((bo_eq (lstAt_of o.2)).trans ((bi_eq ?_).trans (by rw [hm]))))
    rw [decide_eq_true h1, decide_eq_true h2]; rfl) ha hb
theorem EV.max (ha : EV S D n Γ s a (.i i) s₁) (hb : EV S D n Γ s₁ b (.i j) s₂) : EV S D (n + 1) Γ s (.bi .max [a, b]) (.i (if i < j then j else i)) s₂ := EV.bin2 (fun r κ ρ H H₁ H₂ e1 e2 => (bd_eq ((bd_eq e1).trans (bd_eq ((bd_eq e2).trans rfl)))).trans rfl) ha hb
theorem EV.lst0 : EV S D (n + 1) Γ s (.lst []) (.z true []) s := EV.new fun _ _ _ _ => rfl
theorem EV.lenZ (ha : EV S D n Γ s a (.z q z) s₁) : EV S D (n + 1) Γ s (.bi .len [a]) (.i z.length) s₁ := by
  have h := EV.len ha
  rw [toL_len] at h; exact h
theorem EV.subZ {m : Nat} (hm : m < z.length) (ha : EV S D n Γ s a (.z q z) s₁) (hb : EV S D n Γ s₁ b (.i m) s₂) : EV S D (n + 1) Γ s (.sub a b) (.i ((z[m]?).getD 0)) s₂ := EV.subL (nth_toL hm) ha hb
theorem SN.aug {op : Bop} (h : vlook Γ x = some (.i i)) (hk : augop op i j = some k) (he : EV S D n Γ s e (.i j) s₁) : SN S D n Γ s (.aug x op e) ((x, .i k) :: Γ) s₁ := fun rest κ ρ H g G qq => bo_c h fun t h1 h2 => by
  obtain ⟨v, e1, e2⟩ := g.has x t h1
  have e2 := e2.old (lo' := 0)
  rw [Option.some.inj h2] at e2
  cases e2
  refine he κ ρ H g G fun w H1 e3 g1 l1 o1 => ?_
  cases o1
  exact qq (ρ.set x (.int k)) H1 (bd_eq ((bo_eq (f := fun old => bd ((run tbl S n).ev κ e ρ H) fun v H₁ => onInt old fun a => onInt v fun b => bo (augop op a b) fun u => some (ρ.set x (.int u), H₁)) e1).trans ((bd_eq (f := fun v H₁ => onInt v fun b => bo (augop op i b) fun u => some (ρ.set x (.int u), H₁)) (x := .int j) e3).trans (bo_eq hk)))) (g1.set rfl) l1
theorem IT.row {m : Nat} (h : EV S D n Γ s a (.z q z) s₁) : IT S D n Γ s [m] (.ovr a) (z.map fun i => [.int i]) s₁ := by
  have h' := IT.lst (m := m) h
  unfold toL at h'
  rw [List.map_map] at h'
  exact h'
theorem IT.enuZ {m m' : Nat} (h : EV S D n Γ s a (.z q z) s₁) : IT S D n Γ s [m, m'] (.enu a) ((List.range z.length).map fun i : Nat => [V.int (i : Int), V.int ((z[i]?).getD 0)]) s₁ := by
  have h' := IT.enuL (m := m) (m' := m') h
  rw [enums_eq] at h'
  rw [show (fun i : Nat => [V.int (0 + (i : Int)), V.int ((z[i]?).getD 0)]) = fun i : Nat => [V.int (i : Int), V.int ((z[i]?).getD 0)] by funext i; rw [Int.zero_add]] at h'
  exact h'
theorem IT.rngN {m k : Nat} (h : EV S D n Γ s a (.i k) s₁) (hk : k ≤ 1000) : IT S D n Γ s [m] (.rng a) ((List.range k).map fun i : Nat => [V.int i]) s₁ := by
  have h' := IT.rng (m := m) h ⟨Int.le_trans (by decide) (Int.natCast_nonneg k), Int.le_trans (Int.ofNat_le.mpr hk) (by decide)⟩
  rw [Int.toNat_natCast, rngs0] at h'
  exact h'
theorem EV.compZ {α : Type} {ts fr : List Nat} {it : It} {l : List α} {f : α → List V} {g : α → Int} (hi : IT S D n Γ s ts it (l.map f) s₁) (h : ∀ x ∈ l, EV S D n (bindT ts (f x) (onlyT fr Γ)) s₁ a (.i (g x)) s₁) (hl : l.length ≤ 1000) : EV S D (n + 1) Γ s (.comp a ts it none fr) (.z true (l.map g)) s₁ := by
  have h' := EV.comp hi (CI.maps (g := fun x => V.int (g x)) h) (by rw [List.length_map]; exact Nat.le_trans hl (by decide))
  rw [Ty.z, toL, List.map_map]
  exact h'
end

section
variable {S : Sum} {n : Nat} (F : Fits S) {b1 b2 : Bool} {z y : Z}
noncomputable def trC : Ex := .and (.cmp .gt (.var 55) (.int 0)) (.cmp .eq (.sub (.var 34) (.bin .sub (.var 55) (.int 1))) (.int 0))
noncomputable def trB : List Sm := [.aug 55 .sub (.int 1)]
theorem pred_cast (k : Nat) : ((k + 1 : Nat) : Int) - 1 = (k : Int) := Int.add_sub_cancel (k : Int) 1
theorem trim_w {D : Dm} {s : D.ι} {m : Nat} : ∀ k, k ≤ z.length → WN S D (m + k + 9) [(55, .i k), (34, .z false z)] s trC trB [(55, .i (trimN z k)), (34, .z false z)] s
  | 0, _ => WN.stop (TE.and (p := false) (q := false) (TE.cc (fun _ => rfl) (EV.var rfl) EV.int) fun h => by cases h)
  | k + 1, hk => by
    have ht : TE S D (m + k + 9) [(55, .i (k + 1 : Nat)), (34, .z false z)] s trC (true && decide ((z[k]?).getD 0 = 0)) s :=
      TE.and (TE.cc (v := .int (k + 1 : Nat)) (w := .int 0) (fun _ => congrArg some (decide_eq_true (Int.natCast_pos.mpr (Nat.succ_pos k)))) (EV.var rfl) EV.int) fun _ => TE.cc (eq_k rfl) (EV.subZ hk (EV.var (u := .z false z) rfl) (EV.bin (fun _ => congrArg (fun i => some (V.int i, _)) (pred_cast k)) (EV.var (u := .i (k + 1 : Nat)) rfl) EV.int)) EV.int
    rw [trimN]
    by_cases h0 : (z[k]?).getD 0 = 0
    · rw [if_pos h0]
      rw [decide_eq_true h0] at ht
      exact WN.turn ht (XN.sub (XN.one (SN.aug (i := ((k + 1 : Nat) : Int)) (j := 1) (k := k) rfl (congrArg some (pred_cast k)) EV.int)) (.and rfl (.and rfl .nil))) (trim_w (m := m) k (Nat.le_of_succ_le hk))
    · rw [if_neg h0]
      rw [decide_eq_false h0] at ht
      exact WN.stop ht
include F
theorem trim_J (hl : z.length ≤ 60) : J1 S (n + 80) 27 (.z b1 z) (.z true (zTrim z)) :=
  J1.of (x := 34) (F := fn27) (fun _ _ _ => F.none) rfl rfl fun lo => by
    show XR S (D0 lo) (n + 79) _ _ [.asg 55 (.bi .len [(.var 34)]), .whl trC trB, .ret (.bi .list [(.slTo (.var 34) (.var 55))])] _ _
    have hw := trim_w (S := S) (D := D0 lo) (s := ()) (m := n + 68 - z.length) z.length (Nat.le_refl _)
    rw [show n + 68 - z.length + z.length + 9 = n + 77 by omega] at hw
    exact XR.asg (EV.lenZ (EV.var (u := .z false z) rfl)) (XR.seq (SN.whl hw) (XR.ret (EV.listN (EV.slL (Nat.le_trans (trimN_le z _) (Nat.le_trans hl (by decide))) (EV.var (u := .z false z) rfl) (EV.var rfl)))))
theorem zneg_J (hl : z.length ≤ 60) : J1 S (n + 8) 29 (.z b1 z) (.z true (zNeg z)) :=
  J1.of (x := 58) (F := fn29) (fun _ _ _ => F.none) rfl rfl fun lo => XR.ret (n := n + 6) (EV.compZ (IT.row (EV.var (u := .z false z) rfl)) (fun i _ => EV.neg (EV.var rfl)) (Nat.le_trans hl (by decide)))
theorem zscl_J {k : Int} (hl : z.length ≤ 60) (hs : smZ z) (hk : small k = true) : J2 S (n + 10) 31 (.z b1 z) (.i k) (.z true (zScl z k)) :=
  J2.of (x := 58) (y := 31) (F := fn31) (fun _ _ _ _ => F.none) rfl rfl fun lo => by
    refine XR.ret (n := n + 8) (EV.ite (TE.cc (v := .int k) (ne_k rfl) (EV.var rfl) EV.int) (fun h => ?_) fun h => ?_)
    · rw [zScl, if_neg (fun q => by rw [q] at h; cases h)]
      exact EV.compZ (IT.row (EV.var (u := .z false z) rfl)) (fun i hi => EV.bin (mul_k (hs i hi) hk) (EV.var rfl) (EV.var rfl)) (Nat.le_trans hl (by decide))
    · rw [zScl, if_pos (by cases hd : decide (k = 0); rw [hd] at h; cases h; exact of_decide_eq_true hd)]
      exact EV.lst0
theorem slope_J (hl : z.length ≤ 60) (hs : smZ z) : J1 S (n + 8) 40 (.z b1 z) (.z true (zSlope z)) :=
  J1.of (x := 34) (F := fn40) (fun _ _ _ => F.none) rfl rfl fun lo => XR.ret (n := n + 6) (EV.compZ (IT.enuZ (EV.var (u := .z false z) rfl)) (fun i hi => EV.bin (mul_k (small_nat (Nat.le_trans (Nat.le_of_lt (List.mem_range.mp hi)) (Nat.le_trans hl (by decide)))) (hs.get (List.mem_range.mp hi))) (EV.var rfl) (EV.var rfl)) (by rw [List.length_range]; exact Nat.le_trans hl (by decide)))
theorem zadd_J (hl : z.length ≤ 60) (hy : y.length ≤ 60) : J2 S (n + 90) 28 (.z b1 z) (.z b2 y) (.z true (zAdd z y)) :=
  J2.of (x := 0) (y := 1) (F := fn28) (fun _ _ _ _ => F.none) rfl rfl fun lo => by
    have hm : max z.length y.length ≤ 60 := Nat.max_le.mpr ⟨hl, hy⟩
    have hmax : (if (z.length : Int) < (y.length : Int) then (y.length : Int) else (z.length : Int)) = ((max z.length y.length : Nat) : Int) := by split <;> omega
    have pick : ∀ (m : Nat) (Γ : Tc) (x i : Nat) (w : Z), vlook Γ x = some (.z false w) → vlook Γ 3 = some (.i i) → EV S (D0 lo) (m + 4) Γ () (.ite (.cmp .lt (.var 3) (.bi .len [(.var x)])) (.sub (.var x) (.var 3)) (.int 0)) (.i ((w[i]?).getD 0)) () := fun m Γ x i w hx h3 =>
      EV.ite (TE.cc (v := .int i) (w := .int w.length) (fun _ => rfl) (EV.var h3) (EV.lenZ (EV.var hx))) (fun h => EV.subZ (Int.ofNat_lt.mp (of_decide_eq_true h)) (EV.var hx) (EV.var h3)) fun h => by
        rw [List.getElem?_eq_none (Nat.not_lt.mp fun q => of_decide_eq_false h (Int.ofNat_lt.mpr q))]; exact EV.int
    refine XR.asg (n := n + 88) (t := .i (max z.length y.length : Nat)) (hmax ▸ EV.max (EV.lenZ (EV.var (u := .z false z) rfl)) (EV.lenZ (EV.var (u := .z false y) rfl))) (XR.ret (EV.call1 (trim_J F (n := n + 6) (z := zRaw z y) (b1 := true) ?_) (EV.compZ (IT.rngN (EV.var rfl) (Nat.le_trans hm (by decide))) (fun i hi => EV.bin (fun _ => rfl) (pick _ _ _ _ _ rfl rfl) (pick _ _ _ _ _ rfl rfl)) ?_)))
    · rw [zRaw, List.length_map, List.length_range]; exact hm
    · rw [List.length_range]; exact Nat.le_trans hm (by decide)
theorem zsub_J (hl : z.length ≤ 60) (hy : y.length ≤ 60) : J2 S (n + 93) 30 (.z b1 z) (.z b2 y) (.z true (zSub z y)) :=
  J2.of (x := 0) (y := 1) (F := fn30) (fun _ _ _ _ => F.none) rfl rfl fun lo => XR.ret (n := n + 91) (EV.call2 (zadd_J F (n := n) (b1 := false) hl (by unfold zNeg; rw [List.length_map]; exact hy)) (EV.var rfl) (EV.call1 (zneg_J F (n := n + 81) (b1 := false) hy) (EV.var rfl)))
theorem long_J {m : Nat} (hl : z.length ≤ 60) (hm : m ≤ 60) : J2 S (n + 10) 38 (.z b1 z) (.i m) (.z true (zLong z m)) :=
  J2.of (x := 34) (y := 55) (F := fn38) (fun _ _ _ _ => F.none) rfl rfl fun lo => by
    have hr : EV S (D0 lo) (n + 7) [(55, .i m), (34, .z false z)] () (.bin .mul (.lst [(.int 0)]) (.bin .sub (.var 55) (.bi .len [(.var 34)]))) (.z true (List.replicate (m - z.length) 0)) () := by
      have h := EV.mulL (S := S) (D := D0 lo) (n := n + 6) (Γ := [(55, .i m), (34, .z false z)]) (s := ()) (i := (m : Int) - z.length) (m := m - z.length) (v := .int 0) (a := .lst [.int 0]) (b := .bin .sub (.var 55) (.bi .len [.var 34])) (Int.toNat_sub _ _) (by omega) (by omega) (EV.lst1 EV.int) (EV.bin (fun _ => rfl) (EV.var rfl) (EV.lenZ (EV.var (u := .z false z) rfl)))
      rw [show List.replicate (m - z.length) (V.int 0) = toL (List.replicate (m - z.length) 0) from (List.map_replicate ..).symm] at h; exact h
    exact XR.ret (n := n + 8) (EV.addL (Nat.le_trans (Nat.add_le_add (Nat.le_trans (Nat.le_of_eq List.length_take) (Nat.min_le_left _ _)) (Nat.le_trans (Nat.le_of_eq List.length_replicate) (Nat.sub_le _ _))) (Nat.le_trans (Nat.add_le_add hm hm) (show 60 + 60 ≤ maxLen by decide))) (EV.slL (Nat.le_trans hm (by decide)) (EV.var (u := .z false z) rfl) (EV.var rfl)) hr)
end
end Mine
end

section
/-! Rows of numbers: product; law_series. -/
set_option maxRecDepth 100000
set_option linter.all false
namespace Mine
open PySem

noncomputable def zIn (i : Nat) (x : Int) : Nat → Z → Z → Z
  | _, [], acc => acc
  | j, y :: l, acc => zIn i x (j + 1) l (acc.set (i + j) ((acc[i + j]?).getD 0 + x * y))
noncomputable def zOut (y : Z) : Nat → Z → Z → Z
  | _, [], acc => acc
  | i, x :: l, acc => zOut y (i + 1) l (if x = 0 then acc else zIn i x 0 y acc)
noncomputable def zMul (a b : Z) : Z := if a = [] ∨ b = [] then [] else zOut b 0 a (List.replicate (a.length + b.length - 1) 0)
theorem zIn_len (i : Nat) (x : Int) : ∀ (l : Z) (j : Nat) (acc : Z), (zIn i x j l acc).length = acc.length
  | [], _, _ => rfl
  | y :: l, j, acc => by rw [zIn, zIn_len i x l, List.length_set]
noncomputable abbrev mkZ (z : Z) : C := .lst (toL z)

section
variable {S : Sum} {n : Nat} {Γ : Tc} {lo L : Nat} {acc : Z} {a b e : Ex} {d : Int}
theorem SN.augM {m : Nat} (ha : EV S (Mt mkZ lo L) n Γ acc a (.c (.ref L)) acc) (hb : EV S (Mt mkZ lo L) n Γ acc b (.i m) acc) (hm : m < acc.length) (he : EV S (Mt mkZ lo L) n Γ acc e (.i d) acc) : SN S (Mt mkZ lo L) n Γ acc (.augI a b .add e) Γ (acc.set m ((acc[m]?).getD 0 + d)) := fun rest κ ρ H g G q =>
  ha.and2 hb g fun v1 v2 H1 H2 e1 e2 g2 l2 o1 o2 => he κ ρ H2 g2 G fun v3 H3 e3 g3 l3 o3 => by
    cases o1; cases o2; cases o3
    have st : Hp.get H3 L = some (.lst (toL acc)) := g3.st.1
    have hs : setop κ (.ref L) (.int m) (.int ((acc[m]?).getD 0 + d)) H3 = some (Hp.put H3 L (mkZ (acc.set m ((acc[m]?).getD 0 + d)))) := by
      refine (bi_eq (by rw [g3.fre L rfl]; rfl)).trans ((bo_eq st).trans ((bi_eq ?_).trans ?_))
      · rw [decide_eq_true (Int.natCast_nonneg m), Int.toNat_natCast, toL_len]; exact Nat.blt_eq.mpr hm
      · unfold mkZ toL; rw [List.map_set, Int.toNat_natCast]
    exact q ρ _ (bd_eq ((bd_eq e1).trans ((bd_eq e2).trans ((bo_eq (subop_lst g2.st.1 (nth_toL hm))).trans ((bd_eq e3).trans (bo_eq hs)))))) (g3.putM _) ((l2.trans l3).trans Le.put)

noncomputable abbrev mb1 : List Sm := [.augI (.var 21) (.bin .add (.var 2) (.var 41)) .add (.bin .mul (.var 62) (.var 63))]
noncomputable abbrev mb2 : List Sm := [.iff (.cmp .ne (.var 62) (.int 0)) [.for_ [41, 63] (.enu (.var 1)) mb1] []]
theorem zin_FN {i : Nat} {x : Int} {y z : Z} (hx : small x = true) : ∀ (l : Z) (j : Nat) (acc : Z), smZ l → i + j + l.length ≤ acc.length →
    FN S (Mt mkZ lo L) (n + 5) [(62, .i x), (2, .i i), (21, .c (.ref L)), (1, .z false y), (0, .z false z)] acc [41, 63] mb1 (enums j (toL l)) [(62, .i x), (2, .i i), (21, .c (.ref L)), (1, .z false y), (0, .z false z)] (zIn i x j l acc)
  | [], j, acc, _, _ => FN.nil
  | v :: l, j, acc, hs, hl => FN.cons (s₁ := acc.set (i + j) ((acc[i + j]?).getD 0 + x * v)) (XN.sub (XN.one (SN.augM (m := i + j) (EV.var rfl) (EV.bin (i := i) (j := j) (fun _ => rfl) (EV.var rfl) (EV.var rfl)) (Nat.lt_of_lt_of_le (Nat.lt_add_of_pos_right (Nat.succ_pos _)) hl) (EV.bin (mul_k hx (hs v (List.mem_cons_self ..))) (EV.var rfl) (EV.var rfl))))
      (.and rfl (.and rfl (.and rfl (.and rfl (.and rfl .nil)))))) (zin_FN hx l (j + 1) _ (fun w hw => hs w (List.mem_cons_of_mem _ hw)) (by rw [List.length_set, ← Nat.add_assoc, Nat.add_right_comm]; exact hl))
theorem zout_FN {y z : Z} (hy : smZ y) : ∀ (l : Z) (i : Nat) (acc : Z), smZ l → i + l.length + y.length ≤ acc.length + 1 →
    FN S (Mt mkZ lo L) (n + 9) [(21, .c (.ref L)), (1, .z false y), (0, .z false z)] acc [2, 62] mb2 (enums i (toL l)) [(21, .c (.ref L)), (1, .z false y), (0, .z false z)] (zOut y i l acc)
  | [], i, acc, _, _ => FN.nil
  | x :: l, i, acc, hs, hl => by
    have hx := hs x (List.mem_cons_self ..)
    have hr := fun (w : Int) hw => hs w (List.mem_cons_of_mem _ hw)
    have sb : Sub [(21, .c (.ref L)), (1, .z false y), (0, .z false z)] [(62, .i x), (2, .i i), (21, .c (.ref L)), (1, .z false y), (0, .z false z)] := .and rfl (.and rfl (.and rfl .nil))
    have ht : TE S (Mt mkZ lo L) (n + 7) [(62, .i x), (2, .i i), (21, .c (.ref L)), (1, .z false y), (0, .z false z)] acc (.cmp .ne (.var 62) (.int 0)) (!decide (x = 0)) acc := TE.cc (ne_k rfl) (EV.var rfl) EV.int
    by_cases h0 : x = 0
    · rw [show zOut y i (x :: l) acc = zOut y (i + 1) l acc by rw [zOut, if_pos h0]]
      rw [decide_eq_true h0] at ht
      exact FN.cons (s₁ := acc) (XN.sub (XN.one (SN.iff ht (fun h => by cases h) fun _ => XN.nil)) sb) (zout_FN hy l (i + 1) acc hr (by rw [Nat.succ_add_eq_add_succ]; exact hl))
    · rw [show zOut y i (x :: l) acc = zOut y (i + 1) l (zIn i x 0 y acc) by rw [zOut, if_neg h0]]
      rw [decide_eq_false h0] at ht
      exact FN.cons (s₁ := zIn i x 0 y acc) (XN.sub (XN.one (SN.iff ht (fun _ => XN.one (SN.for_ (IT.enuL (EV.var (u := .z false y) rfl)) (zin_FN hx y 0 acc hy (by rw [List.length_cons] at hl; omega)))) fun h => by cases h)) sb) (zout_FN hy l (i + 1) _ hr (by rw [zIn_len, Nat.succ_add_eq_add_succ]; exact hl))
end
section
variable {S : Sum} {n : Nat} (F : Fits S) {b1 b2 : Bool} {z y : Z}
include F
theorem zmul_J (hl : z.length ≤ 60) (hy : y.length ≤ 60) (hs : smZ z) (hs' : smZ y) : J2 S (n + 20) 32 (.z b1 z) (.z b2 y) (.z true (zMul z y)) :=
  J2.of (x := 0) (y := 1) (F := fn32) (fun _ _ _ _ => F.none) rfl rfl fun lo => by
    show XR S (D0 lo) (n + 19) _ _ [.iff (.or (.cmp .eq (.bi .len [(.var 0)]) (.int 0)) (.cmp .eq (.bi .len [(.var 1)]) (.int 0))) [.ret (.lst [])] [], .asg 21 (.bin .mul (.lst [(.int 0)]) (.bin .sub (.bin .add (.bi .len [(.var 0)]) (.bi .len [(.var 1)])) (.int 1))), .for_ [2, 62] (.enu (.var 0)) mb2, .ret (.var 21)] _ _
    have ht : TE S (D0 lo) (n + 18) [(1, .z false y), (0, .z false z)] () (.or (.cmp .eq (.bi .len [(.var 0)]) (.int 0)) (.cmp .eq (.bi .len [(.var 1)]) (.int 0))) (decide ((z.length : Int) = 0) || decide ((y.length : Int) = 0)) () :=
      TE.or (TE.cc (eq_k rfl) (EV.lenZ (EV.var (u := .z false z) rfl)) EV.int) fun _ => TE.cc (eq_k rfl) (EV.lenZ (EV.var (u := .z false y) rfl)) EV.int
    have hd : ∀ w : Z, decide ((w.length : Int) = 0) = decide (w = []) := fun w => by cases w with
      | nil => rfl
      | cons x w => exact (decide_eq_false (fun q => by cases Int.ofNat_inj.mp q)).trans (decide_eq_false (fun q => by cases q)).symm
    rw [hd, hd, ← Bool.decide_or] at ht
    rw [zMul]
    by_cases he : z = [] ∨ y = []
    · rw [if_pos he]
      rw [decide_eq_true he] at ht
      exact XR.iffR ht (XR.ret EV.lst0)
    · rw [if_neg he]
      rw [decide_eq_false he] at ht
      refine XR.seq (SN.iff ht (fun h => by cases h) fun _ => XN.nil) ?_
      have hz0 : 0 < z.length := List.length_pos_iff.mpr fun q => he (.inl q)
      have hm := EV.mulL (S := S) (D := D0 lo) (n := n + 16) (Γ := [(1, .z false y), (0, .z false z)]) (s := ()) (i := (z.length : Int) + (y.length : Int) - 1) (m := z.length + y.length - 1) (v := .int 0) (a := .lst [.int 0]) (b := .bin .sub (.bin .add (.bi .len [(.var 0)]) (.bi .len [(.var 1)])) (.int 1)) (by omega) (by omega) (by omega) (EV.lst1 EV.int)
        (EV.bin (i := (z.length : Int) + (y.length : Int)) (fun _ => rfl) (EV.bin (fun _ => rfl) (EV.lenZ (EV.var (u := .z false z) rfl)) (EV.lenZ (EV.var (u := .z false y) rfl))) EV.int)
      rw [show List.replicate (z.length + y.length - 1) (V.int 0) = toL (List.replicate (z.length + y.length - 1) 0) from (List.map_replicate ..).symm] at hm
      exact XR.mut (mk := mkZ) (a0 := List.replicate (z.length + y.length - 1) 0) hm fun L => XR.seq (SN.for_ (IT.enuL (EV.var (u := .z false z) rfl)) (zout_FN (n := n + 7) hs' z 0 _ hs (by rw [List.length_replicate]; omega))) (XR.retv rfl)
end
end Mine
end

section
/-! law_series. -/
set_option maxRecDepth 100000
set_option linter.all false
namespace Mine
open PySem

noncomputable def smB (z : Z) : Bool := z.all small
noncomputable def zlen (z : Z) : Bool := Nat.ble z.length 60
noncomputable def stepZ (n : Nat) (row part : Z) : Z := (zMul part row).take n
noncomputable def repZ (n : Nat) (row : Z) : Nat → Z → Z
  | 0, part => part
  | k + 1, part => repZ n row k (stepZ n row part)
noncomputable def okZ (z : Z) : Bool := smB z && zlen z
noncomputable def okRep (n : Nat) (row : Z) : Nat → Z → Bool
  | 0, part => okZ part
  | k + 1, part => okZ part && okRep n row k (stepZ n row part)
noncomputable def serMono (n : Nat) (z0 z1 z2 : Z) (a b c : Nat) (part : Z) : Z := repZ n z2 c (repZ n z1 b (repZ n z0 a part))
noncomputable def okMono (n : Nat) (z0 z1 z2 : Z) (a b c : Nat) (part : Z) : Bool := okRep n z0 a part && (okRep n z1 b (repZ n z0 a part) && okRep n z2 c (repZ n z1 b (repZ n z0 a part)))
noncomputable def serOne (n : Nat) (z0 z1 z2 : Z) (e : List Int × Int) : Z := serMono n z0 z1 z2 (kget e.1 0).toNat (kget e.1 1).toNat (kget e.1 2).toNat [e.2]
noncomputable def okOne (n : Nat) (z0 z1 z2 : Z) (e : List Int × Int) : Bool := okMono n z0 z1 z2 (kget e.1 0).toNat (kget e.1 1).toNat (kget e.1 2).toNat [e.2] && zlen (serOne n z0 z1 z2 e)
noncomputable def serAcc (n : Nat) (z0 z1 z2 : Z) (p : P) (f : Z) : Z := p.foldl (fun f e => zAdd f (serOne n z0 z1 z2 e)) f
noncomputable def okSer (n : Nat) (z0 z1 z2 : Z) : P → Z → Bool
  | [], f => zlen f
  | e :: p, f => zlen f && (okOne n z0 z1 z2 e && okSer n z0 z1 z2 p (zAdd f (serOne n z0 z1 z2 e)))
noncomputable def zSer (p : P) (n : Nat) (z0 z1 z2 : Z) : Z := zLong (serAcc n z0 z1 z2 p []) n
noncomputable def okRows (z0 z1 z2 : Z) : Bool := okZ z0 && (okZ z1 && okZ z2)
theorem okZ_c {z : Z} {G : Prop} (h : okZ z = true) (k : smZ z → z.length ≤ 60 → G) : G := and_c h fun h1 h2 => k (List.all_eq_true.mp h1) (Nat.le_of_ble_eq_true h2)
theorem okRep_0 {n k : Nat} {row part : Z} (h : okRep n row k part = true) : okZ part = true := by
  cases k with
  | zero => exact h
  | succ k => exact and_c h fun h1 _ => h1
theorem okSer_len {n : Nat} {z0 z1 z2 : Z} : ∀ {p : P} {f : Z}, okSer n z0 z1 z2 p f = true → (serAcc n z0 z1 z2 p f).length ≤ 60
  | [], f, h => Nat.le_of_ble_eq_true h
  | e :: p, f, h => and_c h fun _ h => and_c h fun _ h => okSer_len (p := p) h
theorem fold_rep {α : Type} (n : Nat) (row : Z) : ∀ (l : List α) (part : Z), l.foldl (fun p _ => stepZ n row p) part = repZ n row l.length part
  | [], _ => rfl
  | _ :: l, part => fold_rep n row l (stepZ n row part)
noncomputable def rowI (z0 z1 z2 : Z) (i : Nat) : Z := match i with
  | 0 => z0
  | i + 1 => match i with
    | 0 => z1
    | _ + 1 => z2

section
variable {S : Sum} {D : Dm} {n : Nat} {Γ : Tc} {s s₁ s₂ : D.ι} {a b : Ex} {z0 z1 z2 : Z}
theorem FN.pre {ts : List Nat} {ss : List Sm} {its : List (List V)} {Γ₁ Γ' : Tc} {s' : D.ι} (hs : Sub Γ₁ Γ) (h : FN S D n Γ₁ s ts ss its Γ' s') : FN S D n Γ s ts ss its Γ' s' := fun κ ρ H g G q => h κ ρ H (g.sub hs) G q
theorem EV.subR {i : Nat} (hi : i < 3) (ha : EV S D n Γ s a (.r z0 z1 z2) s₁) (hb : EV S D n Γ s₁ b (.i i) s₂) : EV S D (n + 1) Γ s (.sub a b) (.z false (rowI z0 z1 z2 i)) s₂ := fun κ ρ H g G q =>
  ha.and2 hb g fun v w H1 H2 e1 e2 g2 l o1 o2 => by
    obtain ⟨R, r0, r1, r2, rfl, c, c0, c1, c2⟩ := o1
    cases o2
    have k : ∀ r, isAt D.m H2 r (.lst (toL (rowI z0 z1 z2 i))) → nth [.ref r0, .ref r1, .ref r2] (i : Int) = some (.ref r) → G := fun r cr hn => q (.ref r) H2 ((bd_eq e1).trans ((bd_eq e2).trans (bo_eq (subop_lst c.2 hn)))) g2 l ⟨r, rfl, cr, fun h => by cases h⟩
    match i, hi, k with
    | 0, _, k => exact k r0 c0 rfl
    | 1, _, k => exact k r1 c1 rfl
    | 2, _, k => exact k r2 c2 rfl
end
section
variable {S : Sum} {n : Nat} (F : Fits S) {lo m : Nat} {z0 z1 z2 : Z} {k : List Int} {f : Z} {p : P}
noncomputable abbrev sb1 : List Sm := [.asg 83 (.slTo (.call 32 [(.var 83), (.sub (.var 85) (.var 3))]) (.var 55))]
noncomputable abbrev sb2 : List Sm := [.for_ [84] (.rng (.var 66)) sb1]
noncomputable abbrev gS (part : Z) (k : List Int) (f : Z) (m : Nat) (z0 z1 z2 : Z) (p : P) : Tc := [(83, .z false part), (16, .c (.tup (k.map .int))), (21, .z false f), (55, .i m), (85, .r z0 z1 z2), (78, .p false p)]
include F
theorem key_X (hm : m ≤ 60) {i c : Nat} (hi : i < 3) (hc : c ≤ 60) {part : Z} (hr : okZ (rowI z0 z1 z2 i) = true) (ho : okRep m (rowI z0 z1 z2 i) c part = true) :
    XN S (D0 lo) (n + 30) (bindT [3, 66] [.int i, .int c] (gS part k f m z0 z1 z2 p)) () sb2 (gS (repZ m (rowI z0 z1 z2 i) c part) k f m z0 z1 z2 p) () := by
  have hf := FN.fold (S := S) (D := D0 lo) (n := n + 29) (α := Nat) (β := Z) (ts := [84]) (ss := sb1) (it := fun j : Nat => [V.int j]) (fun part => (3, .i i) :: (66, .i c) :: gS part k f m z0 z1 z2 p) (fun _ => ()) (fun part _ => stepZ m (rowI z0 z1 z2 i) part) (fun part l => okRep m (rowI z0 z1 z2 i) l.length part = true) (fun j part l hI => by
    refine and_c hI fun h1 h2 => ⟨okZ_c h1 fun s1 l1 => okZ_c hr fun s2 l2 => XN.sub (XN.one (SN.asg (EV.wk (EV.slL (Nat.le_trans hm (by decide)) (EV.call2 (zmul_J F (n := n + 6) (b1 := false) (b2 := false) l1 l2 s1 s2) (EV.var rfl) (EV.subR hi (EV.var (u := .r z0 z1 z2) rfl) (EV.var rfl))) (EV.var rfl)))))
      (.and rfl (.and rfl (.and rfl (.and rfl (.and rfl (.and rfl (.and rfl (.and rfl .nil)))))))), h2⟩) (List.range c) part (by rw [List.length_range]; exact ho)
  rw [fold_rep, List.length_range] at hf
  have h0 : XN S (D0 lo) (n + 30) ((3, .i i) :: (66, .i c) :: gS part k f m z0 z1 z2 p) () sb2 (gS (repZ m (rowI z0 z1 z2 i) c part) k f m z0 z1 z2 p) () :=
    XN.sub (XN.one (SN.for_ (IT.rngN (EV.var rfl) (Nat.le_trans hc (by decide))) hf)) (.and rfl (.and rfl (.and rfl (.and rfl (.and rfl (.and rfl .nil))))))
  exact fun κ ρ H g G q => h0 κ ρ H (g.sub (.and rfl (.and rfl (.and rfl (.and rfl (.and rfl (.and rfl (.and rfl (.and rfl .nil))))))))) G q
/-- one monomial -/
theorem mono_X (hm : m ≤ 60) (hR : okRows z0 z1 z2 = true) {a b c : Nat} (ha : a ≤ 60) (hb : b ≤ 60) (hc : c ≤ 60) {part : Z} (ho : okMono m z0 z1 z2 a b c part = true) :
    FN S (D0 lo) (n + 30) (gS part k f m z0 z1 z2 p) () [3, 66] sb2 [[.int 0, .int a], [.int 1, .int b], [.int 2, .int c]] (gS (serMono m z0 z1 z2 a b c part) k f m z0 z1 z2 p) () :=
  and_c hR fun r0 hR => and_c hR fun r1 r2 => and_c ho fun o0 ho => and_c ho fun o1 o2 =>
    FN.cons (key_X F (i := 0) hm (by decide) ha r0 o0) (FN.cons (key_X F (i := 1) hm (by decide) hb r1 o1) (FN.cons (key_X F (i := 2) hm (by decide) hc r2 o2) FN.nil))
theorem ser_J {b1 : Bool} (hS : ∀ κ v v' v'' H, S 39 κ [v, v', v''] H = none) (hm : m ≤ 60) (hR : okRows z0 z1 z2 = true) (hp : OkP p) (ho : okSer m z0 z1 z2 p [] = true) : J3 S (n + 110) 39 (.p b1 p) (.r z0 z1 z2) (.i m) (.z true (zSer p m z0 z1 z2)) :=
  J3.of (x := 78) (y := 85) (z := 55) (F := fn39) hS rfl rfl fun lo => by
    show XR S (D0 lo) (n + 109) _ _ [.asg 21 (.lst []), .for_ [16] (.ovr (.var 78)) [.asg 83 (.lst [(.sub (.sub (.var 78) (.var 16)) (.int 0))]), .for_ [3, 66] (.enu (.var 16)) sb2, .asg 21 (.call 28 [(.var 21), (.var 83)])], .ret (.call 38 [(.var 21), (.var 55)])] _ _
    have hf := FN.fold (S := S) (D := D0 lo) (n := n + 107) (α := List Int × Int) (β := Z) (ts := [16]) (ss := [.asg 83 (.lst [(.sub (.sub (.var 78) (.var 16)) (.int 0))]), .for_ [3, 66] (.enu (.var 16)) sb2, .asg 21 (.call 28 [(.var 21), (.var 83)])]) (it := fun e => [.tup (e.1.map .int)]) (fun f => [(21, .z false f), (55, .i m), (85, .r z0 z1 z2), (78, .p false p)]) (fun _ => ()) (fun f e => zAdd f (serOne m z0 z1 z2 e)) (fun f l => (∀ e ∈ l, e ∈ p) ∧ okSer m z0 z1 z2 l f = true) (fun e f l hI => by
      have he := hI.1 e (List.mem_cons_self ..)
      refine and_c hI.2 fun h1 h => and_c h fun h2 h3 => and_c h2 fun h4 h5 => ⟨?_, fun x hx => hI.1 x (List.mem_cons_of_mem _ hx), h3⟩
      obtain ⟨a, b, c, ba, bb, bc, q⟩ := hp.k3 he
      have q0 : (kget e.1 0).toNat = a ∧ (kget e.1 1).toNat = b ∧ (kget e.1 2).toNat = c := by rw [q]; exact ⟨rfl, rfl, rfl⟩
      rw [q0.1, q0.2.1, q0.2.2] at h4
      have hmono := mono_X F (S := S) (lo := lo) (n := n + 75) (k := e.1) (f := f) (p := p) hm hR (Nat.le_trans (Nat.le_of_lt ba) (by decide)) (Nat.le_trans (Nat.le_of_lt bb) (by decide)) (Nat.le_trans (Nat.le_of_lt bc) (by decide)) h4
      have hit : ([[.int 0, .int a], [.int 1, .int b], [.int 2, .int c]] : List (List V)) = enums 0 (e.1.map V.int) := by rw [q]; rfl
      rw [hit, show serMono m z0 z1 z2 a b c [e.2] = serOne m z0 z1 z2 e by unfold serOne; rw [q0.1, q0.2.1, q0.2.2]] at hmono
      exact XN.seq (Γ₁ := gS [e.2] e.1 f m z0 z1 z2 p) (s₁ := ()) (SN.asg (EV.wk (EV.lst1 (EV.sub (xs := [.int e.2, .int 1]) (subP (b1 := false) hp.nd he (EV.var rfl) (EV.var rfl)) EV.int rfl)))) (XN.seq (s₁ := ()) (SN.for_ (IT.enuT (EV.var rfl)) hmono)
        (XN.sub (XN.one (SN.asg (EV.wk (EV.call2 (zadd_J F (n := n + 13) (b1 := false) (b2 := false) (Nat.le_of_ble_eq_true h1) (Nat.le_of_ble_eq_true h5)) (EV.var rfl) (EV.var rfl))))) (.and rfl (.and rfl (.and rfl (.and rfl .nil)))))))
      p [] ⟨fun _ h => h, ho⟩
    exact XR.asg (EV.wk EV.lst0) (XR.seq (Γ₁ := [(21, .z false (serAcc m z0 z1 z2 p [])), (55, .i m), (85, .r z0 z1 z2), (78, .p false p)]) (s₁ := ()) (SN.for_ (IT.poly (b1 := false) hp (EV.var rfl)) (FN.pre (.and rfl (.and rfl (.and rfl (.and rfl .nil)))) hf)) (XR.ret (EV.call2 (long_J F (n := n + 95) (b1 := false) (okSer_len ho) hm) (EV.var rfl) (EV.var rfl))))
end
end Mine
end

section
/-! Calls on flat arguments; tables; the summary of law_series. -/
set_option maxRecDepth 100000
set_option linter.all false
namespace Mine
open PySem PySem.Calls PyProof.Rows

section
variable {prog : Program} {w : World} {base : Heap} {σ : List Addr} {H J : Hp} {κ κ₁ : List Nat} {s : Shared} {M f : Nat} {vs : List V} {v : V}
theorem Rel.empty (R : Rel prog w base s.heap σ H) : Rel prog w base s.heap [] [] := ⟨rfl, List.nodup_nil, fun n a c e _ => (nomatch e), fun a h => (nomatch h), R.stay⟩
theorem Pst.keepAll {s' : Shared} {σ' : List Addr} (P : Pst prog w base κ₁ [] [] s J s' σ') : ∀ b o, s.heap.get? b = some o → s'.heap.get? b = some o := fun b o e => P.keep.2 b o e (fun h => nomatch h) fun n hn => nomatch hn
theorem Sd.carry0 (x : Sd M f κ₁ vs [] v J) (hvs : V.bels 0 vs = true) (hv : v.bel 0 = true) : Sd M f κ vs H v H :=
  fun prog w base F a as σ s A Q EE B hF hat hA R rs h =>
    x prog w base F a as [] s A Q EE B hF hat hA R.empty (VRs.down (σ := []) (l := σ) rs hvs) fun s' σ' u P ru =>
      h s' σ u (R.keeps P.keepAll P.same) ((VR.down (σ := []) (l := σ') ru hv).mono (fun _ _ t => t) fun n a e => nomatch e)
theorem Sd.carryNew {j : Nat} {c : C} (x : Sd M f κ₁ vs [] (.ref j) J) (hvs : V.bels 0 vs = true) (hj : Hp.get J j = some c) (hc : c.bel 0 = true) : Sd M f κ vs H (.ref H.length) (H ++ [c]) :=
  fun prog w base F a as σ s A Q EE B hF hat hA R rs h =>
    x prog w base F a as [] s A Q EE B hF hat hA R.empty (VRs.down (σ := []) (l := σ) rs hvs) fun s' σ' u P ru => by
      apply ru.ref_c; intro b e
      have hn : s.heap.get? b = none := (P.new b (List.mem_of_getElem? e)).resolve_left fun h => nomatch h
      have hbσ : b ∉ σ := fun hm => by
        obtain ⟨m, hm⟩ := List.mem_iff_getElem?.mp hm
        obtain ⟨c, hc, x⟩ := R.at hm
        obtain ⟨o, ho, _⟩ := x.there
        rw [hn] at ho; cases ho
      have x1 : CellAt prog w s'.heap [] b c := CellAt.down (σ := []) (l := σ') (P.rel.cell j b c e hj) hc
      have P1 : Pst prog w base κ σ [] s H s' σ := R.keeps P.keepAll P.same
      exact h s' _ _ (P1.label B.sys R hn hbσ (x1.mono (fun _ e => e) (fun _ _ t => t) fun n b' e => nomatch e)) (vr_last R.len)
end

noncomputable def prsV (l : List (Int × Int)) : List V := l.map prV
noncomputable def prsOf : List V → Option (List (Int × Int))
  | [] => some []
  | v :: r => bo (p2 v) fun e => bo (prsOf r) fun l => some (e :: l)
theorem prsOf_eq : ∀ {xs : List V} {l : List (Int × Int)}, prsOf xs = some l → xs = prsV l
  | [], l, h => by obtain rfl := Option.some.inj h; rfl
  | v :: r, l, h => bo_c h fun e h1 h => bo_c h fun l' h2 h => by obtain rfl := Option.some.inj h; rw [p2_eq h1, prsOf_eq h2]; rfl
theorem bels_prsV (n : Nat) : ∀ l, V.bels n (prsV l) = true
  | [] => rfl
  | e :: l => bels_prsV n l
theorem bels_toL (n : Nat) : ∀ z : Z, V.bels n (toL z) = true
  | [] => rfl
  | e :: l => bels_toL n l
theorem ints_toL {xs : List V} {z : Z} (h : V.ints xs = some z) : xs = toL z := ints_eq h
noncomputable def cellOf (x : Option (V × Hp)) : Option (List V) := bd x fun v J => onRef v fun j => lstAt J j
noncomputable def intOf (x : Option (V × Hp)) : Option Int := bd x fun v _ => onInt v some
noncomputable def booOf (x : Option (V × Hp)) : Bool := (bd x fun v _ => onBoo v some).getD false

section
variable {S : Sum} {M n f : Nat} {κ : List Nat} {vs : List V} {H H' : Hp} {v : V}
theorem flat_l {α : Type} {d : List V → Option α} {g : α → List V} (hd : ∀ xs a, d xs = some a → xs = g a) (hg : ∀ a, V.bels 0 (g a) = true) {a : α} (hS : SOK S M) (h : bo (cellOf ((run tbl S n).cl [] f vs [])) d = some a) (hvs : V.bels 0 vs = true) : Sd (n + M) f κ vs H (.ref H.length) (H ++ [.lst (g a)]) :=
  bo_c h fun xs h1 h2 => bd_c h1 fun v J e1 h1 => by
    revert e1; apply onRef_c h1; intro j h1 e1
    rw [← hd xs a h2]
    exact (Sd.run hS e1).carryNew hvs (lstAt_eq h1) (by rw [hd xs a h2]; exact hg a)
theorem flat_n (hS : SOK S M) {i : Int} (h : intOf ((run tbl S n).cl [] f vs []) = some i) (hvs : V.bels 0 vs = true) : Sd (n + M) f κ vs H (.int i) H := bd_c h fun v J e1 h => by
  revert e1; apply onInt_c h; intro j h e1
  obtain rfl := Option.some.inj h
  exact (Sd.run hS e1).carry0 hvs rfl
theorem alook_mem {α : Type} : ∀ {T : List (Nat × α)} {x : Nat} {a : α}, alook T x = some a → (x, a) ∈ T
  | e :: r, x, a, h => by
    have h : (bif Nat.beq e.1 x then some e.2 else alook r x) = some a := h
    cases hb : Nat.beq e.1 x with
    | true => rw [hb] at h; rw [← Nat.eq_of_beq_eq_true hb, ← Option.some.inj h]; exact List.mem_cons_self ..
    | false => rw [hb] at h; exact List.mem_cons_of_mem _ (alook_mem h)
noncomputable def tab {α : Type} (g : α → List V) (T : List (Nat × α)) (vs : List V) (H : Hp) : Option (Option (V × Hp)) := bo (one vs) fun v => onInt v fun w => bi (decide (0 ≤ w)) (bo (alook T w.toNat) fun l => some (some (.ref H.length, H ++ [.lst (g l)])))
theorem tab_ok {α : Type} [DecidableEq α] {d : List V → Option α} {g : α → List V} (hd : ∀ xs a, d xs = some a → xs = g a) (hg : ∀ a, V.bels 0 (g a) = true) {T : List (Nat × α)} (hS : SOK S M) (hT : T.all (fun e => decide (bo (cellOf ((run tbl S n).cl [] f [.int e.1] [])) d = some e.2)) = true) (e : tab g T vs H = some (some (v, H'))) : Sd (n + M) f κ vs H v H' :=
  bo_c e fun x h1 e => by
    revert h1; apply onInt_c e; intro w e h1
    refine bi_c e fun hw e => bo_c e fun l hl e => ?_
    obtain ⟨rfl, rfl⟩ := i2 (Option.some.inj e)
    have h := of_decide_eq_true (List.all_eq_true.mp hT _ (alook_mem hl))
    rw [one_eq h1, ← Int.toNat_of_nonneg (of_decide_eq_true hw)]
    exact flat_l hd hg hS h rfl
end
noncomputable def lotsT : List (Nat × List (Int × Int)) := [(4, [(1, 0)]), (6, [(0, 1)]), (8, [(2, 0)]), (10, [(1, 1)]), (12, [(0, 2), (3, 0)]), (14, [(2, 1)]), (16, [(1, 2), (4, 0)]), (18, [(0, 3), (3, 1)]), (20, [(2, 2), (5, 0)])]
noncomputable def bern20 : List (Int × Int) := [(1, 1), (-1, 2), (1, 6), (0, 1), (-1, 30), (0, 1), (1, 42), (0, 1), (-1, 30), (0, 1), (5, 66), (0, 1), (-691, 2730), (0, 1), (7, 6), (0, 1), (-3617, 510), (0, 1), (43867, 798), (0, 1), (-174611, 330)]
noncomputable def bernT : List (Nat × List (Int × Int)) := [4, 6, 8, 10, 12, 14, 16, 18, 20].map fun k => (k, bern20.take (k + 1))
noncomputable def stepT : List (Nat × Z) := [5, 6, 7].map fun n => (n, [0, 1, -24, 252, -1472, 4830, -6048].take n)
noncomputable def sgN (p n : Nat) : Nat → Nat
  | 0 => 0
  | d + 1 => (bif Nat.beq (n % (d + 1)) 0 then (d + 1) ^ p else 0) + sgN p n d
noncomputable def sg (p n : Nat) : Int := ((sgN p n n : Nat) : Int)
noncomputable def ok36 (p n : Nat) : Bool := Nat.blt p 20 && (Nat.beq (p % 2) 1 && (Nat.ble 1 n && Nat.blt n 7))
theorem lots_ok : lotsT.all (fun e => decide (bo (cellOf ((run tbl noS 16).cl [] 34 [.int e.1] [])) prsOf = some e.2)) = true := by decide +kernel
theorem bern_ok : bernT.all (fun e => decide (bo (cellOf ((run tbl SA 27).cl [] 18 [.int e.1] [])) prsOf = some e.2)) = true := by decide +kernel
theorem sums_ok : (List.range 20).all (fun p => (List.range 7).all fun n => !ok36 p n || decide (intOf ((run tbl noS 16).cl [] 36 [.int p, .int n] []) = some (sg p n))) = true := by decide +kernel
theorem step_ok : stepT.all (fun e => decide (bo (cellOf ((run tbl noS 27).cl [] 41 [.int e.1] [])) V.ints = some e.2)) = true := by decide +kernel
end Mine
end

section
/-! Summaries: law_series, the tables, alone. -/
set_option maxRecDepth 100000
set_option linter.all false
namespace Mine
open PySem PySem.Calls PyProof.Rows

noncomputable def three (vs : List V) : Option (V × V × V) := match vs with
  | [] => none
  | x :: r => bo (two r) fun t => some (x, t)
theorem three_eq {vs : List V} {t : V × V × V} (h : three vs = some t) : vs = [t.1, t.2.1, t.2.2] := by
  cases vs with
  | nil => cases h
  | cons x r => exact bo_c h fun u h1 h => by obtain rfl := Option.some.inj h; rw [two_eq h1]
noncomputable def dpoly : List (List Int × V) → Option P
  | [] => some []
  | e :: r => bo (p2 e.2) fun t => bi (decide (t.2 = 1)) (bo (dpoly r) fun p => some ((e.1, t.1) :: p))
theorem dpoly_eq : ∀ {es : List (List Int × V)} {p : P}, dpoly es = some p → es = toD p
  | [], p, h => by obtain rfl := Option.some.inj h; rfl
  | e :: r, p, h => bo_c h fun t h1 h => bi_c h fun h2 h => bo_c h fun p' h3 h => by
    obtain rfl := Option.some.inj h
    have e2 : e.2 = rv t.1 := (p2_eq h1).trans (by unfold prV rv; rw [of_decide_eq_true h2])
    rw [dpoly_eq h3]
    show e :: toD p' = (e.1, rv t.1) :: toD p'
    rw [← e2]
noncomputable def polyAt (H : Hp) (n : Nat) : Option P := bo (dicAt H n) dpoly
noncomputable def zAt (H : Hp) (n : Nat) : Option Z := bo (lstAt H n) V.ints
theorem polyAt_eq {H : Hp} {n : Nat} {p : P} (h : polyAt H n = some p) : Hp.get H n = some (.dic (toD p)) := bo_c h fun es h1 h2 => by rw [dicAt_eq h1, dpoly_eq h2]
theorem zAt_eq {H : Hp} {n : Nat} {z : Z} (h : zAt H n = some z) : Hp.get H n = some (.lst (toL z)) := bo_c h fun es h1 h2 => by rw [lstAt_eq h1, ints_toL h2]
theorem zAt_of {H : Hp} {n : Nat} {z : Z} (h : Hp.get H n = some (.lst (toL z))) : zAt H n = some z := (bo_eq (lstAt_of h)).trans (ints_map z)
theorem dpoly_toD : ∀ p : P, dpoly (toD p) = some p
  | [] => rfl
  | e :: r => bo_eq (f := fun p => some ((e.1, e.2) :: p)) (dpoly_toD r)
theorem polyAt_of {H : Hp} {n : Nat} {p : P} (h : Hp.get H n = some (.dic (toD p))) : polyAt H n = some p := (bo_eq (dicAt_of h)).trans (dpoly_toD p)
noncomputable def rowsAt (H : Hp) (R : Nat) : Option (Z × Z × Z) := bo (lstAt H R) fun vs => bo (three vs) fun t => onRef t.1 fun r0 => onRef t.2.1 fun r1 => onRef t.2.2 fun r2 => bo (zAt H r0) fun z0 => bo (zAt H r1) fun z1 => bo (zAt H r2) fun z2 => some (z0, z1, z2)
theorem ref_of {γ : Type} {v : V} {g : Nat → Option γ} {q : γ} (h : onRef v g = some q) : ∃ n, v = .ref n ∧ g n = some q := onRef_c (M := fun v => ∃ n, v = .ref n ∧ g n = some q) h fun n h => ⟨n, rfl, h⟩
theorem int_of {γ : Type} {v : V} {g : Int → Option γ} {q : γ} (h : onInt v g = some q) : ∃ n, v = .int n ∧ g n = some q := onInt_c (M := fun v => ∃ n, v = .int n ∧ g n = some q) h fun n h => ⟨n, rfl, h⟩
theorem rowsAt_c {H : Hp} {R : Nat} {z : Z × Z × Z} {G : Prop} (h : rowsAt H R = some z) (k : ∀ r0 r1 r2, Hp.get H R = some (.lst [.ref r0, .ref r1, .ref r2]) → Hp.get H r0 = some (.lst (toL z.1)) → Hp.get H r1 = some (.lst (toL z.2.1)) → Hp.get H r2 = some (.lst (toL z.2.2)) → G) : G :=
  bo_c h fun vs h0 h => bo_c h fun t ht h => by
    obtain ⟨r0, e0, h⟩ := ref_of h
    obtain ⟨r1, e1, h⟩ := ref_of h
    obtain ⟨r2, e2, h⟩ := ref_of h
    refine bo_c h fun z0 h3 h => bo_c h fun z1 h4 h => bo_c h fun z2 h5 h => ?_
    obtain rfl := Option.some.inj h
    exact k r0 r1 r2 (by rw [lstAt_eq h0, three_eq ht, e0, e1, e2]) (zAt_eq h3) (zAt_eq h4) (zAt_eq h5)
theorem rowsAt_of {H : Hp} {R r0 r1 r2 : Nat} {z0 z1 z2 : Z} (h : Hp.get H R = some (.lst [.ref r0, .ref r1, .ref r2])) (h0 : Hp.get H r0 = some (.lst (toL z0))) (h1 : Hp.get H r1 = some (.lst (toL z1))) (h2 : Hp.get H r2 = some (.lst (toL z2))) : rowsAt H R = some (z0, z1, z2) :=
  (bo_eq (lstAt_of h)).trans ((bo_eq (zAt_of h0)).trans ((bo_eq (zAt_of h1)).trans (bo_eq (zAt_of h2))))

noncomputable def ok39 (n : Int) (p : P) (z : Z × Z × Z) : Bool := (decide (0 ≤ n) && Nat.ble n.toNat 60) && (okRows z.1 z.2.1 z.2.2 && (okP p && okSer n.toNat z.1 z.2.1 z.2.2 p []))
noncomputable def s39 (vs : List V) (H : Hp) : Option (Option (V × Hp)) := bo (three vs) fun t => onRef t.1 fun a => onRef t.2.1 fun R => onInt t.2.2 fun n => bo (polyAt H a) fun p => bo (rowsAt H R) fun z => bi (ok39 n p z) (some (some (.ref H.length, H ++ [.lst (toL (zSer p n.toNat z.1 z.2.1 z.2.2))])))
theorem fits_SA : Fits SA := ⟨fun _ _ _ => rfl, fun _ _ _ => rfl, fun _ _ _ => rfl, fun _ _ _ => rfl⟩
theorem s39_ok {κ : List Nat} {vs : List V} {H H' : Hp} {v : V} (e : s39 vs H = some (some (v, H'))) : Sd 410 39 κ vs H v H' :=
  bo_c e fun t ht e => by
    rw [three_eq ht]
    obtain ⟨a, e1, e⟩ := ref_of e
    obtain ⟨R, e2, e⟩ := ref_of e
    obtain ⟨n, e3, e⟩ := int_of e
    rw [e1, e2, e3]
    refine bo_c e fun p hp e => bo_c e fun z hz e => bi_c e fun hb e => and_c hb fun h1 h => and_c h1 fun h2 h3 => and_c h fun h4 h => and_c h fun h5 h6 => rowsAt_c hz fun r0 r1 r2 c c0 c1 c2 => ?_
    obtain ⟨rfl, rfl⟩ := i2 (Option.some.inj e)
    have nn : ∀ l : Nat, none ≠ some l := fun l q => by cases q
    rw [← Int.toNat_of_nonneg (of_decide_eq_true h2), Int.toNat_natCast]
    exact Sd.low (ser_J fits_SA (n := 0) (b1 := false) (fun _ _ _ _ _ => rfl) (Nat.le_of_ble_eq_true h3) h4 (okP_ok h5) h6 _ H (.ref a) (.ref R) (.int n.toNat) low_filter ⟨a, rfl, ⟨nn a, polyAt_eq hp⟩, fun h => by cases h⟩ ⟨R, r0, r1, r2, rfl, ⟨nn R, c⟩, ⟨nn r0, c0⟩, ⟨nn r1, c1⟩, ⟨nn r2, c2⟩⟩ rfl _ fun w H' e l o => sd_ofD SA_ok e l o (bels_toL _ _))

noncomputable def e36 (vs : List V) (H : Hp) : Option (Option (V × Hp)) := bo (two vs) fun t => onInt t.1 fun p => onInt t.2 fun n => bi ((decide (0 ≤ p) && decide (0 ≤ n)) && ok36 p.toNat n.toNat) (some (some (.int (sg p.toNat n.toNat), H)))
theorem e36_ok {κ : List Nat} {vs : List V} {H H' : Hp} {v : V} (e : e36 vs H = some (some (v, H'))) : Sd 16 36 κ vs H v H' :=
  bo_c e fun t ht e => by
    rw [two_eq ht]
    obtain ⟨p, e1, e⟩ := int_of e
    obtain ⟨n, e2, e⟩ := int_of e
    rw [e1, e2]
    refine bi_c e fun hb e => and_c hb fun h1 h3 => and_c h1 fun h1 h2 => ?_
    obtain ⟨rfl, rfl⟩ := i2 (Option.some.inj e)
    have h := and_c h3 fun q1 h => and_c h fun _ h => and_c h fun _ q2 => List.all_eq_true.mp (List.all_eq_true.mp sums_ok _ (List.mem_range.mpr (Nat.blt_eq.mp q1))) _ (List.mem_range.mpr (Nat.blt_eq.mp q2))
    rw [h3, Int.toNat_of_nonneg (of_decide_eq_true h1), Int.toNat_of_nonneg (of_decide_eq_true h2)] at h
    exact flat_n sok_none (of_decide_eq_true h) rfl
noncomputable def SE : Sum := fun f κ vs H => bif Nat.beq f 36 then e36 vs H else bif Nat.beq f 34 then tab prsV lotsT vs H else bif Nat.beq f 18 then tab prsV bernT vs H else bif Nat.beq f 41 then tab toL stepT vs H else bif Nat.beq f 39 then s39 vs H else SA f κ vs H
theorem SE_ok : SOK SE 410 := fun f κ vs H v H' e => by
  refine beq_c' e (fun hf e => ?_) fun e => beq_c' e (fun hf e => ?_) fun e => beq_c' e (fun hf e => ?_) fun e => beq_c' e (fun hf e => ?_) fun e => beq_c' e (fun hf e => ?_) fun e => (SA_ok _ _ _ _ _ _ e).mono (by decide)
  · rw [hf]; exact (e36_ok e).mono (by decide)
  · rw [hf]; exact (tab_ok (M := 0) (n := 16) (fun _ _ => prsOf_eq) (bels_prsV 0) sok_none lots_ok e).mono (by decide)
  · rw [hf]; exact (tab_ok (M := 300) (n := 27) (fun _ _ => prsOf_eq) (bels_prsV 0) SA_ok bern_ok e).mono (by decide)
  · rw [hf]; exact (tab_ok (α := Z) (d := V.ints) (g := toL) (T := stepT) (S := noS) (M := 0) (n := 27) (fun _ _ h => ints_toL h) (bels_toL 0) sok_none step_ok e).mono (by decide)
  · rw [hf]; exact s39_ok e

noncomputable def rowZ (p : Nat) (t : Int) (n : Nat) : Z := 1 :: (List.range (n - 1)).map fun i => t * sg p (i + 1)
noncomputable def rowsH (n : Nat) : Hp := [.lst [.ref 1, .ref 2, .ref 3], .lst (toL (rowZ 1 (-24) n)), .lst (toL (rowZ 3 240 n)), .lst (toL (rowZ 5 (-504) n))]
noncomputable def ks42 : List Nat := [4, 6, 8, 10, 12, 14, 16, 18, 20]
noncomputable def aloneB (n k : Nat) : Bool := booOf ((run tbl SE 45).cl [0, 1, 2, 3] 42 [.int k, .ref 0, .int n] (rowsH n))
theorem and_i {a b : Bool} (ha : a = true) (hb : b = true) : (a && b) = true := by rw [ha, hb]; rfl
theorem al5 : ks42.all (aloneB 5) = true := by
  unfold ks42
  iterate 9 (rw [List.all_cons]; refine and_i (by decide +kernel) ?_)
  rfl
theorem al6 : ks42.all (aloneB 6) = true := by
  unfold ks42
  iterate 9 (rw [List.all_cons]; refine and_i (by decide +kernel) ?_)
  rfl
theorem al7 : ks42.all (aloneB 7) = true := by
  unfold ks42
  iterate 9 (rw [List.all_cons]; refine and_i (by decide +kernel) ?_)
  rfl
theorem alone_ok : [5, 6, 7].all (fun n : Nat => ks42.all (aloneB n)) = true := and_i al5 (and_i al6 (and_i al7 rfl))
end Mine
end

section
/-! The summary of alone. -/
set_option maxRecDepth 100000
set_option linter.all false
namespace Mine
open PySem PySem.Calls PyProof.Rows

noncomputable def n567 : List Nat := [5, 6, 7]
noncomputable def ok42 (k n : Nat) : Bool := ks42.any (Nat.beq k) && n567.any (Nat.beq n)
noncomputable def isRows (z : Z × Z × Z) (n : Nat) : Bool := intsEq z.1 (rowZ 1 (-24) n) && (intsEq z.2.1 (rowZ 3 240 n) && intsEq z.2.2 (rowZ 5 (-504) n))
noncomputable def e42 (vs : List V) (H : Hp) : Option (Option (V × Hp)) := bo (three vs) fun t => onInt t.1 fun k => onRef t.2.1 fun R => onInt t.2.2 fun n => bo (rowsAt H R) fun z => bi ((decide (0 ≤ k) && decide (0 ≤ n)) && (ok42 k.toNat n.toNat && isRows z n.toNat)) (some (some (.boo true, H)))
/-- the second number of a row -/
noncomputable def kc (c : Option C) : Int := (bo c fun c => onCell c (fun xs => bo xs[1]? fun v => onInt v some) fun _ => none).getD 0
theorem kc_ok : n567.all (fun n => decide (kc (some (.lst (toL (rowZ 1 (-24) n)))) = -24) && (decide (kc (some (.lst (toL (rowZ 3 240 n)))) = 240) && decide (kc (some (.lst (toL (rowZ 5 (-504) n)))) = -504))) = true := by decide +kernel
theorem any_beq {l : List Nat} {x : Nat} (h : l.any (Nat.beq x) = true) : x ∈ l := by
  obtain ⟨y, hy, e⟩ := List.any_eq_true.mp h
  rw [Nat.eq_of_beq_eq_true e]; exact hy
theorem ren_toL (φ : Nat → Nat) (z : Z) : C.ren φ (.lst (toL z)) = .lst (toL z) := by
  have : ∀ z : Z, V.rens φ (toL z) = toL z := fun z => by
    induction z with
    | nil => rfl
    | cons x r ih => exact congrArg (V.int x :: ·) ih
  exact congrArg C.lst (this z)
noncomputable def phi (R r0 r1 r2 : Nat) (m : Nat) : Nat := ([R, r0, r1, r2][m]?).getD 0
theorem phi_inj {R r0 r1 r2 : Nat} (h : [R, r0, r1, r2].Nodup) {a b : Nat} (ha : a < 4) (hb : b < 4) (e : phi R r0 r1 r2 a = phi R r0 r1 r2 b) : a = b := by
  have q : ∀ m, m < 4 → [R, r0, r1, r2][m]? = some (phi R r0 r1 r2 m) := fun m hm => by
    unfold phi; rw [List.getElem?_eq_getElem (show m < [R, r0, r1, r2].length from hm)]; rfl
  exact (List.getElem?_inj (show a < [R, r0, r1, r2].length from ha) h).mp ((q a ha).trans ((congrArg some e).trans (q b hb).symm))
theorem alone_Sd {κ : List Nat} {H : Hp} {k n R r0 r1 r2 : Nat} (hk : ok42 k n = true) (c : Hp.get H R = some (.lst [.ref r0, .ref r1, .ref r2])) (c0 : Hp.get H r0 = some (.lst (toL (rowZ 1 (-24) n)))) (c1 : Hp.get H r1 = some (.lst (toL (rowZ 3 240 n)))) (c2 : Hp.get H r2 = some (.lst (toL (rowZ 5 (-504) n)))) :
    Sd 455 42 κ [.int k, .ref R, .int n] H (.boo true) H :=
  and_c hk fun h1 h2 => by
    have hn := List.all_eq_true.mp (List.all_eq_true.mp alone_ok n (any_beq h2)) k (any_beq h1)
    refine getD_c hn fun hn => bd_c hn fun v J e1 hn => ?_
    revert e1; apply onBoo_c hn; intro b hn e1
    obtain rfl := Option.some.inj hn
    have hnd : [R, r0, r1, r2].Nodup := by
      have hc := List.all_eq_true.mp kc_ok n (any_beq h2)
      refine and_c hc fun q0 hc => and_c hc fun q1 q2 => ?_
      have hm : [R, r0, r1, r2].map (fun l => kc (Hp.get H l)) = [0, -24, 240, -504] := by
        show [kc (Hp.get H R), kc (Hp.get H r0), kc (Hp.get H r1), kc (Hp.get H r2)] = _
        rw [c, c0, c1, c2, of_decide_eq_true q0, of_decide_eq_true q1, of_decide_eq_true q2]; rfl
      have h4 : ([0, -24, 240, -504] : List Int).Nodup := by decide
      rw [← hm] at h4
      exact List.Pairwise.of_map _ (fun a b h e => h (by rw [e])) h4
    refine (Sd.run (M := 410) (n := 45) SE_ok e1).carry (φ := phi R r0 r1 r2) (vs₁ := [.int k, .ref 0, .int n]) (fun m hm => ?_) (fun a ha b hb e => phi_inj hnd ha hb e) rfl (fun m hm => ?_) rfl
    · match m, hm with
      | 0, _ => decide
      | 1, _ => decide
      | 2, _ => decide
      | 3, _ => decide
    · match m, hm with
      | 0, _ => exact ⟨_, rfl, c, rfl⟩
      | 1, _ => exact ⟨_, rfl, by rw [ren_toL]; exact c0, bels_toL _ _⟩
      | 2, _ => exact ⟨_, rfl, by rw [ren_toL]; exact c1, bels_toL _ _⟩
      | 3, _ => exact ⟨_, rfl, by rw [ren_toL]; exact c2, bels_toL _ _⟩
noncomputable def SF : Sum := fun f κ vs H => bif Nat.beq f 42 then e42 vs H else SE f κ vs H
theorem SF_ok : SOK SF 455 := fun f κ vs H v H' e => by
  refine beq_c' e (fun hf e => bo_c e fun t ht e => ?_) fun e => (SE_ok _ _ _ _ _ _ e).mono (by decide)
  obtain ⟨k, e1, e⟩ := int_of e
  obtain ⟨R, e2, e⟩ := ref_of e
  obtain ⟨n, e3, e⟩ := int_of e
  rw [hf, three_eq ht, e1, e2, e3]
  refine bo_c e fun z hz e => bi_c e fun hb e => and_c hb fun h1 h => and_c h1 fun h1 h2 => and_c h fun h3 h => and_c h fun h4 h => and_c h fun h5 h6 => rowsAt_c hz fun r0 r1 r2 c c0 c1 c2 => ?_
  obtain ⟨rfl, rfl⟩ := i2 (Option.some.inj e)
  rw [intsEq_eq h4] at c0
  rw [intsEq_eq h5] at c1
  rw [intsEq_eq h6] at c2
  rw [← Int.toNat_of_nonneg (of_decide_eq_true h1), ← Int.toNat_of_nonneg (of_decide_eq_true h2)]
  exact alone_Sd h3 c c0 c1 c2
theorem fits_SF : Fits SF := ⟨fun _ _ _ => rfl, fun _ _ _ => rfl, fun _ _ _ => rfl, fun _ _ _ => rfl⟩
end Mine
end

section
/-! Polynomials as sums: I p φ; the invariant; equality of dicts. -/
set_option maxRecDepth 100000
set_option linter.all false
namespace Mine
open PySem

noncomputable def I : P → (List Int → Int) → Int
  | [], _ => 0
  | e :: r, φ => e.2 * φ e.1 + I r φ
noncomputable abbrev gv (p : P) (k : List Int) : Int := (pget p k).getD 0

theorem I_cons (e : List Int × Int) (r : P) (φ : List Int → Int) : I (e :: r) φ = e.2 * φ e.1 + I r φ := rfl
theorem I_pdel (p : P) (k : List Int) (φ : List Int → Int) : I (pdel p k) φ = I p φ - gv p k * φ k := by
  induction p with
  | nil => simp [pdel, I, gv, pget]
  | cons e r ih =>
    by_cases h : intsEq e.1 k = true
    · rw [pdel_cons, gv, pget_cons, if_pos h, if_pos h, I_cons, intsEq_eq h, Option.getD_some]; omega
    · rw [pdel_cons, gv, pget_cons, if_neg h, if_neg h, I_cons, I_cons, ih]; unfold gv; omega
theorem I_pset (p : P) (k : List Int) (c : Int) (φ : List Int → Int) : I (pset p k c) φ = I p φ - gv p k * φ k + c * φ k := by
  induction p with
  | nil => simp [pset, I, gv, pget]
  | cons e r ih =>
    by_cases h : intsEq e.1 k = true
    · rw [pset_cons, gv, pget_cons, if_pos h, if_pos h, I_cons, I_cons, intsEq_eq h, Option.getD_some]; dsimp only; omega
    · rw [pset_cons, gv, pget_cons, if_neg h, if_neg h, I_cons, I_cons, ih]; unfold gv; omega
theorem I_addT (p : P) (k : List Int) (c : Int) (φ : List Int → Int) : I (addT p k c) φ = I p φ + c * φ k := by
  unfold addT
  have e : (gv p k + c) * φ k = gv p k * φ k + c * φ k := Int.add_mul ..
  split
  · rename_i h
    rw [show (gv p k + c) = 0 from h, Int.zero_mul] at e
    rw [I_pdel]; omega
  · rw [I_pset, e]; omega
theorem I_add (p q : P) (φ : List Int → Int) : I (pAdd p q) φ = I p φ + I q φ := by
  unfold pAdd
  induction q generalizing p with
  | nil => simp [I]
  | cons e r ih => rw [List.foldl_cons, ih, I_addT, I]; omega
theorem I_map (p : P) (c : Int) (φ : List Int → Int) : I (p.map fun e => (e.1, e.2 * c)) φ = c * I p φ := by
  induction p with
  | nil => simp [I]
  | cons e r ih => rw [List.map_cons, I, ih, I, Int.mul_add]; congr 1; rw [Int.mul_comm e.2 c, Int.mul_assoc]
theorem I_scl (p : P) (c : Int) (φ : List Int → Int) : I (pScl p c) φ = c * I p φ := by
  unfold pScl
  split
  · rename_i h; rw [h, Int.zero_mul]; rfl
  · exact I_map p c φ
theorem I_neg (p : P) (φ : List Int → Int) : I (pNeg p) φ = - I p φ := by
  have := I_map p (-1) φ
  have e : (p.map fun e => (e.1, e.2 * -1)) = pNeg p := by unfold pNeg; apply List.map_congr_left; intro e _; rw [Int.mul_neg, Int.mul_one]
  rw [e] at this; omega
theorem I_sub (p q : P) (φ : List Int → Int) : I (pSub p q) φ = I p φ - I q φ := by unfold pSub; rw [I_add, I_neg]; omega
theorem I_term (k : List Int) (c : Int) (φ : List Int → Int) : I (pTerm k c) φ = c * φ k := by
  unfold pTerm; split
  · rename_i h; rw [h, Int.zero_mul]; rfl
  · simp [I]
theorem I_fadd (p : P) (φ ψ : List Int → Int) : I p (fun k => φ k + ψ k) = I p φ + I p ψ := by
  induction p with
  | nil => rfl
  | cons e r ih => rw [I, I, I, ih, Int.mul_add]; omega
theorem I_fmul (p : P) (c : Int) (φ : List Int → Int) : I p (fun k => c * φ k) = c * I p φ := by
  induction p with
  | nil => simp [I]
  | cons e r ih => rw [I, I, ih, Int.mul_add]; congr 1; rw [← Int.mul_assoc, Int.mul_comm e.2 c, Int.mul_assoc]
theorem I_zero (p : P) : I p (fun _ => 0) = 0 := by
  induction p with
  | nil => rfl
  | cons e r ih => rw [I, ih]; simp
theorem I_swap (p q : P) (F : List Int → List Int → Int) : I p (fun k => I q (F k)) = I q (fun l => I p (fun k => F k l)) := by
  induction p with
  | nil => exact (I_zero q).symm
  | cons e r ih =>
    show e.2 * I q (F e.1) + I r (fun k => I q (F k)) = I q (fun l => e.2 * F e.1 l + I r (fun k => F k l))
    rw [I_fadd, ih, I_fmul]
theorem I_congr {p : P} {φ ψ : List Int → Int} (h : ∀ e ∈ p, φ e.1 = ψ e.1) : I p φ = I p ψ := by
  induction p with
  | nil => rfl
  | cons e r ih => rw [I, I, h e (List.mem_cons_self ..), ih fun x hx => h x (List.mem_cons_of_mem _ hx)]
theorem I_one (k : List Int) (φ : List Int → Int) : I [(k, 1)] φ = φ k := by simp [I]
theorem I_mulRow (e : List Int × Int) (φ : List Int → Int) : ∀ (l f : P), I (mulRow f e l) φ = I f φ + e.2 * I l (fun k => φ (kadd k e.1))
  | [], f => by simp [mulRow, I]
  | a :: l, f => by
    show I (mulRow (addT f (kadd a.1 e.1) (a.2 * e.2)) e l) φ = _
    rw [I_mulRow e φ l, I_addT, I, Int.mul_add, Int.mul_comm a.2 e.2, Int.mul_assoc]; omega
theorem I_mulAcc (p : P) (φ : List Int → Int) : ∀ (q f : P), I (mulAcc f p q) φ = I f φ + I q (fun l => I p (fun k => φ (kadd k l)))
  | [], f => by simp [mulAcc, I]
  | e :: q, f => by
    show I (mulAcc (mulRow f e p) p q) φ = _
    rw [I_mulAcc p φ q, I_mulRow, I]; omega
theorem I_mul (p q : P) (φ : List Int → Int) : I (pMul p q) φ = I p (fun k => I q (fun l => φ (kadd k l))) := by
  unfold pMul; rw [I_mulAcc, I_swap]; simp [I]
noncomputable def dphi (i : Nat) (φ : List Int → Int) (k : List Int) : Int := if 0 < kget k i then kget k i * φ (klow k i) else 0
theorem I_derAcc (i : Nat) (φ : List Int → Int) : ∀ (p f : P), I (derAcc i f p) φ = I f φ + I p (dphi i φ)
  | [], f => by simp [derAcc, I]
  | e :: p, f => by
    show I (derAcc i (derT i f e) p) φ = _
    rw [I_derAcc i φ p, I]
    unfold derT dphi
    split
    · rw [I_addT, Int.mul_assoc]; omega
    · rw [Int.mul_zero]; omega
theorem I_der (p : P) (i : Nat) (φ : List Int → Int) : I (pDer p i) φ = I p (dphi i φ) := by unfold pDer; rw [I_derAcc]; simp [I]

/-! ## the invariant -/
def Inv (K : List Int → Prop) (p : P) : Prop := keysNd p = true ∧ ∀ e ∈ p, e.2 ≠ 0 ∧ K e.1
theorem pget_pdel_ne (p : P) {k x : List Int} (hk : k ≠ x) : pget (pdel p k) x = pget p x := by
  induction p with
  | nil => rfl
  | cons e r ih =>
    by_cases h : intsEq e.1 k = true
    · rw [pdel_cons, if_pos h, pget_cons, intsEq_eq h, intsEq_ne hk]; rfl
    · rw [pdel_cons, if_neg h, pget_cons, pget_cons, ih]
theorem mem_pdel {p : P} {k : List Int} {e : List Int × Int} (h : e ∈ pdel p k) : e ∈ p := by
  induction p with
  | nil => exact h
  | cons x r ih =>
    simp only [pdel] at h
    split at h
    · exact List.mem_cons_of_mem _ h
    · rcases List.mem_cons.mp h with q | q
      · rw [q]; exact List.mem_cons_self ..
      · exact List.mem_cons_of_mem _ (ih q)
theorem mem_pset {p : P} {k : List Int} {c : Int} {e : List Int × Int} (h : e ∈ pset p k c) : e ∈ p ∨ e = (k, c) := by
  induction p with
  | nil => exact .inr (List.mem_singleton.mp h)
  | cons x r ih =>
    simp only [pset] at h
    split at h
    · rename_i hk
      rcases List.mem_cons.mp h with q | q
      · rw [intsEq_eq hk] at q; exact .inr q
      · exact .inl (List.mem_cons_of_mem _ q)
    · rcases List.mem_cons.mp h with q | q
      · rw [q]; exact .inl (List.mem_cons_self ..)
      · exact (ih q).imp (List.mem_cons_of_mem _) id
theorem pget_of_mem {p : P} {e : List Int × Int} (h : e ∈ p) : pget p e.1 ≠ none := by
  induction p with
  | nil => cases h
  | cons x r ih =>
    rw [pget_cons]
    split
    · exact fun q => by cases q
    · rcases List.mem_cons.mp h with q | q
      · rename_i hn; rw [q] at hn; exact absurd (intsEq_self _) hn
      · exact ih q
theorem pget_none_pdel {p : P} {k x : List Int} (h : pget p x = none) : pget (pdel p k) x = none := by
  by_cases hk : k = x
  · subst hk
    induction p with
    | nil => rfl
    | cons e r ih =>
      rw [pget_cons] at h
      split at h
      · cases h
      · rename_i hn; simp only [pdel, hn, if_false, Bool.false_eq_true, pget_cons]; exact ih h
  · rw [pget_pdel_ne _ hk]; exact h
theorem nd_pdel {p : P} (k : List Int) (h : keysNd p = true) : keysNd (pdel p k) = true := by
  induction p with
  | nil => rfl
  | cons e r ih =>
    have h := nd_cons.mp h
    simp only [pdel]
    split
    · exact h.2
    · refine nd_cons.mpr ?_; exact ⟨pget_none_pdel h.1, ih h.2⟩
theorem nd_pset {p : P} (k : List Int) (c : Int) (h : keysNd p = true) : keysNd (pset p k c) = true := by
  induction p with
  | nil => rfl
  | cons e r ih =>
    have h := nd_cons.mp h
    simp only [pset]
    split
    · refine nd_cons.mpr ?_; exact h
    · rename_i hn
      refine nd_cons.mpr ?_
      rw [pget_pset]
      refine ⟨?_, ih h.2⟩
      rw [if_neg]
      · exact h.1
      · intro q; rw [intsEq_eq q] at hn; exact hn (intsEq_self _)
theorem Inv.nil {K : List Int → Prop} : Inv K [] := ⟨rfl, fun e h => by cases h⟩
theorem Inv.addT {K : List Int → Prop} {p : P} {k : List Int} {c : Int} (h : Inv K p) (hk : K k) : Inv K (addT p k c) := by
  unfold Mine.addT
  split
  · exact ⟨nd_pdel k h.1, fun e he => h.2 e (mem_pdel he)⟩
  · rename_i hc
    refine ⟨nd_pset k _ h.1, fun e he => ?_⟩
    rcases mem_pset he with q | q
    · exact h.2 e q
    · rw [q]; exact ⟨hc, hk⟩
theorem Inv.mono {K L : List Int → Prop} {p : P} (h : Inv K p) (hK : ∀ k, K k → L k) : Inv L p := ⟨h.1, fun e he => ⟨(h.2 e he).1, hK _ (h.2 e he).2⟩⟩
theorem Inv.add {K : List Int → Prop} {p q : P} (h : Inv K p) (h2 : Inv K q) : Inv K (pAdd p q) := by
  unfold pAdd
  have : ∀ (l f : P), (∀ e ∈ l, K e.1) → Inv K f → Inv K (l.foldl (fun f e => Mine.addT f e.1 e.2) f) := fun l => by
    induction l with
    | nil => exact fun f _ hf => hf
    | cons e r ih => exact fun f hl hf => ih _ (fun x hx => hl x (List.mem_cons_of_mem _ hx)) (hf.addT (hl e (List.mem_cons_self ..)))
  exact this q p (fun e he => (h2.2 e he).2) h
theorem Inv.map {K : List Int → Prop} {p : P} {g : Int → Int} (h : Inv K p) (hg : ∀ c, c ≠ 0 → g c ≠ 0) : Inv K (p.map fun e => (e.1, g e.2)) :=
  ⟨by rw [keysNd_map (g := g)]; exact h.1, fun e he => by obtain ⟨x, hx, rfl⟩ := List.mem_map.mp he; exact ⟨hg _ (h.2 x hx).1, (h.2 x hx).2⟩⟩
theorem Inv.neg {K : List Int → Prop} {p : P} (h : Inv K p) : Inv K (pNeg p) := h.map (g := fun c => -c) fun c hc => by omega
theorem Inv.scl {K : List Int → Prop} {p : P} (h : Inv K p) (c : Int) : Inv K (pScl p c) := by
  unfold pScl; split
  · exact .nil
  · rename_i hc; exact h.map (g := fun d => d * c) fun d hd => Int.mul_ne_zero hd hc
theorem Inv.sub {K : List Int → Prop} {p q : P} (h : Inv K p) (h2 : Inv K q) : Inv K (pSub p q) := h.add h2.neg
theorem Inv.mul {K L M : List Int → Prop} {p q : P} (h : Inv K p) (h2 : Inv L q) (hM : ∀ k l, K k → L l → M (kadd k l)) : Inv M (pMul p q) := by
  have h1 : ∀ (e : List Int × Int), L e.1 → ∀ (l f : P), (∀ x ∈ l, K x.1) → Inv M f → Inv M (mulRow f e l) := fun e he l => by
    induction l with
    | nil => exact fun f _ hf => hf
    | cons a r ih => exact fun f hl hf => ih _ (fun x hx => hl x (List.mem_cons_of_mem _ hx)) (hf.addT (hM _ _ (hl a (List.mem_cons_self ..)) he))
  have h3 : ∀ (l f : P), (∀ x ∈ l, L x.1) → Inv M f → Inv M (mulAcc f p l) := fun l => by
    induction l with
    | nil => exact fun f _ hf => hf
    | cons a r ih => exact fun f hl hf => ih _ (fun x hx => hl x (List.mem_cons_of_mem _ hx)) (h1 a (hl a (List.mem_cons_self ..)) p f (fun x hx => (h.2 x hx).2) hf)
  exact h3 q [] (fun x hx => (h2.2 x hx).2) .nil
theorem Inv.der {K M : List Int → Prop} {p : P} {i : Nat} (h : Inv K p) (hM : ∀ k, K k → 0 < kget k i → M (klow k i)) : Inv M (pDer p i) := by
  have : ∀ (l f : P), (∀ x ∈ l, K x.1) → Inv M f → Inv M (derAcc i f l) := fun l => by
    induction l with
    | nil => exact fun f _ hf => hf
    | cons a r ih =>
      refine fun f hl hf => ih _ (fun x hx => hl x (List.mem_cons_of_mem _ hx)) ?_
      unfold derT; split
      · rename_i h0; exact hf.addT (hM _ (hl a (List.mem_cons_self ..)) h0)
      · exact hf
  exact this p [] (fun x hx => (h.2 x hx).2) .nil

/-! ## equality of dicts -/
noncomputable def dlt (k x : List Int) : Int := if intsEq x k then 1 else 0
theorem I_dlt {p : P} (h : keysNd p = true) (k : List Int) : I p (dlt k) = gv p k := by
  induction p with
  | nil => rfl
  | cons e r ih =>
    have h := nd_cons.mp h
    rw [I, ih h.2, gv, gv, pget_cons]
    unfold dlt
    split
    · rename_i hk; rw [← intsEq_eq hk, h.1]; simp
    · simp
theorem pget_eq {K L : List Int → Prop} {p q : P} (hp : Inv K p) (hq : Inv L q) (h : ∀ φ, I p φ = I q φ) (k : List Int) : pget p k = pget q k := by
  have e : gv p k = gv q k := by rw [← I_dlt hp.1, ← I_dlt hq.1, h]
  have nz : ∀ {K : List Int → Prop} {p : P}, Inv K p → ∀ c, pget p k = some c → c ≠ 0 := fun {K p} hp c hc => by
    obtain ⟨h1, h2⟩ := hp
    have : ∃ x ∈ p, x.2 = c := by
      clear h1 h2
      induction p with
      | nil => cases hc
      | cons x r ih =>
        rw [pget_cons] at hc
        split at hc
        · cases hc; exact ⟨x, List.mem_cons_self .., rfl⟩
        · obtain ⟨y, y1, y2⟩ := ih hc; exact ⟨y, List.mem_cons_of_mem _ y1, y2⟩
    obtain ⟨x, x1, rfl⟩ := this
    exact (h2 x x1).1
  cases h1 : pget p k with
  | none =>
    cases h2 : pget q k with
    | none => rfl
    | some c => simp only [gv, h1, h2, Option.getD_none, Option.getD_some] at e; exact absurd e.symm (nz hq c h2)
  | some c =>
    cases h2 : pget q k with
    | none => simp only [gv, h1, h2, Option.getD_none, Option.getD_some] at e; exact absurd e (nz hp c h1)
    | some d => simp only [gv, h1, h2, Option.getD_some] at e; rw [e]
theorem len_eq : ∀ {p q : P}, keysNd p = true → keysNd q = true → (∀ k, pget p k = pget q k) → p.length = q.length
  | [], q, _, _, h => by
    cases q with
    | nil => rfl
    | cons e r => have := h e.1; rw [pget_cons, intsEq_self] at this; cases this
  | e :: r, q, hp, hq, h => by
    have hp := nd_cons.mp hp
    have he : pget q e.1 = some e.2 := by rw [← h, pget_cons, intsEq_self]; rfl
    have hself : ∀ {q : P}, keysNd q = true → pget (pdel q e.1) e.1 = none := fun {q} hq => by
      induction q with
      | nil => rfl
      | cons x s ih =>
        have hq := nd_cons.mp hq
        simp only [pdel]
        split
        · rename_i hx; rw [← intsEq_eq hx]; exact hq.1
        · rename_i hx; rw [pget_cons, if_neg hx]; exact ih hq.2
    have hlen : ∀ {q : P}, pget q e.1 = some e.2 → q.length = (pdel q e.1).length + 1 := fun {q} hq => by
      induction q with
      | nil => cases hq
      | cons x s ih =>
        rw [pget_cons] at hq
        simp only [pdel]
        split at hq
        · rename_i hx; rw [if_pos hx]; rfl
        · rename_i hx; rw [if_neg hx, List.length_cons, ih hq]; rfl
    have ih := len_eq (p := r) (q := pdel q e.1) hp.2 (nd_pdel _ hq) fun k => by
      by_cases hk : e.1 = k
      · rw [← hk, hp.1, hself hq]
      · rw [pget_pdel_ne _ hk, ← h, pget_cons, intsEq_ne hk]; rfl
    rw [List.length_cons, ih, ← hlen he]
theorem valsInt_toD (p : P) : valsInt (toD p) = true := by
  unfold valsInt
  rw [toD_map, List.all_map]
  exact List.all_eq_true.mpr fun _ _ => rfl
theorem ent_toD {p q : P} (h : keysNd p = true) (h2 : ∀ k, pget p k = pget q k) : (toD p).all (fun e => ent e (toD q)) = true := by
  rw [toD_map, List.all_map]
  exact List.all_eq_true.mpr fun e he => (ent_some (is := [e.2, 1]) (js := [e.2, 1]) (by rw [dget_toD, ← h2, pget_mem h he]; rfl) rfl rfl).trans (intsEq_self _)
theorem ne_dict {K L : List Int → Prop} {p q : P} (hp : Inv K p) (hq : Inv L q) (h : ∀ φ, I p φ = I q φ) {l m : Nat} {H : Hp} (h1 : Hp.get H l = some (.dic (toD p))) (h2 : Hp.get H m = some (.dic (toD q))) : cmpop .ne (.ref l) (.ref m) H = some false := by
  have he : eqv (.ref l) (.ref m) H = none := by
    have : lstAt H l = none := by unfold lstAt; rw [h1]
    show bo (lstAt H l) _ = none
    rw [this]; rfl
  show neqv (.ref l) (.ref m) H = _
  unfold neqv
  rw [he]
  refine (bo_eq (dicAt_of h1)).trans ((bo_eq (dicAt_of h2)).trans ((bi_eq (by rw [valsInt_toD, valsInt_toD]; rfl)).trans ?_))
  rw [ent_toD hp.1 (pget_eq hp hq h), toD_length, toD_length, len_eq hp.1 hq.1 (pget_eq hp hq h), Nat.beq_refl]; rfl
end Mine
end

section
/-! Polynomials: bounds, so that every check holds. -/
set_option maxRecDepth 100000
set_option linter.all false
namespace Mine
open PySem

def bxK (A B C : Nat) (k : List Int) : Prop := ∃ a b c : Int, k = [a, b, c] ∧ (0 ≤ a ∧ a ≤ A) ∧ (0 ≤ b ∧ b ≤ B) ∧ (0 ≤ c ∧ c ≤ C)
structure Bd (p : P) (N L A B C : Nat) : Prop where
  inv : Inv (bxK A B C) p
  nr : nrm p ≤ N
  ln : p.length ≤ L
section
variable {p q : P} {N N' L L' A A' B B' C C' : Nat}
theorem Bd.box (h : Bd p N L A B C) (hA : A ≤ 11 := by decide) (hB : B ≤ 11 := by decide) (hC : C ≤ 11 := by decide) (i : Nat) : ∀ e ∈ p, (kget e.1 i).natAbs ≤ 12 := fun e he => by
  obtain ⟨a, b, c, e1, h1, h2, h3⟩ := (h.inv.2 e he).2
  rw [e1]
  match i with
  | 0 => show a.natAbs ≤ 12; omega
  | 1 => show b.natAbs ≤ 12; omega
  | 2 => show c.natAbs ≤ 12; omega
  | i + 3 => exact Nat.zero_le _
theorem Bd.ok (h : Bd p N L A B C) (hA : A ≤ 2 := by decide) (hB : B ≤ 11 := by decide) (hC : C ≤ 6 := by decide) (hN : N ≤ nlim := by decide) (hL : L ≤ 1000 := by decide) : OkP p :=
  ⟨h.inv.1, List.all_eq_true.mpr fun e he => by
    obtain ⟨a, b, c, e1, h1, h2, h3⟩ := (h.inv.2 e he).2
    rw [e1]
    show (bnd 3 a && (bnd 12 b && bnd 7 c)) = true
    simp only [bnd, Bool.and_eq_true, decide_eq_true_eq, Nat.blt_eq]
    omega, Nat.le_trans h.nr hN, Nat.le_trans h.ln hL⟩
theorem Bd.mono (h : Bd p N L A B C) (hA : A ≤ A' := by decide) (hB : B ≤ B' := by decide) (hC : C ≤ C' := by decide) (hN : N ≤ N' := by decide) (hL : L ≤ L' := by decide) : Bd p N' L' A' B' C' :=
  ⟨h.inv.mono fun k ⟨a, b, c, e, h1, h2, h3⟩ => ⟨a, b, c, e, by omega, by omega, by omega⟩, Nat.le_trans h.nr hN, Nat.le_trans h.ln hL⟩
theorem nrm_len_add : ∀ (q p : P), nrm (pAdd p q) ≤ nrm p + nrm q ∧ (pAdd p q).length ≤ p.length + q.length
  | [], p => ⟨Nat.le_refl _, Nat.le_refl _⟩
  | e :: r, p => by
    have h1 := nrm_len_add r (addT p e.1 e.2)
    have h2 := nrm_addT p e.1 e.2
    have h3 := len_addT p e.1 e.2
    have e1 : pAdd p (e :: r) = pAdd (addT p e.1 e.2) r := rfl
    rw [e1, nrm_cons, List.length_cons]
    omega
theorem Bd.add (h : Bd p N L A B C) (h2 : Bd q N' L' A B C) : Bd (pAdd p q) (N + N') (L + L') A B C :=
  ⟨h.inv.add h2.inv, Nat.le_trans (nrm_len_add q p).1 (Nat.add_le_add h.nr h2.nr), Nat.le_trans (nrm_len_add q p).2 (Nat.add_le_add h.ln h2.ln)⟩
theorem Bd.neg (h : Bd p N L A B C) : Bd (pNeg p) N L A B C := ⟨h.inv.neg, by rw [nrm_pNeg]; exact h.nr, by unfold pNeg; rw [List.length_map]; exact h.ln⟩
theorem Bd.sub (h : Bd p N L A B C) (h2 : Bd q N' L' A B C) : Bd (pSub p q) (N + N') (L + L') A B C := h.add h2.neg
theorem nrm_scl (p : P) (c : Int) : nrm (pScl p c) ≤ nrm p * c.natAbs ∧ (pScl p c).length ≤ p.length := by
  unfold pScl
  split
  · exact ⟨Nat.zero_le _, Nat.zero_le _⟩
  · refine ⟨?_, by rw [List.length_map]; exact Nat.le_refl _⟩
    induction p with
    | nil => exact Nat.zero_le _
    | cons e r ih => rw [List.map_cons, nrm_cons, nrm_cons, Int.natAbs_mul, Nat.add_mul]; exact Nat.add_le_add_left ih _
theorem Bd.scl (h : Bd p N L A B C) (c : Int) : Bd (pScl p c) (N * c.natAbs) L A B C := ⟨h.inv.scl c, Nat.le_trans (nrm_scl p c).1 (Nat.mul_le_mul_right _ h.nr), Nat.le_trans (nrm_scl p c).2 h.ln⟩
theorem Bd.mul (h : Bd p N L A B C) (h2 : Bd q N' L' A' B' C') : Bd (pMul p q) (N * N') (L * L') (A + A') (B + B') (C + C') := by
  refine ⟨h.inv.mul h2.inv ?_, ?_, ?_⟩
  · rintro k l ⟨a, b, c, e, h1, h2, h3⟩ ⟨a', b', c', e', h1', h2', h3'⟩
    subst e e'
    exact ⟨a + a', b + b', c + c', rfl, by omega, by omega, by omega⟩
  · have := nrm_mulAcc p q []
    unfold pMul
    exact Nat.le_trans (Nat.le_trans this (by rw [show nrm [] = 0 from rfl, Nat.zero_add]; exact Nat.le_refl _)) (Nat.mul_le_mul h.nr h2.nr)
  · have := len_mulAcc p q []
    unfold pMul
    exact Nat.le_trans (Nat.le_trans this (by rw [List.length_nil, Nat.zero_add]; exact Nat.le_refl _)) (Nat.mul_le_mul h.ln h2.ln)
noncomputable def dn (i j A : Nat) : Nat := if i = j then A - 1 else A
theorem Bd.der (h : Bd p N L A B C) (i : Nat) (hi : i < 3 := by decide) (hA : A ≤ 11 := by decide) (hB : B ≤ 11 := by decide) (hC : C ≤ 11 := by decide) : Bd (pDer p i) (N * 12) L (dn i 0 A) (dn i 1 B) (dn i 2 C) := by
  have hb := h.box hA hB hC i
  refine ⟨h.inv.der ?_, ?_, ?_⟩
  · rintro k ⟨a, b, c, e, h1, h2, h3⟩ hk
    subst e
    match i, hi, hk with
    | 0, _, hk => have hk : 0 < a := hk; exact ⟨a - 1, b, c, rfl, by unfold dn; simp; omega, h2, h3⟩
    | 1, _, hk => have hk : 0 < b := hk; exact ⟨a, b - 1, c, rfl, h1, by unfold dn; simp; omega, h3⟩
    | 2, _, hk => have hk : 0 < c := hk; exact ⟨a, b, c - 1, rfl, h1, h2, by unfold dn; simp; omega⟩
  · have := nrm_derAcc i p [] hb
    unfold pDer
    exact Nat.le_trans (Nat.le_trans this (by rw [show nrm [] = 0 from rfl, Nat.zero_add]; exact Nat.le_refl _)) (Nat.mul_le_mul_right _ h.nr)
  · have := len_derAcc i p []
    unfold pDer
    exact Nat.le_trans (Nat.le_trans this (by rw [List.length_nil, Nat.zero_add]; exact Nat.le_refl _)) h.ln
noncomputable def bdB (p : P) (N L A B C : Nat) : Bool := keysNd p && (p.all (fun e => !decide (e.2 = 0) && (match e.1 with
  | [a, b, c] => (decide (0 ≤ a) && decide (a ≤ A)) && ((decide (0 ≤ b) && decide (b ≤ B)) && (decide (0 ≤ c) && decide (c ≤ C)))
  | _ => false)) && (Nat.ble (nrm p) N && Nat.ble p.length L))
theorem bdB_ok (h : bdB p N L A B C = true) : Bd p N L A B C := by
  unfold bdB at h
  simp only [Bool.and_eq_true, Nat.ble_eq] at h
  obtain ⟨h1, h2, h3, h4⟩ := h
  refine ⟨⟨h1, fun e he => ?_⟩, h3, h4⟩
  have := List.all_eq_true.mp h2 e he
  rw [Bool.and_eq_true] at this
  obtain ⟨h5, h6⟩ := this
  refine ⟨by simpa using h5, ?_⟩
  split at h6
  · rename_i a b c hk
    simp only [Bool.and_eq_true, decide_eq_true_eq] at h6
    exact ⟨a, b, c, hk, h6.1, h6.2.1, h6.2.2⟩
  · cases h6
end
noncomputable def cPPQ : P := pSub (pMul (letterP 0) (letterP 0)) (letterP 1)
noncomputable def cPQR : P := pSub (pMul (letterP 0) (letterP 1)) (letterP 2)
noncomputable def cPRQ : P := pSub (pMul (letterP 0) (letterP 2)) (pMul (letterP 1) (letterP 1))
theorem bd0 : Bd cPPQ 2 2 2 1 0 := bdB_ok (by decide +kernel)
theorem bd1 : Bd cPQR 2 2 1 1 1 := bdB_ok (by decide +kernel)
theorem bd2 : Bd cPRQ 2 2 1 2 1 := bdB_ok (by decide +kernel)
section
variable {p : P} {N L : Nat}
theorem Bd.tw0 (h : Bd p 10 4 1 4 2) : Bd (pTw0 p) 240 8 2 5 2 := ((h.der 0).mul bd0).mono
theorem Bd.tw1' (h : Bd p 10 4 1 4 2) : Bd (pTw1' p) 240 8 2 4 3 := ((h.der 1).mul bd1).mono
theorem Bd.tw2' (h : Bd p 10 4 1 4 2) : Bd (pTw2' p) 240 8 2 6 2 := ((h.der 2).mul bd2).mono
theorem Bd.tw1 (h : Bd p 10 4 1 4 2) : Bd (pTw1 p) 960 8 2 4 3 := (h.tw1'.scl 4).mono
theorem Bd.tw2 (h : Bd p 10 4 1 4 2) : Bd (pTw2 p) 1440 8 2 6 2 := (h.tw2'.scl 6).mono
theorem Bd.tw01 (h : Bd p 10 4 1 4 2) : Bd (pAdd (pTw0 p) (pTw1 p)) 1200 16 2 5 3 := (h.tw0.mono (C' := 3) (N' := 240) (L' := 8) (A' := 2) (B' := 5)).add (h.tw1.mono (B' := 5) (A' := 2) (C' := 3) (N' := 960) (L' := 8))
theorem Bd.tw (h : Bd p 10 4 1 4 2) : Bd (pTw p) 2640 24 2 6 3 := (h.tw01.mono (B' := 6) (A' := 2) (C' := 3) (N' := 1200) (L' := 16)).add (h.tw2.mono (B' := 6) (A' := 2) (C' := 3) (N' := 1440) (L' := 8))
theorem Bd.okTw (h : Bd p 10 4 1 4 2) : OkTw p := ⟨h.ok, (h.der 0).ok, (h.der 1).ok, (h.der 2).ok, h.tw0.ok, h.tw1'.ok, h.tw2'.ok, h.tw1.ok, h.tw2.ok, h.tw01.ok⟩
end
end Mine
end

section
/-! Rows of numbers as functions of the place; the product as a convolution; bounds. -/
set_option maxRecDepth 100000
set_option linter.all false
namespace Mine
open PySem

noncomputable def zg (z : Z) (j : Nat) : Int := (z[j]?).getD 0
theorem zg_nil (j : Nat) : zg [] j = 0 := rfl
theorem zg_out {z : Z} {j : Nat} (h : z.length ≤ j) : zg z j = 0 := by unfold zg; rw [List.getElem?_eq_none h]; rfl
theorem zg_take (z : Z) (n j : Nat) : zg (z.take n) j = if j < n then zg z j else 0 := by
  unfold zg; rw [List.getElem?_take]; split <;> rfl
theorem zg_set (z : Z) (i j : Nat) (x : Int) (h : i < z.length) : zg (z.set i x) j = if i = j then x else zg z j := by
  unfold zg; rw [List.getElem?_set]; split
  · rfl
  · rfl
theorem zg_map (z : Z) (f : Int → Int) (h : f 0 = 0) (j : Nat) : zg (z.map f) j = f (zg z j) := by
  unfold zg; rw [List.getElem?_map]; cases z[j]? <;> simp [h]
theorem zg_range (n : Nat) (f : Nat → Int) (j : Nat) : zg ((List.range n).map f) j = if j < n then f j else 0 := by
  unfold zg
  rw [List.getElem?_map]
  by_cases h : j < n
  · rw [if_pos h, List.getElem?_range h]; rfl
  · rw [if_neg h, List.getElem?_eq_none (by rw [List.length_range]; omega)]; rfl
theorem zg_ext {a b : Z} {n : Nat} (ha : a.length = n) (hb : b.length = n) (h : ∀ j, j < n → zg a j = zg b j) : a = b := by
  apply List.ext_getElem (by rw [ha, hb])
  intro j h1 h2
  have := h j (by omega)
  unfold zg at this
  rw [List.getElem?_eq_getElem h1, List.getElem?_eq_getElem h2] at this
  exact this
theorem trimN_zero (z : Z) : ∀ n j, trimN z n ≤ j → j < n → zg z j = 0
  | 0, j, _, h => absurd h (Nat.not_lt_zero _)
  | n + 1, j, h1, h2 => by
    unfold trimN at h1
    split at h1
    · rename_i h0
      by_cases hj : j = n
      · subst hj; exact h0
      · exact trimN_zero z n j h1 (by omega)
    · omega
theorem zg_trim (z : Z) (j : Nat) : zg (zTrim z) j = zg z j := by
  unfold zTrim
  rw [zg_take]
  split
  · rfl
  · rename_i h
    by_cases hj : j < z.length
    · exact (trimN_zero z _ j (by omega) hj).symm
    · exact (zg_out (by omega)).symm
theorem zg_add (a b : Z) (j : Nat) : zg (zAdd a b) j = zg a j + zg b j := by
  unfold zAdd
  rw [zg_trim]
  unfold zRaw
  rw [zg_range]
  split
  · rfl
  · rw [zg_out (z := a) (by omega), zg_out (z := b) (by omega)]; rfl
theorem zg_neg (z : Z) (j : Nat) : zg (zNeg z) j = - zg z j := zg_map z (fun x => -x) rfl j
theorem zg_sub (a b : Z) (j : Nat) : zg (zSub a b) j = zg a j - zg b j := by unfold zSub; rw [zg_add, zg_neg]; omega
theorem zg_scl (z : Z) (k : Int) (j : Nat) : zg (zScl z k) j = zg z j * k := by
  unfold zScl
  split
  · rename_i h; rw [h, Int.mul_zero]; rfl
  · exact zg_map z (fun x => x * k) (Int.zero_mul _) j
theorem zg_slope (z : Z) (j : Nat) : zg (zSlope z) j = (j : Int) * zg z j := by
  unfold zSlope
  rw [zg_range]
  split
  · rfl
  · rw [zg_out (z := z) (by omega), Int.mul_zero]
theorem long_len (z : Z) (n : Nat) : (zLong z n).length = n := by unfold zLong; rw [List.length_append, List.length_take, List.length_replicate]; omega
theorem zg_app (a b : Z) (j : Nat) : zg (a ++ b) j = if j < a.length then zg a j else zg b (j - a.length) := by
  unfold zg; rw [List.getElem?_append]; split <;> rfl
theorem zg_rep (n j : Nat) : zg (List.replicate n 0) j = 0 := by
  unfold zg; rw [List.getElem?_replicate]; split <;> rfl
theorem zg_long {z : Z} {n j : Nat} (h : j < n) : zg (zLong z n) j = zg z j := by
  unfold zLong
  rw [zg_app, zg_take, zg_rep, List.length_take]
  by_cases h1 : j < min n z.length
  · rw [if_pos h1, if_pos h]
  · rw [if_neg h1, zg_out (by omega)]

/-! ## the product -/
/-- sum of a(i) b(j - i), i below m -/
noncomputable def cv (a b : Nat → Int) (j : Nat) : Nat → Int
  | 0 => 0
  | m + 1 => cv a b j m + a m * b (j - m)
theorem cv_ext {a b a' b' : Nat → Int} {j : Nat} : ∀ m, (∀ i, i < m → a i * b (j - i) = a' i * b' (j - i)) → cv a b j m = cv a' b' j m
  | 0, _ => rfl
  | m + 1, h => by rw [cv, cv, cv_ext m fun i hi => h i (by omega), h m (Nat.lt_succ_self m)]
theorem zg_in (i : Nat) (x : Int) (m : Nat) : ∀ (l : Z) (j : Nat) (acc : Z), i + j + l.length ≤ acc.length → zg (zIn i x j l acc) m = zg acc m + (if i + j ≤ m then x * zg l (m - i - j) else 0)
  | [], j, acc, _ => by simp [zIn, zg_nil]
  | y :: l, j, acc, h => by
    have h : i + j + (l.length + 1) ≤ acc.length := h
    rw [zIn, zg_in i x m l (j + 1) _ (by rw [List.length_set]; omega), zg_set _ _ _ _ (by omega)]
    by_cases h1 : i + j = m
    · rw [if_pos h1, if_neg (by omega), if_pos (by omega)]
      subst h1
      rw [show i + j - i - j = 0 by omega]
      show zg acc (i + j) + x * y + 0 = zg acc (i + j) + x * y
      omega
    · rw [if_neg h1]
      by_cases h2 : i + (j + 1) ≤ m
      · rw [if_pos h2, if_pos (by omega)]
        obtain ⟨d, hd⟩ : ∃ d, m - i - j = d + 1 := ⟨m - i - j - 1, by omega⟩
        rw [hd, show m - i - (j + 1) = d by omega]; rfl
      · rw [if_neg h2, if_neg (by omega)]
/-- sum over the rest of a row -/
noncomputable def sf (y : Z) (m : Nat) : Nat → Z → Int
  | _, [] => 0
  | i, x :: l => (if i ≤ m then x * zg y (m - i) else 0) + sf y m (i + 1) l
theorem zout_len (y : Z) : ∀ (l : Z) (i : Nat) (acc : Z), (zOut y i l acc).length = acc.length
  | [], _, _ => rfl
  | x :: l, i, acc => by rw [zOut, zout_len y l]; split; rfl; rw [zIn_len]
theorem zg_outer (y : Z) (m : Nat) : ∀ (l : Z) (i : Nat) (acc : Z), i + l.length + y.length ≤ acc.length + 1 → zg (zOut y i l acc) m = zg acc m + sf y m i l
  | [], i, acc, _ => by simp [zOut, sf]
  | x :: l, i, acc, h => by
    have h : i + (l.length + 1) + y.length ≤ acc.length + 1 := h
    rw [zOut, zg_outer y m l (i + 1) _ (by split; omega; rw [zIn_len]; omega), sf]
    split
    · rename_i h0; rw [h0, Int.zero_mul]; split <;> omega
    · rw [zg_in _ _ _ _ _ _ (by omega)]
      simp only [Nat.add_zero, Nat.sub_zero]; omega
theorem sf_cv (y a : Z) (m : Nat) : ∀ (l : Z) (i : Nat), (∀ j, zg l j = zg a (i + j)) → i ≤ m + 1 → sf y m i l + cv (zg a) (zg y) m i = cv (zg a) (zg y) m (m + 1)
  | [], i, h, hi => by
    rw [sf, Int.zero_add]
    have : ∀ d, i + d ≤ m + 1 → cv (zg a) (zg y) m (i + d) = cv (zg a) (zg y) m i := fun d => by
      induction d with
      | zero => exact fun _ => rfl
      | succ d ih =>
        intro hd
        show cv (zg a) (zg y) m (i + d) + zg a (i + d) * zg y (m - (i + d)) = _
        rw [ih (by omega), ← h d, zg_nil, Int.zero_mul, Int.add_zero]
    rw [← this (m + 1 - i) (by omega)]; congr 1; omega
  | x :: l, i, h, hi => by
    have hx : x = zg a i := h 0
    rw [sf]
    by_cases h1 : i ≤ m
    · rw [if_pos h1, ← sf_cv y a m l (i + 1) (fun j => by rw [show i + 1 + j = i + (j + 1) by omega, ← h (j + 1)]; rfl) (by omega), cv, hx]; omega
    · have e : i = m + 1 := by omega
      rw [if_neg h1]
      have hz : ∀ (l : Z) (i : Nat), m < i → sf y m i l = 0 := fun l => by
        induction l with
        | nil => exact fun _ _ => rfl
        | cons x l ih => intro i hi; rw [sf, if_neg (by omega), ih (i + 1) (by omega)]; rfl
      rw [hz l (i + 1) (by omega), e]; omega
theorem zg_mul (a b : Z) (m : Nat) : zg (zMul a b) m = cv (zg a) (zg b) m (m + 1) := by
  unfold zMul
  split
  · rename_i h
    rw [zg_nil]
    have : ∀ k, cv (zg a) (zg b) m k = 0 := fun k => by
      induction k with
      | zero => rfl
      | succ k ih =>
        rw [cv, ih]
        rcases h with rfl | rfl
        · rw [zg_nil]; simp
        · rw [zg_nil]; simp
    exact (this _).symm
  · rename_i h
    have hb : 0 < b.length := List.length_pos_iff.mpr fun e => h (.inr e)
    have ha : 0 < a.length := List.length_pos_iff.mpr fun e => h (.inl e)
    rw [zg_outer _ _ _ _ _ (by rw [List.length_replicate]; omega), zg_rep]
    have := sf_cv b a m a 0 (fun j => by rw [Nat.zero_add]) (Nat.zero_le _)
    rw [show cv (zg a) (zg b) m 0 = 0 from rfl] at this
    omega
theorem mul_len (a b : Z) : (zMul a b).length ≤ a.length + b.length - 1 := by
  unfold zMul; split
  · exact Nat.zero_le _
  · rw [zout_len, List.length_replicate]; exact Nat.le_refl _

/-! ## bounds -/
def zb (B : Nat) (z : Z) : Prop := ∀ j, (zg z j).natAbs ≤ B
theorem zb_mem {B : Nat} {z : Z} (h : zb B z) {x : Int} (hx : x ∈ z) : x.natAbs ≤ B := by
  obtain ⟨j, hj⟩ := List.mem_iff_getElem?.mp hx
  have := h j; unfold zg at this; rw [hj] at this; exact this
theorem zb_small {B : Nat} {z : Z} (h : zb B z) (hB : B ≤ lim) : smZ z := fun x hx => Nat.ble_eq.mpr (Nat.le_trans (zb_mem h hx) hB)
theorem cv_bound {a b : Nat → Int} {A B : Nat} (ha : ∀ i, (a i).natAbs ≤ A) (hb : ∀ i, (b i).natAbs ≤ B) (j : Nat) : ∀ m, (cv a b j m).natAbs ≤ m * (A * B)
  | 0 => Nat.zero_le _
  | m + 1 => by
    have h1 := cv_bound ha hb j m
    have h2 : (a m * b (j - m)).natAbs ≤ A * B := by rw [Int.natAbs_mul]; exact Nat.mul_le_mul (ha _) (hb _)
    have h3 := Int.natAbs_add_le (cv a b j m) (a m * b (j - m))
    rw [cv, Nat.add_mul, Nat.one_mul]; omega
theorem zb_mul {a b : Z} {A B N : Nat} (ha : zb A a) (hb : zb B b) (hl : a.length + b.length ≤ N) : zb (N * (A * B)) (zMul a b) := fun j => by
  by_cases h : j + 1 ≤ N
  · rw [zg_mul]; exact Nat.le_trans (cv_bound ha hb j _) (Nat.mul_le_mul_right _ h)
  · rw [zg_out (by have := mul_len a b; omega)]; exact Nat.zero_le _
theorem zb_take {z : Z} {B n : Nat} (h : zb B z) : zb B (z.take n) := fun j => by rw [zg_take]; split; exact h j; exact Nat.zero_le _
theorem zb_add {a b : Z} {A B : Nat} (ha : zb A a) (hb : zb B b) : zb (A + B) (zAdd a b) := fun j => by
  rw [zg_add]; exact Nat.le_trans (Int.natAbs_add_le _ _) (Nat.add_le_add (ha j) (hb j))
theorem zb_mono {z : Z} {A B : Nat} (h : zb A z) (hAB : A ≤ B) : zb B z := fun j => Nat.le_trans (h j) hAB
theorem trim_len (z : Z) : (zTrim z).length ≤ z.length := by unfold zTrim; rw [List.length_take]; exact Nat.min_le_right _ _
theorem add_len (a b : Z) : (zAdd a b).length ≤ max a.length b.length := by
  unfold zAdd; exact Nat.le_trans (trim_len _) (by unfold zRaw; rw [List.length_map, List.length_range]; exact Nat.le_refl _)
end Mine
end

section
/-! law_series as a sum; its checks hold. -/
set_option maxRecDepth 100000
set_option linter.all false
namespace Mine
open PySem

theorem zg_step (n : Nat) (row part : Z) (j : Nat) : zg (stepZ n row part) j = if j < n then cv (zg part) (zg row) j (j + 1) else 0 := by
  unfold stepZ; rw [zg_take, zg_mul]
theorem cv_mul (c : Int) (a b : Nat → Int) (j : Nat) : ∀ m, cv (fun i => c * a i) b j m = c * cv a b j m
  | 0 => (Int.mul_zero c).symm
  | m + 1 => by rw [cv, cv, cv_mul c a b j m, Int.mul_add, Int.mul_assoc]
theorem rep_lin (n : Nat) (row : Z) (c : Int) : ∀ (k : Nat) (x y : Z), (∀ j, zg x j = c * zg y j) → ∀ j, zg (repZ n row k x) j = c * zg (repZ n row k y) j
  | 0, _, _, h => h
  | k + 1, x, y, h => rep_lin n row c k _ _ fun j => by
    rw [zg_step, zg_step]
    split
    · rw [show zg x = fun i => c * zg y i from funext h, cv_mul]
    · exact (Int.mul_zero c).symm
noncomputable def sgm (n : Nat) (z0 z1 z2 : Z) (k : List Int) : Z := serMono n z0 z1 z2 (kget k 0).toNat (kget k 1).toNat (kget k 2).toNat [1]
theorem zg_one (n : Nat) (z0 z1 z2 : Z) (e : List Int × Int) (j : Nat) : zg (serOne n z0 z1 z2 e) j = e.2 * zg (sgm n z0 z1 z2 e.1) j := by
  unfold serOne sgm serMono
  refine rep_lin n z2 e.2 _ _ _ (rep_lin n z1 e.2 _ _ _ (rep_lin n z0 e.2 _ _ _ fun j => ?_)) j
  cases j with
  | zero => show e.2 = e.2 * 1; omega
  | succ j => exact (Int.mul_zero _).symm
theorem zg_acc (n : Nat) (z0 z1 z2 : Z) (j : Nat) : ∀ (p : P) (f : Z), zg (serAcc n z0 z1 z2 p f) j = zg f j + I p (fun k => zg (sgm n z0 z1 z2 k) j)
  | [], f => (Int.add_zero _).symm
  | e :: p, f => by
    show zg (serAcc n z0 z1 z2 p (zAdd f (serOne n z0 z1 z2 e))) j = _
    rw [zg_acc n z0 z1 z2 j p, zg_add, zg_one, I_cons, Int.add_assoc]
theorem zg_ser {p : P} {n : Nat} {z0 z1 z2 : Z} {j : Nat} (h : j < n) : zg (zSer p n z0 z1 z2) j = I p (fun k => zg (sgm n z0 z1 z2 k) j) := by
  unfold zSer; rw [zg_long h, zg_acc, zg_nil, Int.zero_add]
theorem ser_len (p : P) (n : Nat) (z0 z1 z2 : Z) : (zSer p n z0 z1 z2).length = n := long_len _ _

/-! ## one size for all -/
def ag (n : Nat) (a b : Z) : Prop := ∀ j, j < n → zg a j = zg b j
theorem ag_rep {n m : Nat} (hm : n ≤ m) {row row' : Z} (hr : ag n row row') : ∀ (k : Nat) (x y : Z), ag n x y → ag n (repZ n row k x) (repZ m row' k y)
  | 0, _, _, h => h
  | k + 1, x, y, h => ag_rep hm hr k _ _ fun j hj => by
    rw [zg_step, zg_step, if_pos hj, if_pos (by omega)]
    exact cv_ext _ fun i hi => by rw [h i (by omega), hr (j - i) (by omega)]
theorem ag_row {n : Nat} (hn : 1 ≤ n) (h : n ≤ 7) (p : Nat) (t : Int) : ag n (rowZ p t n) (rowZ p t 7) := fun j hj => by
  cases j with
  | zero => rfl
  | succ j =>
    show zg ((List.range (n - 1)).map fun i => t * sg p (i + 1)) j = zg ((List.range (7 - 1)).map fun i => t * sg p (i + 1)) j
    rw [zg_range, zg_range, if_pos (by omega), if_pos (by omega)]
noncomputable def tau (k : List Int) : Z := sgm 7 (rowZ 1 (-24) 7) (rowZ 3 240 7) (rowZ 5 (-504) 7) k
noncomputable abbrev serN (p : P) (n : Nat) : Z := zSer p n (rowZ 1 (-24) n) (rowZ 3 240 n) (rowZ 5 (-504) n)
theorem zg_serN {p : P} {n j : Nat} (h : j < n) (h7 : n ≤ 7) : zg (serN p n) j = I p (fun k => zg (tau k) j) := by
  rw [zg_ser h]
  congr 1
  funext k
  exact ag_rep h7 (ag_row (by omega) h7 _ _) _ _ _ (ag_rep h7 (ag_row (by omega) h7 _ _) _ _ _ (ag_rep h7 (ag_row (by omega) h7 _ _) _ _ _ fun _ _ => rfl)) j h

/-! ## the checks -/
theorem smB_iff {z : Z} : smB z = true ↔ smZ z := List.all_eq_true
noncomputable def RB : Nat := 4194304
noncomputable def MB : Nat := 14 * RB
theorem rep_ok {n : Nat} (hn : n ≤ 7) {row : Z} (hr : zb RB row) (hl : row.length ≤ 7) : ∀ (k : Nat) (x : Z) (B : Nat), zb B x → x.length ≤ 7 → B * MB ^ k ≤ lim → okRep n row k x = true ∧ zb (B * MB ^ k) (repZ n row k x) ∧ (repZ n row k x).length ≤ 7
  | 0, x, B, h, hx, hB => by
    rw [Nat.pow_zero, Nat.mul_one] at hB ⊢
    exact ⟨by unfold okRep okZ zlen; rw [smB_iff.mpr (zb_small h hB), Nat.ble_eq.mpr (by omega)]; rfl, h, hx⟩
  | k + 1, x, B, h, hx, hB => by
    have e : B * MB ^ (k + 1) = 14 * (B * RB) * MB ^ k := by
      unfold MB; rw [Nat.pow_succ]
      rw [Nat.mul_comm ((14 * RB) ^ k), ← Nat.mul_assoc, Nat.mul_left_comm B]
    have hst : zb (14 * (B * RB)) (stepZ n row x) := zb_take (zb_mul h hr (by omega))
    have hln : (stepZ n row x).length ≤ 7 := by unfold stepZ; rw [List.length_take]; omega
    obtain ⟨r1, r2, r3⟩ := rep_ok hn hr hl k (stepZ n row x) (14 * (B * RB)) hst hln (by rw [← e]; exact hB)
    have hB0 : B ≤ lim := Nat.le_trans (Nat.le_mul_of_pos_right B (Nat.pow_pos (show 0 < MB by decide))) hB
    refine ⟨?_, by rw [e]; exact r2, r3⟩
    unfold okRep okZ zlen
    rw [smB_iff.mpr (zb_small h hB0), Nat.ble_eq.mpr (by omega), r1]; rfl
section
variable {n : Nat} {z0 z1 z2 : Z} (hn : n ≤ 7) (h0 : zb RB z0) (h1 : zb RB z1) (h2 : zb RB z2) (l0 : z0.length ≤ 7) (l1 : z1.length ≤ 7) (l2 : z2.length ≤ 7)
include hn h0 h1 h2 l0 l1 l2
theorem one_ok {e : List Int × Int} (hb : boxK e.1 = true) (hc : e.2.natAbs ≤ nlim) : okOne n z0 z1 z2 e = true ∧ (serOne n z0 z1 z2 e).length ≤ 7 := by
  obtain ⟨k, c⟩ := e
  obtain ⟨a, b, d, ha, hb, hd, q⟩ := boxK_ok hb
  obtain rfl : k = [(a : Int), (b : Int), (d : Int)] := q
  have hlim : ∀ s, s ≤ 19 → nlim * MB ^ s ≤ lim := fun s hs => Nat.le_trans (Nat.mul_le_mul_left _ (Nat.pow_le_pow_right (by decide) hs)) (by decide +kernel)
  have hz : zb nlim [c] := fun j => by
    cases j with
    | zero => exact hc
    | succ j => exact Nat.zero_le _
  obtain ⟨a1, a2, a3⟩ := rep_ok hn h0 l0 a [c] nlim hz (show 1 ≤ 7 by decide) (hlim _ (by omega))
  have e1 : nlim * MB ^ a * MB ^ b = nlim * MB ^ (a + b) := by rw [Nat.pow_add, Nat.mul_assoc]
  obtain ⟨b1, b2, b3⟩ := rep_ok hn h1 l1 b _ _ a2 a3 (by rw [e1]; exact hlim _ (by omega))
  rw [e1] at b2
  have e2 : nlim * MB ^ (a + b) * MB ^ d = nlim * MB ^ (a + b + d) := by rw [Nat.pow_add _ (a + b), Nat.mul_assoc]
  obtain ⟨d1, d2, d3⟩ := rep_ok hn h2 l2 d _ _ b2 b3 (by rw [e2]; exact hlim _ (by omega))
  refine ⟨?_, d3⟩
  show ((okRep n z0 a [c] && (okRep n z1 b (repZ n z0 a [c]) && okRep n z2 d (repZ n z1 b (repZ n z0 a [c])))) && Nat.ble (repZ n z2 d (repZ n z1 b (repZ n z0 a [c]))).length 60) = true
  rw [a1, b1, d1, Nat.ble_eq.mpr (Nat.le_trans d3 (by decide))]; rfl
theorem acc_ok : ∀ (p : P) (f : Z), (∀ e ∈ p, boxK e.1 = true ∧ e.2.natAbs ≤ nlim) → f.length ≤ 7 → okSer n z0 z1 z2 p f = true
  | [], f, _, hf => Nat.ble_eq.mpr (Nat.le_trans hf (by decide))
  | e :: p, f, h, hf => by
    obtain ⟨q1, q2⟩ := h e (List.mem_cons_self ..)
    obtain ⟨r1, r2⟩ := one_ok hn h0 h1 h2 l0 l1 l2 q1 q2
    have := acc_ok p (zAdd f (serOne n z0 z1 z2 e)) (fun x hx => h x (List.mem_cons_of_mem _ hx)) (Nat.le_trans (add_len _ _) (by omega))
    unfold okSer zlen
    rw [r1, this, Nat.ble_eq.mpr (Nat.le_trans hf (by decide))]; rfl
end
noncomputable def rowB (z : Z) : Bool := z.all (fun x => Nat.ble x.natAbs RB) && Nat.ble z.length 7
theorem rowB_ok {z : Z} (h : rowB z = true) : zb RB z ∧ z.length ≤ 7 ∧ okZ z = true := by
  unfold rowB at h
  rw [Bool.and_eq_true] at h
  have hz : zb RB z := fun j => by
    unfold zg
    cases hj : z[j]? with
    | none => exact Nat.zero_le _
    | some x => exact Nat.ble_eq.mp (List.all_eq_true.mp h.1 x (List.mem_of_getElem? hj))
  have hl := Nat.ble_eq.mp h.2
  exact ⟨hz, hl, by unfold okZ zlen; rw [smB_iff.mpr (zb_small hz (by decide +kernel)), Nat.ble_eq.mpr (by omega)]; rfl⟩
theorem rows_ok : [5, 6, 7].all (fun n => rowB (rowZ 1 (-24) n) && (rowB (rowZ 3 240 n) && rowB (rowZ 5 (-504) n))) = true := by decide +kernel
theorem ser_ok {p : P} {n : Nat} (hp : OkP p) (hn : n ∈ [5, 6, 7]) : okRows (rowZ 1 (-24) n) (rowZ 3 240 n) (rowZ 5 (-504) n) = true ∧ okSer n (rowZ 1 (-24) n) (rowZ 3 240 n) (rowZ 5 (-504) n) p [] = true := by
  have h := List.all_eq_true.mp rows_ok n hn
  simp only [Bool.and_eq_true] at h
  obtain ⟨a0, b0, c0⟩ := rowB_ok h.1
  obtain ⟨a1, b1, c1⟩ := rowB_ok h.2.1
  obtain ⟨a2, b2, c2⟩ := rowB_ok h.2.2
  have h7 : n ≤ 7 := by simp at hn; omega
  exact ⟨by unfold okRows; rw [c0, c1, c2]; rfl, acc_ok h7 a0 a1 a2 b0 b1 b2 p [] (fun e he => ⟨List.all_eq_true.mp hp.bx e he, Nat.le_trans (nrm_mem he) hp.nr⟩) (by decide)⟩
end Mine
end

section
/-! The kernel's part: single monomials. -/
set_option maxRecDepth 100000
set_option linter.all false
namespace Mine
open PySem

noncomputable def wt (k : List Int) : Int := 4 * kget k 1 + 6 * kget k 2
noncomputable def K9 : List (List Int) := [[0, 1, 0], [0, 0, 1], [0, 2, 0], [0, 1, 1], [0, 0, 2], [0, 3, 0], [0, 2, 1], [0, 1, 2], [0, 4, 0]]
noncomputable def up (k : List Int) : List Int := kadd [1, 0, 0] k
noncomputable def mo (k : List Int) : P := [(k, 1)]
noncomputable def cross (f g : P) : P := pSub (pMul (pDer f 1) (pDer g 2)) (pMul (pDer f 2) (pDer g 1))
noncomputable def apart : P := pSub (pMul (letterP 1) (pMul (letterP 1) (letterP 1))) (pMul (letterP 2) (letterP 2))
noncomputable def steps7 : Z := [0, 1, -24, 252, -1472, 4830, -6048]
noncomputable def chk1 (k : List Int) : Bool := intsEq ((zSlope (serN (mo k) 7)).map fun x => 12 * x) (serN (pTw (mo k)) 7)
noncomputable def lhs2 (u v : Int) (f g : P) : P := pSub (pScl (pMul f (pTw g)) u) (pScl (pMul g (pTw f)) v)
noncomputable def rhs2 (f g : P) : P := pScl (pMul apart (cross f g)) (-24)
noncomputable def chk2 (k l : List Int) : Bool := (pSub (lhs2 (wt k) (wt l) (mo k) (mo l)) (rhs2 (mo k) (mo l))).isEmpty
theorem c1 : K9.all (fun k => chk1 k && chk1 (up k)) = true := by
  unfold K9
  iterate 9 (rw [List.all_cons]; refine and_i (and_i (by decide +kernel) (by decide +kernel)) ?_)
  rfl
theorem c2 : K9.all (fun k => K9.all fun l => chk2 k l) = true := by decide +kernel
theorem c3 : intsEq (serN apart 7) (steps7.map fun x => 1728 * x) = true := by decide +kernel
noncomputable def chk4 (k l : List Int) : Bool := intsEq (zLong (zSub ((zScl (zMul (serN (mo k) 7) (zSlope (serN (mo l) 7))) (wt k)).take 7) ((zScl (zMul (serN (mo l) 7) (zSlope (serN (mo k) 7))) (wt l)).take 7)) 7) ((zScl (zMul steps7 (serN (cross (mo k) (mo l)) 7)) (-3456)).take 7)
theorem c4 : K9.all (fun k => K9.all (chk4 k)) = true := by
  conv => lhs; arg 1; unfold K9
  iterate 9 (rw [List.all_cons]; refine and_i (by decide +kernel) ?_)
  rfl
end Mine
end

section
/-! The plain law: everything is linear in the polynomials; single monomials decide. -/
set_option maxRecDepth 100000
set_option linter.all false
namespace Mine
open PySem

noncomputable def twp (φ : List Int → Int) (k : List Int) : Int :=
  dphi 0 (fun k => I cPPQ fun l => φ (kadd k l)) k + 4 * dphi 1 (fun k => I cPQR fun l => φ (kadd k l)) k + 6 * dphi 2 (fun k => I cPRQ fun l => φ (kadd k l)) k
theorem I_tw (f : P) (φ : List Int → Int) : I (pTw f) φ = I f (twp φ) := by
  unfold pTw pTw0 pTw1 pTw2 pTw1' pTw2' twp
  rw [I_add, I_add, I_scl, I_scl, I_mul, I_mul, I_mul, I_der, I_der, I_der, I_fadd, I_fadd, I_fmul, I_fmul]; rfl
theorem dphi_I (i : Nat) (g : P) (G : List Int → List Int → Int) (k : List Int) : dphi i (fun k => I g (G k)) k = I g (fun l => dphi i (fun k => G k l) k) := by
  unfold dphi
  split
  · rw [I_fmul]
  · exact (I_zero g).symm
noncomputable def crp (ψ : List Int → Int) (k l : List Int) : Int := dphi 1 (fun k => dphi 2 (fun l => ψ (kadd k l)) l) k - dphi 2 (fun k => dphi 1 (fun l => ψ (kadd k l)) l) k
theorem I_fsub (p : P) (φ ψ : List Int → Int) : I p (fun k => φ k - ψ k) = I p φ - I p ψ := by
  have := I_fadd p φ (fun k => -1 * ψ k)
  rw [I_fmul] at this
  have e : (fun k => φ k + -1 * ψ k) = fun k => φ k - ψ k := funext fun k => by omega
  rw [e] at this; omega
theorem I_cross (f g : P) (ψ : List Int → Int) : I (cross f g) ψ = I f (fun k => I g (crp ψ k)) := by
  unfold cross
  rw [I_sub, I_mul, I_mul, I_der, I_der, ← I_fsub]
  congr 1
  funext k
  have e1 : (fun k => I (pDer g 2) fun l => ψ (kadd k l)) = fun k => I g (dphi 2 fun l => ψ (kadd k l)) := funext fun k => I_der _ _ _
  have e2 : (fun k => I (pDer g 1) fun l => ψ (kadd k l)) = fun k => I g (dphi 1 fun l => ψ (kadd k l)) := funext fun k => I_der _ _ _
  rw [e1, e2, dphi_I, dphi_I, ← I_fsub]; rfl

/-! ## the second check -/
noncomputable def l2 (u v : Int) (φ : List Int → Int) (k l : List Int) : Int := u * twp (fun x => φ (kadd k x)) l - v * twp (fun x => φ (kadd l x)) k
theorem I_lhs2 (u v : Int) (f g : P) (φ : List Int → Int) : I (lhs2 u v f g) φ = I f (fun k => I g (l2 u v φ k)) := by
  unfold lhs2
  rw [I_sub, I_scl, I_scl, I_mul, I_mul]
  have e1 : (fun k => I (pTw g) fun l => φ (kadd k l)) = fun k => I g (twp fun x => φ (kadd k x)) := funext fun k => I_tw _ _
  have e2 : (fun k => I (pTw f) fun l => φ (kadd k l)) = fun l => I f (twp fun x => φ (kadd l x)) := funext fun k => I_tw _ _
  rw [e1, e2, I_swap g f, ← I_fmul, ← I_fmul, ← I_fsub]
  congr 1
  funext k
  rw [← I_fmul, ← I_fmul, ← I_fsub]; rfl
noncomputable def r2 (φ : List Int → Int) (k l : List Int) : Int := -24 * crp (fun y => I Mine.apart fun x => φ (kadd x y)) k l
theorem I_rhs2 (f g : P) (φ : List Int → Int) : I (rhs2 f g) φ = I f (fun k => I g (r2 φ k)) := by
  unfold rhs2
  rw [I_scl, I_mul, I_swap, I_cross, ← I_fmul]
  congr 1
  funext k
  rw [← I_fmul]; rfl
theorem I_mo2 (k l : List Int) (Φ : List Int → List Int → Int) : I (mo k) (fun k => I (mo l) (Φ k)) = Φ k l := by
  unfold mo; rw [I_one, I_one]
structure Fm (w : Int) (f : P) : Prop where
  bd : Bd f 5 2 0 4 2
  mem : ∀ e ∈ f, e.1 ∈ K9 ∧ wt e.1 = w
theorem I_congr2 {f g : P} {w v : Int} (hf : Fm w f) (hg : Fm v g) {Φ Ψ : List Int → List Int → Int} (h : ∀ k l, k ∈ K9 → l ∈ K9 → wt k = w → wt l = v → Φ k l = Ψ k l) : I f (fun k => I g (Φ k)) = I f (fun k => I g (Ψ k)) :=
  I_congr fun e he => I_congr fun e' he' => h e.1 e'.1 (hf.mem e he).1 (hg.mem e' he').1 (hf.mem e he).2 (hg.mem e' he').2
theorem law2 {f g : P} {w v : Int} (hf : Fm w f) (hg : Fm v g) (φ : List Int → Int) : I (lhs2 w v f g) φ = I (rhs2 f g) φ := by
  rw [I_lhs2, I_rhs2]
  refine I_congr2 hf hg fun k l hk hl e1 e2 => ?_
  have h := List.all_eq_true.mp (List.all_eq_true.mp c2 k hk) l hl
  have h := List.isEmpty_iff.mp h
  have h2 := I_sub (lhs2 (wt k) (wt l) (mo k) (mo l)) (rhs2 (mo k) (mo l)) φ
  rw [h, I_lhs2, I_rhs2, I_mo2, I_mo2, e1, e2] at h2
  have h3 : I [] φ = 0 := rfl
  omega

/-! ## the first check -/
noncomputable def tj (j : Nat) (k : List Int) : Int := zg (tau k) j
theorem zg_serT {p : P} {n j : Nat} (h : j < n) (h7 : n ≤ 7) : zg (serN p n) j = I p (tj j) := zg_serN h h7
theorem map_zg (z : Z) (c : Int) (j : Nat) : zg (z.map fun x => c * x) j = c * zg z j := zg_map z (fun x => c * x) (Int.mul_zero c) j
theorem slope_len (z : Z) : (zSlope z).length = z.length := by unfold zSlope; rw [List.length_map, List.length_range]
theorem law1 {h : P} {n : Nat} (h7 : n ≤ 7) (hm : ∀ e ∈ h, e.1 ∈ K9 ∨ ∃ k ∈ K9, e.1 = up k) : (zSlope (serN h n)).map (fun x => 12 * x) = serN (pTw h) n := by
  refine zg_ext (n := n) (by rw [List.length_map, slope_len, ser_len]) (ser_len ..) fun j hj => ?_
  rw [map_zg, zg_slope, zg_serT hj h7, zg_serT hj h7, I_tw, ← I_fmul, ← I_fmul]
  refine I_congr fun e he => ?_
  have : chk1 e.1 = true := by
    rcases hm e he with hk | ⟨k, hk, e1⟩
    · exact (Bool.and_eq_true_iff.mp (List.all_eq_true.mp c1 _ hk)).1
    · rw [e1]; exact (Bool.and_eq_true_iff.mp (List.all_eq_true.mp c1 _ hk)).2
  have h2 := congrArg (fun z => zg z j) (intsEq_eq this)
  rw [map_zg, zg_slope, zg_serT (by omega) (Nat.le_refl _), zg_serT (by omega) (Nat.le_refl _), I_tw] at h2
  unfold mo at h2
  rw [I_one, I_one] at h2
  exact h2

/-! ## the third -/
theorem law3 {n : Nat} (h7 : n ≤ 7) : serN Mine.apart n = (steps7.take n).map fun x => 1728 * x := by
  refine zg_ext (n := n) (ser_len ..) (by rw [List.length_map, List.length_take]; show min n 7 = n; omega) fun j hj => ?_
  have h2 := congrArg (fun z => zg z j) (intsEq_eq c3)
  rw [zg_serT (by omega) (Nat.le_refl _)] at h2
  rw [zg_serT hj h7, h2, map_zg, map_zg, zg_take, if_pos hj]

/-! ## the fourth -/
theorem cv_I1 (f : P) (t : Nat → List Int → Int) (b : Nat → Int) (j : Nat) : ∀ m, cv (fun i => I f (t i)) b j m = I f (fun k => cv (fun i => t i k) b j m)
  | 0 => (I_zero f).symm
  | m + 1 => by
    rw [cv, cv_I1 f t b j m]
    show _ = I f (fun k => cv (fun i => t i k) b j m + t m k * b (j - m))
    have e : (fun k => cv (fun i => t i k) b j m + t m k * b (j - m)) = fun k => cv (fun i => t i k) b j m + b (j - m) * t m k := funext fun k => by rw [Int.mul_comm]
    rw [e, I_fadd, I_fmul, Int.mul_comm]
theorem cv_I2 (g : P) (t : Nat → List Int → Int) (a : Nat → Int) (j : Nat) : ∀ m, cv a (fun i => I g (t i)) j m = I g (fun l => cv a (fun i => t i l) j m)
  | 0 => (I_zero g).symm
  | m + 1 => by
    rw [cv, cv_I2 g t a j m]
    show _ = I g (fun l => cv a (fun i => t i l) j m + a m * t (j - m) l)
    rw [I_fadd, I_fmul]
noncomputable def sl (i : Nat) (k : List Int) : Int := (i : Int) * tj i k
noncomputable def l4 (u v : Int) (j : Nat) (k l : List Int) : Int := cv (fun i => tj i k) (fun i => sl i l) j (j + 1) * u - cv (fun i => tj i l) (fun i => sl i k) j (j + 1) * v
noncomputable def r4 (j : Nat) (k l : List Int) : Int := crp (fun x => cv (zg steps7) (fun i => tj i x) j (j + 1)) k l * -3456
theorem mul_len_eq {a b : Z} (ha : a ≠ []) (hb : b ≠ []) : (zMul a b).length = a.length + b.length - 1 := by
  unfold zMul; rw [if_neg (fun h => h.elim ha hb), zout_len, List.length_replicate]
theorem cv_lt {a b a' b' : Nat → Int} {n j : Nat} (hj : j < n) (ha : ∀ i, i < n → a i = a' i) (hb : ∀ i, i < n → b i = b' i) : cv a b j (j + 1) = cv a' b' j (j + 1) :=
  cv_ext _ fun i hi => by rw [ha i (by omega), hb (j - i) (by omega)]
section
variable {f g : P} {u v : Int} {n j : Nat} (h7 : n ≤ 7) (hj : j < n)
include h7 hj
theorem side4 : zg (zScl (zMul (serN f n) (zSlope (serN g n))) u) j = I f (fun k => I g (fun l => u * cv (fun i => tj i k) (fun i => sl i l) j (j + 1))) := by
  rw [zg_scl, zg_mul, cv_lt (a' := fun i => I f (tj i)) (b' := fun i => I g (sl i)) hj (fun i hi => zg_serT hi h7) (fun i hi => by
    rw [zg_slope, zg_serT hi h7, ← I_fmul]; rfl), cv_I1, Int.mul_comm, ← I_fmul]
  congr 1; funext k
  rw [cv_I2, ← I_fmul]
theorem lhs4 : zg (zLong (zSub ((zScl (zMul (serN f n) (zSlope (serN g n))) u).take n) ((zScl (zMul (serN g n) (zSlope (serN f n))) v).take n)) n) j = I f (fun k => I g (l4 u v j k)) := by
  rw [zg_long hj, zg_sub, zg_take, zg_take, if_pos hj, if_pos hj, side4 h7 hj, side4 h7 hj, I_swap g f, ← I_fsub]
  congr 1; funext k
  rw [← I_fsub]
  congr 1; funext l
  unfold l4; rw [Int.mul_comm u, Int.mul_comm v]
theorem rhs4 : zg ((zScl (zMul (steps7.take n) (serN (cross f g) n)) (-3456)).take n) j = I f (fun k => I g (r4 j k)) := by
  rw [zg_take, if_pos hj, zg_scl, zg_mul, cv_lt (a' := zg steps7) (b' := fun i => I (cross f g) (tj i)) hj (fun i hi => by rw [zg_take, if_pos hi]) (fun i hi => zg_serT hi h7), cv_I2, I_cross, Int.mul_comm, ← I_fmul]
  congr 1; funext k
  rw [← I_fmul]
  congr 1; funext l
  unfold r4; rw [Int.mul_comm]
end
theorem law4 {f g : P} {w v : Int} {n : Nat} (hf : Fm w f) (hg : Fm v g) (h1 : 1 ≤ n) (h7 : n ≤ 7) :
    zLong (zSub ((zScl (zMul (serN f n) (zSlope (serN g n))) w).take n) ((zScl (zMul (serN g n) (zSlope (serN f n))) v).take n)) n = (zScl (zMul (steps7.take n) (serN (cross f g) n)) (-3456)).take n := by
  have hne : ∀ {z : Z} {m : Nat}, z.length = m → 1 ≤ m → z ≠ [] := fun h h' e => by rw [e] at h; simp at h; omega
  have hs : (steps7.take n).length = n := by rw [List.length_take]; show min n 7 = n; omega
  refine zg_ext (n := n) (long_len ..) ?_ fun j hj => ?_
  · rw [List.length_take]
    unfold zScl
    rw [if_neg (by decide), List.length_map, mul_len_eq (hne hs h1) (hne (ser_len ..) h1), hs, ser_len]; omega
  · rw [lhs4 h7 hj, rhs4 h7 hj]
    refine I_congr2 hf hg fun k l hk hl e1 e2 => ?_
    have h := intsEq_eq (List.all_eq_true.mp (List.all_eq_true.mp c4 k hk) l hl)
    have h := congrArg (fun z => zg z j) h
    have e7 : steps7 = steps7.take 7 := rfl
    rw [lhs4 (n := 7) (Nat.le_refl _) (by omega)] at h
    rw [e7, rhs4 (n := 7) (Nat.le_refl _) (by omega), I_mo2, I_mo2, e1, e2] at h
    exact h
end Mine
end

section
/-! Bounds of the series. -/
set_option maxRecDepth 100000
set_option linter.all false
namespace Mine
open PySem

theorem I_bound {p : P} {φ : List Int → Int} {M : Nat} (h : ∀ e ∈ p, (φ e.1).natAbs ≤ M) : (I p φ).natAbs ≤ nrm p * M := by
  induction p with
  | nil => exact Nat.zero_le _
  | cons e r ih =>
    have h1 := ih fun x hx => h x (List.mem_cons_of_mem _ hx)
    have h2 : (e.2 * φ e.1).natAbs ≤ e.2.natAbs * M := by rw [Int.natAbs_mul]; exact Nat.mul_le_mul_left _ (h e (List.mem_cons_self ..))
    have h3 := Int.natAbs_add_le (e.2 * φ e.1) (I r φ)
    rw [I_cons, nrm_cons, Nat.add_mul]; omega
theorem tau_bound {k : List Int} {A B C : Nat} (h : bxK A B C k) (hs : A + B + C ≤ 19) (j : Nat) : (tj j k).natAbs ≤ MB ^ (A + B + C) := by
  obtain ⟨a, b, c, rfl, ha, hb, hc⟩ := h
  have hr := List.all_eq_true.mp rows_ok 7 (by decide)
  simp only [Bool.and_eq_true] at hr
  obtain ⟨a0, b0, _⟩ := rowB_ok hr.1
  obtain ⟨a1, b1, _⟩ := rowB_ok hr.2.1
  obtain ⟨a2, b2, _⟩ := rowB_ok hr.2.2
  have hlim : ∀ s, s ≤ 19 → 1 * MB ^ s ≤ lim := fun s hs => by rw [Nat.one_mul]; exact Nat.le_trans (Nat.pow_le_pow_right (by decide) hs) (by decide +kernel)
  have hz : zb 1 [1] := fun j => by
    cases j with
    | zero => exact Nat.le_refl _
    | succ j => exact Nat.zero_le _
  obtain ⟨_, x2, x3⟩ := rep_ok (Nat.le_refl 7) a0 b0 a.toNat [1] 1 hz (show 1 ≤ 7 by decide) (hlim _ (by omega))
  have e1 : 1 * MB ^ a.toNat * MB ^ b.toNat = 1 * MB ^ (a.toNat + b.toNat) := by rw [Nat.pow_add, Nat.mul_assoc]
  obtain ⟨_, y2, y3⟩ := rep_ok (Nat.le_refl 7) a1 b1 b.toNat _ _ x2 x3 (by rw [e1]; exact hlim _ (by omega))
  rw [e1] at y2
  have e2 : 1 * MB ^ (a.toNat + b.toNat) * MB ^ c.toNat = MB ^ (a.toNat + b.toNat + c.toNat) := by rw [Nat.pow_add _ (a.toNat + b.toNat), Nat.one_mul]
  obtain ⟨_, w2, _⟩ := rep_ok (Nat.le_refl 7) a2 b2 c.toNat _ _ y2 y3 (by rw [e2, ← Nat.one_mul (MB ^ _)]; exact hlim _ (by omega))
  rw [e2] at w2
  exact Nat.le_trans (w2 j) (Nat.pow_le_pow_right (by decide) (by omega))
theorem ser_bound {p : P} {N L A B C n : Nat} (h : Bd p N L A B C) (h7 : n ≤ 7) (hs : A + B + C ≤ 19 := by decide) : zb (N * MB ^ (A + B + C)) (serN p n) := fun j => by
  by_cases hj : j < n
  · rw [zg_serT hj h7]
    exact Nat.le_trans (I_bound fun e he => tau_bound (h.inv.2 e he).2 hs j) (Nat.mul_le_mul_right _ h.nr)
  · rw [zg_out (by rw [ser_len]; omega)]; exact Nat.zero_le _
theorem slope_bound {z : Z} {B : Nat} (h : zb B z) (hl : z.length ≤ 7) : zb (7 * B) (zSlope z) := fun j => by
  by_cases hj : j < z.length
  · rw [zg_slope, Int.natAbs_mul, Int.natAbs_natCast]; exact Nat.mul_le_mul (by omega) (h j)
  · rw [zg_out (by rw [slope_len]; omega)]; exact Nat.zero_le _
theorem scl_small {B k : Nat} {z : Z} {c : Int} (h : zb B z) (hc : c.natAbs ≤ k) (hB : B * k ≤ lim) : smZ (zScl z c) := zb_small (B := B * k) (fun j => by rw [zg_scl, Int.natAbs_mul]; exact Nat.mul_le_mul (h j) hc) hB
theorem steps_bound (n : Nat) : zb 6048 (steps7.take n) := zb_take fun j => by
  match j with
  | 0 => decide
  | 1 => decide
  | 2 => decide
  | 3 => decide
  | 4 => decide
  | 5 => decide
  | 6 => decide
  | j + 7 => exact Nat.zero_le _
end Mine
end

section
/-! The law: its mode; the hits of the summaries; the draw. -/
set_option maxRecDepth 100000
set_option linter.all false
namespace Mine
open PySem

/-- the pool lies at label 3, its numbers at label 2 -/
noncomputable def Pl (xs : Z) : Dm := ⟨Nat, some 3, fun s H => Hp.get H 3 = some (.lst [.ref 2, .int s]) ∧ Hp.get H 2 = some (.lst (toL xs)), fun h b => ⟨(b.2 3 (Hp.get_lt h.1) fun e => by cases e).trans h.1, (b.2 2 (Hp.get_lt h.2) fun e => by cases e).trans h.2⟩, fun h e => (by cases e; exact Hp.get_lt h.1), 4, fun h => Hp.get_lt h.1⟩

section
variable {n f : Nat} {b1 : Bool}
theorem tab_hit {α : Type} {g : α → List V} {T : List (Nat × α)} {w : Nat} {l : α} (h : alook T w = some l) (H : Hp) : tab g T [.int w] H = some (some (.ref H.length, H ++ [.lst (g l)])) := by
  show bi (decide ((0 : Int) ≤ w)) (bo (alook T (w : Int).toNat) fun l => some (some (V.ref H.length, H ++ [C.lst (g l)]))) = _
  rw [decide_eq_true (Int.natCast_nonneg w), Int.toNat_natCast, h]; rfl
theorem J1.new {S : Sum} {v : V} {c : C} (h : ∀ κ H, S f κ [v] H = some (some (.ref H.length, H ++ [c]))) : J1 S (n + 1) f (.c v) (.d true c) := fun κ H x lo o G q => by
  cases o
  refine q (.ref H.length) (H ++ [c]) ?_ Le.app ⟨_, rfl, ⟨(fun e => by cases e), Hp.get_length⟩, fun _ => Nat.le_refl _⟩
  show (match S f κ [v] H with | some res => res | none => _) = _
  rw [h]
theorem lots_J {w : Nat} {l : List (Int × Int)} (h : alook lotsT w = some l) : J1 SF (n + 1) 34 (.i w) (.d true (.lst (prsV l))) := J1.new fun κ H => tab_hit h H
theorem steps_J {w : Nat} {z : Z} (h : alook stepT w = some z) : J1 SF (n + 1) 41 (.i w) (.z true z) := J1.new fun κ H => tab_hit h H
theorem sums_J {p m : Nat} (h : ok36 p m = true) : J2 SF (n + 1) 36 (.i p) (.i m) (.i (sg p m)) := J2.hit fun κ H => by
  show bi ((decide ((0 : Int) ≤ p) && decide ((0 : Int) ≤ m)) && ok36 (p : Int).toNat (m : Int).toNat) (some (some (V.int (sg (p : Int).toNat (m : Int).toNat), H))) = _
  rw [Int.toNat_natCast, Int.toNat_natCast, h, decide_eq_true (Int.natCast_nonneg p), decide_eq_true (Int.natCast_nonneg m)]; rfl
theorem serF_J {p : P} {z0 z1 z2 : Z} {m : Nat} (hm : m ≤ 60) (hR : okRows z0 z1 z2 = true) (hp : okP p = true) (ho : okSer m z0 z1 z2 p [] = true) : J3 SF (n + 1) 39 (.p b1 p) (.r z0 z1 z2) (.i m) (.z true (zSer p m z0 z1 z2)) := fun κ H v v' v'' lo o o' o'' G q => by
  obtain ⟨a, rfl, ha, _⟩ := o
  obtain ⟨R, r0, r1, r2, rfl, c, c0, c1, c2⟩ := o'
  cases o''
  refine q (.ref H.length) (H ++ [.lst (toL (zSer p m z0 z1 z2))]) ?_ Le.app ⟨_, rfl, ⟨(fun e => by cases e), Hp.get_length⟩, fun _ => Nat.le_refl _⟩
  have h : SF 39 κ [.ref a, .ref R, .int m] H = some (some (.ref H.length, H ++ [.lst (toL (zSer p m z0 z1 z2))])) :=
    (bo_eq (polyAt_of ha.2)).trans ((bo_eq (rowsAt_of c.2 c0.2 c1.2 c2.2)).trans ((bi_eq (by unfold ok39; rw [Int.toNat_natCast, decide_eq_true (Int.natCast_nonneg m), Nat.ble_eq.mpr hm, hR, hp, ho]; rfl)).trans (by rw [Int.toNat_natCast])))
  show (match SF 39 κ [.ref a, .ref R, .int m] H with | some res => res | none => _) = _
  rw [h]
theorem alone_J {k m : Nat} (h : ok42 k m = true) : J3 SF (n + 1) 42 (.i k) (.r (rowZ 1 (-24) m) (rowZ 3 240 m) (rowZ 5 (-504) m)) (.i m) (.c (.boo true)) := fun κ H v v' v'' lo o o' o'' G q => by
  cases o
  obtain ⟨R, r0, r1, r2, rfl, c, c0, c1, c2⟩ := o'
  cases o''
  refine q (.boo true) H ?_ Le.refl rfl
  have h : SF 42 κ [.int k, .ref R, .int m] H = some (some (.boo true, H)) :=
    (bo_eq (rowsAt_of c.2 c0.2 c1.2 c2.2)).trans (bi_eq (by unfold isRows; rw [Int.toNat_natCast, Int.toNat_natCast, decide_eq_true (Int.natCast_nonneg k), decide_eq_true (Int.natCast_nonneg m), h, intsEq_self, intsEq_self, intsEq_self]; rfl))
  show (match SF 42 κ [.int k, .ref R, .int m] H with | some res => res | none => _) = _
  rw [h]
end
section
variable {S : Sum} {D : Dm} {n f x y : Nat} {Γ : Tc} {s s₁ s₂ s' : D.ι} {a b : Ex} {v1 v2 : V} {t : Ty} {F' : Fn}
theorem EV.con2 (h : ∀ κ ρ H, (run tbl S n).ev κ a ρ H = some (v1, H)) : EV S D n Γ s a (.c v1) s := fun κ ρ H g G q => q v1 H (h _ _ _) g Le.refl rfl
theorem EV.inlR1 (hS : ∀ κ vs H, S f κ vs H = .none) (hF : tbl f = some F') (hp : F'.params = [x]) (ha : EV S D (n + 1) Γ s a (.c v1) s₁) (hx : XR S D n [(x, .c v1)] s₁ F'.body t s') : EV S D (n + 2) Γ s (.call f [a]) t.weak s' := fun κ ρ H g G q =>
  ha κ ρ H g G fun w1 H1 e1 g1 l o1 => by
    cases o1
    refine hx κ (En.sets [] [x] [v1]) H1 ⟨g1.low, g1.fre, g1.st, Has.nil.set (t := .c v1) rfl⟩ G fun v ρ4 H4 e4 st4 l4 o4 => ?_
    exact q v H4 ((bd_eq ((bd_eq e1).trans rfl)).trans (cl_of (hS _ _ _) hF (by rw [hp]; rfl) (by rw [hp]; exact e4))) ⟨lowK_mono g1.low l4.1, g1.fre, st4, g1.has.mono l4⟩ (l.trans l4) o4.old
theorem EV.inlR2 (hS : ∀ κ vs H, S f κ vs H = .none) (hF : tbl f = some F') (hp : F'.params = [x, y]) (ha : EV S D (n + 1) Γ s a (.c v1) s₁) (hb : EV S D (n + 1) Γ s₁ b (.c v2) s₂) (hx : XR S D n [(y, .c v2), (x, .c v1)] s₂ F'.body t s') : EV S D (n + 2) Γ s (.call f [a, b]) t.weak s' := fun κ ρ H g G q =>
  ha.and2 hb g fun w1 w2 H1 H2 e1 e2 g2 l o1 o2 => by
    cases o1; cases o2
    refine hx κ (En.sets [] [x, y] [v1, v2]) H2 ⟨g2.low, g2.fre, g2.st, (Has.nil.set (t := .c v1) rfl).set (t := .c v2) rfl⟩ G fun v ρ4 H4 e4 st4 l4 o4 => ?_
    exact q v H4 ((bd_eq ((bd_eq e1).trans (bd_eq ((bd_eq e2).trans rfl)))).trans (cl_of (hS _ _ _) hF (by rw [hp]; rfl) (by rw [hp]; exact e4))) ⟨lowK_mono g2.low l4.1, g2.fre, st4, g2.has.mono l4⟩ (l.trans l4) o4.old
end

noncomputable def tab9 : Z := [0, 0, 2, 4, 0, 3, 1, 0, 4]
noncomputable def drawA (xs : Z) (s : Nat) : Int := if s < xs.length then (((xs[s]?).getD 0).natAbs : Nat) else (tab9[s % 9]?).getD 0
noncomputable def drawV (xs : Z) (s : Nat) (m : Int) : Int := (drawA xs s).fmod m
theorem drawV_range (xs : Z) (s : Nat) {m : Int} (h : 0 < m) : 0 ≤ drawV xs s m ∧ drawV xs s m < m := ⟨Int.fmod_nonneg_of_pos _ h, Int.fmod_lt_of_pos _ h⟩
section
variable {S : Sum} {n : Nat} {xs : Z} {Γ : Tc} {s s₁ s₂ : Nat} {a b e : Ex} {v w z : V}
theorem EV.binP (ha : EV S (Pl xs) n Γ s a (.c v) s₁) (hb : EV S (Pl xs) n Γ s₁ b (.c w) s₂) (h : ∀ H, (Pl xs).St s₂ H → subop v w H = some z) : EV S (Pl xs) (n + 1) Γ s (.sub a b) (.c z) s₂ :=
  EV.bin2s (fun r κ ρ H H₁ H₂ x y e1 e2 st o1 o2 => by cases o1; cases o2; exact (bd_eq e1).trans ((bd_eq e2).trans (bo_eq (h H₂ st)))) ha hb
theorem EV.lenP (ha : EV S (Pl xs) n Γ s a (.c (.ref 2)) s₁) : EV S (Pl xs) (n + 1) Γ s (.bi .len [a]) (.i xs.length) s₁ := fun κ ρ H g G q => ha κ ρ H g G fun v H1 e1 g1 l1 o1 => by
  cases o1
  exact q _ H1 (ev_bi1 (bf := .len) e1 ((lst1_of g1.st.2).trans (by rw [toL_len]))) g1 l1 rfl
theorem SN.setP (he : EV S (Pl xs) n Γ s e (.i (s + 1 : Nat)) s) (ha : EV S (Pl xs) n Γ s a (.c (.ref 3)) s) (hb : EV S (Pl xs) n Γ s b (.i 1) s) : SN S (Pl xs) n Γ s (.setI a b e) Γ (s + 1 : Nat) := fun rest κ ρ H g G q =>
  he.and2 ha g fun v1 v2 H1 H2 e1 e2 g2 l2 o1 o2 => hb κ ρ H2 g2 G fun v3 H3 e3 g3 l3 o3 => by
    cases o1; cases o2; cases o3
    have hs : setop κ (.ref 3) (.int 1) (.int (s + 1 : Nat)) H3 = some (Hp.put H3 3 (.lst [.ref 2, .int (s + 1 : Nat)])) := (bi_eq (by rw [g3.fre 3 rfl]; rfl)).trans ((bo_eq g3.st.1).trans rfl)
    refine q ρ _ (bd_eq ((bd_eq e1).trans ((bd_eq e2).trans ((bd_eq e3).trans (bo_eq hs))))) ⟨lowK_mono g3.low (by rw [Hp.put_length]; exact Nat.le_refl _), g3.fre, ⟨Hp.get_put_self (Hp.get_lt g3.st.1), (Hp.get_put_ne (by decide)).trans g3.st.2⟩, g3.has.mono Le.put⟩ ((l2.trans l3).trans Le.put)
theorem EV.draw {m : Int} (hS : ∀ κ vs H, S 33 κ vs H = .none) (h : vlook Γ 65 = some (.c (.ref 3))) (hm : m ≠ 0) : EV S (Pl xs) (n + 14) Γ s (.call 33 [.var 65, .int m]) (.i (drawV xs s m)) (s + 1 : Nat) := by
  refine EV.inlR2 (t := .i (drawV xs s m)) (x := 65) (y := 66) (F' := fn33) hS rfl rfl (EV.var h) EV.int ?_
  show XR S (Pl xs) (n + 12) _ _ [.asg 19 (.sub (.var 65) (.int 1)), .setI (.var 65) (.int 1) (.bin .add (.var 19) (.int 1)), .iff (.cmp .lt (.var 19) (.bi .len [(.sub (.var 65) (.int 0))])) [.ret (.bin .mod (.bi .abs [(.sub (.sub (.var 65) (.int 0)) (.var 19))]) (.var 66))] [], .ret (.bin .mod (.sub (.tup [(.int 0), (.int 0), (.int 2), (.int 4), (.int 0), (.int 3), (.int 1), (.int 0), (.int 4)]) (.bin .mod (.var 19) (.int 9))) (.var 66))] _ _
  have hmod : ∀ i H, binop .mod (.int i) (.int m) H = some (.int (i.fmod m), H) := fun i H => bi_eq (by rw [decide_eq_false hm]; rfl)
  have p0 : ∀ (k : Nat) (Γ : Tc) (t : Nat), vlook Γ 65 = some (.c (.ref 3)) → EV S (Pl xs) (k + 2) Γ t (.sub (.var 65) (.int 0)) (.c (.ref 2)) t := fun k Γ t h => EV.binP (EV.var h) EV.int fun H st => subop_lst st.1 rfl
  refine XR.asg (t := .i s) (EV.binP (EV.var rfl) EV.int fun H st => subop_lst st.1 rfl) (XR.seq (SN.setP (EV.bin (i := s) (j := 1) (fun _ => rfl) (EV.var rfl) EV.int) (EV.var rfl) EV.int) ?_)
  have ht : TE S (Pl xs) (n + 9) [(19, .i s), (66, .i m), (65, .c (.ref 3))] (s + 1 : Nat) (.cmp .lt (.var 19) (.bi .len [(.sub (.var 65) (.int 0))])) (decide ((s : Int) < xs.length)) (s + 1 : Nat) := TE.cc (v := .int s) (w := .int xs.length) (fun _ => rfl) (EV.var rfl) (EV.lenP (p0 _ _ _ rfl))
  unfold drawV drawA
  by_cases hs : s < xs.length
  · rw [if_pos hs]
    rw [decide_eq_true (Int.ofNat_lt.mpr hs)] at ht
    exact XR.iffR ht (XR.ret (EV.bin (hmod _) (EV.bi1 (abs_k _) (EV.binP (p0 _ _ _ rfl) (EV.var rfl) fun H st => subop_lst st.2 (nth_toL hs))) (EV.var rfl)))
  · rw [if_neg hs]
    rw [decide_eq_false (fun q => hs (Int.ofNat_lt.mp q))] at ht
    have h9 : (s : Int).fmod 9 = ((s % 9 : Nat) : Int) := fmod_nat s 9
    exact XR.seq (SN.iff ht (fun h => by cases h) fun _ => XN.nil) (XR.ret (EV.bin (hmod _) (EV.sub (EV.con2 (n := n + 6) fun _ _ _ => rfl) (EV.bin (i := s) (j := 9) (fun _ => congrArg (fun z => some (V.int z, _)) h9) (EV.var rfl) EV.int) (nth_toL (z := tab9) (show s % 9 < 9 from Nat.mod_lt _ (by decide)))) (EV.var rfl)))
end
end Mine
end

section
/-! The form: the walk of law_form. -/
set_option maxRecDepth 100000
set_option linter.all false
namespace Mine
open PySem

noncomputable abbrev fB : List Sm := [.asg 21 (.call 10 [(.var 21), (.call 8 [(.tup [(.int 0), (.sub (.var 71) (.int 0)), (.sub (.var 71) (.int 1))]), (.tup [(.sub (.var 70) (.var 3)), (.int 1)])])])]
noncomputable def pF1 (k : Int × Int) (n1 : Int) : P := pAdd [] (pTerm [0, k.1, k.2] n1)
noncomputable def pF2 (k l : Int × Int) (n1 n2 : Int) : P := pAdd (pF1 k n1) (pTerm [0, l.1, l.2] n2)
theorem small_le {i : Int} (h : i.natAbs ≤ 1000000) : small i = true := Nat.ble_eq.mpr (Nat.le_trans h (by decide +kernel))
noncomputable def fmB (w : Int) (f : P) : Bool := bdB f 5 2 0 4 2 && f.all fun e => K9.contains e.1 && decide (wt e.1 = w)
theorem fmB_ok {w : Int} {f : P} (h : fmB w f = true) : Fm w f := and_c h fun h1 h2 => ⟨bdB_ok h1, fun e he => and_c (List.all_eq_true.mp h2 e he) fun h3 h4 => ⟨List.contains_iff_mem.mp h3, of_decide_eq_true h4⟩⟩
noncomputable def termB (k : Int × Int) (m : Int) : Bool := okP (pTerm [0, k.1, k.2] m)
noncomputable def n1s : List Int := [1, 2, 3]
noncomputable def n2s : List Int := [-2, -1, 0, 1, 2]
noncomputable def chkF1 (w : Nat) (k : Int × Int) : Bool := n1s.all fun n1 => termB k n1 && fmB w (pF1 k n1)
noncomputable def chkF2 (w : Nat) (k l : Int × Int) : Bool := n1s.all fun n1 => (termB k n1 && okP (pF1 k n1)) && n2s.all fun n2 => termB l n2 && fmB w (pF2 k l n1 n2)
noncomputable def chkL (w : Nat) (l : List (Int × Int)) : Bool := match l with
  | [] => false
  | k :: r => match r with
    | [] => chkF1 w k
    | l :: r => r.isEmpty && chkF2 w k l
theorem chkF_ok : [4, 6, 8, 10, 12, 14, 16].all (fun w => (alook lotsT w).any (chkL w)) = true := by decide +kernel

section
variable {xs : Z} {n s : Nat} {f : P} {n1 n2 : Int} {w : Nat}
noncomputable abbrev gF (f : P) (w : Nat) (n1 n2 : Int) : Tc := [(21, .p false f), (70, .c (.tup [.int n1, .int n2])), (68, .i w), (65, .c (.ref 3))]
theorem EV.wp {S : Sum} {D : Dm} {Γ : Tc} {s s₁ s₂ : D.ι} {a b : Ex} {q : Bool} (ha : EV S D n Γ s a (.i w) s₁) (hb : EV S D n Γ s₁ b (.p q f) s₂) : EV S D (n + 1) Γ s (.tup [a, b]) (.w w f) s₂ := fun κ ρ H g G k =>
  ha.and2 hb g fun v v' H1 H2 e1 e2 g2 l o1 o2 => by
    cases o1
    obtain ⟨m, rfl, o, _⟩ := o2
    exact k _ H2 (bd_eq ((bd_eq e1).trans (bd_eq ((bd_eq e2).trans rfl)))) g2 l ⟨m, rfl, o⟩
theorem fB_X {b c m : Int} {i : Nat} (hf : OkP f) (ht : OkP (pTerm [0, b, c] m)) (hi : nth [.int n1, .int n2] i = some (.int m)) :
    XN SF (Pl xs) (n + 27) (bindT [3, 71] [.int i, prV (b, c)] (gF f w n1 n2)) s fB (gF (pAdd f (pTerm [0, b, c] m)) w n1 n2) s :=
  XN.sub (XN.one (SN.asg (EV.wk (EV.call2 (add_J fits_SF (n := n + 5) (b1 := false) hf ht) (EV.var rfl) (EV.call2 (term_J fits_SF (n := n + 16) (k := [0, b, c])) (EV.tup3 EV.int (EV.sub (EV.var (u := .c (prV (b, c))) rfl) EV.int rfl) (EV.sub (EV.var (u := .c (prV (b, c))) rfl) EV.int rfl)) (EV.tup2 (EV.sub (EV.var rfl) (EV.var rfl) hi) EV.int)))))) (.and rfl (.and rfl (.and rfl (.and rfl .nil))))
theorem form_X {l : List (Int × Int)} (hl : alook lotsT w = some l) (hd : 4 + 2 * drawV xs s 7 = (w : Int)) (hF : FN SF (Pl xs) (n + 27) (gF [] w (1 + drawV xs (s + 1) 3) (drawV xs (s + 2) 5 - 2)) (s + 3 : Nat) [3, 71] fB (enums 0 (prsV l)) (gF f w (1 + drawV xs (s + 1) 3) (drawV xs (s + 2) 5 - 2)) (s + 3 : Nat)) {Γ : Tc} (h65 : vlook Γ 65 = some (.c (.ref 3))) :
    EV SF (Pl xs) (n + 32) Γ s (.call 35 [.var 65]) (.w w f) (s + 3 : Nat) := by
  have r7 := drawV_range xs s (m := 7) (by decide)
  refine EV.inlR1 (t := .w w f) (x := 65) (F' := fn35) (fun _ _ _ => rfl) rfl rfl (EV.var h65) ?_
  show XR SF (Pl xs) (n + 30) _ _ [.asg 68 (.bin .add (.int 4) (.bin .mul (.int 2) (.call 33 [(.var 65), (.int 7)]))), .asgT [70, 21] (.tup [(.tup [(.bin .add (.int 1) (.call 33 [(.var 65), (.int 3)])), (.bin .sub (.call 33 [(.var 65), (.int 5)]) (.int 2))]), .dict0]), .for_ [3, 71] (.enu (.call 34 [(.var 68)])) fB, .ret (.tup [(.var 68), (.var 21)])] _ _
  have dr : ∀ (k : Nat) (Γ : Tc) (t : Nat) (m : Int), vlook Γ 65 = some (.c (.ref 3)) → m ≠ 0 → EV SF (Pl xs) (k + 14) Γ t (.call 33 [.var 65, .int m]) (.i (drawV xs t m)) (t + 1 : Nat) := fun k Γ t m h hm => EV.draw (fun _ _ _ => rfl) h hm
  refine XR.asg (t := .i w) (s₁ := (s + 1 : Nat)) (EV.bin (i := 4) (j := 2 * drawV xs s 7) (fun H => congrArg (fun z => some (V.int z, H)) hd) EV.int (EV.bin (mul_k (small_le (by decide)) (small_le (by omega))) EV.int (dr (n + 13) _ s 7 rfl (by decide)))) ?_
  refine XR.asg2 (n := n + 27) (s₂ := (s + 3 : Nat)) (EV.wk (EV.tup2 (s₁ := (s + 2 : Nat)) (EV.bin (k := 1 + drawV xs (s + 1) 3) (fun H => rfl) EV.int (dr (n + 11) _ (s + 1) 3 rfl (by decide))) (EV.bin (k := drawV xs (s + 2) 5 - 2) (fun H => rfl) (dr (n + 11) _ (s + 2) 5 rfl (by decide)) EV.int))) (EV.wk EV.dict0) ?_
  exact XR.seq (SN.for_ (IT.enuL (EV.call1 (lots_J hl) (EV.var rfl))) (FN.pre (.and rfl (.and rfl (.and rfl (.and rfl .nil)))) hF)) (XR.ret (EV.wp (q := false) (EV.var rfl) (EV.var rfl)))
theorem form_ok (xs : Z) (n s : Nat) {Γ : Tc} (h65 : vlook Γ 65 = some (.c (.ref 3))) : ∃ (w : Nat) (f : P), w ≤ 16 ∧ Fm w f ∧ EV SF (Pl xs) (n + 32) Γ s (.call 35 [.var 65]) (.w w f) (s + 3 : Nat) := by
  have r7 := drawV_range xs s (m := 7) (by decide)
  have r3 := drawV_range xs (s + 1) (m := 3) (by decide)
  have r5 := drawV_range xs (s + 2) (m := 5) (by decide)
  obtain ⟨w, hw⟩ : ∃ w : Nat, 4 + 2 * drawV xs s 7 = (w : Int) := ⟨(4 + 2 * drawV xs s 7).toNat, by omega⟩
  have hm : w ∈ [4, 6, 8, 10, 12, 14, 16] := by simp; omega
  have m1 : 1 + drawV xs (s + 1) 3 ∈ n1s := by unfold n1s; simp; omega
  have m2 : drawV xs (s + 2) 5 - 2 ∈ n2s := by unfold n2s; simp; omega
  have hw16 : w ≤ 16 := by omega
  refine any_c (List.all_eq_true.mp chkF_ok w hm) fun l hl hc => ?_
  have n0 : OkP [] := okP_ok (by decide +kernel)
  cases l with
  | nil => cases hc
  | cons k r => cases r with
    | nil => exact and_c (List.all_eq_true.mp (show n1s.all (fun n1 => termB k n1 && fmB w (pF1 k n1)) = true from hc) _ m1) fun h1 h2 => ⟨w, _, hw16, fmB_ok h2, form_X (n := n) hl hw (FN.cons (fB_X (i := 0) n0 (okP_ok h1) rfl) FN.nil) h65⟩
    | cons k2 r => cases r with
      | nil => exact and_c (List.all_eq_true.mp (show n1s.all (fun n1 => (termB k n1 && okP (pF1 k n1)) && n2s.all fun n2 => termB k2 n2 && fmB w (pF2 k k2 n1 n2)) = true from hc) _ m1) fun h h2 => and_c h fun h1 h3 => and_c (List.all_eq_true.mp h2 _ m2) fun h4 h5 =>
          ⟨w, _, hw16, fmB_ok h5, form_X (n := n) hl hw (FN.cons (fB_X (i := 0) n0 (okP_ok h1) rfl) (FN.cons (fB_X (i := 1) (okP_ok h3) (okP_ok h4) rfl) FN.nil)) h65⟩
      | cons => cases hc
end
end Mine
end

section
/-! The rows; the start. -/
set_option maxRecDepth 100000
set_option linter.all false
namespace Mine
open PySem

noncomputable abbrev rowE : Ex := .bin .add (.lst [(.int 1)]) (.comp (.bin .mul (.var 101) (.call 36 [(.var 73), (.var 18)])) [18] (.rng2 (.int 1) (.var 55)) none [101, 73])
noncomputable abbrev rowB1 : List Sm := [.app 85 rowE]
noncomputable abbrev rowT : Ex := .tup [(.tup [(.int 1), (.neg (.int 24))]), (.tup [(.int 3), (.int 240)]), (.tup [(.int 5), (.neg (.int 504))])]

/-- the list at R: the rows so far -/
def RowsAt (R : Nat) (zs : List Z) (H : Hp) : Prop := ∃ rs : List Nat, Hp.get H R = some (.lst (rs.map .ref)) ∧ rs.length = zs.length ∧ ∀ (i : Nat) z, zs[i]? = some z → ∃ r, rs[i]? = some r ∧ r ≠ R ∧ 3 < r ∧ Hp.get H r = some (.lst (toL z))
noncomputable def Rw (xs : Z) (s R : Nat) : Dm := ⟨List Z, some R, fun zs H => RowsAt R zs H ∧ (Pl xs).St s H ∧ 3 < R, fun h b => ⟨by
    obtain ⟨⟨rs, h1, h2, h3⟩, _⟩ := h
    exact ⟨rs, (b.2 R (Hp.get_lt h1) fun e => by cases e).trans h1, h2, fun i z hz => by
      obtain ⟨r, q1, q2, q3, q4⟩ := h3 i z hz
      exact ⟨r, q1, q2, q3, (b.2 r (Hp.get_lt q4) fun e => by cases e).trans q4⟩⟩, (Pl xs).up h.2.1 b, h.2.2⟩, fun h e => (by cases e; obtain ⟨⟨rs, h1, _⟩, _⟩ := h; exact Hp.get_lt h1), 4, fun h => (Pl xs).le h.2.1⟩

section
variable {xs : Z} {s R n m : Nat} {Γ : Tc} {zs : List Z} {z : Z} {e : Ex} {x : Nat}
theorem SN.appR (h : alook Γ x = some (.c (.ref R))) (hl : zs.length ≤ 5) (he : EV SF (Rw xs s R) n Γ zs e (.z true z) zs) : SN SF (Rw xs s R) n Γ zs (.app x e) Γ (zs ++ [z]) := fun rest κ ρ H g G q => by
  obtain ⟨u, e0, rfl⟩ := g.has x _ h
  refine he κ ρ H g G fun v H1 e1 g1 l1 o1 => ?_
  obtain ⟨r, rfl, o, hr⟩ := o1
  have hr := hr rfl
  obtain ⟨rs0, a1, _⟩ := g.st.1
  obtain ⟨rs, b1, b2, b3⟩ := g1.st.1
  have hRr : r ≠ R := fun e => o.1 (by rw [e]; rfl)
  have h3r : 3 < r := Nat.lt_of_lt_of_le ((Pl xs).le g.st.2.1) hr
  refine q ρ (Hp.put H1 R (.lst ((rs ++ [r]).map .ref))) (bd_eq ((bo_eq (f := fun l => onRef l fun n' => bo (lstAt H n') fun _ => bd ((run tbl SF n).ev κ e ρ H) fun v H₁ => bi (!κ.any (Nat.beq n')) (bo (lstAt H₁ n') fun vs => bi (Nat.ble vs.length maxLen) (some (ρ, Hp.put H₁ n' (.lst (vs ++ [v])))))) e0).trans ((bo_eq (lstAt_of a1)).trans ((bd_eq e1).trans ((bi_eq (by rw [g1.fre R rfl]; rfl)).trans ((bo_eq (lstAt_of b1)).trans ((bi_eq ?_).trans (by rw [List.map_append]; rfl)))))))) ⟨lowK_mono g1.low (by rw [Hp.put_length]; exact Nat.le_refl _), g1.fre, ⟨⟨rs ++ [r], Hp.get_put_self (Hp.get_lt b1), by rw [List.length_append, List.length_append, b2]; rfl, fun i z' hz => ?_⟩, ?_, g1.st.2.2⟩, g1.has.mono Le.put⟩ (l1.trans Le.put)
  · rw [List.length_map, b2]; exact Nat.ble_eq.mpr (Nat.le_trans hl (by decide))
  · rcases Nat.lt_or_ge i zs.length with hi | hi
    · rw [List.getElem?_append_left hi] at hz
      obtain ⟨r', q1, q2, q3, q4⟩ := b3 i z' hz
      exact ⟨r', by rw [List.getElem?_append_left (by rw [b2]; exact hi)]; exact q1, q2, q3, (Hp.get_put_ne q2).trans q4⟩
    · rw [List.getElem?_append_right hi] at hz
      have h0 : i - zs.length = 0 := by
        have := (List.getElem?_eq_some_iff.mp hz).1
        exact Nat.lt_one_iff.mp this
      rw [h0] at hz
      refine ⟨r, by rw [List.getElem?_append_right (by rw [b2]; exact hi), b2, h0]; rfl, hRr, h3r, (Hp.get_put_ne hRr).trans ?_⟩
      rw [← Option.some.inj hz]; exact o.2
  · exact ⟨(Hp.get_put_ne (Nat.ne_of_lt g1.st.2.2)).trans g1.st.2.1.1, (Hp.get_put_ne (Nat.ne_of_lt (Nat.lt_trans (by decide) g1.st.2.2))).trans g1.st.2.1.2⟩
theorem rng2N {D : Dm} {s : D.ι} {a b : Ex} {j : Nat} (hj : j ≤ 1000) (ha : EV SF D n Γ s a (.i 1) s) (hb : EV SF D n Γ s b (.i j) s) : IT SF D n Γ s [x] (.rng2 a b) ((List.range (j - 1)).map fun i : Nat => [V.int (i + 1 : Nat)]) s := by
  have h := IT.rng2 (m := x) ha hb (by decide) ⟨Int.le_trans (by decide) (Int.natCast_nonneg j), Int.le_trans (Int.ofNat_le.mpr hj) (by decide)⟩
  rw [show ((j : Int) - 1).toNat = j - 1 from Int.toNat_sub j 1, rngs_eq] at h
  rw [show (fun i : Nat => [V.int (1 + (i : Int))]) = fun i : Nat => [V.int ((i + 1 : Nat) : Int)] by funext i; rw [Int.add_comm]; rfl] at h
  exact h
theorem sg_small : ([1, 3, 5].all fun p => (List.range 7).all fun i => small (sg p i)) = true := by decide +kernel
theorem row_E {D : Dm} {s : D.ι} (hm : m ∈ [5, 6, 7]) {p : Nat} (hp : p ∈ [1, 3, 5]) {t : Int} (ht : small t = true) (h73 : vlook Γ 73 = some (.i p)) (h101 : vlook Γ 101 = some (.i t)) (h55 : vlook Γ 55 = some (.i m))
    (g73 : ∀ j, vlook (bindT [18] [.int j] (onlyT [101, 73] Γ)) 73 = some (.i p)) (g101 : ∀ j, vlook (bindT [18] [.int j] (onlyT [101, 73] Γ)) 101 = some (.i t)) : EV SF D (n + 7) Γ s rowE (.z true (rowZ p t m)) s := by
  have hm' : 5 ≤ m ∧ m ≤ 7 := by simp at hm; omega
  have hp' : p < 20 ∧ p % 2 = 1 := by simp at hp; omega
  have hlen : (List.range (m - 1)).length ≤ 6 := by rw [List.length_range]; omega
  refine EV.addL (z := [1]) (y := (List.range (m - 1)).map fun i => t * sg p (i + 1)) (by rw [List.length_map]; exact Nat.le_trans (Nat.add_le_add_left hlen 1) (by decide)) (EV.lst1 EV.int) (EV.compZ (rng2N (Nat.le_trans hm'.2 (by decide)) EV.int (EV.var h55)) (fun i hi => ?_) (Nat.le_trans hlen (by decide)))
  have hi := List.mem_range.mp hi
  have ho : ok36 p (i + 1) = true := by
    unfold ok36; rw [Nat.blt_eq.mpr hp'.1, hp'.2, Nat.ble_eq.mpr (Nat.le_add_left 1 i), Nat.blt_eq.mpr (show i + 1 < 7 by omega)]; rfl
  exact EV.bin (mul_k ht (List.all_eq_true.mp (List.all_eq_true.mp sg_small p hp) (i + 1) (List.mem_range.mpr (by omega)))) (EV.var (g101 _)) (EV.call2 (sums_J ho) (EV.var (g73 _)) (EV.var rfl))
end

def Ty.plain (t : Ty) : Prop := match t with
  | .d _ e => ∃ es, e = .dic es
  | .c _ => True
  | _ => False
theorem Ty.ok.swap {lo R : Nat} {t : Ty} {v : V} {H : Hp} {ys : List V} (h : t.ok lo (some R) v H) (hp : t.plain) (h3 : Hp.get H 3 = some (.lst ys)) : t.ok lo (some 3) v H := by
  cases t with
  | d b c =>
    obtain ⟨l, e, a, hb⟩ := h
    obtain ⟨es, rfl⟩ := hp
    exact ⟨l, e, ⟨(fun q => by cases q; rw [a.2] at h3; cases h3), a.2⟩, hb⟩
  | c x => exact h
  | _ => exact hp.elim
section
variable {xs : Z} {s n m : Nat} {Γ : Tc} {ss : List Sm} {t' : Ty} {s' : Nat}
noncomputable abbrev rows3 (m : Nat) : Ty := .r (rowZ 1 (-24) m) (rowZ 3 240 m) (rowZ 5 (-504) m)
theorem XR.rows (hm : m ∈ [5, 6, 7]) (h55 : vlook Γ 55 = some (.i m)) (hpl : ∀ e ∈ Γ, e.2.plain)
    (hF : ∀ R, FN SF (Rw xs s R) (n + 10) ((85, .c (.ref R)) :: Γ) [] [73, 101] rowB1 [[.int (1 : Nat), .int (-24)], [.int (3 : Nat), .int 240], [.int (5 : Nat), .int (-504)]] ((85, .c (.ref R)) :: Γ) [rowZ 1 (-24) m, rowZ 3 240 m, rowZ 5 (-504) m])
    (h85 : alook Γ 85 = none) (hr : XR SF (Pl xs) (n + 10) ((85, rows3 m) :: Γ) s ss t' s') : XR SF (Pl xs) (n + 12) Γ s (.asg 85 (.lst []) :: .for_ [73, 101] (.ovr rowT) rowB1 :: ss) t' s' := fun κ ρ H g G q =>
  EV.lst0 (S := SF) (D := Pl xs) (n := n + 10) (Γ := Γ) (s := s) κ ρ H g G fun w H1 e1 g1 l1 o1 => by
    obtain ⟨R, rfl, o, hl⟩ := o1
    have hl := hl rfl
    have h3R : 3 < R := Nat.lt_of_lt_of_le ((Pl xs).le g.st) hl
    have ne : ∀ k, k < H.length → some R ≠ some k := fun k hk e => by cases e; exact absurd hk (Nat.not_lt.mpr hl)
    have g2 : Cfg (Rw xs s R) Γ [] κ ρ H1 := ⟨g1.low, fun k e => by
        cases e
        rw [List.any_eq_false]
        intro j hj e
        have h1 := Nat.blt_eq.mp (List.all_eq_true.mp g.low j hj)
        rw [← Nat.eq_of_beq_eq_true e] at h1
        exact absurd h1 (Nat.not_lt.mpr hl), ⟨⟨[], o.2, rfl, fun i z h => by cases h⟩, g1.st, h3R⟩, fun x t e => by
        obtain ⟨v, e1, e2⟩ := g.has x t e
        exact ⟨v, e1, e2.turn (fun _ h => h) fun k c a => ⟨ne k (Hp.get_lt a.2), (a.mono l1).2⟩⟩⟩
    refine hF R κ (ρ.set 85 (.ref R)) H1 (g2.set (t := .c (.ref R)) rfl) G fun ρ3 H3 e3 g3 l3 => ?_
    obtain ⟨⟨rs, b1, b2, b3⟩, st3, _⟩ := g3.st
    have hL : Le (some 3) H H3 := ⟨Nat.le_trans l1.1 l3.1, fun k hk hk3 => (l3.2 k (Nat.lt_of_lt_of_le hk l1.1) (ne k hk)).trans (l1.2 k hk hk3)⟩
    have hrow : (rows3 m).ok 4 (some 3) (.ref R) H3 := by
      obtain ⟨r0, q0, _, t0, c0⟩ := b3 0 _ rfl
      obtain ⟨r1, q1, _, t1, c1⟩ := b3 1 _ rfl
      obtain ⟨r2, q2, _, t2, c2⟩ := b3 2 _ rfl
      have hrs : rs = [r0, r1, r2] := by
        match rs, b2, q0, q1, q2 with
        | [a, b, c], _, q0, q1, q2 => rw [Option.some.inj q0, Option.some.inj q1, Option.some.inj q2]
      rw [hrs] at b1
      have n3 : ∀ r, 3 < r → (some 3 : Option Nat) ≠ some r := fun r h e => by cases e; exact absurd h (Nat.lt_irrefl _)
      exact ⟨R, r0, r1, r2, rfl, ⟨n3 R h3R, b1⟩, ⟨n3 _ t0, c0⟩, ⟨n3 _ t1, c1⟩, ⟨n3 _ t2, c2⟩⟩
    have g85 : ρ3.get 85 = some (.ref R) := by
      obtain ⟨v, e1, e2⟩ := g3.has 85 _ rfl
      obtain rfl : v = .ref R := e2
      exact e1
    have g4 : Cfg (Pl xs) ((85, rows3 m) :: Γ) s κ ρ3 H3 := ⟨g3.low, g.fre, st3, fun x t e => by
      have e : (bif Nat.beq 85 x then some (rows3 m) else alook Γ x) = some t := e
      cases hx : Nat.beq 85 x with
      | true => rw [hx, cond_true] at e; rw [← Option.some.inj e, ← Nat.eq_of_beq_eq_true hx]; exact ⟨_, g85, hrow⟩
      | false =>
        rw [hx, cond_false] at e
        obtain ⟨v, e1, e2⟩ := g3.has x t (by show (bif Nat.beq 85 x then _ else alook Γ x) = _; rw [hx]; exact e)
        exact ⟨v, e1, e2.swap (hpl _ (alook_mem e)) st3.1⟩⟩
    have hit : iter (run tbl SF (n + 10)) κ [73, 101] (.ovr rowT) (ρ.set 85 (.ref R)) H1 = some ([[.int (1 : Nat), .int (-24)], [.int (3 : Nat), .int 240], [.int (5 : Nat), .int (-504)]], κ, H1) := rfl
    have hx : (run tbl SF (n + 12)).xs κ (.asg 85 (.lst []) :: .for_ [73, 101] (.ovr rowT) rowB1 :: ss) ρ H = (run tbl SF (n + 11)).xs κ (.for_ [73, 101] (.ovr rowT) rowB1 :: ss) (ρ.set 85 (.ref R)) H1 := bd_eq (f := fun ρ₁ H₁ => (run tbl SF (n + 11)).xs κ (.for_ [73, 101] (.ovr rowT) rowB1 :: ss) ρ₁ H₁) (bd_eq (f := fun v H₁ => some (ρ.set 85 v, H₁)) e1)
    have hy : (run tbl SF (n + 11)).xs κ (.for_ [73, 101] (.ovr rowT) rowB1 :: ss) (ρ.set 85 (.ref R)) H1 = (run tbl SF (n + 10)).xs κ ss ρ3 H3 := for_eq.trans ((b3_eq ((b3_eq hit).trans e3)).trans rfl)
    exact hr κ ρ3 H3 g4 G fun v ρ5 H5 e5 st5 l5 o5 => q v ρ5 H5 (hx.trans (hy.trans e5)) st5 (hL.trans l5) o5
end
end Mine
end

section
/-! The walk of the law. -/
set_option maxRecDepth 100000
set_option linter.all false
namespace Mine
open PySem

section
variable {n : Nat} {p q : P} {b1 b2 : Bool} {z y : Z}
theorem upJ {Q : Nat → Prop} {k n : Nat} (h : ∀ m, Q (m + k)) (hk : k ≤ n) : Q n := by
  obtain ⟨m, rfl⟩ := Nat.exists_eq_add_of_le' hk
  exact h m
theorem mulJ (hp : OkP p) (hq : OkP q) (h : 22 ≤ n := by decide) : J2 SF n 15 (.p b1 p) (.p b2 q) (.p true (pMul p q)) := upJ (Q := fun n => J2 SF n 15 (.p b1 p) (.p b2 q) (.p true (pMul p q))) (fun m => mul_J fits_SF hp hq) h
theorem subJ (hp : OkP p) (hq : OkP q) (h : 23 ≤ n := by decide) : J2 SF n 13 (.p b1 p) (.p b2 q) (.p true (pSub p q)) := upJ (Q := fun n => J2 SF n 13 (.p b1 p) (.p b2 q) (.p true (pSub p q))) (fun m => sub_J fits_SF hp hq) h
theorem derJ (hp : OkP p) {i : Nat} (hi : i < 3 := by decide) (h : 22 ≤ n := by decide) : J2 SF n 16 (.p b1 p) (.i i) (.p true (pDer p i)) := upJ (Q := fun n => J2 SF n 16 (.p b1 p) (.i i) (.p true (pDer p i))) (fun m => der_J fits_SF hp hi) h
theorem sclJ {i : Int} (hp : OkP p) (hi : small i = true) (h : 10 ≤ n := by decide) : J2 SF n 14 (.p b1 p) (.c (rv i)) (.p true (pScl p i)) := upJ (Q := fun n => J2 SF n 14 (.p b1 p) (.c (rv i)) (.p true (pScl p i))) (fun m => scl_J fits_SF hp hi) h
theorem twJ (hp : OkTw p) (h : 40 ≤ n := by decide) : J1 SF n 37 (.p b1 p) (.p true (pTw p)) := upJ (Q := fun n => J1 SF n 37 (.p b1 p) (.p true (pTw p))) (fun m => tw_J fits_SF hp) h
theorem slopeJ (hl : z.length ≤ 60) (hs : smZ z) (h : 8 ≤ n := by decide) : J1 SF n 40 (.z b1 z) (.z true (zSlope z)) := upJ (Q := fun n => J1 SF n 40 (.z b1 z) (.z true (zSlope z))) (fun m => slope_J fits_SF hl hs) h
theorem zsubJ (hl : z.length ≤ 60) (hy : y.length ≤ 60) (h : 93 ≤ n := by decide) : J2 SF n 30 (.z b1 z) (.z b2 y) (.z true (zSub z y)) := upJ (Q := fun n => J2 SF n 30 (.z b1 z) (.z b2 y) (.z true (zSub z y))) (fun m => zsub_J fits_SF hl hy) h
theorem zsclJ {k : Int} (hl : z.length ≤ 60) (hs : smZ z) (hk : small k = true) (h : 10 ≤ n := by decide) : J2 SF n 31 (.z b1 z) (.i k) (.z true (zScl z k)) := upJ (Q := fun n => J2 SF n 31 (.z b1 z) (.i k) (.z true (zScl z k))) (fun m => zscl_J fits_SF hl hs hk) h
theorem zmulJ (hl : z.length ≤ 60) (hy : y.length ≤ 60) (hs : smZ z) (hs' : smZ y) (h : 20 ≤ n := by decide) : J2 SF n 32 (.z b1 z) (.z b2 y) (.z true (zMul z y)) := upJ (Q := fun n => J2 SF n 32 (.z b1 z) (.z b2 y) (.z true (zMul z y))) (fun m => zmul_J fits_SF hl hy hs hs') h
theorem longJ {m : Nat} (hl : z.length ≤ 60) (hm : m ≤ 60) (h : 10 ≤ n := by decide) : J2 SF n 38 (.z b1 z) (.i m) (.z true (zLong z m)) := upJ (Q := fun n => J2 SF n 38 (.z b1 z) (.i m) (.z true (zLong z m))) (fun k => long_J fits_SF hl hm) h
theorem okP_of (h : OkP p) : okP p = true := by unfold okP; rw [h.nd, h.bx, Nat.ble_eq.mpr h.nr, Nat.ble_eq.mpr h.ln]; rfl
theorem serJ {m : Nat} (hp : OkP p) (hm : m ∈ [5, 6, 7]) : J3 SF (n + 1) 39 (.p b1 p) (rows3 m) (.i m) (.z true (serN p m)) := by
  have h := ser_ok hp hm
  have : m ≤ 60 := by simp at hm; omega
  exact serF_J this h.1 (okP_of hp) h.2
end
theorem ser_sm {p : P} {N L A B C n : Nat} (h : Bd p N L A B C) (h7 : n ≤ 7) (hs : A + B + C ≤ 19 := by decide) (hB : N * MB ^ (A + B + C) ≤ lim := by decide +kernel) : smZ (serN p n) := zb_small (ser_bound h h7 hs) hB
theorem slope_zb {p : P} {N L A B C n : Nat} (h : Bd p N L A B C) (h7 : n ≤ 7) (hs : A + B + C ≤ 19 := by decide) : zb (7 * (N * MB ^ (A + B + C))) (zSlope (serN p n)) := slope_bound (ser_bound h h7 hs) (by rw [ser_len]; exact h7)
theorem bd_up {f : P} {w : Int} (hf : Fm w f) : Bd (pMul (letterP 0) f) 10 4 1 4 2 ∧ ∀ e ∈ pMul (letterP 0) f, e.1 ∈ K9 ∨ ∃ k ∈ K9, e.1 = up k := by
  have hl : Bd (letterP 0) 1 1 1 0 0 := bdB_ok (by decide +kernel)
  refine ⟨(hl.mul hf.bd).mono, fun e he => .inr ?_⟩
  have i1 : Inv (fun k => k = [1, 0, 0]) (letterP 0) := ⟨rfl, fun e he => by rw [List.mem_singleton.mp he]; exact ⟨by decide, rfl⟩⟩
  have i2 : Inv (fun k => k ∈ K9) f := ⟨hf.bd.inv.1, fun e he => ⟨(hf.bd.inv.2 e he).1, (hf.mem e he).1⟩⟩
  exact ((i1.mul i2 (M := fun x => ∃ k ∈ K9, x = up k) fun k l hk hl => ⟨l, hl, by rw [hk]; rfl⟩).2 e he).2
theorem bdApart : Bd Mine.apart 2 2 0 3 2 := bdB_ok (by decide +kernel)
theorem steps_get {n : Nat} (hn : n ∈ [5, 6, 7]) : alook stepT n = some (steps7.take n) := by
  rcases List.mem_cons.mp hn with rfl | hn
  · rfl
  · rcases List.mem_cons.mp hn with rfl | hn
    · rfl
    · rw [List.mem_singleton.mp hn]; rfl

section
variable {xs : Z} {f g : P} {w v : Nat}
theorem Fm.cross (hf : Fm w f) (hg : Fm v g) : Bd (pMul (pDer f 1) (pDer g 2)) 3600 4 0 7 3 ∧ Bd (pMul (pDer f 2) (pDer g 1)) 3600 4 0 7 3 ∧ Bd (cross f g) 7200 8 0 7 3 := by
  have a := (hf.bd.der 1).mul (hg.bd.der 2)
  have b := (hf.bd.der 2).mul (hg.bd.der 1)
  exact ⟨a, b, a.sub b⟩
theorem Fm.side (hf : Fm w f) (hg : Fm v g) (hw : w ≤ 16) : Bd (pMul f (pTw g)) 13200 48 2 10 5 ∧ Bd (pScl (pMul f (pTw g)) w) 211200 48 2 10 5 := by
  have a : Bd (pMul f (pTw g)) 13200 48 2 10 5 := hf.bd.mul (hg.bd.mono (N' := 10) (L' := 4) (A' := 1) (B' := 4) (C' := 2)).tw
  exact ⟨a, (a.scl w).mono (hN := by rw [Int.natAbs_natCast]; exact Nat.mul_le_mul_left 13200 hw)⟩

end
end Mine
end

section
/-! The walk of the law: the statements from the eighth on. -/
set_option maxRecDepth 100000
set_option linter.all false
namespace Mine
open PySem

section
variable {xs : Z} {S : Sum} {D : Dm} {n s : Nat} {Γ : Tc} {s₀ s₁ s₂ : D.ι} {t' : Ty} {ss : List Sm} {a b : Ex} {z y : Z} {b1 b2 : Bool}
theorem EV.timesAll {k : Int} (hs : smZ z) (hl : z.length ≤ 60) (hk : small k = true) (ha : EV S D (n + 2) Γ s₀ a (.z b1 z) s₁) : EV S D (n + 3) Γ s₀ (.comp (.bin .mul (.int k) (.var 43)) [43] (.ovr a) none []) (.z true (z.map fun e => k * e)) s₁ :=
  EV.compZ (IT.row ha) (fun i hi => EV.bin (mul_k hk (hs i hi)) EV.int (EV.var rfl)) (Nat.le_trans hl (by decide))
theorem XR.neR {bb : Bool} {t u : Ty} {s' : D.ι} (ha : EV S D n Γ s₀ a t s₁) (hb : EV S D n Γ s₁ b u s₂) (hc : ∀ v w H, t.ok 0 D.m v H → u.ok 0 D.m w H → cmpop .ne v w H = some false) (hr : XR S D (n + 1) Γ s₂ ss t' s') : XR S D (n + 2) Γ s₀ (.iff (.cmp .ne a b) [.ret (.boo bb)] [] :: ss) t' s' :=
  XR.seq (SN.iff (TE.cmp ha hb fun v w H h1 h2 _ => hc v w H h1 h2) (fun h => by cases h) fun _ => XN.nil) hr
theorem ne_z (h : z = y) (m : Option Nat) (v w : V) (H : Hp) (h1 : (Ty.z b1 z).ok 0 m v H) (h2 : (Ty.z b2 y).ok 0 m w H) : cmpop .ne v w H = some false := by
  obtain ⟨l, rfl, a, _⟩ := h1
  obtain ⟨l', rfl, b, _⟩ := h2
  subst h
  have he : eqv (.ref l) (.ref l') H = some true := (bo_eq (lstAt_of a.2)).trans ((bo_eq (lstAt_of b.2)).trans ((bo_eq (ints_map z)).trans ((bo_eq (ints_map z)).trans (congrArg some (intsEq_self z)))))
  show neqv _ _ _ = _
  unfold neqv
  rw [he]; rfl
theorem ne_p {K L : List Int → Prop} {p q : P} (hp : Inv K p) (hq : Inv L q) (h : ∀ φ, I p φ = I q φ) (m : Option Nat) (v w : V) (H : Hp) (h1 : (Ty.p b1 p).ok 0 m v H) (h2 : (Ty.p b2 q).ok 0 m w H) : cmpop .ne v w H = some false := by
  obtain ⟨l, rfl, a, _⟩ := h1
  obtain ⟨l', rfl, b, _⟩ := h2
  exact ne_dict hp hq h a.2 b.2
end
end Mine
end

section
/-! The walk of the law, from the eighth statement to the end. -/
set_option maxRecDepth 100000
set_option linter.all false
namespace Mine
open PySem

section
variable {xs : Z} {f g : P} {w v : Nat}
theorem main {n k : Nat} {h : P} {Γ : Tc} {s : Nat} (hf : Fm w f) (hg : Fm v g) (hw : w ≤ 16) (hv : v ≤ 16) (hn : n ∈ [5, 6, 7]) (hh : Bd h 10 4 1 4 2) (hm : ∀ e ∈ h, e.1 ∈ K9 ∨ ∃ k ∈ K9, e.1 = up k)
    (hk : 4 + 2 * drawV xs s 9 = (k : Int)) (hk42 : ok42 k n = true)
    (g99 : vlook Γ 99 = some (.p false f)) (g7 : vlook Γ 7 = some (.p false g)) (g68 : vlook Γ 68 = some (.i w)) (g41 : vlook Γ 41 = some (.i v)) (g76 : vlook Γ 76 = some (.p false (letterP 1))) (g77 : vlook Γ 77 = some (.p false (letterP 2))) (g100 : vlook Γ 100 = some (.p false h)) (g55 : vlook Γ 55 = some (.i n)) (g85 : vlook Γ 85 = some (rows3 n)) (g65 : vlook Γ 65 = some (.c (.ref 3))) :
    XR SF (Pl xs) 150 Γ s (fn43.body.drop 8) (.c (.boo true)) (s + 1 : Nat) := by
  have hn' : 5 ≤ n ∧ n ≤ 7 := by simp at hn; omega
  have h7 := hn'.2
  have h60 : n ≤ 60 := by omega
  obtain ⟨bc1, bc2, bc⟩ := hf.cross hg
  obtain ⟨s1, t1⟩ := hf.side hg hw
  obtain ⟨s2, t2⟩ := hg.side hf hv
  have bf := hf.bd
  have bg := hg.bd
  have bf' : Bd f 10 4 1 4 2 := bf.mono
  have bg' : Bd g 10 4 1 4 2 := bg.mono
  have bl : Bd (lhs2 w v f g) 422400 96 2 10 5 := t1.sub t2
  have bm : Bd (pMul Mine.apart (cross f g)) 14400 16 0 10 5 := bdApart.mul bc
  have br : Bd (rhs2 f g) 345600 16 0 10 5 := bm.scl (-24)
  have len (p : P) : (serN p n).length ≤ 60 := by rw [ser_len]; exact h60
  have slen (p : P) : (zSlope (serN p n)).length ≤ 60 := by rw [slope_len, ser_len]; exact h60
  have stl : (steps7.take n).length ≤ 7 := by rw [List.length_take]; show min n 7 ≤ 7; omega
  have mz (p q : P) : (zMul (serN p n) (zSlope (serN q n))).length ≤ 60 := Nat.le_trans (mul_len _ _) (by rw [slope_len, ser_len, ser_len]; omega)
  have mf := ser_bound bf h7
  have mg := ser_bound bg h7
  have z1 := zb_mul (N := 14) mf (slope_zb bg h7) (by rw [slope_len, ser_len, ser_len]; omega)
  have z2 := zb_mul (N := 14) mg (slope_zb bf h7) (by rw [slope_len, ser_len, ser_len]; omega)
  have z3 := zb_mul (N := 14) (steps_bound n) (ser_bound bc h7) (by rw [ser_len]; omega)
  have mz3 : (zMul (steps7.take n) (serN (cross f g) n)).length ≤ 60 := Nat.le_trans (mul_len _ _) (by rw [ser_len]; omega)
  have ws : ∀ u : Nat, u ≤ 16 → small (u : Int) = true := fun u hu => small_le (by rw [Int.natAbs_natCast]; omega)
  have tl (z : Z) : (z.take n).length ≤ 60 := by rw [List.length_take]; omega
  have c0 : OkP (pMul (letterP 1) (letterP 1)) := okP_ok (by decide +kernel)
  have c1 : OkP (pMul (letterP 1) (pMul (letterP 1) (letterP 1))) := okP_ok (by decide +kernel)
  have c2 : OkP (pMul (letterP 2) (letterP 2)) := okP_ok (by decide +kernel)
  have r9 := drawV_range xs s (m := 9) (by decide)
  have l1 := okL 1 (by decide)
  have l2 := okL 2 (by decide)
  show XR SF (Pl xs) 150 Γ s [.iff (.cmp .ne (.comp (.bin .mul (.int 12) (.var 43)) [43] (.ovr (.call 40 [(.call 39 [(.var 100), (.var 85), (.var 55)])])) none []) (.call 39 [(.call 37 [(.var 100)]), (.var 85), (.var 55)])) [.ret (.boo false)] [], .asg 102 (.call 13 [(.call 15 [(.call 16 [(.var 99), (.int 1)]), (.call 16 [(.var 7), (.int 2)])]), (.call 15 [(.call 16 [(.var 99), (.int 2)]), (.call 16 [(.var 7), (.int 1)])])]), .asg 62 (.call 13 [(.call 14 [(.call 15 [(.var 99), (.call 37 [(.var 7)])]), (.tup [(.var 68), (.int 1)])]), (.call 14 [(.call 15 [(.var 7), (.call 37 [(.var 99)])]), (.tup [(.var 41), (.int 1)])])]), .asg 103 (.call 13 [(.call 15 [(.var 76), (.call 15 [(.var 76), (.var 76)])]), (.call 15 [(.var 77), (.var 77)])]), .iff (.cmp .ne (.var 62) (.call 14 [(.call 15 [(.var 103), (.var 102)]), (.tup [(.neg (.int 24)), (.int 1)])])) [.ret (.boo false)] [], .iff (.cmp .ne (.call 39 [(.var 103), (.var 85), (.var 55)]) (.comp (.bin .mul (.int 1728) (.var 43)) [43] (.ovr (.call 41 [(.var 55)])) none [])) [.ret (.boo false)] [], .asgT [2, 79] (.tup [(.call 39 [(.var 99), (.var 85), (.var 55)]), (.call 39 [(.var 7), (.var 85), (.var 55)])]), .asgT [104, 105] (.tup [(.call 31 [(.call 32 [(.var 2), (.call 40 [(.var 79)])]), (.var 68)]), (.call 31 [(.call 32 [(.var 79), (.call 40 [(.var 2)])]), (.var 41)])]), .asg 106 (.call 31 [(.call 32 [(.call 41 [(.var 55)]), (.call 39 [(.var 102), (.var 85), (.var 55)])]), (.neg (.int 3456))]), .iff (.cmp .ne (.call 38 [(.call 30 [(.slTo (.var 104) (.var 55)), (.slTo (.var 105) (.var 55))]), (.var 55)]) (.slTo (.var 106) (.var 55))) [.ret (.boo false)] [], .ret (.call 42 [(.bin .add (.int 4) (.bin .mul (.int 2) (.call 33 [(.var 65), (.int 9)]))), (.var 85), (.var 55)])] _ _
  -- 8: twelve times the slope
  refine XR.neR (EV.timesAll (zb_small (slope_zb hh h7) (by decide +kernel)) (slen h) (by decide +kernel) (EV.call1 (slopeJ (len h) (ser_sm hh h7)) (EV.call3 (serJ (b1 := false) hh.ok hn) (EV.var g100) (EV.var g85) (EV.var g55))))
    (EV.call3 (serJ hh.tw.ok hn) (EV.call1 (twJ (b1 := false) hh.okTw) (EV.var g100)) (EV.var g85) (EV.var g55)) (ne_z (law1 h7 hm) _) ?_
  -- 9: crossed
  refine XR.asg (t := .p true (cross f g)) (EV.call2 (subJ bc1.ok bc2.ok) (EV.call2 (mulJ (bf.der 1).ok (bg.der 2).ok) (EV.call2 (derJ (i := 1) (b1 := false) bf.ok) (EV.var g99) EV.int) (EV.call2 (derJ (i := 2) (b1 := false) bg.ok) (EV.var g7) EV.int)) (EV.call2 (mulJ (bf.der 2).ok (bg.der 1).ok) (EV.call2 (derJ (i := 2) (b1 := false) bf.ok) (EV.var g99) EV.int) (EV.call2 (derJ (i := 1) (b1 := false) bg.ok) (EV.var g7) EV.int))) ?_
  -- 10: left
  refine XR.asg (t := .p true (lhs2 w v f g)) (EV.call2 (subJ t1.ok t2.ok) (EV.call2 (sclJ s1.ok (ws w hw)) (EV.call2 (mulJ (b1 := false) bf.ok bg'.tw.ok) (EV.var g99) (EV.call1 (twJ (b1 := false) bg'.okTw) (EV.var g7))) (EV.tup2 (EV.var g68) EV.int)) (EV.call2 (sclJ s2.ok (ws v hv)) (EV.call2 (mulJ (b1 := false) bg.ok bf'.tw.ok) (EV.var g7) (EV.call1 (twJ (b1 := false) bf'.okTw) (EV.var g99))) (EV.tup2 (EV.var g41) EV.int))) ?_
  -- 11: apart
  refine XR.asg (t := .p true Mine.apart) (EV.call2 (subJ c1 c2) (EV.call2 (mulJ (b1 := false) l1 c0) (EV.var g76) (EV.call2 (mulJ (b1 := false) (b2 := false) l1 l1) (EV.var g76) (EV.var g76))) (EV.call2 (mulJ (b1 := false) (b2 := false) l2 l2) (EV.var g77) (EV.var g77))) ?_
  -- 12
  refine XR.neR (EV.var (u := .p false (lhs2 w v f g)) rfl) (EV.call2 (sclJ (i := -24) bm.ok (by decide +kernel)) (EV.call2 (mulJ (b1 := false) (b2 := false) bdApart.ok bc.ok) (EV.var rfl) (EV.var rfl)) (EV.tup2 (EV.neg EV.int) EV.int)) (ne_p bl.inv br.inv (law2 hf hg) _) ?_
  -- 13
  refine XR.neR (EV.call3 (serJ (b1 := false) bdApart.ok hn) (EV.var rfl) (EV.var g85) (EV.var g55)) (EV.timesAll (zb_small (steps_bound n) (by decide +kernel)) (Nat.le_trans stl (by decide)) (by decide +kernel) (EV.call1 (steps_J (steps_get hn)) (EV.var g55))) (ne_z (law3 h7) _) ?_
  -- 14
  refine XR.asg2 (EV.wk (EV.call3 (serJ (b1 := false) bf.ok hn) (EV.var g99) (EV.var g85) (EV.var g55))) (EV.wk (EV.call3 (serJ (b1 := false) bg.ok hn) (EV.var g7) (EV.var g85) (EV.var g55))) ?_
  -- 15
  refine XR.asg2 (EV.wk (EV.call2 (zsclJ (mz f g) (zb_small z1 (by decide +kernel)) (ws w hw)) (EV.call2 (zmulJ (b1 := false) (len f) (slen g) (ser_sm bf h7) (zb_small (slope_zb bg h7) (by decide +kernel))) (EV.var rfl) (EV.call1 (slopeJ (b1 := false) (len g) (ser_sm bg h7)) (EV.var rfl))) (EV.var g68)))
    (EV.wk (EV.call2 (zsclJ (mz g f) (zb_small z2 (by decide +kernel)) (ws v hv)) (EV.call2 (zmulJ (b1 := false) (len g) (slen f) (ser_sm bg h7) (zb_small (slope_zb bf h7) (by decide +kernel))) (EV.var rfl) (EV.call1 (slopeJ (b1 := false) (len f) (ser_sm bf h7)) (EV.var rfl))) (EV.var g41))) ?_
  -- 16
  refine XR.asg (EV.wk (EV.call2 (zsclJ (k := -3456) mz3 (zb_small z3 (by decide +kernel)) (by decide +kernel)) (EV.call2 (zmulJ (Nat.le_trans stl (by decide)) (len _) (zb_small (steps_bound n) (by decide +kernel)) (ser_sm bc h7)) (EV.call1 (steps_J (steps_get hn)) (EV.var g55)) (EV.call3 (serJ (b1 := false) bc.ok hn) (EV.var rfl) (EV.var g85) (EV.var g55))) (EV.neg EV.int))) ?_
  -- 17
  refine XR.neR (EV.call2 (longJ (Nat.le_trans (add_len _ _) (by have := tl (zScl (zMul (serN f n) (zSlope (serN g n))) w); have := tl (zScl (zMul (serN g n) (zSlope (serN f n))) v); rw [zNeg, List.length_map]; omega)) h60) (EV.call2 (zsubJ (tl (zScl (zMul (serN f n) (zSlope (serN g n))) w)) (tl (zScl (zMul (serN g n) (zSlope (serN f n))) v))) (EV.slL (q := false) (Nat.le_trans h60 (by decide)) (EV.var rfl) (EV.var g55)) (EV.slL (q := false) (Nat.le_trans h60 (by decide)) (EV.var rfl) (EV.var g55))) (EV.var g55)) (EV.slL (q := false) (Nat.le_trans h60 (by decide)) (EV.var rfl) (EV.var g55)) (ne_z (law4 hf hg (by omega) h7) _) ?_
  -- 18
  exact XR.ret (EV.call3 (alone_J hk42) (EV.bin (i := 4) (j := 2 * drawV xs s 9) (fun H => congrArg (fun z => some (V.int z, H)) hk) EV.int (EV.bin (mul_k (small_le (by decide)) (small_le (by omega))) EV.int (EV.draw (n := 122) (fun _ _ _ => rfl) g65 (by decide)))) (EV.var g85) (EV.var g55))
end
end Mine
end

section
/-! The law: the whole. -/
set_option maxRecDepth 100000
set_option linter.all false
namespace Mine
open PySem

section
variable {xs : Z} {n m : Nat} {f g h : P} {w v : Nat}
noncomputable abbrev gL (m : Nat) (h f g : P) (w v : Nat) : Tc := [(55, .i m), (100, .p false h), (77, .p false (letterP 2)), (76, .p false (letterP 1)), (58, .p false (letterP 0)), (7, .p false g), (41, .i v), (99, .p false f), (68, .i w), (65, .c (.ref 3))]
theorem rows_F (hm : m ∈ [5, 6, 7]) {s R : Nat} : FN SF (Rw xs s R) (n + 10) ((85, .c (.ref R)) :: gL m h f g w v) [] [73, 101] rowB1 [[.int (1 : Nat), .int (-24)], [.int (3 : Nat), .int 240], [.int (5 : Nat), .int (-504)]] ((85, .c (.ref R)) :: gL m h f g w v) [rowZ 1 (-24) m, rowZ 3 240 m, rowZ 5 (-504) m] := by
  have one : ∀ (zs : List Z) (p : Nat) (t : Int), p ∈ [1, 3, 5] → small t = true → zs.length ≤ 5 → XN SF (Rw xs s R) (n + 10) (bindT [73, 101] [.int p, .int t] ((85, .c (.ref R)) :: gL m h f g w v)) zs rowB1 ((85, .c (.ref R)) :: gL m h f g w v) (zs ++ [rowZ p t m]) := fun zs p t hp ht hl =>
    XN.sub (XN.one (SN.appR rfl hl (row_E (n := n + 2) hm hp ht rfl rfl rfl (fun _ => rfl) (fun _ => rfl)))) (.and rfl (.and rfl (.and rfl (.and rfl (.and rfl (.and rfl (.and rfl (.and rfl (.and rfl (.and rfl (.and rfl .nil)))))))))))
  exact FN.cons (one [] 1 (-24) (by decide) (by decide +kernel) (by decide)) (FN.cons (one [rowZ 1 (-24) m] 3 240 (by decide) (by decide +kernel) (by show 1 ≤ 5; decide)) (FN.cons (one [rowZ 1 (-24) m, rowZ 3 240 m] 5 (-504) (by decide) (by decide +kernel) (by show 2 ≤ 5; decide)) FN.nil))
end
noncomputable abbrev poolE : Ex := .lst [(.comp (.bi .int [(.var 98)]) [98] (.ovr (.slTo (.var 97) (.int 9))) none []), (.int 0)]
theorem body_ok (xs : Z) : XR SF (Pl xs) 157 [(65, .c (.ref 3))] (0 : Nat) (fn43.body.drop 1) (.c (.boo true)) (9 : Nat) := by
  obtain ⟨w, f, hw, hf, ef⟩ := form_ok xs 124 0 (Γ := [(65, .c (.ref 3))]) rfl
  obtain ⟨v, g, hv, hg, eg⟩ := form_ok xs 123 3 (Γ := [(99, .p false f), (68, .i w), (65, .c (.ref 3))]) rfl
  have r2 := drawV_range xs 6 (m := 2) (by decide)
  have r3 := drawV_range xs 7 (m := 3) (by decide)
  have r9 := drawV_range xs 8 (m := 9) (by decide)
  obtain ⟨n, hn⟩ : ∃ n : Nat, 5 + drawV xs 7 3 = (n : Int) := ⟨(5 + drawV xs 7 3).toNat, by omega⟩
  have hm : n ∈ [5, 6, 7] := by simp; omega
  obtain ⟨k, hk⟩ : ∃ k : Nat, 4 + 2 * drawV xs 8 9 = (k : Int) := ⟨(4 + 2 * drawV xs 8 9).toNat, by omega⟩
  have hk42 : ok42 k n = true := by
    have h1 : k ∈ ks42 := by simp [ks42]; omega
    exact Bool.and_eq_true_iff.mpr ⟨List.any_eq_true.mpr ⟨k, h1, Nat.beq_refl k⟩, List.any_eq_true.mpr ⟨n, hm, Nat.beq_refl n⟩⟩
  have hh : ∃ h : P, (Bd h 10 4 1 4 2 ∧ ∀ e ∈ h, e.1 ∈ K9 ∨ ∃ k ∈ K9, e.1 = up k) ∧ EV SF (Pl xs) 153 [(77, .p false (letterP 2)), (76, .p false (letterP 1)), (58, .p false (letterP 0)), (7, .p false g), (41, .i v), (99, .p false f), (68, .i w), (65, .c (.ref 3))] (6 : Nat) (.ite (.cmp .eq (.call 33 [(.var 65), (.int 2)]) (.int 1)) (.call 15 [(.var 58), (.var 99)]) (.var 99)) (.p false h) (7 : Nat) := by
    have ht : TE SF (Pl xs) 152 [(77, .p false (letterP 2)), (76, .p false (letterP 1)), (58, .p false (letterP 0)), (7, .p false g), (41, .i v), (99, .p false f), (68, .i w), (65, .c (.ref 3))] (6 : Nat) (.cmp .eq (.call 33 [(.var 65), (.int 2)]) (.int 1)) (decide (drawV xs 6 2 = 1)) (7 : Nat) := TE.cc (eq_k rfl) (EV.draw (n := 137) (fun _ _ _ => rfl) rfl (by decide)) EV.int
    by_cases hd : drawV xs 6 2 = 1
    · rw [decide_eq_true hd] at ht
      exact ⟨_, bd_up hf, EV.ite ht (fun _ => EV.wk (EV.call2 (mulJ (b1 := false) (b2 := false) (okL 0 (by decide)) hf.bd.ok) (EV.var rfl) (EV.var rfl))) fun h => by cases h⟩
    · rw [decide_eq_false hd] at ht
      exact ⟨f, ⟨hf.bd.mono, fun e he => .inl (hf.mem e he).1⟩, EV.ite ht (fun h => by cases h) fun _ => EV.var rfl⟩
  obtain ⟨h, ⟨b1, b2⟩, eh⟩ := hh
  show XR SF (Pl xs) 157 _ _ (.asgT [68, 99] (.call 35 [(.var 65)]) :: .asgT [41, 7] (.call 35 [(.var 65)]) :: .asgT [58, 76, 77] lets :: .asg 100 (.ite (.cmp .eq (.call 33 [(.var 65), (.int 2)]) (.int 1)) (.call 15 [(.var 58), (.var 99)]) (.var 99)) ::
    .asg 55 (.bin .add (.int 5) (.call 33 [(.var 65), (.int 3)])) :: .asg 85 (.lst []) :: .for_ [73, 101] (.ovr rowT) rowB1 :: fn43.body.drop 8) _ _
  refine XR.asgW ef (XR.asgW eg (XR.letters fits_SF (n := 141) (XR.asg eh (XR.asg (t := .i n) (s₁ := (8 : Nat)) (EV.bin (i := 5) (j := drawV xs 7 3) (fun H => congrArg (fun z => some (V.int z, H)) hn) EV.int (EV.draw (n := 137) (fun _ _ _ => rfl) rfl (by decide))) ?_))))
  refine XR.rows (n := 140) hm rfl (fun e he => ?_) (fun R => rows_F hm) rfl (main hf hg hw hv hm b1 b2 hk hk42 rfl rfl rfl rfl rfl rfl rfl rfl rfl rfl)
  simp only [List.mem_cons, List.not_mem_nil, or_false] at he
  rcases he with rfl | rfl | rfl | rfl | rfl | rfl | rfl | rfl | rfl | rfl <;> first | exact trivial | exact ⟨_, rfl⟩
end Mine
end

section
/-! The start; the law. -/
set_option maxRecDepth 100000
set_option linter.all false
namespace Mine
open PySem

theorem pool_go {n : Nat} {κ : List Nat} {H : Hp} : ∀ l : Z, compGo (run tbl SF (n + 2)) κ (.bi .int [(.var 98)]) [98] none [] ((toL l).map fun x => [x]) H = some (toL l, H)
  | [] => rfl
  | x :: l => compGo_cons (show (run tbl SF (n + 2)).ev κ (.bi .int [.var 98]) (En.sets [] [98] [.int x]) H = some (.int x, H) from rfl) (pool_go l)
theorem pool_ev {is : Z} : (run tbl SF 157).ev [0] poolE [(97, .ref 0)] [.lst (toL is)] = some (.ref 3, [.lst (toL is), .lst (toL (is.take 9)), .lst (toL (is.take 9)), .lst [.ref 2, .int (0 : Nat)]]) := by
  have ht : (toL is).take 9 = toL (is.take 9) := by unfold toL; rw [List.map_take]
  have q1 : (run tbl SF 155).ev [0] (.slTo (.var 97) (.int 9)) [(97, .ref 0)] [.lst (toL is)] = some (.ref 1, [.lst (toL is), .lst (toL (is.take 9))]) := by rw [← ht]; rfl
  have hi : iter (run tbl SF 155) [0] [98] (.ovr (.slTo (.var 97) (.int 9))) [(97, .ref 0)] [.lst (toL is)] = some ((toL (is.take 9)).map (fun x => [x]), [1, 0], [.lst (toL is), .lst (toL (is.take 9))]) := by
    unfold iter
    exact (bd_eq q1).trans rfl
  have q2 : (run tbl SF 156).ev [0] (.comp (.bi .int [(.var 98)]) [98] (.ovr (.slTo (.var 97) (.int 9))) none []) [(97, .ref 0)] [.lst (toL is)] = some (.ref 2, [.lst (toL is), .lst (toL (is.take 9)), .lst (toL (is.take 9))]) := by
    have h2 : compGo (run tbl SF 155) [1, 0] (.bi .int [(.var 98)]) [98] none (En.only [] [(97, .ref 0)]) ((toL (is.take 9)).map fun x => [x]) [.lst (toL is), .lst (toL (is.take 9))] = some (toL (is.take 9), [.lst (toL is), .lst (toL (is.take 9))]) := pool_go (n := 153) (is.take 9)
    exact ev_comp (S := SF) hi h2 (by rw [toL_len, List.length_take]; exact Nat.le_trans (Nat.min_le_left _ _) (show 9 ≤ maxLen by decide))
  have q3 : evs (run tbl SF 156) [0] [.comp (.bi .int [(.var 98)]) [98] (.ovr (.slTo (.var 97) (.int 9))) none [], .int 0] [(97, .ref 0)] [.lst (toL is)] = some ([.ref 2, .int 0], [.lst (toL is), .lst (toL (is.take 9)), .lst (toL (is.take 9))]) := (bd_eq q2).trans rfl
  exact (bd_eq q3).trans rfl
theorem pureAll (is : List Int) (hl : is.length ≤ 63) : ∃ H', Sd 690 43 [0] [.ref 0] [.lst (is.map .int)] (.boo true) H' := by
  have g : Cfg (Pl (is.take 9)) [(65, .c (.ref 3))] (0 : Nat) [0] (En.set [(97, .ref 0)] 65 (.ref 3)) [.lst (toL is), .lst (toL (is.take 9)), .lst (toL (is.take 9)), .lst [.ref 2, .int (0 : Nat)]] :=
    ⟨rfl, fun l e => by cases e; rfl, ⟨rfl, rfl⟩, Has.nil.set (t := .c (.ref 3)) rfl⟩
  refine body_ok (is.take 9) [0] _ _ g _ fun v ρ' H' e1 st l o => ?_
  obtain rfl : v = .boo true := o
  have hx : (run tbl SF 158).xs [0] fn43.body [(97, .ref 0)] [.lst (toL is)] = some (.ret (.boo true), ρ', H') := (bd_eq (bd_eq pool_ev)).trans e1
  exact ⟨H', (Sd.run (n := 159) SF_ok (cl_of (S := SF) (F := fn43) rfl rfl rfl hx)).mono (by decide)⟩
end Mine
end
open PySem PySem.W PyProof.Rows
set_option Elab.async false
set_option maxRecDepth 100000 in
set_option maxHeartbeats 8000000 in
theorem PySem.Challenge.cw_xm0139_01_holds : PySem.Challenge.rw_xm0139_01.Holds := by
  w_on
  o_law
  o_head Hook.none
  (case hw => w_witness2)
  w_strict (exact Mine.walk_ok rfl (by decide +kernel) (by decide +kernel) (by decide +kernel) (by decide +kernel) Mine.pureAll)
