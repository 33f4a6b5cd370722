import PyProof.Rows.All
import Wide.All
import OpenK.AllK
import Wide.FinOn
import HandS.ForMost
import HandS.ForExc
import HandS.More
import HandS.Defaults
import HandS.ExcInit
import HandS.ExcField
import HandS.CallSlots
import HandS.TryMany
import HandS.IsInst
import HandS.Wide
import HandS.WideBits
import HandS.Flow
import HandS.Style
import HandS.TupAny
import KE.KStateDown
import HandS.Ends
import HandS.EndBits
import HandS.Head0
import HandS.Head1
import HandS.Head2
import HandS.HeadEnd
import HandS.HeadHook1
import HandS.HeadHook2
import PySem.Challenge.RW_rowsjoined_k82_items_as_bits
set_option Elab.async false
set_option linter.all false
set_option maxRecDepth 100000
/-! Mini, part 1: a little semantics of its own: values W, a store of nodes, an expression as a function of the
names' values and the store. Nothing of the model stands in it but its texts' and keys' types. -/
namespace Mi
open PySem L2

/-- a value; a text is its codes; loc n: the n-th node of the store -/
inductive W where
  | non | bl (b : Bool) | int (i : Int) | str (s : List Nat) | loc (n : Nat) | raw (a : Nat)
  deriving DecidableEq, Inhabited
abbrev KW := Sum Int (List Nat)
/-- a node: a list, a tuple, a list that is only read (the script), a dict, a dict that is walked, an instance, an error's own dict -/
inductive Nd where
  | lst (xs : List W) | tup (xs : List W) | rol (xs : List W) | dic (kvs : List (KW × W)) | lkd (kvs : List (KW × W))
  | ins (c : Nat) (fs : List (Str × W)) | xd (fs : List (Str × W)) | rng (lo hi : Int)
  deriving DecidableEq, Inhabited
abbrev Sto := List Nd
abbrev Loc := List (Option W)
/-- what comes of an expression: a value; an error of a class with its dict; or nothing is said -/
inductive R (α : Type) where
  | ok (a : α) (st : Sto) | exc (c : Nat) (l : Nat) (st : Sto) | bad
def R.bind {α β : Type} (r : R α) (k : α → Sto → R β) : R β := match r with
  | .ok a st => k a st
  | .exc c l st => .exc c l st
  | .bad => .bad
@[simp] theorem R.bind_ok {α β : Type} (a : α) (st : Sto) (k : α → Sto → R β) : (R.ok a st).bind k = k a st := rfl
@[simp] theorem R.bind_exc {α β : Type} (c l : Nat) (st : Sto) (k : α → Sto → R β) : (R.exc c l st : R α).bind k = .exc c l st := rfl
@[simp] theorem R.bind_bad {α β : Type} (k : α → Sto → R β) : (R.bad : R α).bind k = .bad := rfl
theorem R.bind_assoc {α β γ : Type} (r : R α) (k : α → Sto → R β) (j : β → Sto → R γ) : (r.bind k).bind j = r.bind fun a st => (k a st).bind j := by
  cases r <;> rfl

abbrev ES := Loc → Sto → R W
abbrev EB := Loc → Sto → R Bool
abbrev AS := Loc → Sto → R (List W)
/-- the longest list or text that is made -/
abbrev big : Nat := 16777216

/-! ### values and nodes read -/
def nodeAt (st : Sto) : W → Option Nd
  | .loc n => st[n]?
  | _ => none
/-- the items of a list, a tuple -/
def listAt (st : Sto) (w : W) : Option (List W) := match nodeAt st w with
  | some (.lst xs) => some xs
  | some (.rol xs) => some xs
  | _ => none
def tupAt (st : Sto) (w : W) : Option (List W) := match nodeAt st w with
  | some (.tup xs) => some xs
  | _ => none
def seqAt (st : Sto) (w : W) : Option (List W) := match nodeAt st w with
  | some (.lst xs) => some xs
  | some (.rol xs) => some xs
  | some (.tup xs) => some xs
  | _ => none
def dicAt (st : Sto) (w : W) : Option (List (KW × W)) := match nodeAt st w with
  | some (.dic kvs) => some kvs
  | _ => none
/-- a new node -/
def new (n : Nd) (st : Sto) : R W := .ok (.loc st.length) (st ++ [n])
def newL (xs : List W) (st : Sto) : R W := if xs.length ≤ big then new (.lst xs) st else .bad
def newT (xs : List W) (st : Sto) : R W := if xs.length ≤ big then new (.tup xs) st else .bad
def truth (st : Sto) : W → Option Bool
  | .non => some false
  | .bl b => some b
  | .int i => some (i != 0)
  | .str s => if s.length ≤ big then some (!s.isEmpty) else none
  | .loc n => match st[n]? with
    | some (.lst xs) => some (!xs.isEmpty)
    | some (.rol xs) => some (!xs.isEmpty)
    | some (.tup xs) => some (!xs.isEmpty)
    | some (.dic kvs) => some (!kvs.isEmpty)
    | _ => none
  | .raw _ => none

/-! ### data: what a value holds, at any depth -/
inductive D where
  | non | bl (b : Bool) | int (i : Int) | str (s : List Nat) | lst (xs : List D) | tup (xs : List D)
def mapO {α β : Type} (f : α → Option β) : List α → Option (List β)
  | [] => some []
  | x :: xs => match f x with
    | some y => (mapO f xs).map (y :: ·)
    | none => none
/-- a value that is no object -/
def flatD : W → Option D
  | .non => some .non
  | .bl b => some (.bl b)
  | .int i => some (.int i)
  | .str s => if s.all (· < 1114112) then some (.str s) else none
  | .loc _ => none
  | .raw _ => none
def dataOf (st : Sto) : Nat → W → Option D
  | 0, w => flatD w
  | n + 1, w => match w with
    | .loc l => match st[l]? with
      | some (.lst xs) => (mapO (dataOf st n) xs).map .lst
      | some (.rol xs) => (mapO (dataOf st n) xs).map .lst
      | some (.tup xs) => (mapO (dataOf st n) xs).map .tup
      | _ => none
    | w => flatD w
/-- == of data, as Python says it: True is 1, False is 0; a list is no tuple -/
def b2i (b : Bool) : Int := if b then 1 else 0
mutual
def D.eqv : D → D → Bool
  | .non, .non => true
  | .bl a, .bl b => a == b
  | .bl a, .int j => b2i a == j
  | .int i, .bl b => i == b2i b
  | .int i, .int j => i == j
  | .str s, .str t => s == t
  | .lst xs, .lst ys => D.eqvAll xs ys
  | .tup xs, .tup ys => D.eqvAll xs ys
  | _, _ => false
def D.eqvAll : List D → List D → Bool
  | [], [] => true
  | x :: xs, y :: ys => D.eqv x y && D.eqvAll xs ys
  | _, _ => false
end
/-- data in a store -/
abbrev deep : Nat := 60
/-- pairs of scalars that are told apart at once -/
def scalW : W → W → Bool
  | .non, .non => true | .non, .int _ => true | .int _, .non => true | .non, .bl _ => true | .bl _, .non => true | .non, .str _ => true | .str _, .non => true
  | .int _, .int _ => true | .bl _, .bl _ => true | .str _, .str _ => true
  | .int _, .str _ => true | .str _, .int _ => true | .bl _, .str _ => true | .str _, .bl _ => true
  | _, _ => false
def weq (st : Sto) (a b : W) : Option Bool := if scalW a b then some (decide (a = b)) else match dataOf st deep a, dataOf st deep b with
  | some d, some e => some (D.eqv d e)
  | _, _ => none

/-! ### operations on values -/
def lift1 (o : Option W) (st : Sto) : R W := match o with
  | some w => .ok w st
  | none => .bad
def opAdd (x y : W) (st : Sto) : R W := match x, y with
  | .int i, .int j => .ok (.int (i + j)) st
  | .str s, .str t => if s.length + t.length ≤ big then .ok (.str (s ++ t)) st else .bad
  | .loc a, .loc b => match st[a]?, st[b]? with
    | some (.lst xs), some (.lst ys) => if xs.length + ys.length ≤ big then new (.lst (xs ++ ys)) st else .bad
    | some (.tup xs), some (.tup ys) => if xs.length + ys.length ≤ big then (if xs = [] then .ok y st else if ys = [] then .ok x st else new (.tup (xs ++ ys)) st) else .bad
    | _, _ => .bad
  | _, _ => .bad
def opSub (x y : W) (st : Sto) : R W := match x, y with
  | .int i, .int j => .ok (.int (i - j)) st
  | _, _ => .bad
def opMul (x y : W) (st : Sto) : R W := match x, y with
  | .int i, .int j => if Builtin.Int.intBits i + Builtin.Int.intBits j ≤ 134217728 then .ok (.int (i * j)) st else .bad
  | .loc a, .int k => match st[a]? with
    | some (.lst xs) => if (-9223372036854775808 ≤ k ∧ k < 9223372036854775808) ∧ xs.length * k.toNat ≤ big then new (.lst (List.replicate k.toNat xs).flatten) st else .bad
    | _ => .bad
  | _, _ => .bad
def opDiv (x y : W) (st : Sto) : R W := match x, y with
  | .int i, .int j => if 0 < j ∧ j.natAbs.log2 < 9000 then .ok (.int (i / j)) st else .bad
  | _, _ => .bad
def opMod (x y : W) (st : Sto) : R W := match x, y with
  | .int i, .int j => if 0 < j then .ok (.int (i % j)) st else .bad
  | _, _ => .bad
def opPow (x y : W) (st : Sto) : R W := match x, y with
  | .int i, .int j => if 0 ≤ j ∧ j ≤ 1000000 ∧ i.natAbs < 2 ^ 64 then .ok (.int (i ^ j.toNat)) st else .bad
  | _, _ => .bad
def opShl (x y : W) (st : Sto) : R W := match x, y with
  | .int i, .int j => if 0 ≤ j ∧ (Builtin.Int.intBits i : Int) + j ≤ 2 ^ 27 then .ok (.int (i * 2 ^ j.toNat)) st else .bad
  | _, _ => .bad
def opShr (x y : W) (st : Sto) : R W := match x, y with
  | .int i, .int j => if 0 ≤ j then .ok (.int (i / 2 ^ j.toNat)) st else .bad
  | _, _ => .bad
def opAnd (x y : W) (st : Sto) : R W := match x, y with
  | .int i, .int j => .ok (.int (Builtin.bitAnd i j)) st
  | _, _ => .bad
def opOr (x y : W) (st : Sto) : R W := match x, y with
  | .int i, .int j => .ok (.int (Builtin.bitOr i j)) st
  | _, _ => .bad
def opXor (x y : W) (st : Sto) : R W := match x, y with
  | .int i, .int j => .ok (.int (Builtin.bitXor i j)) st
  | _, _ => .bad
def opNeg (x : W) (st : Sto) : R W := match x with
  | .int i => .ok (.int (-i)) st
  | _ => .bad
/-- comparisons -/
def cmpI (p : Int → Int → Bool) (q : List Nat → List Nat → Option Bool) (x y : W) (st : Sto) : R W := match x, y with
  | .int i, .int j => .ok (.bl (p i j)) st
  | .str s, .str t => match q s t with
    | some b => .ok (.bl b) st
    | none => .bad
  | _, _ => .bad
def opLt : W → W → Sto → R W := cmpI (fun i j => decide (i < j)) (fun s t => some (decide (s < t)))
def opLe : W → W → Sto → R W := cmpI (fun i j => decide (i ≤ j)) (fun s t => some (!decide (t < s)))
def opGt : W → W → Sto → R W := cmpI (fun i j => decide (j < i)) (fun s t => some (decide (t < s)))
def opGe : W → W → Sto → R W := cmpI (fun i j => decide (j ≤ i)) (fun s t => some (!decide (s < t)))
def opEq (x y : W) (st : Sto) : R W := match weq st x y with
  | some b => .ok (.bl b) st
  | none => .bad
def opNe (x y : W) (st : Sto) : R W := match weq st x y with
  | some b => .ok (.bl (!b)) st
  | none => .bad
def opIsN (x : W) (st : Sto) : R W := .ok (.bl (decide (x = .non))) st
def opNotN (x : W) (st : Sto) : R W := .ok (.bl (!decide (x = .non))) st
/-- flat values and == of them -/
def flatW : W → Bool
  | .loc _ => false
  | .raw _ => false
  | _ => true
def eqF : W → W → Bool
  | .non, .non => true
  | .bl a, .bl b => a == b
  | .bl a, .int j => b2i a == j
  | .int i, .bl b => i == b2i b
  | .int i, .int j => i == j
  | .str s, .str t => s == t
  | _, _ => false
/-- a key of a dict -/
def keyOf : W → Option KW
  | .int i => some (.inl i)
  | .str s => some (.inr s)
  | _ => none
def kw : KW → W
  | .inl i => .int i
  | .inr s => .str s
def getK (kvs : List (KW × W)) (k : KW) : Option W := (kvs.find? fun kv => decide (kv.1 = k)).map (·.2)
/-- x in y: one sign in a text, a flat thing in a list or tuple of such, a key in a dict -/
def opIn (x y : W) (st : Sto) : R W := match x, y with
  | .str [c], .str t => .ok (.bl (decide (c ∈ t))) st
  | _, .loc l => match st[l]? with
    | some (.lst xs) => if flatW x && xs.all flatW then .ok (.bl (xs.any fun y => eqF y x)) st else .bad
    | some (.rol xs) => if flatW x && xs.all flatW then .ok (.bl (xs.any fun y => eqF y x)) st else .bad
    | some (.tup xs) => if flatW x && xs.all flatW then .ok (.bl (xs.any fun y => eqF y x)) st else .bad
    | _ => .bad
  | _, _ => .bad
/-- k in d -/
def opDin (x y : W) (st : Sto) : R W := match y with
  | .loc l => match st[l]? with
    | some (.dic kvs) => match keyOf x with
      | some k => .ok (.bl (getK kvs k).isSome) st
      | none => .bad
    | _ => .bad
  | _ => .bad
def notB (r : R W) : R W := r.bind fun w st => match w with
  | .bl b => .ok (.bl (!b)) st
  | _ => .bad
def opNotIn (x y : W) (st : Sto) : R W := notB (opIn x y st)
def opDnotin (x y : W) (st : Sto) : R W := notB (opDin x y st)
/-- an item; a slice -/
abbrev ixW {α : Type} (xs : List α) (i : Int) : Option α := L2.atI xs i
def opIx (x y : W) (st : Sto) : R W := match x, y with
  | .str s, .int i => if s.length ≤ big then match ixW s i with
      | some c => .ok (.str [c]) st
      | none => .bad
    else .bad
  | .loc l, y => match st[l]? with
    | some (.lst xs) => match y with
      | .int i => lift1 (ixW xs i) st
      | _ => .bad
    | some (.rol xs) => match y with
      | .int i => lift1 (ixW xs i) st
      | _ => .bad
    | some (.tup xs) => match y with
      | .int i => lift1 (ixW xs i) st
      | _ => .bad
    | _ => .bad
  | _, _ => .bad
/-- d[k] -/
def opDx (x y : W) (st : Sto) : R W := match x with
  | .loc l => match st[l]? with
    | some (.dic kvs) => match keyOf y with
      | some k => lift1 (getK kvs k) st
      | none => .bad
    | _ => .bad
  | _ => .bad
def cutW {α : Type} (xs : List α) (lo hi : Option Int) : List α := (xs.drop (HT.sIx xs.length 0 lo)).take (HT.sIx xs.length xs.length hi - HT.sIx xs.length 0 lo)
def opSl (x : W) (lo hi : Option Int) (st : Sto) : R W := match x with
  | .str s => if s.length ≤ big then .ok (.str (cutW s lo hi)) st else .bad
  | .loc l => match st[l]? with
    | some (.lst xs) => new (.lst (cutW xs lo hi)) st
    | some (.rol xs) => new (.lst (cutW xs lo hi)) st
    | some (.tup xs) => if HT.sIx xs.length 0 lo = 0 ∧ HT.sIx xs.length xs.length hi = xs.length then .ok x st else new (.tup (cutW xs lo hi)) st
    | _ => .bad
  | _ => .bad
/-- xs[::-1] -/
def opRev (x : W) (st : Sto) : R W := match x with
  | .loc l => match st[l]? with
    | some (.lst xs) => new (.lst xs.reverse) st
    | _ => .bad
  | _ => .bad

/-! ### expressions -/
def eC (w : W) : ES := fun _ st => .ok w st
def eV (i : Nat) : ES := fun ρ st => match ρ[i]? with
  | some (some w) => .ok w st
  | _ => .bad
def e1 (g : W → Sto → R W) (a : ES) : ES := fun ρ st => (a ρ st).bind g
def e2 (g : W → W → Sto → R W) (a b : ES) : ES := fun ρ st => (a ρ st).bind fun x st => (b ρ st).bind fun y st => g x y st
def aNil : AS := fun _ st => .ok [] st
def aCons (a : ES) (r : AS) : AS := fun ρ st => (a ρ st).bind fun x st => (r ρ st).bind fun xs st => .ok (x :: xs) st
def eN (g : List W → Sto → R W) (a : AS) : ES := fun ρ st => (a ρ st).bind g
def eTup (a : AS) : ES := eN newT a
def eLst (a : AS) : ES := eN newL a
/-- tests -/
def bT (a : ES) : EB := fun ρ st => (a ρ st).bind fun x st => match truth st x with
  | some b => .ok b st
  | none => .bad
/-- a test of an expression that is a truth -/
def bB (a : ES) : EB := fun ρ st => (a ρ st).bind fun x st => match x with
  | .bl b => .ok b st
  | _ => .bad
def bAnd (a b : EB) : EB := fun ρ st => (a ρ st).bind fun c st => if c then b ρ st else .ok false st
def bOr (a b : EB) : EB := fun ρ st => (a ρ st).bind fun c st => if c then .ok true st else b ρ st
def bNot (a : EB) : EB := fun ρ st => (a ρ st).bind fun c st => .ok (!c) st
def eIf (t : EB) (a b : ES) : ES := fun ρ st => (t ρ st).bind fun c st => if c then a ρ st else b ρ st
/-- and, or, not as values: the truth of the left one decides -/
def eAnd (a b : ES) : ES := fun ρ st => (a ρ st).bind fun x st => match truth st x with
  | some true => b ρ st
  | some false => .ok x st
  | none => .bad
def eOr (a b : ES) : ES := fun ρ st => (a ρ st).bind fun x st => match truth st x with
  | some true => .ok x st
  | some false => b ρ st
  | none => .bad
def eNot (a : ES) : ES := fun ρ st => (a ρ st).bind fun x st => match truth st x with
  | some b => .ok (.bl (!b)) st
  | none => .bad
/-- a chain of two comparisons -/
def eCh (g h : W → W → Sto → R W) (a b c : ES) : ES := fun ρ st => (a ρ st).bind fun x st => (b ρ st).bind fun y st => (g x y st).bind fun z st => match z with
  | .bl true => (c ρ st).bind fun w st => h y w st
  | .bl false => .ok (.bl false) st
  | _ => .bad
def oN : Loc → Sto → R (Option Int) := fun _ st => .ok none st
def oS (a : ES) : Loc → Sto → R (Option Int) := fun ρ st => (a ρ st).bind fun x st => match x with
  | .int i => .ok (some i) st
  | _ => .bad
def eSl (a : ES) (lo hi : Loc → Sto → R (Option Int)) : ES := fun ρ st => (a ρ st).bind fun x st => (lo ρ st).bind fun l st => (hi ρ st).bind fun h st => opSl x l h st

/-! ### what is walked -/
/-- what a turn gives: a value, or a tuple that is told by its items (enumerate, zip, items) -/
inductive Y where
  | v (w : W) | t (ws : List W)
/-- what has to stand while it is walked -/
abbrev Ck := List (Nat × Nd)
def ckOk (ck : Ck) (st : Sto) : Bool := ck.all fun p => decide (st[p.1]? = some p.2)
abbrev IS := Loc → Sto → R (List Y × Ck)
def iSeq (a : ES) : IS := fun ρ st => (a ρ st).bind fun x st => match x with
  | .loc l => match st[l]? with
    | some (.lst xs) => .ok (xs.map .v, [(l, .lst xs)]) st
    | some (.rol xs) => .ok (xs.map .v, [(l, .rol xs)]) st
    | some (.tup xs) => .ok (xs.map .v, [(l, .tup xs)]) st
    | _ => .bad
  | _ => .bad
def iStr (a : ES) : IS := fun ρ st => (a ρ st).bind fun x st => match x with
  | .str s => .ok (s.map fun c => .v (.str [c]), []) st
  | _ => .bad
def rng (lo hi : Int) : List Y := (List.range (hi - lo).toNat).map fun (i : Nat) => .v (.int (lo + (i : Int)))
def iRng1 (a : ES) : IS := fun ρ st => (a ρ st).bind fun x st => match x with
  | .int j => if (-4611686018427387904 ≤ j ∧ j < 4611686018427387904) then .ok (rng 0 j, []) st else .bad
  | _ => .bad
def iRng2 (a b : ES) : IS := fun ρ st => (a ρ st).bind fun x st => (b ρ st).bind fun y st => match x, y with
  | .int i, .int j => if (-4611686018427387904 ≤ i ∧ i < 4611686018427387904) ∧ (-4611686018427387904 ≤ j ∧ j < 4611686018427387904) then .ok (rng i j, []) st else .bad
  | _, _ => .bad
def iEnum (a : ES) : IS := fun ρ st => (a ρ st).bind fun x st => match x with
  | .loc l => match st[l]? with
    | some (.lst xs) => .ok (xs.zipIdx.map fun p => .t [.int p.2, p.1], [(l, .lst xs)]) st
    | some (.rol xs) => .ok (xs.zipIdx.map fun p => .t [.int p.2, p.1], [(l, .rol xs)]) st
    | _ => .bad
  | _ => .bad
def iZip (a b : ES) : IS := fun ρ st => (a ρ st).bind fun x st => (b ρ st).bind fun y st => match x, y with
  | .loc l, .loc m => match st[l]?, st[m]? with
    | some (.lst xs), some (.lst ys) => .ok (List.zipWith (fun p q => .t [p, q]) xs ys, [(l, .lst xs), (m, .lst ys)]) st
    | _, _ => .bad
  | _, _ => .bad
/-- targets -/
inductive Tg where
  | nm (i : Nat) | tp (ts : List Nat)
def setAll : List Nat → List W → Loc → Option Loc
  | [], [], ρ => some ρ
  | i :: is, w :: ws, ρ => setAll is ws (ρ.set i (some w))
  | _, _, _ => none
def asg (g : Tg) (y : Y) (ρ : Loc) (st : Sto) : Option Loc := match g, y with
  | .nm i, .v w => some (ρ.set i (some w))
  | .tp ts, .t ws => setAll ts ws ρ
  | .tp ts, .v w => match tupAt st w with
    | some ws => setAll ts ws ρ
    | none => none
  | _, _ => none
/-- the turns of a list comprehension; wp: its own names, whose values are gone behind each turn -/
def wipeL (ρ : Loc) : List Nat → Loc
  | [] => ρ
  | i :: is => (wipeL ρ is).set i none
def lcGo (ck : Ck) (g : Tg) (t : EB) (e : ES) (ρ : Loc) : List Y → List W → Sto → R (List W)
  | [], acc, st => if ckOk ck st then .ok acc st else .bad
  | y :: ys, acc, st => if ckOk ck st then match asg g y ρ st with
      | some ρ' => (t ρ' st).bind fun c st => if c then (e ρ' st).bind fun w st => if acc.length < big then lcGo ck g t e ρ ys (acc ++ [w]) st else .bad
          else lcGo ck g t e ρ ys acc st
      | none => .bad
    else .bad
def bYes : EB := fun _ st => .ok true st
def noExc {α : Type} (r : R α) : R α := match r with
  | .exc _ _ _ => .bad
  | r => r
def eLc (own : List Nat) (it : IS) (g : Tg) (t : EB) (e : ES) : ES := fun ρ st => (it ρ st).bind fun p st =>
  (noExc (lcGo p.2 g t e (wipeL ρ own) p.1 [] st)).bind fun acc st => new (.lst acc) st

/-- range(n), as a value; walked -/
def cRng (ws : List W) (st : Sto) : R W := match ws with
  | [.int j] => if (-4611686018427387904 ≤ j ∧ j < 4611686018427387904) then new (.rng 0 j) st else .bad
  | _ => .bad
def iRngV (a : ES) : IS := fun ρ st => (a ρ st).bind fun x st => match x with
  | .loc l => match st[l]? with
    | some (.rng lo hi) => if (-4611686018427387904 ≤ lo ∧ lo < 4611686018427387904) ∧ (-4611686018427387904 ≤ hi ∧ hi < 4611686018427387904) then .ok (rng lo hi, []) st else .bad
    | _ => .bad
  | _ => .bad
/-- a list comprehension of two for -/
def lcGo2 (ck : Ck) (g : Tg) (t : EB) (it1 : IS) (own1 : List Nat) (g1 : Tg) (t1 : EB) (e : ES) (ρ : Loc) : List Y → List W → Sto → R (List W)
  | [], acc, st => if ckOk ck st then .ok acc st else .bad
  | y :: ys, acc, st => if ckOk ck st then match asg g y ρ st with
      | some ρ' => (t ρ' st).bind fun c st => if c then (it1 ρ' st).bind fun p st => (lcGo p.2 g1 t1 e (wipeL ρ' own1) p.1 acc st).bind fun acc st => lcGo2 ck g t it1 own1 g1 t1 e ρ ys acc st
          else lcGo2 ck g t it1 own1 g1 t1 e ρ ys acc st
      | none => .bad
    else .bad
def eLc2 (own : List Nat) (it : IS) (g : Tg) (t : EB) (it1 : IS) (own1 : List Nat) (g1 : Tg) (t1 : EB) (e : ES) : ES := fun ρ st => (it ρ st).bind fun p st =>
  (noExc (lcGo2 p.2 g t it1 own1 g1 t1 e (wipeL ρ own) p.1 [] st)).bind fun acc st => new (.lst acc) st

/-! ### statements -/
inductive RS where
  | nx (ρ : Loc) (st : Sto) | rt (w : W) (st : Sto) | bk (ρ : Loc) (st : Sto) | ct (ρ : Loc) (st : Sto) | exc (c : Nat) (l : Nat) (ρ : Loc) (st : Sto) | bad
abbrev SS := Loc → Sto → RS
def R.toS {α : Type} (r : R α) (ρ : Loc) (k : α → Sto → RS) : RS := match r with
  | .ok a st => k a st
  | .exc c l st => .exc c l ρ st
  | .bad => .bad
@[simp] theorem R.toS_ok {α : Type} (a : α) (st : Sto) (ρ : Loc) (k : α → Sto → RS) : (R.ok a st).toS ρ k = k a st := rfl
@[simp] theorem R.toS_exc {α : Type} (c l : Nat) (st : Sto) (ρ : Loc) (k : α → Sto → RS) : (R.exc c l st : R α).toS ρ k = .exc c l ρ st := rfl
@[simp] theorem R.toS_bad {α : Type} (ρ : Loc) (k : α → Sto → RS) : (R.bad : R α).toS ρ k = .bad := rfl
def sNop : SS := fun ρ st => .nx ρ st
def RS.andThen (r : RS) (k : SS) : RS := match r with
  | .nx ρ st => k ρ st
  | r => r
@[simp] theorem RS.then_nx (ρ : Loc) (st : Sto) (k : SS) : (RS.nx ρ st).andThen k = k ρ st := rfl
@[simp] theorem RS.then_rt (w : W) (st : Sto) (k : SS) : (RS.rt w st).andThen k = .rt w st := rfl
@[simp] theorem RS.then_exc (c l : Nat) (ρ : Loc) (st : Sto) (k : SS) : (RS.exc c l ρ st).andThen k = .exc c l ρ st := rfl
@[simp] theorem RS.then_bk (ρ : Loc) (st : Sto) (k : SS) : (RS.bk ρ st).andThen k = .bk ρ st := rfl
@[simp] theorem RS.then_ct (ρ : Loc) (st : Sto) (k : SS) : (RS.ct ρ st).andThen k = .ct ρ st := rfl
@[simp] theorem RS.then_bad (k : SS) : RS.bad.andThen k = .bad := rfl
def sSeq (a b : SS) : SS := fun ρ st => (a ρ st).andThen b
def sSet (i : Nat) (e : ES) : SS := fun ρ st => (e ρ st).toS ρ fun w st => .nx (ρ.set i (some w)) st
/-- i, j = a, b -/
def sPar (is : List Nat) (a : AS) : SS := fun ρ st => (a ρ st).toS ρ fun ws st => match setAll is ws ρ with
  | some ρ' => .nx ρ' st
  | none => .bad
/-- targets = a tuple that stands -/
def sUnp (is : List Nat) (e : ES) : SS := fun ρ st => (e ρ st).toS ρ fun w st => match tupAt st w with
  | some ws => match setAll is ws ρ with
    | some ρ' => .nx ρ' st
    | none => .bad
  | none => .bad
def sDrop (e : ES) : SS := fun ρ st => (e ρ st).toS ρ fun _ st => .nx ρ st
def sRet (e : ES) : SS := fun ρ st => (e ρ st).toS ρ fun w st => .rt w st
def sRetN : SS := fun _ st => .rt .non st
def sIf (t : EB) (a b : SS) : SS := fun ρ st => (t ρ st).toS ρ fun c st => if c then a ρ st else b ρ st
def sBrk : SS := fun ρ st => .bk ρ st
def sCnt : SS := fun ρ st => .ct ρ st
/-- o[i] = v, by values -/
def putK (kvs : List (KW × W)) (k : KW) (v : W) : List (KW × W) :=
  if (kvs.any fun kv => decide (kv.1 = k)) = true then kvs.map (fun kv => if kv.1 = k then (kv.1, v) else kv) else kvs ++ [(k, v)]
def stSub (o i v : W) (st : Sto) : Option Sto := match o with
  | .loc l => match st[l]? with
    | some (.lst xs) => match i with
      | .int k => match L2.ixN xs.length k with
        | some j => some (st.set l (.lst (xs.set j v)))
        | none => none
      | _ => none
    | _ => none
  | _ => none
/-- d[k] = v, by values -/
def stDict (o i v : W) (st : Sto) : Option Sto := match o with
  | .loc l => match st[l]? with
    | some (.dic kvs) => match keyOf i with
      | some k => if kvs.length < big then some (st.set l (.dic (putK kvs k v))) else none
      | none => none
    | _ => none
  | _ => none
def sDict (o i e : ES) : SS := fun ρ st => (e ρ st).toS ρ fun v st => (o ρ st).toS ρ fun x st => (i ρ st).toS ρ fun y st => match stDict x y v st with
  | some st' => .nx ρ st'
  | none => .bad
def sSub (o i e : ES) : SS := fun ρ st => (e ρ st).toS ρ fun v st => (o ρ st).toS ρ fun x st => (i ρ st).toS ρ fun y st => match stSub x y v st with
  | some st' => .nx ρ st'
  | none => .bad
def forGo (ck : Ck) (g : Tg) (b : SS) : List Y → Loc → Sto → RS
  | [], ρ, st => if ckOk ck st then .nx ρ st else .bad
  | y :: ys, ρ, st => if ckOk ck st then match asg g y ρ st with
      | some ρ' => match b ρ' st with
        | .nx ρ2 st2 => forGo ck g b ys ρ2 st2
        | .ct ρ2 st2 => forGo ck g b ys ρ2 st2
        | .bk ρ2 st2 => .nx ρ2 st2
        | r => r
      | none => .bad
    else .bad
def sFor (it : IS) (g : Tg) (b : SS) : SS := fun ρ st => (it ρ st).toS ρ fun p st => forGo p.2 g b p.1 ρ st
def whileGo (t : EB) (b : SS) : Nat → Loc → Sto → RS
  | 0, _, _ => .bad
  | n + 1, ρ, st => (t ρ st).toS ρ fun c st => if c then match b ρ st with
      | .nx ρ2 st2 => whileGo t b n ρ2 st2
      | .ct ρ2 st2 => whileGo t b n ρ2 st2
      | .bk ρ2 st2 => .nx ρ2 st2
      | r => r
    else .nx ρ st
def fuel : Nat := 1000000000
def sWhile (t : EB) (b : SS) : SS := whileGo t b fuel

/-! ### methods and calls of built-ins, by values -/
def kList (x : W) (st : Sto) : Bool := (listAt st x).isSome
def kStr (x : W) (_ : Sto) : Bool := match x with
  | .str _ => true
  | _ => false
def kDict (x : W) (st : Sto) : Bool := (dicAt st x).isSome
/-- o.m(..), a method of a built-in type: k says that o is of it -/
def eM (k : W → Sto → Bool) (g : W → List W → Sto → R W) (o : ES) (a : AS) : ES := fun ρ st => (o ρ st).bind fun x st => if k x st then (a ρ st).bind fun ws st => g x ws st else .bad
def eM0 (k : W → Sto → Bool) (g : W → Sto → R W) (o : ES) : ES := fun ρ st => (o ρ st).bind fun x st => if k x st then g x st else .bad
def mAppend (x : W) (ws : List W) (st : Sto) : R W := match x, ws with
  | .loc l, [y] => match st[l]? with
    | some (.lst xs) => if xs.length < big then .ok .non (st.set l (.lst (xs ++ [y]))) else .bad
    | _ => .bad
  | _, _ => .bad
/-- list.pop(), list.pop(i) -/
def mPop0 (x : W) (st : Sto) : R W := match x with
  | .loc l => match st[l]? with
    | some (.lst xs) => match xs.getLast? with
      | some y => .ok y (st.set l (.lst xs.dropLast))
      | none => .bad
    | _ => .bad
  | _ => .bad
def dropK (kvs : List (KW × W)) (k : KW) : List (KW × W) := kvs.filter fun kv => decide (kv.1 ≠ k)
def mPop1 (x : W) (ws : List W) (st : Sto) : R W := match x, ws with
  | .loc l, [i] => match st[l]? with
    | some (.lst xs) => match i with
      | .int k => match L2.ixN xs.length k with
        | some j => match xs[j]? with
          | some y => if (-9223372036854775808 ≤ k ∧ k < 9223372036854775808) then .ok y (st.set l (.lst (xs.eraseIdx j))) else .bad
          | none => .bad
        | none => .bad
      | _ => .bad
    | _ => .bad
  | _, _ => .bad
/-- dict.pop(k), k is there -/
def mDPop (x : W) (ws : List W) (st : Sto) : R W := match x, ws with
  | .loc l, [i] => match st[l]? with
    | some (.dic kvs) => match keyOf i with
      | some k => match getK kvs k with
        | some y => .ok y (st.set l (.dic (dropK kvs k)))
        | none => .bad
      | none => .bad
    | _ => .bad
  | _, _ => .bad
def mClear (x : W) (st : Sto) : R W := match x with
  | .loc l => match st[l]? with
    | some (.lst _) => .ok .non (st.set l (.lst []))
    | _ => .bad
  | _ => .bad
def isPre (p s : List Nat) : Bool := s.take p.length == p
def mStarts (x : W) (ws : List W) (st : Sto) : R W := match x, ws with
  | .str a, [.str b] => .ok (.bl (isPre b a)) st
  | _, _ => .bad
def allStr : List W → Option (List (List Nat))
  | [] => some []
  | .str s :: r => (allStr r).map (s :: ·)
  | _ => none
def joinL (a : List Nat) : List (List Nat) → List Nat
  | [] => []
  | [x] => x
  | x :: y :: r => x ++ (a ++ joinL a (y :: r))
def mJoin (x : W) (ws : List W) (st : Sto) : R W := match x, ws with
  | .str a, [p] => match seqAt st p with
    | some xs => match allStr xs with
      | some ys => if (ys.map List.length).sum + ys.length * a.length ≤ 16777216 then .ok (.str (joinL a ys)) st else .bad
      | none => .bad
    | none => .bad
  | _, _ => .bad
def mGet2 (x : W) (ws : List W) (st : Sto) : R W := match x, ws with
  | .loc l, [i, d] => match st[l]? with
    | some (.dic kvs) => match keyOf i with
      | some k => .ok ((getK kvs k).getD d) st
      | none => .bad
    | _ => .bad
  | _, _ => .bad
def cLen (ws : List W) (st : Sto) : R W := match ws with
  | [.str s] => if s.length ≤ big then .ok (.int s.length) st else .bad
  | [.loc l] => match st[l]? with
    | some (.lst xs) => .ok (.int xs.length) st
    | some (.rol xs) => .ok (.int xs.length) st
    | some (.tup xs) => .ok (.int xs.length) st
    | some (.dic kvs) => .ok (.int kvs.length) st
    | _ => .bad
  | _ => .bad
def cMax2 (ws : List W) (st : Sto) : R W := match ws with
  | [.int i, .int j] => .ok (.int (if j > i then j else i)) st
  | _ => .bad
def cMin2 (ws : List W) (st : Sto) : R W := match ws with
  | [.int i, .int j] => .ok (.int (if j < i then j else i)) st
  | _ => .bad
def cInt (ws : List W) (st : Sto) : R W := match ws with
  | [.int i] => .ok (.int i) st
  | [.bl b] => .ok (.int (if b then 1 else 0)) st
  | _ => .bad
def cList (ws : List W) (st : Sto) : R W := match ws with
  | [w] => match seqAt st w with
    | some xs => new (.lst xs) st
    | none => .bad
  | _ => .bad
def cTuple (ws : List W) (st : Sto) : R W := match ws with
  | [.loc l] => match st[l]? with
    | some (.lst xs) => new (.tup xs) st
    | some (.rol xs) => new (.tup xs) st
    | some (.tup _) => .ok (.loc l) st
    | _ => .bad
  | _ => .bad
def allBl : List W → Option (List Bool)
  | [] => some []
  | .bl b :: r => (allBl r).map (b :: ·)
  | _ => none
def allInt : List W → Option (List Int)
  | [] => some []
  | .int b :: r => (allInt r).map (b :: ·)
  | _ => none
def cAll (ws : List W) (st : Sto) : R W := match ws with
  | [w] => match listAt st w with
    | some xs => match allBl xs with
      | some bs => .ok (.bl (bs.all id)) st
      | none => .bad
    | none => .bad
  | _ => .bad
def cAny (ws : List W) (st : Sto) : R W := match ws with
  | [w] => match listAt st w with
    | some xs => match allBl xs with
      | some bs => .ok (.bl (bs.any id)) st
      | none => .bad
    | none => .bad
  | _ => .bad
def cSum (ws : List W) (st : Sto) : R W := match ws with
  | [w] => match listAt st w with
    | some xs => match allInt xs with
      | some bs => .ok (.int bs.sum) st
      | none => .bad
    | none => .bad
  | _ => .bad
/-- the built-in types that a value is an instance of -/
inductive Ty where
  | int | bool | str | list | tuple | dict
  deriving DecidableEq
def isA (st : Sto) (t : Ty) : W → Option Bool
  | .non => some false
  | .bl _ => some (t == .bool || t == .int)
  | .int _ => some (t == .int)
  | .str _ => some (t == .str)
  | .loc l => match st[l]? with
    | some (.lst _) => some (t == .list)
    | some (.rol _) => some (t == .list)
    | some (.tup _) => some (t == .tuple)
    | some (.dic _) => some (t == .dict)
    | _ => none
  | .raw _ => none
def isAny (st : Sto) (ts : List Ty) (w : W) : Option Bool := match ts with
  | [] => some false
  | t :: r => match isA st t w, isAny st r w with
    | some a, some b => some (a || b)
    | _, _ => none
def eIsi (a : ES) (ts : List Ty) : ES := fun ρ st => (a ρ st).bind fun w st => match isAny st ts w with
  | some b => .ok (.bl b) st
  | none => .bad
/-- {}: a new dict -/
def eDict0 : ES := fun _ st => new (.dic []) st

/-! ### defs -/
abbrev Fs := Nat → List W → Sto → R W
def RS.fin (r : RS) : R W := match r with
  | .nx _ st => .ok .non st
  | .rt w st => .ok w st
  | .exc c l _ st => .exc c l st
  | _ => .bad
@[simp] theorem RS.fin_nx (ρ : Loc) (st : Sto) : (RS.nx ρ st).fin = .ok .non st := rfl
@[simp] theorem RS.fin_rt (w : W) (st : Sto) : (RS.rt w st).fin = .ok w st := rfl
@[simp] theorem RS.fin_exc (c l : Nat) (ρ : Loc) (st : Sto) : (RS.exc c l ρ st).fin = .exc c l st := rfl
@[simp] theorem RS.fin_bad : RS.bad.fin = .bad := rfl
/-- a def of ps parameters and n names -/
def dfn (ps n : Nat) (b : SS) (ws : List W) (st : Sto) : R W := if ws.length = ps then (b (ws.map some ++ List.replicate (n - ps) none) st).fin else .bad
/-- raise C(e) -/
def sRaise (c : Nat) (fs : List Str) (a : AS) : SS := fun ρ st => (a ρ st).toS ρ fun ws st => if ws.length = fs.length then .exc c st.length ρ (st ++ [.xd (fs.zip ws)]) else .bad
/-- try: b except ..: each clause's suite is told the place of the error's dict; a clause that names the error has its slot -/
inductive Hd where
  | mk (p : Nat → Bool) (s : Nat → SS)
def RS.noExc (r : RS) : RS := match r with
  | .exc _ _ _ _ => .bad
  | r => r
/-- a clause's suite with the error's name in the slot i -/
def hAs (i : Nat) (s : SS) : SS := fun ρ st => match s (ρ.set i none) st with
  | .nx ρ' st' => .nx (ρ'.set i none) st'
  | .bk ρ' st' => .bk (ρ'.set i none) st'
  | .ct ρ' st' => .ct (ρ'.set i none) st'
  | r => r
def hGo (c l : Nat) (ρ : Loc) (st : Sto) : List Hd → RS
  | [] => .exc c l ρ st
  | .mk p s :: r => if p c then (s l ρ st).noExc else hGo c l ρ st r
def sTry (b : SS) (hs : List Hd) : SS := fun ρ st => match b ρ st with
  | .exc c l ρ' st' => hGo c l ρ' st' hs
  | r => r
/-- e.f in a suite, e the error -/
def eFld (l : Nat) (f : Str) : ES := fun _ st => match st[l]? with
  | some (.xd fs) => lift1 (fs.lookup f) st
  | _ => .bad
/-- .. where the error's name is in the slot i -/
def eFldR (i a l : Nat) (f : Str) : ES := fun ρ st => if ρ[i]? = some (some (.raw a)) then eFld l f ρ st else .bad
def hAsR (i a : Nat) (s : SS) : SS := fun ρ st => match s (ρ.set i (some (.raw a))) st with
  | .nx ρ' st' => .nx (ρ'.set i none) st'
  | .bk ρ' st' => .bk (ρ'.set i none) st'
  | .ct ρ' st' => .ct (ρ'.set i none) st'
  | r => r
/-- a codes of a written text -/
def tx (s : String) : List Nat := (PySem.Str.ofString s).cps.toList
end Mi

set_option Elab.async false
set_option linter.all false
set_option maxRecDepth 100000
set_option maxHeartbeats 4000000
/-! Mini, part 2: the store against the abstract heap: m[l] is the address of the node l. -/
namespace Mi
open PySem L2
set_option autoImplicit false

def S (s : List Nat) : Str := ⟨s.toArray⟩
theorem S_len (s : List Nat) : (S s).length = s.length := by
  show s.toArray.size = s.length
  simp
theorem S_inj {s t : List Nat} (h : S s = S t) : s = t := by
  have e : s.toArray = t.toArray := congrArg Str.cps h
  simpa using e
theorem S_cps (x : Str) : S x.cps.toList = x := by
  cases x
  simp [S]
theorem S_app (s t : List Nat) : S s ++ S t = S (s ++ t) := by
  show (⟨s.toArray ++ t.toArray⟩ : Str) = ⟨(s ++ t).toArray⟩
  simp

/-! ### values -/
def RW (m : List Addr) : W → V → Prop
  | .non, v => v = .non
  | .bl b, v => v = .bl b
  | .int i, v => v = .int i
  | .str s, v => v = .str (S s)
  | .loc n, v => ∃ a, m[n]? = some a ∧ v = .ref a
  | .raw a, v => v = .ref a
abbrev RWs (m : List Addr) : List W → List V → Prop := Paired (RW m)
theorem pre_get {m m' : List Addr} (h : m <+: m') {n : Nat} {a : Addr} (e : m[n]? = some a) : m'[n]? = some a := by
  obtain ⟨r, rfl⟩ := h
  obtain ⟨hn, _⟩ := List.getElem?_eq_some_iff.mp e
  rw [List.getElem?_append_left hn]
  exact e
theorem RW.mono {m m' : List Addr} (h : m <+: m') : ∀ {w : W} {v : V}, RW m w v → RW m' w v
  | .non, _, r => r
  | .bl _, _, r => r
  | .int _, _, r => r
  | .str _, _, r => r
  | .raw _, _, r => r
  | .loc _, _, r => by
    obtain ⟨a, e, q⟩ := r
    exact ⟨a, pre_get h e, q⟩
theorem RWs.mono {m m' : List Addr} (h : m <+: m') {ws : List W} {vs : List V} (r : RWs m ws vs) : RWs m' ws vs := Paired.mapP r fun _ _ q => q.mono h
theorem RW.fn {m : List Addr} : ∀ {w : W} {v u : V}, RW m w v → RW m w u → v = u
  | .non, _, _, r, q => r.trans q.symm
  | .bl _, _, _, r, q => r.trans q.symm
  | .int _, _, _, r, q => r.trans q.symm
  | .str _, _, _, r, q => r.trans q.symm
  | .raw _, _, _, r, q => r.trans q.symm
  | .loc _, _, _, r, q => by
    obtain ⟨a, e, z⟩ := r
    obtain ⟨b, e', z'⟩ := q
    rw [e] at e'
    cases e'
    rw [z, z']
theorem RWs.fn {m : List Addr} : ∀ {ws : List W} {vs us : List V}, RWs m ws vs → RWs m ws us → vs = us
  | _, _, _, .nil, .nil => rfl
  | _, _, _, .cons r t, .cons r' t' => by rw [r.fn r', RWs.fn t t']
theorem RWs.get {m : List Addr} : ∀ {ws : List W} {vs : List V} {i : Nat} {w : W}, RWs m ws vs → ws[i]? = some w → ∃ v, vs[i]? = some v ∧ RW m w v
  | _, _, _, _, .nil, e => by simp at e
  | _, _, 0, _, .cons r _, e => by
    simp at e
    subst e
    exact ⟨_, rfl, r⟩
  | _, _, i + 1, w, .cons _ t, e => by
    obtain ⟨v, h1, h2⟩ := RWs.get (i := i) (w := w) t (by simpa using e)
    exact ⟨v, by simpa using h1, h2⟩
theorem RWs.get' {m : List Addr} : ∀ {ws : List W} {vs : List V} {i : Nat} {v : V}, RWs m ws vs → vs[i]? = some v → ∃ w, ws[i]? = some w ∧ RW m w v
  | _, _, _, _, .nil, e => by simp at e
  | _, _, 0, _, .cons r _, e => by
    simp at e
    subst e
    exact ⟨_, rfl, r⟩
  | _, _, i + 1, w, .cons _ t, e => by
    obtain ⟨v, h1, h2⟩ := RWs.get' (i := i) (v := w) t (by simpa using e)
    exact ⟨v, by simpa using h1, h2⟩
theorem RWs.append {m : List Addr} : ∀ {xs ys : List W} {us vs : List V}, RWs m xs us → RWs m ys vs → RWs m (xs ++ ys) (us ++ vs)
  | _, _, _, _, .nil, s => s
  | _, _, _, _, .cons r t, s => .cons r (RWs.append t s)
theorem RWs.set {m : List Addr} {w : W} {v : V} (r : RW m w v) : ∀ {ws : List W} {vs : List V} (i : Nat), RWs m ws vs → RWs m (ws.set i w) (vs.set i v)
  | _, _, _, .nil => .nil
  | _, _, 0, .cons _ t => .cons r t
  | _, _, i + 1, .cons q t => .cons q (RWs.set r i t)
theorem RWs.take {m : List Addr} : ∀ {ws : List W} {vs : List V} (n : Nat), RWs m ws vs → RWs m (ws.take n) (vs.take n)
  | _, _, 0, _ => .nil
  | _, _, _ + 1, .nil => .nil
  | _, _, n + 1, .cons r t => .cons r (RWs.take n t)
theorem RWs.drop {m : List Addr} : ∀ {ws : List W} {vs : List V} (n : Nat), RWs m ws vs → RWs m (ws.drop n) (vs.drop n)
  | _, _, 0, r => r
  | _, _, _ + 1, .nil => .nil
  | _, _, n + 1, .cons _ t => RWs.drop n t
theorem RWs.length {m : List Addr} {ws : List W} {vs : List V} (r : RWs m ws vs) : ws.length = vs.length := Paired.length r
theorem RWs.reverse {m : List Addr} : ∀ {ws : List W} {vs : List V}, RWs m ws vs → RWs m ws.reverse vs.reverse
  | _, _, .nil => .nil
  | _, _, .cons r t => by
    rw [List.reverse_cons, List.reverse_cons]
    exact RWs.append (RWs.reverse t) (.cons r .nil)
theorem RWs.erase {m : List Addr} : ∀ {ws : List W} {vs : List V} (i : Nat), RWs m ws vs → RWs m (ws.eraseIdx i) (vs.eraseIdx i)
  | _, _, _, .nil => .nil
  | _, _, 0, .cons _ t => t
  | _, _, i + 1, .cons q t => .cons q (RWs.erase i t)
theorem RWs.dropLast {m : List Addr} {ws : List W} {vs : List V} (r : RWs m ws vs) : RWs m ws.dropLast vs.dropLast := by
  rw [List.dropLast_eq_take, List.dropLast_eq_take, r.length]
  exact r.take _
theorem RWs.rep {m : List Addr} {ws : List W} {vs : List V} (r : RWs m ws vs) : ∀ k : Nat, RWs m (List.replicate k ws).flatten (List.replicate k vs).flatten
  | 0 => .nil
  | k + 1 => by
    rw [List.replicate_succ, List.replicate_succ, List.flatten_cons, List.flatten_cons]
    exact r.append (RWs.rep r k)

/-! ### the names' values -/
structure RE (m : List Addr) (ρ : Loc) (σ : St) : Prop where
  len : ρ.length = σ.length
  at_ : ∀ (i : Nat) (w : W), ρ[i]? = some (some w) → ∃ v, σ[i]? = some (some v) ∧ RW m w v
theorem RE.mono {m m' : List Addr} {ρ : Loc} {σ : St} (r : RE m ρ σ) (h : m <+: m') : RE m' ρ σ := ⟨r.len, fun i w e => by
  obtain ⟨v, e', q⟩ := r.at_ i w e
  exact ⟨v, e', q.mono h⟩⟩
theorem RE.set {m : List Addr} {ρ : Loc} {σ : St} {w : W} {v : V} (r : RE m ρ σ) (q : RW m w v) (i : Nat) : RE m (ρ.set i (some w)) (σ.set i (some v)) := ⟨by rw [List.length_set, List.length_set]; exact r.len, fun j u e => by
  by_cases h : i = j
  · subst h
    by_cases hi : i < ρ.length
    · rw [List.getElem?_set_self hi] at e
      cases e
      exact ⟨v, List.getElem?_set_self (by rw [← r.len]; exact hi), q⟩
    · rw [List.getElem?_eq_none (by rw [List.length_set]; omega)] at e
      cases e
  · rw [List.getElem?_set_ne h] at e ⊢
    exact r.at_ j u e⟩
theorem RE.setNone {m : List Addr} {ρ : Loc} {σ : St} (r : RE m ρ σ) (i : Nat) (o : Option V) : RE m (ρ.set i none) (σ.set i o) := ⟨by rw [List.length_set, List.length_set]; exact r.len, fun j u e => by
  by_cases h : i = j
  · subst h
    by_cases hi : i < ρ.length
    · rw [List.getElem?_set_self hi] at e
      cases e
    · rw [List.getElem?_eq_none (by rw [List.length_set]; omega)] at e
      cases e
  · rw [List.getElem?_set_ne h] at e ⊢
    exact r.at_ j u e⟩
theorem RE.wipe {m : List Addr} {ρ : Loc} {σ : St} (r : RE m ρ σ) : ∀ vs : List Nat, RE m (wipeL ρ vs) (L2.wipe σ vs)
  | [] => r
  | v :: vs => (RE.wipe r vs).setNone v none
theorem RE.start {m : List Addr} {ws : List W} {vs : List V} (r : RWs m ws vs) (n : Nat) : RE m (ws.map some ++ List.replicate n none) (vs.map some ++ List.replicate n none) := ⟨by simp [r.length], fun i w e => by
  by_cases h : i < ws.length
  · rw [List.getElem?_append_left (by simpa using h), List.getElem?_map] at e
    cases e1 : ws[i]? with
    | none =>
      rw [e1] at e
      cases e
    | some u =>
      rw [e1] at e
      cases e
      obtain ⟨v, h1, h2⟩ := r.get e1
      exact ⟨v, by rw [List.getElem?_append_left (by simp only [List.length_map, ← r.length]; exact h), List.getElem?_map, h1]; rfl, h2⟩
  · rw [List.getElem?_append_right (by simpa using h), List.getElem?_replicate] at e
    split at e <;> cases e⟩

/-! ### nodes -/
def kk : KW → Key
  | .inl i => .inl i
  | .inr s => .inr (S s)
theorem kk_inj {a b : KW} (h : kk a = kk b) : a = b := by
  cases a <;> cases b <;> simp [kk] at h ⊢
  · exact h
  · exact S_inj h
abbrev RKV (m : List Addr) : List (KW × W) → List (Key × V) → Prop := Paired fun p q => kk p.1 = q.1 ∧ RW m p.2 q.2
abbrev RFs (m : List Addr) : List (Str × W) → List (Str × V) → Prop := Paired fun p q => p.1 = q.1 ∧ RW m p.2 q.2
theorem RKV.mono {m m' : List Addr} (h : m <+: m') {ws : List (KW × W)} {vs : List (Key × V)} (r : RKV m ws vs) : RKV m' ws vs := Paired.mapP r fun _ _ q => ⟨q.1, q.2.mono h⟩
theorem RFs.mono {m m' : List Addr} (h : m <+: m') {ws : List (Str × W)} {vs : List (Str × V)} (r : RFs m ws vs) : RFs m' ws vs := Paired.mapP r fun _ _ q => ⟨q.1, q.2.mono h⟩
/-- a list that is only read: locked -/
def Rol (H : Hp) (a : Addr) (vs : List V) : Prop := ∃ o, H a = some (.frz o (.lst vs))
theorem Rol.sq {K : PySem.W.Frag} {H : Hp} {a : Addr} {vs : List V} (h : Rol H a vs) : SqL K H a vs := by
  obtain ⟨o, h⟩ := h
  exact .inl (.inr ⟨o, h⟩)
/-- cls: where the class of a number stands; px: nodes whose addresses are known (an error's dict, in an except suite) -/
structure Ca where
  cls : Nat → Option Addr
  px : List (Nat × Addr)
/-- K: the written part -/
structure G0 where
  K : PySem.W.Frag
  ca : Ca
def At (G : G0) (m : List Addr) (H : Hp) (a : Addr) : Nd → Prop
  | .lst xs => ∃ vs, H a = some (.lst vs) ∧ RWs m xs vs
  | .tup xs => ∃ vs, H a = some (.tup vs) ∧ RWs m xs vs
  | .rol xs => ∃ vs, Rol H a vs ∧ RWs m xs vs
  | .dic kvs => ∃ es, H a = some (.dK es) ∧ RKV m kvs es
  | .lkd kvs => ∃ o es, H a = some (.frz o (.dK es)) ∧ RKV m kvs es
  | .ins c fs => ∃ C dx es, G.ca.cls c = some C ∧ H a = some (.ins C dx es) ∧ RFs m fs es
  | .xd fs => ∃ es, H a = some (.xd es) ∧ RFs m fs es
  | .rng lo hi => H a = some (.rng lo hi)
theorem At.mono {G : G0} {m m' : List Addr} (h : m <+: m') {H : Hp} {a : Addr} : ∀ {n : Nd}, At G m H a n → At G m' H a n
  | .lst _, ⟨vs, e, r⟩ => ⟨vs, e, r.mono h⟩
  | .tup _, ⟨vs, e, r⟩ => ⟨vs, e, r.mono h⟩
  | .rol _, ⟨vs, e, r⟩ => ⟨vs, e, r.mono h⟩
  | .dic _, ⟨vs, e, r⟩ => ⟨vs, e, r.mono h⟩
  | .lkd _, ⟨o, vs, e, r⟩ => ⟨o, vs, e, r.mono h⟩
  | .ins _ _, ⟨C, dx, vs, c, e, r⟩ => ⟨C, dx, vs, c, e, r.mono h⟩
  | .xd _, ⟨vs, e, r⟩ => ⟨vs, e, r.mono h⟩
  | .rng _ _, e => e
/-- what stands at a node's address stays -/
theorem At.stay {G : G0} {m : List Addr} {H H' : Hp} {a : Addr} (h : ∀ o, H a = some o → H' a = some o) : ∀ {n : Nd}, At G m H a n → At G m H' a n
  | .lst _, ⟨vs, e, r⟩ => ⟨vs, h _ e, r⟩
  | .tup _, ⟨vs, e, r⟩ => ⟨vs, h _ e, r⟩
  | .rol _, ⟨vs, ⟨o, e⟩, r⟩ => ⟨vs, ⟨o, h _ e⟩, r⟩
  | .dic _, ⟨vs, e, r⟩ => ⟨vs, h _ e, r⟩
  | .lkd _, ⟨o, vs, e, r⟩ => ⟨o, vs, h _ e, r⟩
  | .ins _ _, ⟨C, dx, vs, c, e, r⟩ => ⟨C, dx, vs, c, h _ e, r⟩
  | .xd _, ⟨vs, e, r⟩ => ⟨vs, h _ e, r⟩
  | .rng _ _, e => h _ e
theorem At.some {G : G0} {m : List Addr} {H : Hp} {a : Addr} : ∀ {n : Nd}, At G m H a n → ∃ o, H a = some o
  | .lst _, ⟨_, e, _⟩ => ⟨_, e⟩
  | .tup _, ⟨_, e, _⟩ => ⟨_, e⟩
  | .rol _, ⟨_, ⟨_, e⟩, _⟩ => ⟨_, e⟩
  | .dic _, ⟨_, e, _⟩ => ⟨_, e⟩
  | .lkd _, ⟨_, _, e, _⟩ => ⟨_, e⟩
  | .ins _ _, ⟨_, _, _, _, e, _⟩ => ⟨_, e⟩
  | .xd _, ⟨_, e, _⟩ => ⟨_, e⟩
  | .rng _ _, e => ⟨_, e⟩
structure Sim (G : G0) (m : List Addr) (st : Sto) (H : Hp) : Prop where
  len : m.length = st.length
  at_ : ∀ (i : Nat) (a : Addr) (n : Nd), m[i]? = some a → st[i]? = some n → At G m H a n
  nd : m.Nodup
  px : ∀ p ∈ G.ca.px, m[p.1]? = some p.2
/-- what is tracked and no node of the store stays, and becomes none -/
def Fr (m : List Addr) (H : Hp) (m' : List Addr) (H' : Hp) : Prop := ∀ a o, H a = some o → a ∉ m → H' a = some o ∧ a ∉ m'
theorem Fr.refl {m : List Addr} {H : Hp} : Fr m H m H := fun _ _ h n => ⟨h, n⟩
theorem Fr.trans {m m1 m2 : List Addr} {H H1 H2 : Hp} (a : Fr m H m1 H1) (b : Fr m1 H1 m2 H2) : Fr m H m2 H2 := fun x o h n =>
  let ⟨h1, n1⟩ := a x o h n
  b x o h1 n1
section
variable {G : G0} {m : List Addr} {st : Sto} {H : Hp}
theorem Sim.get (s : Sim G m st H) {l : Nat} {n : Nd} (e : st[l]? = some n) : ∃ a, m[l]? = some a ∧ At G m H a n := by
  have hl : l < m.length := by
    rw [s.len]
    exact (List.getElem?_eq_some_iff.mp e).1
  exact ⟨m[l], List.getElem?_eq_getElem hl, s.at_ l _ n (List.getElem?_eq_getElem hl) e⟩
theorem Sim.ref (s : Sim G m st H) {l : Nat} {n : Nd} {v : V} (e : st[l]? = some n) (r : RW m (.loc l) v) : ∃ a, v = .ref a ∧ m[l]? = some a ∧ At G m H a n := by
  obtain ⟨a, h1, rfl⟩ := r
  exact ⟨a, rfl, h1, s.at_ l a n h1 e⟩
theorem Sim.lst (s : Sim G m st H) {l : Nat} {xs : List W} {v : V} (e : st[l]? = some (.lst xs)) (r : RW m (.loc l) v) : ∃ a vs, v = .ref a ∧ H a = some (.lst vs) ∧ RWs m xs vs ∧ m[l]? = some a := by
  obtain ⟨a, h1, h2, vs, h3, h4⟩ := s.ref e r
  exact ⟨a, vs, h1, h3, h4, h2⟩
theorem Sim.tup (s : Sim G m st H) {l : Nat} {xs : List W} {v : V} (e : st[l]? = some (.tup xs)) (r : RW m (.loc l) v) : ∃ a vs, v = .ref a ∧ H a = some (.tup vs) ∧ RWs m xs vs ∧ m[l]? = some a := by
  obtain ⟨a, h1, h2, vs, h3, h4⟩ := s.ref e r
  exact ⟨a, vs, h1, h3, h4, h2⟩
theorem Sim.rol (s : Sim G m st H) {l : Nat} {xs : List W} {v : V} (e : st[l]? = some (.rol xs)) (r : RW m (.loc l) v) : ∃ a vs, v = .ref a ∧ Rol H a vs ∧ RWs m xs vs ∧ m[l]? = some a := by
  obtain ⟨a, h1, h2, vs, h3, h4⟩ := s.ref e r
  exact ⟨a, vs, h1, h3, h4, h2⟩
theorem Sim.dic (s : Sim G m st H) {l : Nat} {xs : List (KW × W)} {v : V} (e : st[l]? = some (.dic xs)) (r : RW m (.loc l) v) : ∃ a vs, v = .ref a ∧ H a = some (.dK vs) ∧ RKV m xs vs ∧ m[l]? = some a := by
  obtain ⟨a, h1, h2, vs, h3, h4⟩ := s.ref e r
  exact ⟨a, vs, h1, h3, h4, h2⟩
theorem Sim.lists (s : Sim G m st H) {w : W} {xs : List W} {v : V} (e : listAt st w = some xs) (r : RW m w v) : ∃ a vs, v = .ref a ∧ SqL G.K H a vs ∧ RWs m xs vs := by
  cases w with
  | loc l =>
    unfold listAt nodeAt at e
    cases q : st[l]? with
    | none => simp [q] at e
    | some n =>
      cases n with
      | lst ys =>
        simp only [q] at e
        cases e
        obtain ⟨a, vs, h1, h2, h3, _⟩ := s.lst q r
        exact ⟨a, vs, h1, .of h2, h3⟩
      | rol ys =>
        simp only [q] at e
        cases e
        obtain ⟨a, vs, h1, h2, h3, _⟩ := s.rol q r
        exact ⟨a, vs, h1, h2.sq, h3⟩
      | _ => simp [q] at e
  | _ => simp [listAt, nodeAt] at e
theorem Sim.tups (s : Sim G m st H) {w : W} {xs : List W} {v : V} (e : tupAt st w = some xs) (r : RW m w v) : ∃ a vs, v = .ref a ∧ SqT G.K H a vs ∧ RWs m xs vs := by
  cases w with
  | loc l =>
    unfold tupAt nodeAt at e
    cases q : st[l]? with
    | none => simp [q] at e
    | some n =>
      cases n with
      | tup ys =>
        simp only [q] at e
        cases e
        obtain ⟨a, vs, h1, h2, h3, _⟩ := s.tup q r
        exact ⟨a, vs, h1, .of h2, h3⟩
      | _ => simp [q] at e
  | _ => simp [tupAt, nodeAt] at e
theorem Sim.seqs (s : Sim G m st H) {w : W} {xs : List W} {v : V} (e : seqAt st w = some xs) (r : RW m w v) : ∃ a vs, v = .ref a ∧ (SqL G.K H a vs ∨ SqT G.K H a vs) ∧ RWs m xs vs := by
  cases w with
  | loc l =>
    unfold seqAt nodeAt at e
    cases q : st[l]? with
    | none => simp [q] at e
    | some n =>
      cases n with
      | lst ys =>
        simp only [q] at e
        cases e
        obtain ⟨a, vs, h1, h2, h3, _⟩ := s.lst q r
        exact ⟨a, vs, h1, .inl (.of h2), h3⟩
      | rol ys =>
        simp only [q] at e
        cases e
        obtain ⟨a, vs, h1, h2, h3, _⟩ := s.rol q r
        exact ⟨a, vs, h1, .inl h2.sq, h3⟩
      | tup ys =>
        simp only [q] at e
        cases e
        obtain ⟨a, vs, h1, h2, h3, _⟩ := s.tup q r
        exact ⟨a, vs, h1, .inr (.of h2), h3⟩
      | _ => simp [q] at e
  | _ => simp [seqAt, nodeAt] at e
/-- a new node -/
theorem Sim.fresh (s : Sim G m st H) {p : Addr} (hp : H p = none) : p ∉ m := fun h => by
  obtain ⟨i, hi, e⟩ := List.getElem_of_mem h
  have hi2 : i < st.length := by rw [← s.len]; exact hi
  obtain ⟨o, q⟩ := At.some (s.at_ i p _ (by rw [← e]; exact List.getElem?_eq_getElem hi) (List.getElem?_eq_getElem hi2))
  rw [hp] at q
  cases q
theorem snoc_pre (m : List Addr) (p : Addr) : m <+: m ++ [p] := ⟨[p], rfl⟩
theorem upd_stay {H : Hp} {p : Addr} {o : HO} (hp : H p = none) : ∀ a u, H a = some u → upd H p o a = some u := fun a u e => by
  rw [upd_ne (ne_of_none e hp)]
  exact e
theorem Sim.new (s : Sim G m st H) {p : Addr} {n : Nd} {o : HO} (hp : H p = none) (hn : At G (m ++ [p]) (upd H p o) p n) : Sim G (m ++ [p]) (st ++ [n]) (upd H p o) := by
  refine ⟨by simp [s.len], fun i a k h1 h2 => ?_, ?_, fun q hq => pre_get (snoc_pre m p) (s.px q hq)⟩
  · by_cases hi : i < m.length
    · rw [List.getElem?_append_left hi] at h1
      rw [List.getElem?_append_left (by rw [← s.len]; exact hi)] at h2
      exact At.mono (snoc_pre m p) (At.stay (upd_stay hp a) (s.at_ i a k h1 h2))
    · have hi2 : i < (m ++ [p]).length := (List.getElem?_eq_some_iff.mp h1).1
      rw [List.length_append, List.length_singleton] at hi2
      have e : i = m.length := by omega
      subst e
      rw [List.getElem?_concat_length] at h1
      rw [s.len, List.getElem?_concat_length] at h2
      cases h1
      cases h2
      exact hn
  · rw [List.nodup_append]
    refine ⟨s.nd, by simp, fun a ha b hb z => ?_⟩
    have e : b = p := by simpa using hb
    rw [z, e] at ha
    exact s.fresh hp ha
theorem Fr.new {p : Addr} {o : HO} (hp : H p = none) : Fr m H (m ++ [p]) (upd H p o) := fun a u e n => ⟨upd_stay hp a u e, fun z => by
  rcases List.mem_append.mp z with z | z
  · exact n z
  · have z' : a = p := by simpa using z
    rw [z', hp] at e
    cases e⟩
/-- something else is tracked, that is no node -/
theorem Sim.other (s : Sim G m st H) {p : Addr} {o : HO} (hp : H p = none) : Sim G m st (upd H p o) := ⟨s.len, fun i a n h1 h2 => At.stay (upd_stay hp a) (s.at_ i a n h1 h2), s.nd, s.px⟩
theorem Fr.other {p : Addr} {o : HO} (hp : H p = none) : Fr m H m (upd H p o) := fun a u e n => ⟨upd_stay hp a u e, n⟩
/-- a node is written -/
theorem Sim.write (s : Sim G m st H) {l : Nat} {p : Addr} {n' : Nd} {o' : HO} (hl : m[l]? = some p) (new : At G m (upd H p o') p n') : Sim G m (st.set l n') (upd H p o') := by
  refine ⟨by simp [s.len], fun i a k h1 h2 => ?_, s.nd, s.px⟩
  by_cases hi : l = i
  · subst hi
    rw [hl] at h1
    cases h1
    rw [List.getElem?_set_self (by rw [← s.len]; exact (List.getElem?_eq_some_iff.mp hl).1)] at h2
    cases h2
    exact new
  · rw [List.getElem?_set_ne hi] at h2
    have ha : a ≠ p := fun z => by
      subst z
      obtain ⟨i1, e1⟩ := List.getElem?_eq_some_iff.mp hl
      obtain ⟨i2, e2⟩ := List.getElem?_eq_some_iff.mp h1
      exact hi ((List.getElem_inj s.nd).mp (e1.trans e2.symm))
    exact At.stay (fun u e => by rw [upd_ne ha]; exact e) (s.at_ i a k h1 h2)
theorem Fr.write {p : Addr} {o : HO} {l : Nat} (hl : m[l]? = some p) : Fr m H m (upd H p o) := fun a u e n => ⟨by
  have ne : a ≠ p := fun z => n (by rw [z]; exact List.mem_of_getElem? hl)
  rw [upd_ne ne]
  exact e, n⟩
end

/-! ### what is wanted behind a piece of Mini -/
/-- rel: how what comes of it stands to what the machine has -/
def Post {α β : Type} (G : G0) (Wx : WX) (σ : St) (rel : List Addr → α → β → Prop) (m : List Addr) (H : Hp) (Q : β → Hp → Prop) : R α → Prop
  | .ok a st => ∀ m' H' v, m <+: m' → Sim G m' st H' → Fr m H m' H' → rel m' a v → Q v H'
  | .exc c l st => ∀ m' H' C d fs es, m <+: m' → Sim G m' st H' → Fr m H m' H' → G.ca.cls c = some C → m'[l]? = some d → st[l]? = some (.xd fs) → H' d = some (.xd es) → Wx (.ref C) (some d) σ H'
  | .bad => False
section
variable {α β γ δ : Type} {G : G0} {Wx : WX} {σ : St} {rel : List Addr → α → β → Prop} {rel2 : List Addr → γ → δ → Prop} {m : List Addr} {H : Hp} {Q Q' : β → Hp → Prop} {P : δ → Hp → Prop}
theorem Post.imp {r : R α} (h : Post G Wx σ rel m H Q r) (hq : ∀ v H', Q v H' → Q' v H') : Post G Wx σ rel m H Q' r := by
  cases r with
  | ok a st => exact fun m' H' v p s f r => hq v H' (h m' H' v p s f r)
  | exc c l st => exact h
  | bad => exact h
theorem Post.fwd {m' : List Addr} {H' : Hp} {r : R α} (h : Post G Wx σ rel m H Q r) (p : m <+: m') (f : Fr m H m' H') : Post G Wx σ rel m' H' Q r := by
  cases r with
  | ok a st => exact fun m2 H2 v p2 s f2 r => h m2 H2 v (p.trans p2) s (f.trans f2) r
  | exc c l st => exact fun m2 H2 C d fs es p2 s f2 => h m2 H2 C d fs es (p.trans p2) s (f.trans f2)
  | bad => exact h
/-- one piece behind another -/
theorem Post.bind {r : R α} {k : α → Sto → R γ} (h : Post G Wx σ rel2 m H P (r.bind k)) :
    Post G Wx σ rel m H (fun v H' => ∃ m' w st', m <+: m' ∧ Sim G m' st' H' ∧ rel m' w v ∧ Post G Wx σ rel2 m' H' P (k w st')) r := by
  cases r with
  | ok a st => exact fun m' H' v p s f r => ⟨m', a, st, p, s, r, h.fwd p f⟩
  | exc c l st => exact h
  | bad => exact h
theorem Post.now {w : α} {st : Sto} {v : β} (h : Post G Wx σ rel m H Q (.ok w st)) (s : Sim G m st H) (r : rel m w v) : Q v H := h m H v (List.prefix_refl _) s Fr.refl r
theorem Post.then {w : α} {st : Sto} {v : β} {m' : List Addr} {H' : Hp} (h : Post G Wx σ rel m H Q (.ok w st)) (p : m <+: m') (s : Sim G m' st H') (f : Fr m H m' H') (r : rel m' w v) : Q v H' := h m' H' v p s f r
end
/-- a piece of Mini as a reading -/
def tM {α β : Type} (G : G0) (Wx : WX) (rel : List Addr → α → β → Prop) (f : Loc → Sto → R α) : St → Hp → (β → Hp → Prop) → Prop :=
  fun σ H Q => ∃ m ρ st, RE m ρ σ ∧ Sim G m st H ∧ Post G Wx σ rel m H Q (f ρ st)
abbrev rB : List Addr → Bool → Bool → Prop := fun _ a b => a = b
abbrev rO : List Addr → Option Int → Option Int → Prop := fun _ a b => a = b
abbrev tE (G : G0) (Wx : WX) (f : ES) : TE := tM G Wx RW f
abbrev tT (G : G0) (Wx : WX) (f : EB) : TT := tM G Wx rB f
abbrev tA (G : G0) (Wx : WX) (f : AS) : TA := tM G Wx RWs f
abbrev tO (G : G0) (Wx : WX) (f : Loc → Sto → R (Option Int)) : TO := tM G Wx rO f

/-- .. of statements -/
def PostS (G : G0) (Wx : WX) (m : List Addr) (H : Hp) (D : Ends) : RS → Prop
  | .nx ρ st => ∀ m' H' σ, m <+: m' → Sim G m' st H' → Fr m H m' H' → RE m' ρ σ → D.nx σ H'
  | .bk ρ st => ∀ m' H' σ, m <+: m' → Sim G m' st H' → Fr m H m' H' → RE m' ρ σ → D.bk σ H'
  | .ct ρ st => ∀ m' H' σ, m <+: m' → Sim G m' st H' → Fr m H m' H' → RE m' ρ σ → D.ct σ H'
  | .rt w st => ∀ m' H' v, m <+: m' → Sim G m' st H' → Fr m H m' H' → RW m' w v → D.rt v H'
  | .exc c l ρ st => ∀ m' H' σ C d fs es, m <+: m' → Sim G m' st H' → Fr m H m' H' → RE m' ρ σ → G.ca.cls c = some C → m'[l]? = some d → st[l]? = some (.xd fs) → H' d = some (.xd es) → Wx (.ref C) (some d) σ H'
  | .bad => False
section
variable {α β : Type} {G : G0} {Wx : WX} {rel : List Addr → α → β → Prop} {m : List Addr} {H : Hp} {D : Ends}
theorem PostS.fwd {m' : List Addr} {H' : Hp} {r : RS} (h : PostS G Wx m H D r) (p : m <+: m') (f : Fr m H m' H') : PostS G Wx m' H' D r := by
  cases r with
  | nx ρ st => exact fun m2 H2 σ p2 s f2 => h m2 H2 σ (p.trans p2) s (f.trans f2)
  | bk ρ st => exact fun m2 H2 σ p2 s f2 => h m2 H2 σ (p.trans p2) s (f.trans f2)
  | ct ρ st => exact fun m2 H2 σ p2 s f2 => h m2 H2 σ (p.trans p2) s (f.trans f2)
  | rt w st => exact fun m2 H2 v p2 s f2 => h m2 H2 v (p.trans p2) s (f.trans f2)
  | exc c l ρ st => exact fun m2 H2 σ C d fs es p2 s f2 => h m2 H2 σ C d fs es (p.trans p2) s (f.trans f2)
  | bad => exact h
/-- an expression ahead of the rest of a statement -/
theorem PostS.bind {σ : St} {ρ : Loc} {r : R α} {k : α → Sto → RS} (hρ : RE m ρ σ) (h : PostS G Wx m H D (r.toS ρ k)) :
    Post G Wx σ rel m H (fun v H' => ∃ m' w st', m <+: m' ∧ Sim G m' st' H' ∧ rel m' w v ∧ PostS G Wx m' H' D (k w st')) r := by
  cases r with
  | ok a st => exact fun m' H' v p s f r => ⟨m', a, st, p, s, r, h.fwd p f⟩
  | exc c l st => exact fun m' H' C d fs es p s f => h m' H' σ C d fs es p s f (hρ.mono p)
  | bad => exact h
theorem PostS.imp {D' : Ends} {r : RS} (h : PostS G Wx m H D r) (h1 : ∀ σ H, D.nx σ H → D'.nx σ H) (h2 : ∀ v H, D.rt v H → D'.rt v H) (h3 : ∀ σ H, D.bk σ H → D'.bk σ H) (h4 : ∀ σ H, D.ct σ H → D'.ct σ H) : PostS G Wx m H D' r := by
  cases r with
  | nx ρ st => exact fun m2 H2 σ p2 s f2 r => h1 _ _ (h m2 H2 σ p2 s f2 r)
  | bk ρ st => exact fun m2 H2 σ p2 s f2 r => h3 _ _ (h m2 H2 σ p2 s f2 r)
  | ct ρ st => exact fun m2 H2 σ p2 s f2 r => h4 _ _ (h m2 H2 σ p2 s f2 r)
  | rt w st => exact fun m2 H2 v p2 s f2 r => h2 _ _ (h m2 H2 v p2 s f2 r)
  | exc c l ρ st => exact h
  | bad => exact h
end
def tS (G : G0) (Wx : WX) (f : SS) : L2.TS := fun D σ H => ∃ m ρ st, RE m ρ σ ∧ Sim G m st H ∧ PostS G Wx m H D (f ρ st)

/-! ### readings weakened -/
theorem PE.imp {X : Cx} {e : Expr} {t t' : TE} (h : PE X e t) (hi : ∀ σ H Q, t' σ H Q → t σ H Q) : PE X e t' := ⟨fun pins s σ H Q I q => h.run pins s σ H Q I (hi σ H Q q)⟩
theorem PT.imp {X : Cx} {e : Expr} {t t' : TT} (h : PT X e t) (hi : ∀ σ H Q, t' σ H Q → t σ H Q) : PT X e t' := ⟨fun pins s σ H Q I q => h.run pins s σ H Q I (hi σ H Q q)⟩
theorem PW.imp {X : Cx} {e : Expr} {t t' : TT} (h : PW X e t) (hi : ∀ σ H Q, t' σ H Q → t σ H Q) : PW X e t' := ⟨fun w pins s σ H Q I q => h.run w pins s σ H Q I (hi σ H Q q)⟩
theorem PA.imp {X : Cx} {e : List Expr} {t t' : TA} (h : PA X e t) (hi : ∀ σ H Q, t' σ H Q → t σ H Q) : PA X e t' := ⟨fun pos pins s σ H Q I q => h.run pos pins s σ H Q I (hi σ H Q q)⟩
theorem PO.imp {X : Cx} {e : Option Expr} {t t' : TO} (h : PO X e t) (hi : ∀ σ H Q, t' σ H Q → t σ H Q) : PO X e t' := ⟨fun pins s σ H Q I q => h.run pins s σ H Q I (hi σ H Q q)⟩
theorem PS.imp {X : Cx} {e : Stmt} {t t' : L2.TS} (h : PS X e t) (hi : ∀ D σ H, t' D σ H → t D σ H) : PS X e t' := ⟨fun pins s σ H D I q => h.run pins s σ H D I (hi D σ H q)⟩
theorem PSs.imp {X : Cx} {e : List Stmt} {t t' : L2.TS} (h : PSs X e t) (hi : ∀ D σ H, t' D σ H → t D σ H) : PSs X e t' := ⟨fun pins s σ H D I q => h.run pins s σ H D I (hi D σ H q)⟩
end Mi

set_option Elab.async false
set_option linter.all false
set_option maxRecDepth 100000
set_option maxHeartbeats 4000000
/-! Mini, part 3: expressions: a rule a construct. -/
namespace Mi
open PySem L2
set_option autoImplicit false
abbrev Cx.g (X : Cx) (ca : Ca) : G0 := ⟨X.K, ca⟩
abbrev ME (X : Cx) (ca : Ca) (Wx : WX) (e : Expr) (f : ES) : Prop := PE X e (tE ⟨X.K, ca⟩ Wx f)
abbrev MT (X : Cx) (ca : Ca) (Wx : WX) (e : Expr) (f : EB) : Prop := PT X e (tT ⟨X.K, ca⟩ Wx f)
abbrev MA (X : Cx) (ca : Ca) (Wx : WX) (e : List Expr) (f : AS) : Prop := PA X e (tA ⟨X.K, ca⟩ Wx f)
abbrev MO (X : Cx) (ca : Ca) (Wx : WX) (e : Option Expr) (f : Loc → Sto → R (Option Int)) : Prop := PO X e (tO ⟨X.K, ca⟩ Wx f)
theorem sl_big : sizeLine = big := sizeLine_eq

section
variable {X : Cx} {ca : Ca} {Wx : WX} {a b c : Expr} {fa fb fc : ES} {pos : Pos}

/-! ### names, constants -/
theorem me_var (i : Nat) {x : Str} (hN : X.N[i]? = some x := by rfl) (hv : Vis X.env.scope x := by first | exact Or.inl rfl | exact Or.inr (Or.inl rfl) | exact Or.inr (Or.inr rfl)) (hd : (x == ("__debug__" : Str)) = false := by decide)
    (hcd : (x == ("__classdict__" : Str)) = false := by decide) : ME X ca Wx (.Name x pos) (eV i) := by
  refine PE.imp (pe_var hN hv hd hcd) ?_
  rintro σ H Q ⟨m, ρ, st, hρ, hs, h⟩
  unfold eV at h
  split at h
  · rename_i w e
    obtain ⟨v, e1, r⟩ := hρ.at_ i w e
    exact ⟨v, e1, h.now hs r⟩
  · exact h.elim
theorem me_c {v : V} {w : W} {e : Expr} (h : PE X e (tC v)) (r : ∀ m, RW m w v) : ME X ca Wx e (eC w) := by
  refine PE.imp h ?_
  rintro σ H Q ⟨m, ρ, st, hρ, hs, h⟩
  exact h.now hs (r m)
theorem me_int {i : Int} {j : Nat} : ME X ca Wx (.Constant (.int i) j pos) (eC (.int i)) := me_c pe_int fun _ => rfl
theorem me_bl {i : Bool} {j : Nat} : ME X ca Wx (.Constant (.bool i) j pos) (eC (.bl i)) := me_c pe_bl fun _ => rfl
theorem me_non {j : Nat} : ME X ca Wx (.Constant .none j pos) (eC .non) := me_c pe_non fun _ => rfl
theorem me_str {s : List Nat} {x : Str} {j : Nat} (h : S s = x := by first | rfl | decide +kernel) : ME X ca Wx (.Constant (.str x) j pos) (eC (.str s)) := me_c pe_str fun _ => by rw [← h]; rfl
theorem me_glI {x : Str} {i : Int} (hm : ∃ t, X.mg x = some (.int i t)) (hg : Gl X x := by rfl) (hd : (x == ("__debug__" : Str)) = false := by decide) : ME X ca Wx (.Name x pos) (eC (.int i)) := by
  obtain ⟨t, hm⟩ := hm
  exact me_c (pe_glob hg hm (v := .int i) ⟨t, rfl⟩ hd) fun _ => rfl
theorem me_glS {x y : Str} {s : List Nat} (hm : ∃ t, X.mg x = some (.str y t)) (h : S s = y := by first | rfl | decide +kernel) (hg : Gl X x := by rfl) (hd : (x == ("__debug__" : Str)) = false := by decide) : ME X ca Wx (.Name x pos) (eC (.str s)) := by
  obtain ⟨t, hm⟩ := hm
  exact me_c (pe_glob hg hm (v := .str y) ⟨t, rfl⟩ hd) fun _ => by rw [← h]; rfl

/-! ### operations -/
def OM (X : Cx) (ca : Ca) (f : Value → Value → Sem Value) (g : W → W → Sto → R W) : Prop :=
  ∃ r, OpR X f r ∧ ∀ (Wx : WX) (σ : L2.St) (m : List Addr) (st : Sto) (H : Hp) (x y : W) (v u : V) (Q : VK), Sim ⟨X.K, ca⟩ m st H → RW m x v → RW m y u → Post ⟨X.K, ca⟩ Wx σ RW m H Q (g x y st) → r v u H Q
theorem tE2 {f g : ES} {h : W → W → Sto → R W} {σ : L2.St} {H : Hp} {Q : VK} {r : R2} {G : G0}
    (hr : ∀ (m : List Addr) (st : Sto) (H : Hp) (x y : W) (v u : V) (Q : VK), Sim G m st H → RW m x v → RW m y u → Post G Wx σ RW m H Q (h x y st) → r v u H Q)
    (q : tE G Wx (e2 h f g) σ H Q) : tOp r (tE G Wx f) (tE G Wx g) σ H Q := by
  obtain ⟨m, ρ, st, hρ, hs, h1⟩ := q
  refine ⟨m, ρ, st, hρ, hs, (Post.bind h1).imp ?_⟩
  rintro x H1 ⟨m1, w1, st1, p1, s1, r1, h2⟩
  refine ⟨m1, ρ, st1, hρ.mono p1, s1, (Post.bind h2).imp ?_⟩
  rintro y H2 ⟨m2, w2, st2, p2, s2, r2, h3⟩
  exact hr m2 st2 H2 w1 w2 x y Q s2 (r1.mono p2) r2 h3
theorem me_op {op : Operator} {g : W → W → Sto → R W} (ho : OM X ca (binaryOp op) g) (ha : ME X ca Wx a fa) (hb : ME X ca Wx b fb) : ME X ca Wx (.BinOp a op b pos) (e2 g fa fb) := by
  obtain ⟨r, h1, h2⟩ := ho
  exact PE.imp (pe_op h1 ha hb) fun σ H Q q => tE2 (fun m st H x y v u Q => h2 Wx σ m st H x y v u Q) q
theorem me_cmp {op : CmpOp} {g : W → W → Sto → R W} (ho : OM X ca (compareOp op) g) (ha : ME X ca Wx a fa) (hb : ME X ca Wx b fb) (hm : behindInMarks op b = false) : ME X ca Wx (.Compare a [op] [b] pos) (e2 g fa fb) := by
  obtain ⟨r, h1, h2⟩ := ho
  exact PE.imp (pe_cmpR h1 ha hb hm) fun σ H Q q => tE2 (fun m st H x y v u Q => h2 Wx σ m st H x y v u Q) q
theorem bB_post {G : G0} {σ : L2.St} {f : ES} {H : Hp} {Q : Bool → Hp → Prop} {m : List Addr} {ρ : Loc} {st : Sto} (q : Post G Wx σ rB m H Q (bB f ρ st)) :
    Post G Wx σ RW m H (fun x H' => ∃ k, x = .bl k ∧ Q k H') (f ρ st) := by
  refine (Post.bind q).imp ?_
  rintro v H1 ⟨m1, w, st1, p1, s1, r1, h1⟩
  split at h1
  · rename_i k
    exact ⟨k, r1, h1.now s1 rfl⟩
  · exact h1.elim
theorem mt_cmp {op : CmpOp} {g : W → W → Sto → R W} (ho : OM X ca (compareOp op) g) (ha : ME X ca Wx a fa) (hb : ME X ca Wx b fb) (hm : behindInMarks op b = false) : MT X ca Wx (.Compare a [op] [b] pos) (bB (e2 g fa fb)) := by
  obtain ⟨r, h1, h2⟩ := ho
  refine PT.imp (pt_cmpR h1 ha hb hm) ?_
  rintro σ H Q ⟨m, ρ, st, hρ, hs, q⟩
  exact tE2 (fun m st H x y v u Q => h2 Wx σ m st H x y v u Q) ⟨m, ρ, st, hρ, hs, bB_post q⟩
theorem tCh {f g h : ES} {k l : W → W → Sto → R W} {σ : L2.St} {H : Hp} {Q : VK} {r r' : R2} {G : G0}
    (hr : ∀ (m : List Addr) (st : Sto) (H : Hp) (x y : W) (v u : V) (Q : VK), Sim G m st H → RW m x v → RW m y u → Post G Wx σ RW m H Q (k x y st) → r v u H Q)
    (hr' : ∀ (m : List Addr) (st : Sto) (H : Hp) (x y : W) (v u : V) (Q : VK), Sim G m st H → RW m x v → RW m y u → Post G Wx σ RW m H Q (l x y st) → r' v u H Q)
    (q : tE G Wx (eCh k l f g h) σ H Q) : tChain r r' (tE G Wx f) (tE G Wx g) (tE G Wx h) σ H Q := by
  obtain ⟨m, ρ, st, hρ, hs, h1⟩ := q
  refine ⟨m, ρ, st, hρ, hs, (Post.bind h1).imp ?_⟩
  rintro x H1 ⟨m1, w1, st1, p1, s1, r1, h2⟩
  refine ⟨m1, ρ, st1, hρ.mono p1, s1, (Post.bind h2).imp ?_⟩
  rintro y H2 ⟨m2, w2, st2, p2, s2, r2, h3⟩
  refine hr m2 st2 H2 w1 w2 x y _ s2 (r1.mono p2) r2 ((Post.bind h3).imp ?_)
  rintro z H3 ⟨m3, w3, st3, p3, s3, r3, h4⟩
  split at h4
  · refine ⟨true, r3, ?_⟩
    rw [if_pos rfl]
    refine ⟨m3, ρ, st3, (hρ.mono (p1.trans (p2.trans p3))), s3, (Post.bind h4).imp ?_⟩
    rintro w H4 ⟨m4, w4, st4, p4, s4, r4, h5⟩
    exact hr' m4 st4 H4 w2 w4 y w Q s4 (r2.mono (p3.trans p4)) r4 h5
  · refine ⟨false, r3, ?_⟩
    rw [if_neg Bool.false_ne_true]
    exact h4.now s3 rfl
  · exact h4.elim
theorem me_ch {op op' : CmpOp} {g g' : W → W → Sto → R W} (ho : OM X ca (compareOp op) g) (ho' : OM X ca (compareOp op') g') (ha : ME X ca Wx a fa) (hb : ME X ca Wx b fb) (hc : ME X ca Wx c fc)
    (hm : lastMarks [op, op'] [b, c] = false := by with_unfolding_all rfl) : ME X ca Wx (.Compare a [op, op'] [b, c] pos) (eCh g g' fa fb fc) := by
  obtain ⟨r, h1, h2⟩ := ho
  obtain ⟨r', h1', h2'⟩ := ho'
  exact PE.imp (pe_chain h1 h1' ha hb hc hm) fun σ H Q q => tCh (fun m st H x y v u Q => h2 Wx σ m st H x y v u Q) (fun m st H x y v u Q => h2' Wx σ m st H x y v u Q) q
theorem mt_ch {op op' : CmpOp} {g g' : W → W → Sto → R W} (ho : OM X ca (compareOp op) g) (ho' : OM X ca (compareOp op') g') (ha : ME X ca Wx a fa) (hb : ME X ca Wx b fb) (hc : ME X ca Wx c fc)
    (hm : lastMarks [op, op'] [b, c] = false := by with_unfolding_all rfl) : MT X ca Wx (.Compare a [op, op'] [b, c] pos) (bB (eCh g g' fa fb fc)) := by
  obtain ⟨r, h1, h2⟩ := ho
  obtain ⟨r', h1', h2'⟩ := ho'
  refine PT.imp (pt_chain h1 h1' ha hb hc hm) ?_
  rintro σ H Q ⟨m, ρ, st, hρ, hs, q⟩
  exact tCh (fun m st H x y v u Q => h2 Wx σ m st H x y v u Q) (fun m st H x y v u Q => h2' Wx σ m st H x y v u Q) ⟨m, ρ, st, hρ, hs, bB_post q⟩

/-! ### tests -/
theorem truth_ok {G : G0} {m : List Addr} {st : Sto} {H : Hp} {w : W} {v : V} {k : Bool} (hs : Sim G m st H) (r : RW m w v) (e : truth st w = some k) : TruV G.K v H k := by
  have emp : ∀ {xs : List W} {vs : List V}, RWs m xs vs → (!xs.isEmpty) = !vs.isEmpty := fun q => by cases q <;> rfl
  cases w with
  | raw a => cases e
  | non =>
    cases r
    cases e
    rfl
  | bl b =>
    cases r
    cases e
    rfl
  | int i =>
    cases r
    cases e
    rfl
  | str s =>
    cases r
    have e' : (if s.length ≤ big then some (!s.isEmpty) else none) = some k := e
    clear e
    split at e'
    · cases e'
      refine ⟨by rw [S_len, sl_big]; assumption, ?_⟩
      rw [S_len]
      cases s with
      | nil => rfl
      | cons c t =>
        show true = !(((t.length + 1 : Nat) : Int) == 0)
        have z : (((t.length + 1 : Nat) : Int) == 0) = false := beq_eq_false_iff_ne.mpr (by omega)
        rw [z]
        rfl
    · cases e'
  | loc l =>
    unfold truth at e
    simp only at e
    split at e
    · rename_i xs q
      cases e
      obtain ⟨a, vs, rfl, h1, h2, _⟩ := hs.lst q r
      exact .inl ⟨vs, .of h1, emp h2⟩
    · rename_i xs q
      cases e
      obtain ⟨a, vs, rfl, h1, h2, _⟩ := hs.rol q r
      exact .inl ⟨vs, h1.sq, emp h2⟩
    · rename_i xs q
      cases e
      obtain ⟨a, vs, rfl, h1, h2, _⟩ := hs.tup q r
      exact .inr (.inl ⟨vs, .of h1, emp h2⟩)
    · rename_i xs q
      cases e
      obtain ⟨a, vs, rfl, h1, h2, _⟩ := hs.dic q r
      exact .inr (.inr ⟨vs, h1, by cases h2 <;> rfl⟩)
    · cases e
theorem mt_truth (ha : ME X ca Wx a fa) (he : ∀ whole, isTrue a X.env whole = (do let v ← whole; standAt a.pos; holding [v] (truthy v)) := by intro _; rfl) : MT X ca Wx a (bT fa) := by
  refine PT.imp (pt_truth ha he) ?_
  rintro σ H Q ⟨m, ρ, st, hρ, hs, q⟩
  refine ⟨m, ρ, st, hρ, hs, (Post.bind q).imp ?_⟩
  rintro v H1 ⟨m1, w, st1, p1, s1, r1, h1⟩
  split at h1
  · rename_i k e
    exact ⟨k, truth_ok s1 r1 e, h1.now s1 rfl⟩
  · exact h1.elim
variable {ta tb : EB} {rest : List Expr}
theorem mt_and1 (ha : MT X ca Wx a ta) : PW X (.BoolOp .And [a] pos) (tT ⟨X.K, ca⟩ Wx ta) := pw_and1 ha
theorem mt_or1 (ha : MT X ca Wx a ta) : PW X (.BoolOp .Or [a] pos) (tT ⟨X.K, ca⟩ Wx ta) := pw_or1 ha
theorem mt_and' (ha : MT X ca Wx a ta) (hb : PW X (.BoolOp .And (b :: rest) pos) (tT ⟨X.K, ca⟩ Wx tb)) : PW X (.BoolOp .And (a :: b :: rest) pos) (tT ⟨X.K, ca⟩ Wx (bAnd ta tb)) := by
  refine PW.imp (pw_and ha hb) ?_
  rintro σ H Q ⟨m, ρ, st, hρ, hs, q⟩
  refine ⟨m, ρ, st, hρ, hs, (Post.bind q).imp ?_⟩
  rintro v H1 ⟨m1, w, st1, p1, s1, rfl, h1⟩
  cases w with
  | true =>
    rw [if_pos rfl] at h1 ⊢
    exact ⟨m1, ρ, st1, hρ.mono p1, s1, h1⟩
  | false =>
    rw [if_neg Bool.false_ne_true] at h1 ⊢
    exact h1.now s1 rfl
theorem mt_or' (ha : MT X ca Wx a ta) (hb : PW X (.BoolOp .Or (b :: rest) pos) (tT ⟨X.K, ca⟩ Wx tb)) : PW X (.BoolOp .Or (a :: b :: rest) pos) (tT ⟨X.K, ca⟩ Wx (bOr ta tb)) := by
  refine PW.imp (pw_or ha hb) ?_
  rintro σ H Q ⟨m, ρ, st, hρ, hs, q⟩
  refine ⟨m, ρ, st, hρ, hs, (Post.bind q).imp ?_⟩
  rintro v H1 ⟨m1, w, st1, p1, s1, rfl, h1⟩
  cases w with
  | true =>
    rw [if_pos rfl] at h1 ⊢
    exact h1.now s1 rfl
  | false =>
    rw [if_neg Bool.false_ne_true] at h1 ⊢
    exact ⟨m1, ρ, st1, hρ.mono p1, s1, h1⟩
theorem mt_w {op : BoolOp} {es : List Expr} (h : PW X (.BoolOp op es pos) (tT ⟨X.K, ca⟩ Wx ta)) : MT X ca Wx (.BoolOp op es pos) ta := h.pt
theorem mt_not (ha : MT X ca Wx a ta) : MT X ca Wx (.UnaryOp .Not a pos) (bNot ta) := by
  refine PT.imp (pt_not ha) ?_
  rintro σ H Q ⟨m, ρ, st, hρ, hs, q⟩
  refine ⟨m, ρ, st, hρ, hs, (Post.bind q).imp ?_⟩
  rintro v H1 ⟨m1, w, st1, p1, s1, rfl, h1⟩
  exact h1.now s1 rfl
theorem me_if {t : Expr} (ht : MT X ca Wx t ta) (ha : ME X ca Wx a fa) (hb : ME X ca Wx b fb) : ME X ca Wx (.IfExp t a b pos) (eIf ta fa fb) := by
  refine PE.imp (pe_ifExp ht ha hb) ?_
  rintro σ H Q ⟨m, ρ, st, hρ, hs, q⟩
  refine ⟨m, ρ, st, hρ, hs, (Post.bind q).imp ?_⟩
  rintro v H1 ⟨m1, w, st1, p1, s1, rfl, h1⟩
  cases w with
  | true =>
    rw [if_pos rfl] at h1 ⊢
    exact ⟨m1, ρ, st1, hρ.mono p1, s1, h1⟩
  | false =>
    rw [if_neg Bool.false_ne_true] at h1 ⊢
    exact ⟨m1, ρ, st1, hρ.mono p1, s1, h1⟩
theorem me_one {op : BoolOp} (ha : ME X ca Wx a fa) : ME X ca Wx (.BoolOp op [a] pos) fa := pe_one ha
theorem me_and (ha : ME X ca Wx a fa) (hb : ME X ca Wx (.BoolOp .And (b :: rest) pos) fb) : ME X ca Wx (.BoolOp .And (a :: b :: rest) pos) (eAnd fa fb) := by
  refine PE.imp (pe_andT ha hb) ?_
  rintro σ H Q ⟨m, ρ, st, hρ, hs, q⟩
  refine ⟨m, ρ, st, hρ, hs, (Post.bind q).imp ?_⟩
  rintro v H1 ⟨m1, w, st1, p1, s1, r1, h1⟩
  split at h1
  · rename_i e
    refine ⟨true, truth_ok s1 r1 e, ?_⟩
    rw [if_pos rfl]
    exact ⟨m1, ρ, st1, hρ.mono p1, s1, h1⟩
  · rename_i e
    refine ⟨false, truth_ok s1 r1 e, ?_⟩
    rw [if_neg Bool.false_ne_true]
    exact h1.now s1 r1
  · exact h1.elim
theorem me_or (ha : ME X ca Wx a fa) (hb : ME X ca Wx (.BoolOp .Or (b :: rest) pos) fb) : ME X ca Wx (.BoolOp .Or (a :: b :: rest) pos) (eOr fa fb) := by
  refine PE.imp (pe_orT ha hb) ?_
  rintro σ H Q ⟨m, ρ, st, hρ, hs, q⟩
  refine ⟨m, ρ, st, hρ, hs, (Post.bind q).imp ?_⟩
  rintro v H1 ⟨m1, w, st1, p1, s1, r1, h1⟩
  split at h1
  · rename_i e
    refine ⟨true, truth_ok s1 r1 e, ?_⟩
    rw [if_pos rfl]
    exact h1.now s1 r1
  · rename_i e
    refine ⟨false, truth_ok s1 r1 e, ?_⟩
    rw [if_neg Bool.false_ne_true]
    exact ⟨m1, ρ, st1, hρ.mono p1, s1, h1⟩
  · exact h1.elim
theorem me_not (ha : ME X ca Wx a fa) : ME X ca Wx (.UnaryOp .Not a pos) (eNot fa) := by
  refine PE.imp (pe_notT ha) ?_
  rintro σ H Q ⟨m, ρ, st, hρ, hs, q⟩
  refine ⟨m, ρ, st, hρ, hs, (Post.bind q).imp ?_⟩
  rintro v H1 ⟨m1, w, st1, p1, s1, r1, h1⟩
  split at h1
  · rename_i k e
    exact ⟨k, truth_ok s1 r1 e, h1.now s1 rfl⟩
  · exact h1.elim

/-! ### arguments, displays -/
theorem ma_nil : MA X ca Wx [] aNil := by
  refine PA.imp pa_nil ?_
  rintro σ H Q ⟨m, ρ, st, hρ, hs, q⟩
  exact q.now hs .nil
theorem ma_cons {es : List Expr} {fr : AS} (ha : ME X ca Wx a fa) (hr : MA X ca Wx es fr) (hs : starEach (a :: es) X.env = (false, eval a X.env) :: starEach es X.env := by rfl) : MA X ca Wx (a :: es) (aCons fa fr) := by
  refine PA.imp (pa_cons ha hr hs) ?_
  rintro σ H Q ⟨m, ρ, st, hρ, hs, q⟩
  refine ⟨m, ρ, st, hρ, hs, (Post.bind q).imp ?_⟩
  rintro v H1 ⟨m1, w, st1, p1, s1, r1, h1⟩
  refine ⟨m1, ρ, st1, hρ.mono p1, s1, (Post.bind h1).imp ?_⟩
  rintro vs H2 ⟨m2, ws, st2, p2, s2, r2, h2⟩
  exact h2.now s2 (.cons (r1.mono p2) r2)
/-- a new node is laid -/
theorem new_post {G : G0} {σ : L2.St} {m : List Addr} {H : Hp} {st : Sto} {n : Nd} {o : HO} {p : Addr} {Q : VK} (h : Post G Wx σ RW m H Q (new n st)) (hs : Sim G m st H) (hp : H p = none)
    (hn : At G (m ++ [p]) (upd H p o) p n) : Q (.ref p) (upd H p o) := by
  refine h.then (snoc_pre m p) (hs.new hp hn) (Fr.new hp) ⟨p, ?_, rfl⟩
  rw [← hs.len]
  exact List.getElem?_concat_length
theorem new_lst {G : G0} {σ : L2.St} {m : List Addr} {H : Hp} {st : Sto} {ws : List W} {vs : List V} {p : Addr} {Q : VK} (h : Post G Wx σ RW m H Q (new (.lst ws) st)) (hs : Sim G m st H) (r : RWs m ws vs) (hp : H p = none) : Q (.ref p) (upd H p (.lst vs)) :=
  new_post h hs hp ⟨vs, upd_same, r.mono (snoc_pre m p)⟩
theorem new_tup {G : G0} {σ : L2.St} {m : List Addr} {H : Hp} {st : Sto} {ws : List W} {vs : List V} {p : Addr} {Q : VK} (h : Post G Wx σ RW m H Q (new (.tup ws) st)) (hs : Sim G m st H) (r : RWs m ws vs) (hp : H p = none) : Q (.ref p) (upd H p (.tup vs)) :=
  new_post h hs hp ⟨vs, upd_same, r.mono (snoc_pre m p)⟩
theorem me_tup {es : List Expr} {fr : AS} {k : Nat} (ha : MA X ca Wx es fr) : ME X ca Wx (.Tuple es k pos) (eTup fr) := by
  refine PE.imp (pe_tup ha) ?_
  rintro σ H Q ⟨m, ρ, st, hρ, hs, q⟩
  refine ⟨m, ρ, st, hρ, hs, (Post.bind q).imp ?_⟩
  rintro vs H1 ⟨m1, ws, st1, p1, s1, r1, h1⟩
  unfold newT at h1
  split at h1
  · exact ⟨by rw [← r1.length, sl_big]; assumption, fun p hp => new_tup h1 s1 r1 hp⟩
  · exact h1.elim
theorem me_lst {es : List Expr} {fr : AS} (ha : MA X ca Wx es fr) : ME X ca Wx (.List es pos) (eLst fr) := by
  refine PE.imp (pe_lst ha) ?_
  rintro σ H Q ⟨m, ρ, st, hρ, hs, q⟩
  refine ⟨m, ρ, st, hρ, hs, (Post.bind q).imp ?_⟩
  rintro vs H1 ⟨m1, ws, st1, p1, s1, r1, h1⟩
  unfold newL at h1
  split at h1
  · exact ⟨by rw [← r1.length, sl_big]; assumption, fun p hp => new_lst h1 s1 r1 hp⟩
  · exact h1.elim
theorem me_dict0 {pos : Pos} : ME X ca Wx (.Dict [] [] pos) eDict0 := by
  refine PE.imp pe_dnewK ?_
  rintro σ H Q ⟨m, ρ, st, hρ, hs, q⟩
  intro p hp
  exact new_post q hs hp ⟨[], upd_same, .nil⟩

/-! ### the operations one by one -/
theorem om_ii {f : Value → Value → Sem Value} {C : Int → Int → Prop} {g : Int → Int → V} {h : W → W → Sto → R W} (ho : OpR X f (rI C g))
    (hh : ∀ (Wx : WX) (σ : L2.St) (m : List Addr) (st : Sto) (H : Hp) (x y : W) (Q : VK), Sim ⟨X.K, ca⟩ m st H → Post ⟨X.K, ca⟩ Wx σ RW m H Q (h x y st) → ∃ i j, x = .int i ∧ y = .int j ∧ C i j ∧ Q (g i j) H) : OM X ca f h := by
  refine ⟨_, ho, ?_⟩
  intro Wx σ m st H x y v u Q hs rx ry q
  obtain ⟨i, j, rfl, rfl, hc, hq⟩ := hh Wx σ m st H x y Q hs q
  exact ⟨i, j, rx, ry, hc, hq⟩
theorem om_i0 {f : Value → Value → Sem Value} {g : Int → Int → V} {h : W → W → Sto → R W} (ho : OpR X f (rI0 g))
    (hh : ∀ (Wx : WX) (σ : L2.St) (m : List Addr) (st : Sto) (H : Hp) (x y : W) (Q : VK), Sim ⟨X.K, ca⟩ m st H → Post ⟨X.K, ca⟩ Wx σ RW m H Q (h x y st) → ∃ i j, x = .int i ∧ y = .int j ∧ Q (g i j) H) : OM X ca f h := by
  refine ⟨_, ho, ?_⟩
  intro Wx σ m st H x y v u Q hs rx ry q
  obtain ⟨i, j, rfl, rfl, hq⟩ := hh Wx σ m st H x y Q hs q
  exact ⟨i, j, rx, ry, hq⟩
theorem om_sub : OM X ca (binaryOp .Sub) opSub := om_i0 op_sub fun Wx σ m st H x y Q hs q => by
  unfold opSub at q
  split at q
  · exact ⟨_, _, rfl, rfl, q.now hs rfl⟩
  · exact q.elim
theorem om_div : OM X ca (binaryOp .FloorDiv) opDiv := om_ii op_fdivW fun Wx σ m st H x y Q hs q => by
  unfold opDiv at q
  split at q
  · split at q
    · rename_i hc
      exact ⟨_, _, rfl, rfl, hc, q.now hs rfl⟩
    · exact q.elim
  · exact q.elim
theorem om_mod : OM X ca (binaryOp .Mod) opMod := om_ii op_mod fun Wx σ m st H x y Q hs q => by
  unfold opMod at q
  split at q
  · split at q
    · rename_i hc
      exact ⟨_, _, rfl, rfl, hc, q.now hs rfl⟩
    · exact q.elim
  · exact q.elim
theorem om_pow : OM X ca (binaryOp .Pow) opPow := om_ii op_pow fun Wx σ m st H x y Q hs q => by
  unfold opPow at q
  split at q
  · split at q
    · rename_i hc
      exact ⟨_, _, rfl, rfl, hc, q.now hs rfl⟩
    · exact q.elim
  · exact q.elim
theorem om_shl : OM X ca (binaryOp .LShift) opShl := om_ii op_shlW fun Wx σ m st H x y Q hs q => by
  unfold opShl at q
  split at q
  · split at q
    · rename_i hc
      exact ⟨_, _, rfl, rfl, hc, q.now hs rfl⟩
    · exact q.elim
  · exact q.elim
theorem om_shr : OM X ca (binaryOp .RShift) opShr := om_ii op_shr fun Wx σ m st H x y Q hs q => by
  unfold opShr at q
  split at q
  · split at q
    · rename_i hc
      exact ⟨_, _, rfl, rfl, hc, q.now hs rfl⟩
    · exact q.elim
  · exact q.elim
theorem om_and : OM X ca (binaryOp .BitAnd) opAnd := om_i0 op_and fun Wx σ m st H x y Q hs q => by
  unfold opAnd at q
  split at q
  · exact ⟨_, _, rfl, rfl, q.now hs rfl⟩
  · exact q.elim
theorem om_or : OM X ca (binaryOp .BitOr) opOr := om_i0 op_or fun Wx σ m st H x y Q hs q => by
  unfold opOr at q
  split at q
  · exact ⟨_, _, rfl, rfl, q.now hs rfl⟩
  · exact q.elim
theorem om_xor : OM X ca (binaryOp .BitXor) opXor := om_i0 op_xor fun Wx σ m st H x y Q hs q => by
  unfold opXor at q
  split at q
  · exact ⟨_, _, rfl, rfl, q.now hs rfl⟩
  · exact q.elim
theorem om_add : OM X ca (binaryOp .Add) opAdd := by
  refine ⟨_, op_add.or (op_add_str.or (op_cat.or op_catA)), ?_⟩
  intro Wx σ m st H x y v u Q hs rx ry q
  unfold opAdd at q
  split at q
  · exact .inl ⟨_, _, rx, ry, q.now hs rfl⟩
  · split at q
    · rename_i s t hl
      refine .inr (.inl ⟨_, _, rx, ry, by rw [S_len, S_len, sl_big]; exact hl, ?_⟩)
      rw [S_app]
      exact q.now hs rfl
    · exact q.elim
  · split at q
    · rename_i xs ys e1 e2
      split at q
      · rename_i hl
        obtain ⟨a, vs, rfl, h1, r1, _⟩ := hs.lst e1 rx
        obtain ⟨b, us, rfl, h2, r2, _⟩ := hs.lst e2 ry
        exact .inr (.inr (.inl ⟨a, b, vs, us, rfl, rfl, h1, h2, by rw [← r1.length, ← r2.length, sl_big]; exact hl, fun p hp => new_lst q hs (r1.append r2) hp⟩))
      · exact q.elim
    · rename_i xs ys e1 e2
      split at q
      · rename_i hl
        obtain ⟨a, vs, rfl, h1, r1, _⟩ := hs.tup e1 rx
        obtain ⟨b, us, rfl, h2, r2, _⟩ := hs.tup e2 ry
        refine .inr (.inr (.inr ⟨a, b, vs, us, rfl, rfl, .of h1, .of h2, by rw [← r1.length, ← r2.length, sl_big]; exact hl, fun ev => ?_, fun nv eu => ?_, fun nv nu p hp => ?_⟩))
        · have e : xs = [] := by
            subst ev
            cases r1
            rfl
          rw [if_pos e] at q
          exact q.now hs ry
        · have n : xs ≠ [] := by
            rintro rfl
            cases r1
            exact nv rfl
          have e : ys = [] := by
            subst eu
            cases r2
            rfl
          rw [if_neg n, if_pos e] at q
          exact q.now hs rx
        · have n : xs ≠ [] := by
            rintro rfl
            cases r1
            exact nv rfl
          have n2 : ys ≠ [] := by
            rintro rfl
            cases r2
            exact nu rfl
          rw [if_neg n, if_neg n2] at q
          exact new_tup q hs (r1.append r2) hp
      · exact q.elim
    · exact q.elim
  · exact q.elim
theorem om_mul : OM X ca (binaryOp .Mult) opMul := by
  refine ⟨_, op_mulX.or op_rep, ?_⟩
  intro Wx σ m st H x y v u Q hs rx ry q
  unfold opMul at q
  split at q
  · split at q
    · rename_i hc
      exact .inl ⟨_, _, rx, ry, (by show ((_ : Nat) : Int) + ((_ : Nat) : Int) ≤ 134217728; omega), q.now hs rfl⟩
    · exact q.elim
  · split at q
    · rename_i xs e1
      split at q
      · rename_i hc
        obtain ⟨⟨c1, c2⟩, c3⟩ := hc
        obtain ⟨a, vs, rfl, h1, r1, _⟩ := hs.lst e1 rx
        exact .inr ⟨a, _, vs, rfl, ry, h1, by omega, by omega, by rw [← r1.length, sl_big]; exact c3, fun p hp => new_lst q hs (r1.rep _) hp⟩
      · exact q.elim
    · exact q.elim
  · exact q.elim
end
end Mi

set_option Elab.async false
set_option linter.all false
set_option maxRecDepth 100000
set_option maxHeartbeats 4000000
/-! Mini, part 4: comparisons, items, slices, calls and methods of built-ins. -/
namespace Mi
open PySem L2
set_option autoImplicit false

/-! ### data -/
mutual
def D.py : D → PyData
  | .non => .none
  | .bl b => .bool b
  | .int i => .int i
  | .str s => .str (S s)
  | .lst xs => .list (D.pys xs)
  | .tup xs => .tuple (D.pys xs)
def D.pys : List D → List PyData
  | [] => []
  | d :: ds => d.py :: D.pys ds
end
theorem S_beq (s t : List Nat) : (S s == S t) = (s == t) := by
  by_cases h : s = t
  · subst h
    simp
  · have h2 : ¬ S s = S t := fun e => h (S_inj e)
    rw [beq_eq_false_iff_ne.mpr h, beq_eq_false_iff_ne.mpr h2]
mutual
theorem D.eqv_py : ∀ d e : D, PyData.eqv d.py e.py = D.eqv d e
  | .non, .non => rfl
  | .non, .bl _ => rfl
  | .non, .int _ => rfl
  | .non, .str _ => rfl
  | .non, .lst _ => rfl
  | .non, .tup _ => rfl
  | .bl _, .non => rfl
  | .bl _, .bl _ => rfl
  | .bl a, .int _ => by cases a <;> rfl
  | .bl _, .str _ => rfl
  | .bl _, .lst _ => rfl
  | .bl _, .tup _ => rfl
  | .int _, .non => rfl
  | .int _, .bl b => by cases b <;> rfl
  | .int _, .int _ => rfl
  | .int _, .str _ => rfl
  | .int _, .lst _ => rfl
  | .int _, .tup _ => rfl
  | .str _, .non => rfl
  | .str _, .bl _ => rfl
  | .str _, .int _ => rfl
  | .str s, .str t => S_beq s t
  | .str _, .lst _ => rfl
  | .str _, .tup _ => rfl
  | .lst _, .non => rfl
  | .lst _, .bl _ => rfl
  | .lst _, .int _ => rfl
  | .lst _, .str _ => rfl
  | .lst xs, .lst ys => D.eqvAll_py xs ys
  | .lst _, .tup _ => rfl
  | .tup _, .non => rfl
  | .tup _, .bl _ => rfl
  | .tup _, .int _ => rfl
  | .tup _, .str _ => rfl
  | .tup _, .lst _ => rfl
  | .tup xs, .tup ys => D.eqvAll_py xs ys
theorem D.eqvAll_py : ∀ ds es : List D, PyData.eqvAll (D.pys ds) (D.pys es) = D.eqvAll ds es
  | [], [] => rfl
  | [], _ :: _ => rfl
  | _ :: _, [] => rfl
  | d :: ds, e :: es => by
    show (PyData.eqv d.py e.py && PyData.eqvAll (D.pys ds) (D.pys es)) = (D.eqv d e && D.eqvAll ds es)
    rw [D.eqv_py d e, D.eqvAll_py ds es]
end
theorem strOk_of {s : List Nat} (h : s.all (· < 1114112) = true) : PyData.strOk (S s) = true := by
  show s.toArray.all (fun c => decide (c < 0x110000)) = true
  rw [List.all_toArray]
  exact h
section
variable {G : G0} {m : List Addr} {st : Sto} {H : Hp}
theorem flatD_ok {n : Nat} {w : W} {d : D} {v : V} (e : flatD w = some d) (r : RW m w v) : Dp G.K H v d.py ∧ d.py.canLay0 = true ∧ d.py.depth ≤ n := by
  cases w with
  | raw a => cases e
  | non =>
    cases e
    cases r
    exact ⟨.non, by simp only [D.py, PyData.canLay0], by simp only [D.py, PyData.depth]; omega⟩
  | bl b =>
    cases e
    cases r
    exact ⟨.bl b, by simp only [D.py, PyData.canLay0], by simp only [D.py, PyData.depth]; omega⟩
  | int i =>
    cases e
    cases r
    exact ⟨.int i, by simp only [D.py, PyData.canLay0], by simp only [D.py, PyData.depth]; omega⟩
  | str s =>
    have e' : (if s.all (· < 1114112) then some (D.str s) else none) = some d := e
    clear e
    split at e'
    · rename_i h
      cases e'
      cases r
      exact ⟨.str _, by simp only [D.py, PyData.canLay0]; exact strOk_of h, by simp only [D.py, PyData.depth]; omega⟩
    · cases e'
  | loc l => cases e
theorem datas_ok {n : Nat} (ih : ∀ (w : W) (d : D) (v : V), dataOf st n w = some d → RW m w v → Dp G.K H v d.py ∧ d.py.canLay0 = true ∧ d.py.depth ≤ n) :
    ∀ (ws : List W) (ds : List D) (vs : List V), mapO (dataOf st n) ws = some ds → RWs m ws vs → DpAll G.K H vs (D.pys ds) ∧ PyData.canLayAll0 (D.pys ds) = true ∧ PyData.depthAll (D.pys ds) ≤ n
  | [], ds, vs, e, r => by
    cases e
    cases r
    exact ⟨.nil, by simp only [D.pys, PyData.canLayAll0], by simp only [D.pys, PyData.depthAll]; omega⟩
  | w :: ws, ds, vs, e, r => by
    cases r with
    | @cons _ v _ vs r1 r2 =>
      unfold mapO at e
      cases z : dataOf st n w with
      | none =>
        rw [z] at e
        cases e
      | some d =>
        rw [z] at e
        cases z2 : mapO (dataOf st n) ws with
        | none =>
          rw [z2] at e
          cases e
        | some es =>
          rw [z2] at e
          cases e
          obtain ⟨k1, k2, k3⟩ := ih w d v z r1
          obtain ⟨j1, j2, j3⟩ := datas_ok ih ws es vs z2 r2
          exact ⟨.cons k1 j1, by simp only [D.pys, PyData.canLayAll0, k2, j2, Bool.and_self], by simp only [D.pys, PyData.depthAll]; omega⟩
theorem data_ok (hs : Sim G m st H) : ∀ (n : Nat) (w : W) (d : D) (v : V), dataOf st n w = some d → RW m w v → Dp G.K H v d.py ∧ d.py.canLay0 = true ∧ d.py.depth ≤ n
  | 0, w, d, v, e, r => flatD_ok e r
  | n + 1, w, d, v, e, r => by
    have key : ∀ {xs : List W} {vs : List V} {f : List D → D}, (mapO (dataOf st n) xs).map f = some d → RWs m xs vs → ∃ ds, d = f ds ∧ DpAll G.K H vs (D.pys ds) ∧ PyData.canLayAll0 (D.pys ds) = true ∧ PyData.depthAll (D.pys ds) ≤ n := by
      intro xs vs f e r
      cases z : mapO (dataOf st n) xs with
      | none =>
        rw [z] at e
        cases e
      | some ds =>
        rw [z] at e
        cases e
        obtain ⟨k1, k2, k3⟩ := datas_ok (data_ok hs n) xs ds vs z r
        exact ⟨ds, rfl, k1, k2, k3⟩
    cases w with
    | raw a => cases e
    | loc l =>
      have e' : (match st[l]? with
      | some (.lst xs) => (mapO (dataOf st n) xs).map D.lst
      | some (.rol xs) => (mapO (dataOf st n) xs).map .lst
      | some (.tup xs) => (mapO (dataOf st n) xs).map .tup
      | _ => none) = some d := e
      clear e
      split at e'
      · rename_i xs q
        obtain ⟨a, vs, rfl, h1, h2, _⟩ := hs.lst q r
        obtain ⟨ds, rfl, k1, k2, k3⟩ := key e' h2
        exact ⟨.lst (.of h1) k1, by simp only [D.py, PyData.canLay0]; exact k2, by simp only [D.py, PyData.depth]; omega⟩
      · rename_i xs q
        obtain ⟨a, vs, rfl, h1, h2, _⟩ := hs.rol q r
        obtain ⟨ds, rfl, k1, k2, k3⟩ := key e' h2
        exact ⟨.lst h1.sq k1, by simp only [D.py, PyData.canLay0]; exact k2, by simp only [D.py, PyData.depth]; omega⟩
      · rename_i xs q
        obtain ⟨a, vs, rfl, h1, h2, _⟩ := hs.tup q r
        obtain ⟨ds, rfl, k1, k2, k3⟩ := key e' h2
        exact ⟨.tup (.of h1) k1, by simp only [D.py, PyData.canLay0]; exact k2, by simp only [D.py, PyData.depth]; omega⟩
      · cases e'
    | non => exact flatD_ok (w := .non) e r
    | bl b => exact flatD_ok (w := .bl b) e r
    | int i => exact flatD_ok (w := .int i) e r
    | str s => exact flatD_ok (w := .str s) e r
theorem shaped_ok (hs : Sim G m st H) {w : W} {d : D} {v : V} (e : dataOf st deep w = some d) (r : RW m w v) : Dp G.K H v d.py ∧ SeqAt.shaped d.py = true := by
  obtain ⟨h1, h2, h3⟩ := data_ok hs deep w d v e r
  exact ⟨h1, by unfold SeqAt.shaped; rw [h2]; exact decide_eq_true (by have : deep = 60 := rfl; omega)⟩
theorem scal_ok {x y : W} {v u : V} (rx : RW m x v) (ry : RW m y u) (h : scalW x y = true) : scal v u = true ∧ decide (v = u) = decide (x = y) := by
  cases x <;> cases y <;> simp only [scalW, Bool.false_eq_true] at h <;> cases rx <;> cases ry <;> refine ⟨rfl, ?_⟩ <;> try simp
  rename_i s t
  constructor
  · exact S_inj
  · intro e
    rw [e]
end

section
variable {X : Cx} {ca : Ca} {Wx : WX} {a b c : Expr} {fa fb fc : ES} {pos : Pos}
theorem om_eq (hu : X.A.units + 64 < cLine) : OM X ca (compareOp .Eq) opEq := by
  refine ⟨_, op_eq.or (op_eqD hu), ?_⟩
  intro Wx σ m st H x y v u Q hs rx ry q
  unfold opEq weq at q
  split at q
  · rename_i k e
    split at e
    · rename_i hsc
      cases e
      obtain ⟨h1, h2⟩ := scal_ok rx ry hsc
      exact .inl ⟨h1, by rw [h2]; exact q.now hs rfl⟩
    · split at e
      · rename_i d d' e1 e2
        cases e
        obtain ⟨h1, h2⟩ := shaped_ok hs e1 rx
        obtain ⟨h3, h4⟩ := shaped_ok hs e2 ry
        exact .inr ⟨d.py, d'.py, h1, h3, h2, h4, by rw [D.eqv_py]; exact q.now hs rfl⟩
      · cases e
  · exact q.elim
theorem om_ne (hu : X.A.units + 64 < cLine) : OM X ca (compareOp .NotEq) opNe := by
  refine ⟨_, op_ne.or (op_neD hu), ?_⟩
  intro Wx σ m st H x y v u Q hs rx ry q
  unfold opNe weq at q
  split at q
  · rename_i k e
    split at e
    · rename_i hsc
      cases e
      obtain ⟨h1, h2⟩ := scal_ok rx ry hsc
      exact .inl ⟨h1, by rw [h2]; exact q.now hs rfl⟩
    · split at e
      · rename_i d d' e1 e2
        cases e
        obtain ⟨h1, h2⟩ := shaped_ok hs e1 rx
        obtain ⟨h3, h4⟩ := shaped_ok hs e2 ry
        exact .inr ⟨d.py, d'.py, h1, h3, h2, h4, by rw [D.eqv_py]; exact q.now hs rfl⟩
      · cases e
  · exact q.elim
theorem S_list (s : List Nat) : (S s).cps.toList = s := by simp [S]
theorem om_lt : OM X ca (compareOp .Lt) opLt := by
  refine ⟨_, op_lt.or op_lt_str, ?_⟩
  intro Wx σ m st H x y v u Q hs rx ry q
  unfold opLt cmpI at q
  split at q
  · exact .inl ⟨_, _, rx, ry, q.now hs rfl⟩
  · refine .inr ⟨_, _, rx, ry, ?_⟩
    rw [S_list, S_list]
    exact q.now hs rfl
  · exact q.elim
theorem om_le : OM X ca (compareOp .LtE) opLe := by
  refine ⟨_, op_le.or op_le_str, ?_⟩
  intro Wx σ m st H x y v u Q hs rx ry q
  unfold opLe cmpI at q
  split at q
  · exact .inl ⟨_, _, rx, ry, q.now hs rfl⟩
  · refine .inr ⟨_, _, rx, ry, ?_⟩
    rw [S_list, S_list]
    exact q.now hs rfl
  · exact q.elim
theorem om_gt : OM X ca (compareOp .Gt) opGt := by
  refine ⟨_, op_gt.or op_gt_str, ?_⟩
  intro Wx σ m st H x y v u Q hs rx ry q
  unfold opGt cmpI at q
  split at q
  · exact .inl ⟨_, _, rx, ry, q.now hs rfl⟩
  · refine .inr ⟨_, _, rx, ry, ?_⟩
    rw [S_list, S_list]
    exact q.now hs rfl
  · exact q.elim
theorem om_ge : OM X ca (compareOp .GtE) opGe := by
  refine ⟨_, op_ge.or op_ge_str, ?_⟩
  intro Wx σ m st H x y v u Q hs rx ry q
  unfold opGe cmpI at q
  split at q
  · exact .inl ⟨_, _, rx, ry, q.now hs rfl⟩
  · refine .inr ⟨_, _, rx, ry, ?_⟩
    rw [S_list, S_list]
    exact q.now hs rfl
  · exact q.elim
/-- is None -/
theorem me_isN {j : Nat} {pos' : Pos} (ha : ME X ca Wx a fa) : ME X ca Wx (.Compare a [.Is] [.Constant .none j pos'] pos) (e1 opIsN fa) := by
  refine PE.imp (pe_cmp (pc_isN ha)) ?_
  rintro σ H Q ⟨m, ρ, st, hρ, hs, q⟩
  refine ⟨m, ρ, st, hρ, hs, (Post.bind q).imp ?_⟩
  rintro v H1 ⟨m1, w, st1, p1, s1, r1, h1⟩
  have e : decide (v = .non) = decide (w = .non) := by
    cases w <;> (try cases r1) <;> (try simp)
    obtain ⟨r2, rfl⟩ := (by assumption)
    simp
  show Q (.bl (decide (v = .non))) H1
  rw [e]
  have h2 : Post ⟨X.K, ca⟩ Wx σ RW m1 H1 Q (.ok (.bl (decide (w = .non))) st1) := h1
  exact h2.now s1 rfl
theorem me_notN {j : Nat} {pos' : Pos} (ha : ME X ca Wx a fa) : ME X ca Wx (.Compare a [.IsNot] [.Constant .none j pos'] pos) (e1 opNotN fa) := by
  refine PE.imp (pe_cmp (pc_notN ha)) ?_
  rintro σ H Q ⟨m, ρ, st, hρ, hs, q⟩
  refine ⟨m, ρ, st, hρ, hs, (Post.bind q).imp ?_⟩
  rintro v H1 ⟨m1, w, st1, p1, s1, r1, h1⟩
  have e : decide (v = .non) = decide (w = .non) := by
    cases w <;> (try cases r1) <;> (try simp)
    obtain ⟨r2, rfl⟩ := (by assumption)
    simp
  show Q (.bl (!decide (v = .non))) H1
  rw [e]
  have h2 : Post ⟨X.K, ca⟩ Wx σ RW m1 H1 Q (.ok (.bl (!decide (w = .non))) st1) := h1
  exact h2.now s1 rfl
/-- a comparison's value as a test -/
theorem mt_val (ha : ME X ca Wx a fa) (h : ∀ t, PE X a t → PT X a (tB t)) : MT X ca Wx a (bB fa) := by
  refine PT.imp (h _ ha) ?_
  rintro σ H Q ⟨m, ρ, st, hρ, hs, q⟩
  exact ⟨m, ρ, st, hρ, hs, bB_post q⟩
theorem mt_isN {j : Nat} {pos' : Pos} (ha : ME X ca Wx a fa) : MT X ca Wx (.Compare a [.Is] [.Constant .none j pos'] pos) (bB (e1 opIsN fa)) := by
  refine PT.imp (pt_cmp (pc_isN ha)) ?_
  rintro σ H Q ⟨m, ρ, st, hρ, hs, q⟩
  refine ⟨m, ρ, st, hρ, hs, (Post.bind (bB_post q)).imp ?_⟩
  rintro v H1 ⟨m1, w, st1, p1, s1, r1, h1⟩
  have e : decide (v = .non) = decide (w = .non) := by
    cases w <;> (try cases r1) <;> (try simp)
    obtain ⟨r2, rfl⟩ := (by assumption)
    simp
  refine ⟨_, rfl, ?_⟩
  rw [e]
  have h2 : Post ⟨X.K, ca⟩ Wx σ RW m1 H1 (fun x H' => ∃ k, x = .bl k ∧ Q k H') (.ok (.bl (decide (w = .non))) st1) := h1
  obtain ⟨k, e2, q2⟩ := h2.now s1 rfl
  cases e2
  exact q2
theorem mt_notN {j : Nat} {pos' : Pos} (ha : ME X ca Wx a fa) : MT X ca Wx (.Compare a [.IsNot] [.Constant .none j pos'] pos) (bB (e1 opNotN fa)) := by
  refine PT.imp (pt_cmp (pc_notN ha)) ?_
  rintro σ H Q ⟨m, ρ, st, hρ, hs, q⟩
  refine ⟨m, ρ, st, hρ, hs, (Post.bind (bB_post q)).imp ?_⟩
  rintro v H1 ⟨m1, w, st1, p1, s1, r1, h1⟩
  have e : decide (v = .non) = decide (w = .non) := by
    cases w <;> (try cases r1) <;> (try simp)
    obtain ⟨r2, rfl⟩ := (by assumption)
    simp
  refine ⟨_, rfl, ?_⟩
  rw [e]
  have h2 : Post ⟨X.K, ca⟩ Wx σ RW m1 H1 (fun x H' => ∃ k, x = .bl k ∧ Q k H') (.ok (.bl (!decide (w = .non))) st1) := h1
  obtain ⟨k, e2, q2⟩ := h2.now s1 rfl
  cases e2
  exact q2

/-! ### in -/
theorem flat_ok {m : List Addr} {w : W} {v : V} (r : RW m w v) (h : flatW w = true) : flatV v = true := by
  cases w <;> first | (cases r; rfl) | cases h
theorem flats_ok {m : List Addr} : ∀ {ws : List W} {vs : List V}, RWs m ws vs → ws.all flatW = true → vs.all flatV = true
  | _, _, .nil, _ => rfl
  | _, _, .cons r t, h => by
    rw [List.all_cons, Bool.and_eq_true] at h ⊢
    exact ⟨flat_ok r h.1, flats_ok t h.2⟩
theorem eqF_ok {m : List Addr} {x y : W} {v u : V} (rx : RW m x v) (ry : RW m y u) (hx : flatW x = true) (hy : flatW y = true) : eqV v u = eqF x y := by
  cases x <;> (try cases hx) <;> cases y <;> (try cases hy) <;> cases rx <;> cases ry <;> first | rfl | exact S_beq _ _
theorem anyF_ok {m : List Addr} {x : W} {v : V} (rx : RW m x v) (hx : flatW x = true) : ∀ {ws : List W} {vs : List V}, RWs m ws vs → ws.all flatW = true → (vs.any fun y => eqV y v) = ws.any fun y => eqF y x
  | _, _, .nil, _ => rfl
  | _, _, .cons r t, h => by
    rw [List.all_cons, Bool.and_eq_true] at h
    rw [List.any_cons, List.any_cons, eqF_ok r rx h.1 hx, anyF_ok rx hx t h.2]
theorem om_in : OM X ca (compareOp .In) opIn := by
  refine ⟨_, op_in_sign.or op_in_seq, ?_⟩
  intro Wx σ m st H x y v u Q hs rx ry q
  unfold opIn at q
  split at q
  · refine .inl ⟨_, _, rx, ry, ?_⟩
    rw [S_list]
    exact q.now hs rfl
  · split at q
    · rename_i xs e
      split at q
      · rename_i hc
        rw [Bool.and_eq_true] at hc
        obtain ⟨a, vs, rfl, h1, r1, _⟩ := hs.lst e ry
        exact .inr ⟨a, vs, rfl, .inl (.of h1), flat_ok rx hc.1, flats_ok r1 hc.2, by unfold inV; rw [anyF_ok rx hc.1 r1 hc.2]; exact q.now hs rfl⟩
      · exact q.elim
    · rename_i xs e
      split at q
      · rename_i hc
        rw [Bool.and_eq_true] at hc
        obtain ⟨a, vs, rfl, h1, r1, _⟩ := hs.rol e ry
        exact .inr ⟨a, vs, rfl, .inl h1.sq, flat_ok rx hc.1, flats_ok r1 hc.2, by unfold inV; rw [anyF_ok rx hc.1 r1 hc.2]; exact q.now hs rfl⟩
      · exact q.elim
    · rename_i xs e
      split at q
      · rename_i hc
        rw [Bool.and_eq_true] at hc
        obtain ⟨a, vs, rfl, h1, r1, _⟩ := hs.tup e ry
        exact .inr ⟨a, vs, rfl, .inr (.of h1), flat_ok rx hc.1, flats_ok r1 hc.2, by unfold inV; rw [anyF_ok rx hc.1 r1 hc.2]; exact q.now hs rfl⟩
      · exact q.elim
    · exact q.elim
  · exact q.elim
theorem om_notIn : OM X ca (compareOp .NotIn) opNotIn := by
  refine ⟨_, op_notIn_sign.or op_notIn_seq, ?_⟩
  intro Wx σ m st H x y v u Q hs rx ry q
  unfold opNotIn notB opIn at q
  split at q
  · refine .inl ⟨_, _, rx, ry, ?_⟩
    rw [S_list]
    exact q.now hs rfl
  · split at q
    · rename_i xs e
      split at q
      · rename_i hc
        rw [Bool.and_eq_true] at hc
        obtain ⟨a, vs, rfl, h1, r1, _⟩ := hs.lst e ry
        exact .inr ⟨a, vs, rfl, .inl (.of h1), flat_ok rx hc.1, flats_ok r1 hc.2, by unfold inV; rw [anyF_ok rx hc.1 r1 hc.2]; exact q.now hs rfl⟩
      · exact q.elim
    · rename_i xs e
      split at q
      · rename_i hc
        rw [Bool.and_eq_true] at hc
        obtain ⟨a, vs, rfl, h1, r1, _⟩ := hs.rol e ry
        exact .inr ⟨a, vs, rfl, .inl h1.sq, flat_ok rx hc.1, flats_ok r1 hc.2, by unfold inV; rw [anyF_ok rx hc.1 r1 hc.2]; exact q.now hs rfl⟩
      · exact q.elim
    · rename_i xs e
      split at q
      · rename_i hc
        rw [Bool.and_eq_true] at hc
        obtain ⟨a, vs, rfl, h1, r1, _⟩ := hs.tup e ry
        exact .inr ⟨a, vs, rfl, .inr (.of h1), flat_ok rx hc.1, flats_ok r1 hc.2, by unfold inV; rw [anyF_ok rx hc.1 r1 hc.2]; exact q.now hs rfl⟩
      · exact q.elim
    · exact q.elim
  · exact q.elim

/-! ### items, slices -/
theorem atI_rel {m : List Addr} {ws : List W} {vs : List V} {i : Int} {w : W} (r : RWs m ws vs) (e : ixW ws i = some w) : ∃ v, atI vs i = some v ∧ RW m w v := by
  unfold ixW atI at e
  unfold atI
  rw [← r.length]
  cases z : ixN ws.length i with
  | none =>
    rw [z] at e
    cases e
  | some j =>
    rw [z] at e
    obtain ⟨v, h1, h2⟩ := r.get (show ws[j]? = some w from e)
    exact ⟨v, h1, h2⟩
theorem lift1_ok {G : G0} {σ : L2.St} {m : List Addr} {H : Hp} {Q : VK} {o : Option W} {st : Sto} (h : Post G Wx σ RW m H Q (lift1 o st)) : ∃ w, o = some w ∧ Post G Wx σ RW m H Q (.ok w st) := by
  cases o with
  | none => exact h.elim
  | some w => exact ⟨w, rfl, h⟩
theorem me_ix (ha : ME X ca Wx a fa) (hb : ME X ca Wx b fb) (hp : PlainIx b := by exact fun _ _ => rfl) : ME X ca Wx (.Subscript a b pos) (e2 opIx fa fb) := by
  refine PE.imp (pe_ix ix_seq ha hb hp) fun σ H Q q => tE2 ?_ q
  intro m st H x y v u Q hs rx ry q
  unfold opIx at q
  split at q
  · split at q
    · rename_i hl
      split at q
      · rename_i c e
        exact .inr (.inr ⟨_, _, c, rx, ry, by rw [S_len, sl_big]; exact hl, by rw [S_list]; exact e, q.now hs rfl⟩)
      · exact q.elim
    · exact q.elim
  · split at q
    · rename_i xs e
      split at q
      · obtain ⟨w, e1, q⟩ := lift1_ok q
        obtain ⟨a, vs, rfl, h1, r1, _⟩ := hs.lst e rx
        obtain ⟨v, h2, h3⟩ := atI_rel r1 e1
        exact .inl ⟨a, vs, _, v, rfl, ry, .of h1, h2, q.now hs h3⟩
      · exact q.elim
    · rename_i xs e
      split at q
      · obtain ⟨w, e1, q⟩ := lift1_ok q
        obtain ⟨a, vs, rfl, h1, r1, _⟩ := hs.rol e rx
        obtain ⟨v, h2, h3⟩ := atI_rel r1 e1
        exact .inl ⟨a, vs, _, v, rfl, ry, h1.sq, h2, q.now hs h3⟩
      · exact q.elim
    · rename_i xs e
      split at q
      · obtain ⟨w, e1, q⟩ := lift1_ok q
        obtain ⟨a, vs, rfl, h1, r1, _⟩ := hs.tup e rx
        obtain ⟨v, h2, h3⟩ := atI_rel r1 e1
        exact .inr (.inl ⟨a, vs, _, v, rfl, ry, .of h1, h2, q.now hs h3⟩)
      · exact q.elim
    · exact q.elim
  · exact q.elim
theorem mo_none : MO X ca Wx none oN := by
  refine PO.imp po_none ?_
  rintro σ H Q ⟨m, ρ, st, hρ, hs, q⟩
  exact q.now hs rfl
theorem mo_some {e : Expr} {fe : ES} (h : ME X ca Wx e fe) : MO X ca Wx (some e) (oS fe) := by
  refine PO.imp (po_some h) ?_
  rintro σ H Q ⟨m, ρ, st, hρ, hs, q⟩
  refine ⟨m, ρ, st, hρ, hs, (Post.bind q).imp ?_⟩
  rintro v H1 ⟨m1, w, st1, p1, s1, r1, h1⟩
  split at h1
  · exact ⟨_, r1, h1.now s1 rfl⟩
  · exact h1.elim
theorem cut_rel {m : List Addr} {ws : List W} {vs : List V} (r : RWs m ws vs) (lo hi : Option Int) : RWs m (cutW ws lo hi) (cutV vs lo hi) := by
  unfold cutW cutV
  rw [r.length]
  exact (r.drop _).take _
theorem me_sl {lo hi : Option Expr} {fl fh : Loc → Sto → R (Option Int)} {p2 : Pos} (ha : ME X ca Wx a fa) (hl : MO X ca Wx lo fl) (hh : MO X ca Wx hi fh) : ME X ca Wx (.Subscript a (.Slice lo hi none p2) pos) (eSl fa fl fh) := by
  refine PE.imp (pe_slice (sl_list.or (sl_str.or sl_tupA)) ha hl hh) ?_
  rintro σ H Q ⟨m, ρ, st, hρ, hs, q⟩
  refine ⟨m, ρ, st, hρ, hs, (Post.bind q).imp ?_⟩
  rintro v H1 ⟨m1, w, st1, p1, s1, r1, h1⟩
  refine ⟨m1, ρ, st1, hρ.mono p1, s1, (Post.bind h1).imp ?_⟩
  rintro l H2 ⟨m2, l', st2, p2, s2, rfl, h2⟩
  refine ⟨m2, ρ, st2, hρ.mono (p1.trans p2), s2, (Post.bind h2).imp ?_⟩
  rintro u H3 ⟨m3, u', st3, p3, s3, rfl, h3⟩
  have r3 := r1.mono (p2.trans p3)
  unfold opSl at h3
  split at h3
  · split at h3
    · rename_i hl
      cases r3
      refine .inr (.inl ⟨_, rfl, by rw [S_len, sl_big]; exact hl, ?_⟩)
      unfold cutS
      rw [S_list, S_len]
      exact h3.now s3 rfl
    · exact h3.elim
  · split at h3
    · rename_i xs e
      obtain ⟨a, vs, rfl, h4, r4, _⟩ := s3.lst e r3
      exact .inl ⟨a, vs, rfl, .of h4, fun p hp => new_lst h3 s3 (cut_rel r4 _ _) hp⟩
    · rename_i xs e
      obtain ⟨a, vs, rfl, h4, r4, _⟩ := s3.rol e r3
      exact .inl ⟨a, vs, rfl, h4.sq, fun p hp => new_lst h3 s3 (cut_rel r4 _ _) hp⟩
    · rename_i xs e
      obtain ⟨a, vs, rfl, h4, r4, _⟩ := s3.tup e r3
      refine .inr (.inr ⟨a, vs, rfl, .of h4, fun hc => ?_, fun hc p hp => ?_⟩)
      · rw [← r4.length] at hc
        rw [if_pos hc] at h3
        exact h3.now s3 r3
      · rw [← r4.length] at hc
        rw [if_neg hc] at h3
        exact new_tup h3 s3 (cut_rel r4 _ _) hp
    · exact h3.elim
  · exact h3.elim
theorem me_rev {k : Nat} {p1 p2 p3 : Pos} (ha : ME X ca Wx a fa) : ME X ca Wx (.Subscript a (.Slice none none (some (.UnaryOp .USub (.Constant (.int 1) k p1) p2)) p3) pos) (e1 opRev fa) := by
  refine PE.imp (pe_revL ha) ?_
  rintro σ H Q ⟨m, ρ, st, hρ, hs, q⟩
  refine ⟨m, ρ, st, hρ, hs, (Post.bind q).imp ?_⟩
  rintro v H1 ⟨m1, w, st1, p1, s1, r1, h1⟩
  unfold opRev at h1
  split at h1
  · split at h1
    · rename_i xs e
      obtain ⟨a, vs, rfl, h4, r4, _⟩ := s1.lst e r1
      exact ⟨a, vs, rfl, .of h4, fun p hp => new_lst h1 s1 r4.reverse hp⟩
    · exact h1.elim
  · exact h1.elim

/-! ### calls of built-ins -/
def CM (X : Cx) (ca : Ca) (f : Value) (g : List W → Sto → R W) : Prop :=
  ∃ r, CallR X f r ∧ ∀ (Wx : WX) (σ : L2.St) (m : List Addr) (st : Sto) (H : Hp) (xs : List W) (vs : List V) (Q : VK), Sim ⟨X.K, ca⟩ m st H → RWs m xs vs → Post ⟨X.K, ca⟩ Wx σ RW m H Q (g xs st) → r vs H Q
theorem tEN {f : AS} {h : List W → Sto → R W} {σ : L2.St} {H : Hp} {Q : VK} {r : List V → Hp → VK → Prop} {G : G0}
    (hr : ∀ (m : List Addr) (st : Sto) (H : Hp) (xs : List W) (vs : List V) (Q : VK), Sim G m st H → RWs m xs vs → Post G Wx σ RW m H Q (h xs st) → r vs H Q)
    (q : tE G Wx (eN h f) σ H Q) : tCB r (tA G Wx f) σ H Q := by
  obtain ⟨m, ρ, st, hρ, hs, h1⟩ := q
  refine ⟨m, ρ, st, hρ, hs, (Post.bind h1).imp ?_⟩
  rintro vs H1 ⟨m1, ws, st1, p1, s1, r1, h2⟩
  exact hr m1 st1 H1 ws vs Q s1 r1 h2
theorem me_cb {x : Str} {id : String} {g : List W → Sto → R W} {es : List Expr} {fr : AS} {p : Pos} (hc : CM X ca (.builtin id) g) (hm : X.mg x = none) (ha : MA X ca Wx (a :: es) fr) (hv : bootBuiltins x = some (.builtin id) := by decide +kernel) (hg : Gl X x := by rfl)
    (hn : x ≠ "__name__" := by decide) (hdb : (x == ("__debug__" : Str)) = false := by decide)
    (he : starEach (a :: es) X.env = (false, eval a X.env) :: starEach es X.env := by rfl) (hpl : (backTo pos (starEach es X.env)).any (·.1) = false := by rfl) : ME X ca Wx (.Call (.Name x p) (a :: es) [] pos) (eN g fr) := by
  obtain ⟨r, h1, h2⟩ := hc
  exact PE.imp (pe_callB h1 hg hm hv ha hn hdb he hpl) fun σ H Q q => tEN (fun m st H xs vs Q => h2 Wx σ m st H xs vs Q) q
theorem me_ct {x : Str} {T : String} {g : List W → Sto → R W} {es : List Expr} {fr : AS} {p : Pos} (hc : CM X ca (.type T) g) (hm : X.mg x = none) (ha : MA X ca Wx (a :: es) fr) (hv : bootBuiltins x = some (.type T) := by decide +kernel) (hg : Gl X x := by rfl)
    (hn : x ≠ "__name__" := by decide) (hdb : (x == ("__debug__" : Str)) = false := by decide)
    (he : starEach (a :: es) X.env = (false, eval a X.env) :: starEach es X.env := by rfl) (hpl : (backTo pos (starEach es X.env)).any (·.1) = false := by rfl) : ME X ca Wx (.Call (.Name x p) (a :: es) [] pos) (eN g fr) := by
  obtain ⟨r, h1, h2⟩ := hc
  exact PE.imp (pe_callTy h1 hg hm hv ha hn hdb he hpl) fun σ H Q q => tEN (fun m st H xs vs Q => h2 Wx σ m st H xs vs Q) q
theorem RWs.one {m : List Addr} {w : W} {vs : List V} (r : RWs m [w] vs) : ∃ v, vs = [v] ∧ RW m w v := by
  cases r with
  | cons h t =>
    cases t
    exact ⟨_, rfl, h⟩
theorem RWs.two {m : List Addr} {w z : W} {vs : List V} (r : RWs m [w, z] vs) : ∃ v u, vs = [v, u] ∧ RW m w v ∧ RW m z u := by
  cases r with
  | cons h t =>
    obtain ⟨u, rfl, h2⟩ := RWs.one t
    exact ⟨_, _, rfl, h, h2⟩
theorem cm_len : CM X ca (.builtin "len") cLen := by
  refine ⟨_, call_len.or call_lenD, ?_⟩
  intro Wx σ m st H xs vs Q hs r q
  unfold cLen at q
  split at q
  · split at q
    · rename_i hl
      obtain ⟨v, rfl, r1⟩ := RWs.one r
      cases r1
      exact .inl ⟨_, _, rfl, ⟨by rw [S_len, sl_big]; exact hl, rfl⟩, by rw [S_len]; exact q.now hs rfl⟩
    · exact q.elim
  · obtain ⟨v, rfl, r1⟩ := RWs.one r
    split at q
    · rename_i e
      obtain ⟨a, vs, rfl, h1, r2, _⟩ := hs.lst e r1
      exact .inl ⟨_, _, rfl, .inl ⟨vs, .of h1, rfl⟩, by rw [← r2.length]; exact q.now hs rfl⟩
    · rename_i e
      obtain ⟨a, vs, rfl, h1, r2, _⟩ := hs.rol e r1
      exact .inl ⟨_, _, rfl, .inl ⟨vs, h1.sq, rfl⟩, by rw [← r2.length]; exact q.now hs rfl⟩
    · rename_i e
      obtain ⟨a, vs, rfl, h1, r2, _⟩ := hs.tup e r1
      exact .inl ⟨_, _, rfl, .inr ⟨vs, .of h1, rfl⟩, by rw [← r2.length]; exact q.now hs rfl⟩
    · rename_i e
      obtain ⟨a, vs, rfl, h1, r2, _⟩ := hs.dic e r1
      exact .inr ⟨a, vs, rfl, h1, by rw [← Paired.length r2]; exact q.now hs rfl⟩
    · exact q.elim
  · exact q.elim
theorem cm_max2 (hc : X.calm = true) : CM X ca (.builtin "max") cMax2 := by
  refine ⟨_, call_max2 hc, ?_⟩
  intro Wx σ m st H xs vs Q hs r q
  unfold cMax2 at q
  split at q
  · obtain ⟨v, u, rfl, r1, r2⟩ := RWs.two r
    cases r1
    cases r2
    exact ⟨_, _, rfl, q.now hs rfl⟩
  · exact q.elim
theorem cm_min2 (hc : X.calm = true) : CM X ca (.builtin "min") cMin2 := by
  refine ⟨_, call_min2 hc, ?_⟩
  intro Wx σ m st H xs vs Q hs r q
  unfold cMin2 at q
  split at q
  · obtain ⟨v, u, rfl, r1, r2⟩ := RWs.two r
    cases r1
    cases r2
    exact ⟨_, _, rfl, q.now hs rfl⟩
  · exact q.elim
theorem cm_int : CM X ca (.type "int") cInt := by
  refine ⟨_, call_int1, ?_⟩
  intro Wx σ m st H xs vs Q hs r q
  unfold cInt at q
  split at q
  · obtain ⟨v, rfl, r1⟩ := RWs.one r
    cases r1
    exact .inl ⟨_, rfl, q.now hs rfl⟩
  · obtain ⟨v, rfl, r1⟩ := RWs.one r
    cases r1
    exact .inr ⟨_, rfl, q.now hs rfl⟩
  · exact q.elim
theorem cm_list : CM X ca (.type "list") cList := by
  refine ⟨_, call_list_of, ?_⟩
  intro Wx σ m st H xs vs Q hs r q
  unfold cList at q
  split at q
  · obtain ⟨v, rfl, r1⟩ := RWs.one r
    split at q
    · rename_i xs e
      obtain ⟨a, vs, rfl, h1, r2⟩ := hs.seqs e r1
      exact ⟨a, vs, rfl, h1, fun p hp => new_lst q hs r2 hp⟩
    · exact q.elim
  · exact q.elim
theorem cm_tuple : CM X ca (.type "tuple") cTuple := by
  refine ⟨_, call_tuple_of, ?_⟩
  intro Wx σ m st H xs vs Q hs r q
  unfold cTuple at q
  split at q
  · obtain ⟨v, rfl, r1⟩ := RWs.one r
    split at q
    · rename_i e
      obtain ⟨a, vs, rfl, h1, r2, _⟩ := hs.lst e r1
      exact ⟨a, vs, rfl, .inl ⟨.of h1, fun p hp => new_tup q hs r2 hp⟩⟩
    · rename_i e
      obtain ⟨a, vs, rfl, h1, r2, _⟩ := hs.rol e r1
      exact ⟨a, vs, rfl, .inl ⟨h1.sq, fun p hp => new_tup q hs r2 hp⟩⟩
    · rename_i e
      obtain ⟨a, vs, rfl, h1, r2, _⟩ := hs.tup e r1
      exact ⟨a, vs, rfl, .inr ⟨.of h1, q.now hs r1⟩⟩
    · exact q.elim
  · exact q.elim
theorem allBl_ok {m : List Addr} : ∀ {ws : List W} {vs : List V} {bs : List Bool}, RWs m ws vs → allBl ws = some bs → vs = bs.map V.bl
  | _, _, bs, .nil, e => by cases e; rfl
  | w :: ws, _, bs, .cons r t, e => by
    cases w with
    | bl b =>
      cases r
      unfold allBl at e
      cases z : allBl ws with
      | none =>
        rw [z] at e
        cases e
      | some cs =>
        rw [z] at e
        cases e
        rw [allBl_ok t z]
        rfl
    | _ => cases e
theorem allInt_ok {m : List Addr} : ∀ {ws : List W} {vs : List V} {bs : List Int}, RWs m ws vs → allInt ws = some bs → vs = bs.map V.int
  | _, _, bs, .nil, e => by cases e; rfl
  | w :: ws, _, bs, .cons r t, e => by
    cases w with
    | int b =>
      cases r
      unfold allInt at e
      cases z : allInt ws with
      | none =>
        rw [z] at e
        cases e
      | some cs =>
        rw [z] at e
        cases e
        rw [allInt_ok t z]
        rfl
    | _ => cases e
theorem allStr_ok {m : List Addr} : ∀ {ws : List W} {vs : List V} {bs : List (List Nat)}, RWs m ws vs → allStr ws = some bs → vs = (bs.map S).map V.str
  | _, _, bs, .nil, e => by cases e; rfl
  | w :: ws, _, bs, .cons r t, e => by
    cases w with
    | str b =>
      cases r
      unfold allStr at e
      cases z : allStr ws with
      | none =>
        rw [z] at e
        cases e
      | some cs =>
        rw [z] at e
        cases e
        rw [allStr_ok t z]
        rfl
    | _ => cases e
theorem cm_all (hc : X.calm = true) : CM X ca (.builtin "all") cAll := by
  refine ⟨_, cr_all hc, ?_⟩
  intro Wx σ m st H xs vs Q hs r q
  unfold cAll at q
  split at q
  · obtain ⟨v, rfl, r1⟩ := RWs.one r
    split at q
    · rename_i xs e
      obtain ⟨a, vs, rfl, h1, r2⟩ := hs.lists e r1
      split at q
      · rename_i bs e2
        have e3 := allBl_ok r2 e2
        subst e3
        exact ⟨a, bs, rfl, h1, q.now hs rfl⟩
      · exact q.elim
    · exact q.elim
  · exact q.elim
theorem cm_any (hc : X.calm = true) : CM X ca (.builtin "any") cAny := by
  refine ⟨_, cr_any hc, ?_⟩
  intro Wx σ m st H xs vs Q hs r q
  unfold cAny at q
  split at q
  · obtain ⟨v, rfl, r1⟩ := RWs.one r
    split at q
    · rename_i xs e
      obtain ⟨a, vs, rfl, h1, r2⟩ := hs.lists e r1
      split at q
      · rename_i bs e2
        have e3 := allBl_ok r2 e2
        subst e3
        exact ⟨a, bs, rfl, h1, q.now hs rfl⟩
      · exact q.elim
    · exact q.elim
  · exact q.elim
theorem cm_sum (hc : X.calm = true) : CM X ca (.builtin "sum") cSum := by
  refine ⟨_, cr_sum hc, ?_⟩
  intro Wx σ m st H xs vs Q hs r q
  unfold cSum at q
  split at q
  · obtain ⟨v, rfl, r1⟩ := RWs.one r
    split at q
    · rename_i xs e
      obtain ⟨a, vs, rfl, h1, r2⟩ := hs.lists e r1
      split at q
      · rename_i bs e2
        have e3 := allInt_ok r2 e2
        subst e3
        exact ⟨a, bs, rfl, h1, q.now hs rfl⟩
      · exact q.elim
    · exact q.elim
  · exact q.elim

/-! ### isinstance -/
def Ty.nm : Ty → String
  | .int => "int" | .bool => "bool" | .str => "str" | .list => "list" | .tuple => "tuple" | .dict => "dict"
theorem kitB_all (t : Ty) : kitB "NoneType" t.nm = some false ∧ kitB "bool" t.nm = some (t == .bool || t == .int) ∧ kitB "int" t.nm = some (t == .int) ∧ kitB "str" t.nm = some (t == .str) ∧ kitB "list" t.nm = some (t == .list) ∧ kitB "tuple" t.nm = some (t == .tuple) ∧ kitB "dict" t.nm = some (t == .dict) := by
  cases t <;> decide +kernel
/-- a value's own built-in type -/
theorem isA_ok {G : G0} {m : List Addr} {st : Sto} {H : Hp} {w : W} {v : V} (hs : Sim G m st H) (r : RW m w v) : (∀ t, isA st t w = none) ∨ ∃ n : String, TyX G.K H v (.type n) ∧ ∀ t b, isA st t w = some b → kitB n t.nm = some b := by
  cases w with
  | raw a => exact .inl fun _ => rfl
  | non =>
    cases r
    exact .inr ⟨_, .base .non, fun t b e => by cases e; exact (kitB_all t).1⟩
  | bl b =>
    cases r
    exact .inr ⟨_, .base (.bl _), fun t b e => by cases e; exact (kitB_all t).2.1⟩
  | int b =>
    cases r
    exact .inr ⟨_, .base (.int _), fun t b e => by cases e; exact (kitB_all t).2.2.1⟩
  | str b =>
    cases r
    exact .inr ⟨_, .base (.str _), fun t b e => by cases e; exact (kitB_all t).2.2.2.1⟩
  | loc l =>
    cases z : st[l]? with
    | none => exact .inl fun t => by simp [isA, z]
    | some n =>
      cases n with
      | lst xs =>
        obtain ⟨a, vs, rfl, h1, r2, _⟩ := hs.lst z r
        exact .inr ⟨_, .base (.lst h1), fun t b e => by simp only [isA, z] at e; cases e; exact (kitB_all t).2.2.2.2.1⟩
      | rol xs =>
        obtain ⟨a, vs, rfl, h1, r2, _⟩ := hs.rol z r
        obtain ⟨o, h1⟩ := h1
        exact .inr ⟨_, .base (.frz h1), fun t b e => by simp only [isA, z] at e; cases e; exact (kitB_all t).2.2.2.2.1⟩
      | tup xs =>
        obtain ⟨a, vs, rfl, h1, r2, _⟩ := hs.tup z r
        exact .inr ⟨_, .base (.tup h1), fun t b e => by simp only [isA, z] at e; cases e; exact (kitB_all t).2.2.2.2.2.1⟩
      | dic xs =>
        obtain ⟨a, vs, rfl, h1, r2, _⟩ := hs.dic z r
        exact .inr ⟨_, .base (.dK h1), fun t b e => by simp only [isA, z] at e; cases e; exact (kitB_all t).2.2.2.2.2.2⟩
      | _ => exact .inl fun t => by simp [isA, z]
theorem isAny_ok {K : PySem.W.Frag} {st : Sto} {w : W} {n : String} (h : ∀ t b, isA st t w = some b → kitB n t.nm = some b) : ∀ {ts : List Ty} {b : Bool}, isAny st ts w = some b → PySem.W.kitAny K (.type n) (ts.map fun t => .type t.nm) = some b
  | [], b, e => by cases e; rfl
  | t :: r, b, e => by
    unfold isAny at e
    split at e
    · rename_i b1 b2 e1 e2
      cases e
      exact kitAny_cons (kit_ty (h t b1 e1)) (fun z => by subst z; exact isAny_ok h e2) (fun z => by subst z; rfl)
    · cases e
theorem isAny_none {st : Sto} {w : W} (h : ∀ t, isA st t w = none) {t : Ty} {ts : List Ty} {b : Bool} (e : isAny st (t :: ts) w = some b) : False := by
  unfold isAny at e
  rw [h t] at e
  cases e
/-- the name of a built-in type -/
def TyN (X : Cx) (t : Ty) (e : Expr) : Prop := PE X e (tC (.ty t.nm))
theorem ty_n {x : Str} {t : Ty} (hm : X.mg x = none) (hv : bootBuiltins x = some (.type t.nm) := by decide +kernel) (hg : Gl X x := by rfl) (hn : x ≠ "__name__" := by decide) (hdb : (x == ("__debug__" : Str)) = false := by decide) : TyN X t (.Name x pos) :=
  pe_bltn hg hm hv rfl hn hdb
theorem me_isi {p : Pos} {t : Ty} (hm : X.mg "isinstance" = none) (ha : ME X ca Wx a fa) (ht : TyN X t b) (hg : Gl X "isinstance" := by rfl)
    (he : starEach [a, b] X.env = (false, eval a X.env) :: starEach [b] X.env := by rfl) (he2 : starEach [b] X.env = (false, eval b X.env) :: starEach [] X.env := by rfl) : ME X ca Wx (.Call (.Name "isinstance" p) [a, b] [] pos) (eIsi fa [t]) := by
  refine PE.imp (pe_callB call_isi hg hm (by decide +kernel) (pa_cons ha (pa_cons ht pa_nil he2) he) (by decide) (by decide) he (by rw [he2]; rfl)) ?_
  rintro σ H Q ⟨m, ρ, st, hρ, hs, q⟩
  refine ⟨m, ρ, st, hρ, hs, (Post.bind q).imp ?_⟩
  rintro v H1 ⟨m1, w, st1, p1, s1, r1, h1⟩
  split at h1
  · rename_i k e
    rcases isA_ok s1 r1 with h | ⟨n, h2, h3⟩
    · exact (isAny_none h e).elim
    · refine ⟨v, .ty t.nm, _, _, k, rfl, .ty _, h2, ?_, h1.now s1 rfl⟩
      unfold isAny isAny at e
      split at e
      · rename_i b1 b2 e1 e2
        cases e
        cases e2
        rw [Bool.or_false]
        exact kit_ty (h3 t b1 e1)
      · cases e
  · exact h1.elim
inductive TyNs (X : Cx) : List Ty → List Expr → Prop
  | nil : TyNs X [] []
  | cons {t : Ty} {ts : List Ty} {e : Expr} {es : List Expr} (h : TyN X t e) (r : TyNs X ts es) (hs : starEach (e :: es) X.env = (false, eval e X.env) :: starEach es X.env := by rfl) : TyNs X (t :: ts) (e :: es)
theorem tyNs_pa : ∀ {ts : List Ty} {es : List Expr}, TyNs X ts es → PA X es (fun _ H Q => Q (ts.map fun t => V.ty t.nm) H)
  | _, _, .nil => pa_nil
  | _, _, .cons h r hs => PA.imp (pa_cons h (tyNs_pa r) hs) fun σ H Q q => q
theorem me_isiT {p p2 : Pos} {k : Nat} {ts : List Ty} {es : List Expr} (hm : X.mg "isinstance" = none) (ha : ME X ca Wx a fa) (ht : TyNs X ts es) (hl : ts.length ≤ 20 := by decide) (h0 : ts ≠ [] := by decide) (hg : Gl X "isinstance" := by rfl)
    (he : starEach [a, .Tuple es k p2] X.env = (false, eval a X.env) :: starEach [.Tuple es k p2] X.env := by rfl) : ME X ca Wx (.Call (.Name "isinstance" p) [a, .Tuple es k p2] [] pos) (eIsi fa ts) := by
  refine PE.imp (pe_callB call_isiT hg hm (by decide +kernel) (pa_cons ha (pa_cons (pe_tup (tyNs_pa ht)) pa_nil) he) (by decide) (by decide) he rfl) ?_
  rintro σ H Q ⟨m, ρ, st, hρ, hs, q⟩
  refine ⟨m, ρ, st, hρ, hs, (Post.bind q).imp ?_⟩
  rintro v H1 ⟨m1, w, st1, p1, s1, r1, h1⟩
  refine ⟨by rw [List.length_map, sl_big]; exact Nat.le_trans hl (by decide), fun tp hp => ?_⟩
  have s2 := s1.other (o := .tup (ts.map fun t => V.ty t.nm)) hp
  split at h1
  · rename_i k e
    rcases isA_ok s2 r1 with h | ⟨n, h2, h3⟩
    · cases ts with
      | nil => exact absurd rfl h0
      | cons t r => exact (isAny_none h e).elim
    · refine ⟨v, tp, _, _, ts.map fun t => .type t.nm, k, rfl, upd_same, ?_, h2, isAny_ok h3 e, ?_⟩
      · have all : ∀ l : List Ty, Paired ClsV (l.map fun t => V.ty t.nm) (l.map fun t => Value.type t.nm) := by
          intro l
          induction l with
          | nil => exact .nil
          | cons t r ih => exact .cons (.ty _) ih
        exact all ts
      · exact h1 m1 _ _ (List.prefix_refl _) s2 (fun a u e n => ⟨upd_stay hp a u e, n⟩) rfl
  · exact h1.elim
end
end Mi

set_option Elab.async false
set_option linter.all false
set_option maxRecDepth 100000
set_option maxHeartbeats 4000000
/-! Mini, part 5: methods, dicts, what is walked, comprehensions. -/
namespace Mi
open PySem L2
set_option autoImplicit false

section
variable {X : Cx} {ca : Ca} {Wx : WX} {a b c : Expr} {fa fb fc : ES} {pos : Pos}

/-! ### methods of built-in types -/
def KM (G : G0) (T : String) (k : W → Sto → Bool) : Prop := ∀ (m : List Addr) (st : Sto) (H : Hp) (x : W) (v : V), Sim G m st H → RW m x v → k x st = true → tyV G.K T v H
theorem km_list {G : G0} : KM G "list" kList := fun m st H x v hs r h => by
  unfold kList at h
  obtain ⟨xs, e⟩ := Option.isSome_iff_exists.mp h
  obtain ⟨a, vs, rfl, h1, _⟩ := hs.lists e r
  exact .inl ⟨rfl, vs, h1⟩
theorem km_str {G : G0} : KM G "str" kStr := fun m st H x v hs r h => by
  cases x with
  | str s =>
    cases r
    rfl
  | _ => cases h
theorem km_dict {G : G0} : KM G "dict" kDict := fun m st H x v hs r h => by
  unfold kDict at h
  obtain ⟨xs, e⟩ := Option.isSome_iff_exists.mp h
  cases x with
  | loc l =>
    unfold dicAt nodeAt at e
    simp only at e
    split at e
    · rename_i kvs q
      obtain ⟨a, vs, rfl, h1, _⟩ := hs.dic q r
      exact .inr (.inr (.inl ⟨rfl, .inl ⟨vs, h1⟩⟩))
    · cases e
  | _ => cases e
def MM (X : Cx) (ca : Ca) (id : String) (g : W → List W → Sto → R W) : Prop :=
  ∃ r, MtR X id r ∧ ∀ (Wx : WX) (σ : L2.St) (m : List Addr) (st : Sto) (H : Hp) (x : W) (v : V) (xs : List W) (vs : List V) (Q : VK), Sim ⟨X.K, ca⟩ m st H → RW m x v → RWs m xs vs → Post ⟨X.K, ca⟩ Wx σ RW m H Q (g x xs st) → r v vs H Q
theorem me_m {T id : String} {name : Str} {apos cpos : Pos} {k : W → Sto → Bool} {g : W → List W → Sto → R W} {es : List Expr} {fr : AS} (hk : KM ⟨X.K, ca⟩ T k) (hg : MM X ca id g) (pa : PlainAttrs T) (slot : Slot T name id) (hty : typeOf (.builtin id) = pure (.type "method_descriptor"))
    (ho : ME X ca Wx a fa) (ha : MA X ca Wx (b :: es) fr)
    (hbase : attributeBase a name X.env (eval a X.env) = eval a X.env := by rfl)
    (hfew : ((backTo cpos (starEach (b :: es) X.env)).all (fun x => !x.1) && (backToKw cpos (keywordEach [] X.env)).all (fun x => x.1.isSome)
      && decide ((b :: es).length + ([] : List Keyword).length + (if ([] : List Keyword).isEmpty then 0 else 1) < 30)) = true := by rfl)
    (hline : (apos.endLine == cpos.line) = true := by rfl) (hs : starEach (b :: es) X.env = (false, eval b X.env) :: starEach es X.env := by rfl) (hplain : (backTo cpos (starEach es X.env)).any (·.1) = false := by rfl) :
    ME X ca Wx (.Call (.Attribute a name apos) (b :: es) [] cpos) (eM k g fa fr) := by
  obtain ⟨r, h1, h2⟩ := hg
  refine PE.imp (pe_bm pa slot hty h1 ho ha hbase hfew hline hs hplain) ?_
  rintro σ H Q ⟨m, ρ, st, hρ, hs, q⟩
  refine ⟨m, ρ, st, hρ, hs, (Post.bind q).imp ?_⟩
  rintro v H1 ⟨m1, w, st1, p1, s1, r1, q1⟩
  split at q1
  · rename_i hk1
    refine ⟨hk m1 st1 H1 w v s1 r1 hk1, m1, ρ, st1, hρ.mono p1, s1, (Post.bind q1).imp ?_⟩
    rintro vs H2 ⟨m2, ws, st2, p2, s2, r2, q2⟩
    exact h2 Wx σ m2 st2 H2 w v ws vs Q s2 (r1.mono p2) r2 q2
  · exact q1.elim
def MM0 (X : Cx) (ca : Ca) (id : String) (g : W → Sto → R W) : Prop :=
  ∃ r, MtR X id r ∧ ∀ (Wx : WX) (σ : L2.St) (m : List Addr) (st : Sto) (H : Hp) (x : W) (v : V) (Q : VK), Sim ⟨X.K, ca⟩ m st H → RW m x v → Post ⟨X.K, ca⟩ Wx σ RW m H Q (g x st) → r v [] H Q
theorem me_m0 {T id : String} {name : Str} {apos cpos : Pos} {k : W → Sto → Bool} {g : W → Sto → R W} (hk : KM ⟨X.K, ca⟩ T k) (hg : MM0 X ca id g) (pa : PlainAttrs T) (slot : Slot T name id) (hty : typeOf (.builtin id) = pure (.type "method_descriptor"))
    (ho : ME X ca Wx a fa) (hbase : attributeBase a name X.env (eval a X.env) = eval a X.env := by rfl) (hline : (apos.endLine == cpos.line) = true := by rfl) :
    ME X ca Wx (.Call (.Attribute a name apos) [] [] cpos) (eM0 k g fa) := by
  obtain ⟨r, h1, h2⟩ := hg
  refine PE.imp (pe_bm0 pa slot hty h1 ho hbase hline) ?_
  rintro σ H Q ⟨m, ρ, st, hρ, hs, q⟩
  refine ⟨m, ρ, st, hρ, hs, (Post.bind q).imp ?_⟩
  rintro v H1 ⟨m1, w, st1, p1, s1, r1, q1⟩
  split at q1
  · rename_i hk1
    exact ⟨hk m1 st1 H1 w v s1 r1 hk1, h2 Wx σ m1 st1 H1 w v Q s1 r1 q1⟩
  · exact q1.elim
/-- a node is written: what is wanted holds behind it -/
theorem wr_lst {G : G0} {σ : L2.St} {m : List Addr} {H : Hp} {st : Sto} {l : Nat} {p : Addr} {ws : List W} {vs : List V} {w : W} {v : V} {Q : VK} (h : Post G Wx σ RW m H Q (.ok w (st.set l (.lst ws)))) (hs : Sim G m st H) (hl : m[l]? = some p) (r : RWs m ws vs) (rw : RW m w v) :
    Q v (upd H p (.lst vs)) := h.then (List.prefix_refl _) (hs.write hl ⟨vs, upd_same, r⟩) (Fr.write hl) rw
theorem mm_append : MM X ca "list.append" mAppend := by
  refine ⟨_, mt_append, ?_⟩
  intro Wx σ m st H x v xs vs Q hs r rs q
  unfold mAppend at q
  split at q
  · obtain ⟨u, rfl, ru⟩ := RWs.one rs
    split at q
    · rename_i ys e
      split at q
      · rename_i hl
        obtain ⟨p, vs, rfl, h1, r1, h2⟩ := hs.lst e r
        exact ⟨p, vs, u, rfl, rfl, h1, by rw [← r1.length, sl_big]; exact hl, wr_lst q hs h2 (r1.append (.cons ru .nil)) rfl⟩
      · exact q.elim
    · exact q.elim
  · exact q.elim
theorem mm_pop0 : MM0 X ca "list.pop" mPop0 := by
  refine ⟨_, mt_pop, ?_⟩
  intro Wx σ m st H x v Q hs r q
  unfold mPop0 at q
  split at q
  · split at q
    · rename_i ys e
      split at q
      · rename_i y ey
        obtain ⟨p, vs, rfl, h1, r1, h2⟩ := hs.lst e r
        rw [List.getLast?_eq_getElem?] at ey
        obtain ⟨u, e1, e2⟩ := r1.get ey
        exact ⟨p, vs, u, rfl, rfl, h1, by rw [← r1.length]; exact e1, wr_lst q hs h2 r1.dropLast e2⟩
      · exact q.elim
    · exact q.elim
  · exact q.elim
theorem mm_pop1 : MM X ca "list.pop" mPop1 := by
  refine ⟨_, mt_popAt, ?_⟩
  intro Wx σ m st H x v xs vs Q hs r rs q
  unfold mPop1 at q
  split at q
  · obtain ⟨u, rfl, ru⟩ := RWs.one rs
    split at q
    · rename_i ys e
      split at q
      · rename_i k
        split at q
        · rename_i j ej
          split at q
          · rename_i y ey
            split at q
            · rename_i hc
              obtain ⟨p, vs, rfl, h1, r1, h2⟩ := hs.lst e r
              cases ru
              obtain ⟨u, e1, e2⟩ := r1.get ey
              exact ⟨p, vs, k, j, u, rfl, rfl, h1, by omega, by omega, by rw [← r1.length]; exact (ixN_seq ej).1, e1, wr_lst q hs h2 (r1.erase j) e2⟩
            · exact q.elim
          · exact q.elim
        · exact q.elim
      · exact q.elim
    · exact q.elim
  · exact q.elim
theorem mm_clear : MM0 X ca "list.clear" mClear := by
  refine ⟨_, mt_clear, ?_⟩
  intro Wx σ m st H x v Q hs r q
  unfold mClear at q
  split at q
  · split at q
    · rename_i ys e
      obtain ⟨p, vs, rfl, h1, r1, h2⟩ := hs.lst e r
      exact ⟨p, vs, rfl, rfl, h1, wr_lst q hs h2 .nil rfl⟩
    · exact q.elim
  · exact q.elim
theorem starts_ok (a b : List Nat) : Txt.startswith (S a) (S b) = isPre b a := by
  unfold Txt.startswith isPre
  rw [StrLaws.subAt_eq, S_list, S_list, S_len, S_len, List.drop_zero, Nat.zero_add]
  by_cases h : b.length ≤ a.length
  · rw [decide_eq_true h, Bool.true_and]
  · rw [decide_eq_false h, Bool.false_and]
    symm
    apply beq_eq_false_iff_ne.mpr
    intro e
    have := congrArg List.length e
    rw [List.length_take] at this
    omega
theorem mm_starts : MM X ca "str.startswith" mStarts := by
  refine ⟨_, mt_startswith, ?_⟩
  intro Wx σ m st H x v xs vs Q hs r rs q
  unfold mStarts at q
  split at q
  · obtain ⟨u, rfl, ru⟩ := RWs.one rs
    cases r
    cases ru
    exact ⟨_, _, rfl, rfl, by rw [starts_ok]; exact q.now hs rfl⟩
  · exact q.elim
theorem join_ok (a : List Nat) : ∀ ys : List (List Nat), Txt.join (S a) (ys.map S) = S (joinL a ys) := by
  intro ys
  rw [TL.join_eq]
  induction ys with
  | nil => rfl
  | cons x r ih =>
    cases r with
    | nil => rfl
    | cons y r =>
      show S x ++ S a ++ Str.join (S a) ((y :: r).map S) = S (x ++ (a ++ joinL a (y :: r)))
      rw [ih, S_app, S_app, List.append_assoc]
theorem mm_join : MM X ca "str.join" mJoin := by
  refine ⟨_, mt_join, ?_⟩
  intro Wx σ m st H x v xs vs Q hs r rs q
  unfold mJoin at q
  split at q
  · obtain ⟨u, rfl, ru⟩ := RWs.one rs
    cases r
    split at q
    · rename_i ws e
      obtain ⟨p, vs, rfl, h1, r1⟩ := hs.seqs e ru
      split at q
      · rename_i ys e2
        split at q
        · rename_i hl
          have e3 := allStr_ok r1 e2
          subst e3
          refine ⟨_, p, ys.map S, rfl, rfl, h1, ?_, ?_⟩
          · rw [List.map_map, List.length_map, S_len]
            have e4 : (fun x : Str => x.length) ∘ S = List.length := funext fun s => S_len s
            rw [e4]
            exact hl
          · rw [join_ok]
            exact q.now hs rfl
        · exact q.elim
      · exact q.elim
    · exact q.elim
  · exact q.elim

/-! ### dicts -/
theorem kk_dec (a b : KW) : decide (kk a = kk b) = decide (a = b) := by
  by_cases h : a = b
  · subst h
    simp
  · rw [decide_eq_false h, decide_eq_false fun e => h (kk_inj e)]
theorem get_rel {m : List Addr} {k : KW} : ∀ {ws : List (KW × W)} {vs : List (Key × V)}, RKV m ws vs → (∀ w, getK ws k = some w → ∃ v, valV vs (kk k) = some v ∧ RW m w v) ∧ (getK ws k = none → valV vs (kk k) = none)
  | _, _, .nil => ⟨fun w e => (by cases e), fun _ => rfl⟩
  | _, _, @Paired.cons _ _ _ p q ws vs h t => by
    obtain ⟨h1, h2⟩ := h
    by_cases e : p.1 = k
    · have e2 : q.1 = kk k := by rw [← h1, e]
      have g : getK (p :: ws) k = some p.2 := by simp [getK, List.find?_cons, e]
      refine ⟨fun w z => ?_, fun z => ?_⟩
      · rw [g] at z
        cases z
        exact ⟨q.2, valV_pos e2, h2⟩
      · rw [g] at z
        cases z
    · have e2 : ¬ q.1 = kk k := fun z => e (kk_inj (by rw [h1, z]))
      have g : getK (p :: ws) k = getK ws k := by simp [getK, List.find?_cons, e]
      rw [g, valV_neg e2]
      exact get_rel t
theorem any_rel {m : List Addr} {k : KW} : ∀ {ws : List (KW × W)} {vs : List (Key × V)}, RKV m ws vs → (ws.any fun kv => decide (kv.1 = k)) = vs.any fun kv => decide (kv.1 = kk k)
  | _, _, .nil => rfl
  | _, _, .cons h t => by
    rw [List.any_cons, List.any_cons, any_rel t, ← h.1, kk_dec]
theorem map_rel {m : List Addr} {k : KW} {w : W} {v : V} (r : RW m w v) : ∀ {ws : List (KW × W)} {vs : List (Key × V)}, RKV m ws vs → RKV m (ws.map fun kv => if kv.1 = k then (kv.1, w) else kv) (vs.map fun kv => if kv.1 = kk k then (kv.1, v) else kv)
  | _, _, .nil => .nil
  | _, _, @Paired.cons _ _ _ p q ws vs h t => by
    refine .cons ?_ (map_rel r t)
    show kk (if p.1 = k then (p.1, w) else p).1 = (if q.1 = kk k then (q.1, v) else q).1 ∧ RW m (if p.1 = k then (p.1, w) else p).2 (if q.1 = kk k then (q.1, v) else q).2
    by_cases e : p.1 = k
    · have e2 : q.1 = kk k := by rw [← h.1, e]
      rw [if_pos e, if_pos e2]
      exact ⟨h.1, r⟩
    · have e2 : ¬ q.1 = kk k := fun z => e (kk_inj (by rw [h.1, z]))
      rw [if_neg e, if_neg e2]
      exact h
theorem put_rel {m : List Addr} {k : KW} {w : W} {v : V} (r : RW m w v) {ws : List (KW × W)} {vs : List (Key × V)} (h : RKV m ws vs) : RKV m (Mi.putK ws k w) (L2.putK vs (kk k) v) := by
  unfold Mi.putK L2.putK
  rw [any_rel h (k := k)]
  split
  · exact map_rel r h
  · exact Paired.snoc h ⟨rfl, r⟩
theorem drop_rel {m : List Addr} {k : KW} : ∀ {ws : List (KW × W)} {vs : List (Key × V)}, RKV m ws vs → RKV m (Mi.dropK ws k) (L2.dropK vs (kk k))
  | _, _, .nil => .nil
  | _, _, @Paired.cons _ _ _ p q ws vs h t => by
    have ih := drop_rel (k := k) t
    unfold Mi.dropK L2.dropK at ih ⊢
    rw [List.filter_cons, List.filter_cons]
    by_cases e : p.1 = k
    · have e2 : q.1 = kk k := by rw [← h.1, e]
      rw [if_neg (by simp [e]), if_neg (by simp [e2])]
      exact ih
    · have e2 : ¬ q.1 = kk k := fun z => e (kk_inj (by rw [h.1, z]))
      rw [if_pos (by simp [e]), if_pos (by simp [e2])]
      exact .cons h ih
theorem key_rel {m : List Addr} {w : W} {v : V} {k : KW} (r : RW m w v) (e : keyOf w = some k) : v = kV (kk k) := by
  cases w <;> cases e <;> cases r <;> rfl
theorem dget_of {G : G0} {m : List Addr} {st : Sto} {H : Hp} {l : Nat} {kvs : List (KW × W)} {x y : W} {v u : V} {k : KW} (hs : Sim G m st H) (e : st[l]? = some (.dic kvs)) (rx : RW m (.loc l) v) (ry : RW m y u) (ek : keyOf y = some k) :
    ∃ a es, v = .ref a ∧ H a = some (.dK es) ∧ m[l]? = some a ∧ RKV m kvs es ∧ DGet H a u (valV es (kk k)) := by
  obtain ⟨a, es, rfl, h1, r1, h2⟩ := hs.dic e rx
  refine ⟨a, es, rfl, h1, h2, r1, ?_⟩
  rw [key_rel ry ek]
  exact DGet.k h1
theorem opDx_ok {G : G0} {σ : L2.St} {m : List Addr} {st : Sto} {H : Hp} {x y : W} {v u : V} {Q : VK} (hs : Sim G m st H) (rx : RW m x v) (ry : RW m y u) (q : Post G Wx σ RW m H Q (opDx x y st)) : ∃ a w, v = .ref a ∧ DGet H a u (some w) ∧ Q w H := by
  unfold opDx at q
  split at q
  · split at q
    · rename_i kvs e
      split at q
      · rename_i k ek
        obtain ⟨w, e1, q⟩ := lift1_ok q
        obtain ⟨a, es, rfl, h1, h2, r1, d⟩ := dget_of (x := .non) hs e rx ry ek
        obtain ⟨z, e2, r2⟩ := (get_rel r1).1 w e1
        rw [e2] at d
        exact ⟨a, z, rfl, d, q.now hs r2⟩
      · exact q.elim
    · exact q.elim
  · exact q.elim
theorem me_dx (hu : X.A.units + 1 < cLine) (ha : ME X ca Wx a fa) (hb : ME X ca Wx b fb) (hp : NoSl b := by exact fun _ _ => rfl) : ME X ca Wx (.Subscript a b pos) (e2 opDx fa fb) := by
  refine PE.imp (pe_dget hu ha hb hp) ?_
  rintro σ H Q ⟨m, ρ, st, hρ, hs, q⟩
  refine ⟨m, ρ, st, hρ, hs, (Post.bind q).imp ?_⟩
  rintro v H1 ⟨m1, w, st1, p1, s1, r1, q1⟩
  refine ⟨m1, ρ, st1, hρ.mono p1, s1, (Post.bind q1).imp ?_⟩
  rintro u H2 ⟨m2, z, st2, p2, s2, r2, q2⟩
  exact opDx_ok s2 (r1.mono p2) r2 q2
theorem opDin_ok {G : G0} {σ : L2.St} {m : List Addr} {st : Sto} {H : Hp} {x y : W} {v u : V} {Q : VK} (hs : Sim G m st H) (rx : RW m x v) (ry : RW m y u) (q : Post G Wx σ RW m H Q (opDin x y st)) : ∃ a o, u = .ref a ∧ DGet H a v o ∧ Q (.bl o.isSome) H := by
  unfold opDin at q
  split at q
  · split at q
    · rename_i kvs e
      split at q
      · rename_i k ek
        obtain ⟨a, es, rfl, h1, h2, r1, d⟩ := dget_of (x := .non) hs e ry rx ek
        refine ⟨a, _, rfl, d, ?_⟩
        cases z : getK kvs k with
        | none =>
          rw [(get_rel r1).2 z]
          rw [z] at q
          exact q.now hs rfl
        | some w =>
          obtain ⟨t, e2, _⟩ := (get_rel r1).1 w z
          rw [e2]
          rw [z] at q
          exact q.now hs rfl
      · exact q.elim
    · exact q.elim
  · exact q.elim
theorem opDnotin_ok {G : G0} {σ : L2.St} {m : List Addr} {st : Sto} {H : Hp} {x y : W} {v u : V} {Q : VK} (hs : Sim G m st H) (rx : RW m x v) (ry : RW m y u) (q : Post G Wx σ RW m H Q (opDnotin x y st)) : ∃ a o, u = .ref a ∧ DGet H a v o ∧ Q (.bl (!o.isSome)) H := by
  unfold opDnotin notB at q
  refine opDin_ok (Q := fun w H' => ∀ b, w = .bl b → Q (.bl (!b)) H') hs rx ry ((Post.bind q).imp ?_) |>.imp fun a z => z.imp fun o w => ⟨w.1, w.2.1, w.2.2 _ rfl⟩
  rintro w H1 ⟨m1, w', st1, p1, s1, r1, q1⟩ b e
  subst e
  split at q1
  · rename_i k
    cases r1
    exact q1.now s1 rfl
  · exact q1.elim
theorem me_din (hu : X.A.units + 1 < cLine) (ha : ME X ca Wx a fa) (hb : ME X ca Wx b fb) (hm : behindInMarks .In b = false := by rfl) : ME X ca Wx (.Compare a [.In] [b] pos) (e2 opDin fa fb) := by
  refine PE.imp (pe_cmp (pc_din hu ha hb) hm) ?_
  rintro σ H Q ⟨m, ρ, st, hρ, hs, q⟩
  refine ⟨m, ρ, st, hρ, hs, (Post.bind q).imp ?_⟩
  rintro v H1 ⟨m1, w, st1, p1, s1, r1, q1⟩
  refine ⟨m1, ρ, st1, hρ.mono p1, s1, (Post.bind q1).imp ?_⟩
  rintro u H2 ⟨m2, z, st2, p2, s2, r2, q2⟩
  exact opDin_ok s2 (r1.mono p2) r2 q2
theorem me_dnotin (hu : X.A.units + 1 < cLine) (ha : ME X ca Wx a fa) (hb : ME X ca Wx b fb) (hm : behindInMarks .NotIn b = false := by rfl) : ME X ca Wx (.Compare a [.NotIn] [b] pos) (e2 opDnotin fa fb) := by
  refine PE.imp (pe_cmp (pc_dnotin hu ha hb) hm) ?_
  rintro σ H Q ⟨m, ρ, st, hρ, hs, q⟩
  refine ⟨m, ρ, st, hρ, hs, (Post.bind q).imp ?_⟩
  rintro v H1 ⟨m1, w, st1, p1, s1, r1, q1⟩
  refine ⟨m1, ρ, st1, hρ.mono p1, s1, (Post.bind q1).imp ?_⟩
  rintro u H2 ⟨m2, z, st2, p2, s2, r2, q2⟩
  exact opDnotin_ok s2 (r1.mono p2) r2 q2
theorem mt_din (hu : X.A.units + 1 < cLine) (ha : ME X ca Wx a fa) (hb : ME X ca Wx b fb) (hm : behindInMarks .In b = false := by rfl) : MT X ca Wx (.Compare a [.In] [b] pos) (bB (e2 opDin fa fb)) := by
  refine PT.imp (pt_cmp (pc_din hu ha hb) hm) ?_
  rintro σ H Q ⟨m, ρ, st, hρ, hs, q⟩
  refine ⟨m, ρ, st, hρ, hs, (Post.bind (bB_post q)).imp ?_⟩
  rintro v H1 ⟨m1, w, st1, p1, s1, r1, q1⟩
  refine ⟨m1, ρ, st1, hρ.mono p1, s1, (Post.bind q1).imp ?_⟩
  rintro u H2 ⟨m2, z, st2, p2, s2, r2, q2⟩
  obtain ⟨a, o, e1, e2, k, e3, e4⟩ := opDin_ok s2 (r1.mono p2) r2 q2
  cases e3
  exact ⟨a, o, e1, e2, _, rfl, e4⟩
theorem mt_dnotin (hu : X.A.units + 1 < cLine) (ha : ME X ca Wx a fa) (hb : ME X ca Wx b fb) (hm : behindInMarks .NotIn b = false := by rfl) : MT X ca Wx (.Compare a [.NotIn] [b] pos) (bB (e2 opDnotin fa fb)) := by
  refine PT.imp (pt_cmp (pc_dnotin hu ha hb) hm) ?_
  rintro σ H Q ⟨m, ρ, st, hρ, hs, q⟩
  refine ⟨m, ρ, st, hρ, hs, (Post.bind (bB_post q)).imp ?_⟩
  rintro v H1 ⟨m1, w, st1, p1, s1, r1, q1⟩
  refine ⟨m1, ρ, st1, hρ.mono p1, s1, (Post.bind q1).imp ?_⟩
  rintro u H2 ⟨m2, z, st2, p2, s2, r2, q2⟩
  obtain ⟨a, o, e1, e2, k, e3, e4⟩ := opDnotin_ok s2 (r1.mono p2) r2 q2
  cases e3
  exact ⟨a, o, e1, e2, _, rfl, e4⟩
theorem wr_dic {G : G0} {σ : L2.St} {m : List Addr} {H : Hp} {st : Sto} {l : Nat} {p : Addr} {ws : List (KW × W)} {vs : List (Key × V)} {w : W} {v : V} {Q : VK} (h : Post G Wx σ RW m H Q (.ok w (st.set l (.dic ws)))) (hs : Sim G m st H) (hl : m[l]? = some p) (r : RKV m ws vs) (rw : RW m w v) :
    Q v (upd H p (.dK vs)) := h.then (List.prefix_refl _) (hs.write hl ⟨vs, upd_same, r⟩) (Fr.write hl) rw
theorem isD_of {G : G0} {m : List Addr} {st : Sto} {H : Hp} {x : W} {v : V} (hs : Sim G m st H) (r : RW m x v) (h : kDict x st = true) : ∃ a, v = .ref a ∧ IsD H a := by
  unfold kDict at h
  obtain ⟨xs, e⟩ := Option.isSome_iff_exists.mp h
  cases x with
  | loc l =>
    unfold dicAt nodeAt at e
    simp only at e
    split at e
    · rename_i kvs q
      obtain ⟨a, vs, rfl, h1, _⟩ := hs.dic q r
      exact ⟨a, rfl, .inl ⟨vs, .inl h1⟩⟩
    · cases e
  | _ => cases e
theorem m1_of {X : Cx} {o e : Expr} {m : Str} {apos cpos : Pos} (h1 : attributeBase o m X.env (eval o X.env) = eval o X.env) (h2 : (apos.endLine == cpos.line) = true) (h3 : starEach [e] X.env = [(false, eval e X.env)]) : M1 X o m apos e cpos :=
  ⟨h1, by rw [h3]; rfl, h2, by rw [h3]; rfl⟩
/-- d.pop(k), k is there -/
theorem me_dpop {apos cpos : Pos} (ho : ME X ca Wx a fa) (hb : ME X ca Wx b fb) (m : M1 X a "pop" apos b cpos) : ME X ca Wx (.Call (.Attribute a "pop" apos) [b] [] cpos) (eM kDict mDPop fa (aCons fb aNil)) := by
  refine PE.imp (pe_dpop1 ho hb m) ?_
  rintro σ H Q ⟨m, ρ, st, hρ, hs, q⟩
  refine ⟨m, ρ, st, hρ, hs, (Post.bind q).imp ?_⟩
  rintro v H1 ⟨m1, w, st1, p1, s1, r1, q1⟩
  split at q1
  · rename_i hk
    obtain ⟨a, rfl, hd⟩ := isD_of s1 r1 hk
    refine ⟨a, rfl, hd, m1, ρ, st1, hρ.mono p1, s1, ?_⟩
    have q2 : Post ⟨X.K, ca⟩ Wx σ RW m1 H1 Q ((fb ρ st1).bind fun x st => mDPop w [x] st) := by
      have e : ((aCons fb aNil) ρ st1).bind (fun ws st => mDPop w ws st) = (fb ρ st1).bind fun x st => mDPop w [x] st := by
        unfold aCons aNil
        rw [R.bind_assoc]
        rfl
      rw [← e]
      exact q1
    refine (Post.bind q2).imp ?_
    rintro u H2 ⟨m2, z, st2, p2, s2, r2, q3⟩
    have r3 := r1.mono p2
    unfold mDPop at q3
    split at q3
    · rename_i l i e0
      cases e0
      split at q3
      · rename_i kvs e
        split at q3
        · rename_i k ek
          split at q3
          · rename_i t et
            obtain ⟨a', es, ea, h1, r4, h2⟩ := s2.dic e r3
            cases ea
            obtain ⟨t', e2, r5⟩ := (get_rel r4).1 t et
            exact ⟨es, kk k, t', h1, key_rel r2 ek, e2, wr_dic q3 s2 h2 (drop_rel r4) r5⟩
          · exact q3.elim
        · exact q3.elim
      · exact q3.elim
    · exact q3.elim
  · exact q1.elim
/-- d.get(k, x) -/
theorem me_dget2 {apos cpos : Pos} (hu : X.A.units + 1 < cLine) (ho : ME X ca Wx a fa) (hb : ME X ca Wx b fb) (hc : ME X ca Wx c fc) (m : M2 X a "get" apos b c cpos) : ME X ca Wx (.Call (.Attribute a "get" apos) [b, c] [] cpos) (eM kDict mGet2 fa (aCons fb (aCons fc aNil))) := by
  refine PE.imp (pe_dget2 hu ho hb hc m) ?_
  rintro σ H Q ⟨m, ρ, st, hρ, hs, q⟩
  refine ⟨m, ρ, st, hρ, hs, (Post.bind q).imp ?_⟩
  rintro v H1 ⟨m1, w, st1, p1, s1, r1, q1⟩
  split at q1
  · rename_i hk
    obtain ⟨a, rfl, hd⟩ := isD_of s1 r1 hk
    refine ⟨a, rfl, hd, m1, ρ, st1, hρ.mono p1, s1, ?_⟩
    have q2 : Post ⟨X.K, ca⟩ Wx σ RW m1 H1 Q ((fb ρ st1).bind fun x st => (fc ρ st).bind fun y st => mGet2 w [x, y] st) := by
      have e : ((aCons fb (aCons fc aNil)) ρ st1).bind (fun ws st => mGet2 w ws st) = (fb ρ st1).bind fun x st => (fc ρ st).bind fun y st => mGet2 w [x, y] st := by
        unfold aCons aNil
        rw [R.bind_assoc]
        congr 1
        funext x st
        rw [R.bind_assoc, R.bind_assoc]
        rfl
      rw [← e]
      exact q1
    refine (Post.bind q2).imp ?_
    rintro u H2 ⟨m2, z, st2, p2, s2, r2, q3⟩
    refine ⟨m2, ρ, st2, hρ.mono (p1.trans p2), s2, (Post.bind q3).imp ?_⟩
    rintro t H3 ⟨m3, z3, st3, p3, s3, r3, q4⟩
    have r4 := r1.mono (p2.trans p3)
    unfold mGet2 at q4
    split at q4
    · rename_i l i d e0
      cases e0
      split at q4
      · rename_i kvs e
        split at q4
        · rename_i k ek
          obtain ⟨a', es, ea, h1, h2, r5, dg⟩ := dget_of (x := .non) s3 e r4 (r2.mono p3) ek
          cases ea
          refine ⟨_, dg, ?_⟩
          cases et : getK kvs k with
          | none =>
            rw [(get_rel r5).2 et]
            rw [et] at q4
            exact q4.now s3 r3
          | some x =>
            obtain ⟨x', e2, r6⟩ := (get_rel r5).1 x et
            rw [e2]
            rw [et] at q4
            exact q4.now s3 r6
        · exact q4.elim
      · exact q4.elim
    · exact q4.elim
  · exact q1.elim
end
end Mi

set_option Elab.async false
set_option linter.all false
set_option maxRecDepth 100000
set_option maxHeartbeats 4000000
/-! Mini, part 6: what is walked, comprehensions, statements. -/
namespace Mi
open PySem L2
set_option autoImplicit false

/-! ### what is walked -/
def RY (G : G0) (m : List Addr) (H : Hp) : Y → V → Prop
  | .v w, x => RW m w x
  | .t ws, x => ∃ T vs, x = .ref T ∧ SqT G.K H T vs ∧ RWs m ws vs
/-- the iterator gives these, one a turn, while what it walks stands -/
def JY (G : G0) (m0 : List Addr) (ys : List Y) (ck : Ck) (J : It) : Prop :=
  ∀ (m : List Addr) (st : Sto) (H : Hp), m0 <+: m → Sim G m st H → ckOk ck st = true →
    (∀ (i : Nat) (y : Y), ys[i]? = some y → J.go i H ∧ ∀ x H', J.yld i H x H' → Sim G m st H' ∧ Fr m H m H' ∧ RY G m H' y x) ∧ J.stop ys.length H
abbrev tI (G : G0) (Wx : WX) (f : IS) : TI := tM G Wx (fun m p J => JY G m p.1 p.2 J) f
abbrev MI (X : Cx) (ca : Ca) (Wx : WX) (tg e : Expr) (f : IS) : Prop := PI X tg e (tI ⟨X.K, ca⟩ Wx f)
theorem PI.imp {X : Cx} {tg e : Expr} {t t' : TI} (h : PI X tg e t) (hi : ∀ σ H Q, t' σ H Q → t σ H Q) : PI X tg e t' := ⟨fun pins s σ H Q I q => h.run pins s σ H Q I (hi σ H Q q)⟩
/-- a list or a tuple -/
theorem pi_seq {X : Cx} {tg l : Expr} {tl : TE} (hl : PE X l tl) : PI X tg l (fun σ H R => tl σ H fun x H1 => (∃ a, x = .ref a ∧ (∃ xs, SqL X.K H1 a xs) ∧ R (Itl X.K a) H1) ∨ ∃ a, x = .ref a ∧ (∃ xs, SqT X.K H1 a xs) ∧ R (Itt X.K a) H1) := by
  refine ⟨fun pins s σ H R I h => ?_⟩
  refine thn (hl.run pins s σ H _ I h) fun v s1 ⟨x, H1, I1, r1, q1⟩ => ?_
  rcases q1 with ⟨a, e, ⟨xs, hq⟩, q⟩ | ⟨a, e, ⟨xs, hq⟩, q⟩
  · subst e
    cases r1
    obtain ⟨its, rv, p, hz⟩ := I1.list hq
    refine wpAny_pyIter_list p.isList ?_
    refine ⟨s1.heap.objs.size, [s1.heap.objs.size], _, _, H1, rfl, I1.kept (t' := s1.toks) fun b o e => Heap.get?_push_of_some _ e, turn_list a _, ⟨_, Heap.get?_push_size _ rfl, rfl, rfl⟩, fun b hb => ?_, q⟩
    have e : b = s1.heap.objs.size := by simpa using hb
    subst e
    exact I1.fpOk (Nat.le_refl _) (I1.hok.fresh (Nat.le_refl _))
  · subst e
    cases r1
    obtain ⟨its, rv, p, hz⟩ := I1.tuple hq
    refine wpAny_pyIter_tuple (show s1.heap.IsTuple a its.toArray from p) ?_
    refine ⟨s1.heap.objs.size, [s1.heap.objs.size], _, _, H1, rfl, I1.kept (t' := s1.toks) fun b o e => Heap.get?_push_of_some _ e, turn_tuple a _, ⟨_, Heap.get?_push_size _ rfl, rfl, rfl⟩, fun b hb => ?_, q⟩
    have e : b = s1.heap.objs.size := by simpa using hb
    subst e
    exact I1.fpOk (Nat.le_refl _) (I1.hok.fresh (Nat.le_refl _))
theorem ck_one {l : Nat} {n : Nd} {st : Sto} (h : ckOk [(l, n)] st = true) : st[l]? = some n := by
  simpa [ckOk] using h
theorem ck_two {l k : Nat} {n p : Nd} {st : Sto} (h : ckOk [(l, n), (k, p)] st = true) : st[l]? = some n ∧ st[k]? = some p := by
  simpa [ckOk] using h
theorem map_v {xs : List W} {i : Nat} {y : Y} (h : (xs.map Y.v)[i]? = some y) : ∃ w, xs[i]? = some w ∧ y = .v w := by
  rw [List.getElem?_map] at h
  cases e : xs[i]? with
  | none =>
    rw [e] at h
    cases h
  | some w =>
    rw [e] at h
    exact ⟨w, rfl, (Option.some.inj h).symm⟩
section
variable {G : G0} {m0 : List Addr}
theorem jy_list {l : Nat} {a : Addr} {n : Nd} {xs : List W} (hl : m0[l]? = some a) (hn : ∀ m H, At G m H a n → ∃ vs, SqL G.K H a vs ∧ RWs m xs vs) : JY G m0 (xs.map .v) [(l, n)] (Itl G.K a) := by
  intro m st H p hs hc
  obtain ⟨vs, h1, h2⟩ := hn m H (hs.at_ l a n (pre_get p hl) (ck_one hc))
  refine ⟨fun i y hy => ?_, ⟨vs, h1, by rw [List.length_map, h2.length]; exact Nat.le_refl _⟩⟩
  obtain ⟨w, e1, rfl⟩ := map_v hy
  obtain ⟨v, e2, r⟩ := h2.get e1
  refine ⟨⟨vs, v, h1, e2⟩, fun x H' hy => ?_⟩
  obtain ⟨rfl, hy⟩ := hy
  have e3 := hy vs h1
  rw [e2] at e3
  cases e3
  exact ⟨hs, Fr.refl, r⟩
theorem jy_tup {l : Nat} {a : Addr} {n : Nd} {xs : List W} (hl : m0[l]? = some a) (hn : ∀ m H, At G m H a n → ∃ vs, SqT G.K H a vs ∧ RWs m xs vs) : JY G m0 (xs.map .v) [(l, n)] (Itt G.K a) := by
  intro m st H p hs hc
  obtain ⟨vs, h1, h2⟩ := hn m H (hs.at_ l a n (pre_get p hl) (ck_one hc))
  refine ⟨fun i y hy => ?_, ⟨vs, h1, by rw [List.length_map, h2.length]; exact Nat.le_refl _⟩⟩
  obtain ⟨w, e1, rfl⟩ := map_v hy
  obtain ⟨v, e2, r⟩ := h2.get e1
  refine ⟨⟨vs, v, h1, e2⟩, fun x H' hy => ?_⟩
  obtain ⟨rfl, hy⟩ := hy
  have e3 := hy vs h1
  rw [e2] at e3
  cases e3
  exact ⟨hs, Fr.refl, r⟩
theorem rng_get {lo hi : Int} {i : Nat} {y : Y} (h : (rng lo hi)[i]? = some y) : i < (hi - lo).toNat ∧ y = .v (.int (lo + i)) := by
  unfold rng at h
  rw [List.getElem?_map] at h
  by_cases hi' : i < (hi - lo).toNat
  · rw [List.getElem?_range hi'] at h
    exact ⟨hi', (Option.some.inj h).symm⟩
  · rw [List.getElem?_eq_none (by simpa using hi')] at h
    cases h
theorem rng_len (lo hi : Int) : (rng lo hi).length = (hi - lo).toNat := by simp [rng]
theorem jy_rng {lo hi : Int} : JY G m0 (rng lo hi) [] (Itr lo (hi - lo).toNat) := by
  intro m st H p hs hc
  refine ⟨fun i y hy => ?_, by rw [rng_len]; exact Nat.le_refl _⟩
  obtain ⟨h1, rfl⟩ := rng_get hy
  refine ⟨h1, fun x H' hy => ?_⟩
  obtain ⟨rfl, rfl⟩ := hy
  exact ⟨hs, Fr.refl, rfl⟩
theorem jy_str {s : List Nat} : JY G m0 (s.map fun c => .v (.str [c])) [] (Its (S s)) := by
  intro m st H p hs hc
  refine ⟨fun i y hy => ?_, by rw [List.length_map]; show (S s).cps.size ≤ _; rw [show (S s).cps.size = s.length from S_len s]; exact Nat.le_refl _⟩
  rw [List.getElem?_map] at hy
  cases e : s[i]? with
  | none =>
    rw [e] at hy
    cases hy
  | some c =>
    rw [e] at hy
    cases hy
    refine ⟨by show i < (S s).cps.size; rw [show (S s).cps.size = s.length from S_len s]; exact (List.getElem?_eq_some_iff.mp e).1, fun x H' hy => ?_⟩
    obtain ⟨rfl, d, h1, rfl⟩ := hy
    have h2 : s[i]? = some d := by
      have h3 : s.toArray[i]? = some d := h1
      simpa using h3
    rw [e] at h2
    cases h2
    exact ⟨hs, Fr.refl, rfl⟩
theorem jy_enum {l : Nat} {a : Addr} {n : Nd} {xs : List W} (hl : m0[l]? = some a) (hn : ∀ m H, At G m H a n → ∃ vs, SqL G.K H a vs ∧ RWs m xs vs) : JY G m0 (xs.zipIdx.map fun p => .t [.int p.2, p.1]) [(l, n)] (Ite G.K a) := by
  intro m st H p hs hc
  obtain ⟨vs, h1, h2⟩ := hn m H (hs.at_ l a n (pre_get p hl) (ck_one hc))
  refine ⟨fun i y hy => ?_, ⟨vs, h1, by rw [List.length_map, List.length_zipIdx, h2.length]; exact Nat.le_refl _⟩⟩
  rw [List.getElem?_map, List.getElem?_zipIdx] at hy
  cases e1 : xs[i]? with
  | none =>
    rw [e1] at hy
    cases hy
  | some w =>
    rw [e1] at hy
    cases hy
    obtain ⟨v, e2, r⟩ := h2.get e1
    refine ⟨⟨vs, v, h1, e2⟩, fun x H' hy => ?_⟩
    obtain ⟨T, z, rfl, hT, rfl, hy⟩ := hy
    have e3 := hy vs h1
    rw [e2] at e3
    cases e3
    refine ⟨hs.other hT, Fr.other hT, T, _, rfl, .of upd_same, ?_⟩
    simp only [Nat.zero_add]
    exact .cons rfl (.cons r .nil)
theorem jy_zip {l k : Nat} {a b : Addr} {n p : Nd} {xs ys : List W} (hl : m0[l]? = some a) (hk : m0[k]? = some b) (hn : ∀ m H, At G m H a n → ∃ vs, SqL G.K H a vs ∧ RWs m xs vs) (hp : ∀ m H, At G m H b p → ∃ vs, SqL G.K H b vs ∧ RWs m ys vs) :
    JY G m0 (List.zipWith (fun p q => .t [p, q]) xs ys) [(l, n), (k, p)] (Itz G.K a b) := by
  intro m st H pr hs hc
  obtain ⟨c1, c2⟩ := ck_two hc
  obtain ⟨vs, h1, h2⟩ := hn m H (hs.at_ l a n (pre_get pr hl) c1)
  obtain ⟨us, g1, g2⟩ := hp m H (hs.at_ k b p (pre_get pr hk) c2)
  refine ⟨fun i y hy => ?_, ⟨vs, us, h1, g1, by rw [List.length_zipWith, h2.length, g2.length]; omega⟩⟩
  rw [List.getElem?_zipWith] at hy
  cases e1 : xs[i]? with
  | none =>
    rw [e1] at hy
    cases hy
  | some w =>
    cases e2 : ys[i]? with
    | none =>
      rw [e1, e2] at hy
      cases hy
    | some z =>
      rw [e1, e2] at hy
      cases hy
      obtain ⟨v, f1, r1⟩ := h2.get e1
      obtain ⟨u, f2, r2⟩ := g2.get e2
      refine ⟨⟨vs, us, v, u, h1, g1, f1, f2⟩, fun x H' hy => ?_⟩
      obtain ⟨T, x1, y1, rfl, hT, rfl, hy1, hy2⟩ := hy
      have e3 := hy1 vs h1
      rw [f1] at e3
      cases e3
      have e4 := hy2 us g1
      rw [f2] at e4
      cases e4
      exact ⟨hs.other hT, Fr.other hT, T, _, rfl, .of upd_same, .cons r1 (.cons r2 .nil)⟩
end
theorem at_lst {G : G0} {a : Addr} {xs : List W} : ∀ (m : List Addr) (H : Hp), At G m H a (.lst xs) → ∃ vs, SqL G.K H a vs ∧ RWs m xs vs := fun _ _ ⟨vs, h, r⟩ => ⟨vs, .of h, r⟩
theorem at_rol {G : G0} {a : Addr} {xs : List W} : ∀ (m : List Addr) (H : Hp), At G m H a (.rol xs) → ∃ vs, SqL G.K H a vs ∧ RWs m xs vs := fun _ _ ⟨vs, h, r⟩ => ⟨vs, h.sq, r⟩
theorem at_tup {G : G0} {a : Addr} {xs : List W} : ∀ (m : List Addr) (H : Hp), At G m H a (.tup xs) → ∃ vs, SqT G.K H a vs ∧ RWs m xs vs := fun _ _ ⟨vs, h, r⟩ => ⟨vs, .of h, r⟩
section
variable {X : Cx} {ca : Ca} {Wx : WX} {a b c tg : Expr} {fa fb fc : ES} {pos : Pos}
theorem mi_seq (ha : ME X ca Wx a fa) : MI X ca Wx tg a (iSeq fa) := by
  refine PI.imp (pi_seq ha) ?_
  rintro σ H R ⟨m, ρ, st, hρ, hs, q⟩
  refine ⟨m, ρ, st, hρ, hs, (Post.bind q).imp ?_⟩
  rintro v H1 ⟨m1, w, st1, p1, s1, r1, h1⟩
  split at h1
  · split at h1
    · rename_i xs e
      obtain ⟨a, vs, rfl, h2, r2, hl⟩ := s1.lst e r1
      exact .inl ⟨a, rfl, ⟨vs, .of h2⟩, h1.now s1 (jy_list hl at_lst)⟩
    · rename_i xs e
      obtain ⟨a, vs, rfl, h2, r2, hl⟩ := s1.rol e r1
      exact .inl ⟨a, rfl, ⟨vs, h2.sq⟩, h1.now s1 (jy_list hl at_rol)⟩
    · rename_i xs e
      obtain ⟨a, vs, rfl, h2, r2, hl⟩ := s1.tup e r1
      exact .inr ⟨a, rfl, ⟨vs, .of h2⟩, h1.now s1 (jy_tup hl at_tup)⟩
    · exact h1.elim
  · exact h1.elim
theorem mi_str (ha : ME X ca Wx a fa) : MI X ca Wx tg a (iStr fa) := by
  refine PI.imp (pi_str ha) ?_
  rintro σ H R ⟨m, ρ, st, hρ, hs, q⟩
  refine ⟨m, ρ, st, hρ, hs, (Post.bind q).imp ?_⟩
  rintro v H1 ⟨m1, w, st1, p1, s1, r1, h1⟩
  split at h1
  · exact ⟨_, r1, h1.now s1 jy_str⟩
  · exact h1.elim
theorem mi_rng1 {p : Pos} (hm : X.mg "range" = none) (ha : ME X ca Wx a fa) (hg : Gl X "range" := by rfl) (hs : starEach [a] X.env = [(false, eval a X.env)] := by rfl) : MI X ca Wx tg (.Call (.Name "range" p) [a] [] pos) (iRng1 fa) := by
  refine PI.imp (pi_range1 hg hm (pa_cons ha pa_nil hs) hs) ?_
  rintro σ H R ⟨m, ρ, st, hρ, hs, q⟩
  refine ⟨m, ρ, st, hρ, hs, (Post.bind q).imp ?_⟩
  rintro v H1 ⟨m1, w, st1, p1, s1, r1, h1⟩
  split at h1
  · rename_i j
    split at h1
    · rename_i hc
      cases r1
      refine ⟨j, rfl, by omega, by omega, h1.now s1 ?_⟩
      have e : j.toNat = (j - 0).toNat := by omega
      rw [e]
      exact jy_rng
    · exact h1.elim
  · exact h1.elim
theorem mi_rng2 {p : Pos} (hm : X.mg "range" = none) (ha : ME X ca Wx a fa) (hb : ME X ca Wx b fb) (hg : Gl X "range" := by rfl) (hs : starEach [a, b] X.env = [(false, eval a X.env), (false, eval b X.env)] := by rfl) (hs2 : starEach [b] X.env = [(false, eval b X.env)] := by rfl) :
    MI X ca Wx tg (.Call (.Name "range" p) [a, b] [] pos) (iRng2 fa fb) := by
  refine PI.imp (pi_range2 hg hm (pa_cons ha (pa_cons hb pa_nil hs2) (by rw [hs, hs2])) hs hs2) ?_
  rintro σ H R ⟨m, ρ, st, hρ, hs, q⟩
  refine ⟨m, ρ, st, hρ, hs, (Post.bind q).imp ?_⟩
  rintro v H1 ⟨m1, w, st1, p1, s1, r1, h1⟩
  refine ⟨m1, ρ, st1, hρ.mono p1, s1, (Post.bind h1).imp ?_⟩
  rintro u H2 ⟨m2, z, st2, p2, s2, r2, h2⟩
  split at h2
  · rename_i i j
    split at h2
    · rename_i hc
      have r3 := r1.mono p2
      cases r3
      cases r2
      exact ⟨i, j, rfl, by omega, h2.now s2 jy_rng⟩
    · exact h2.elim
  · exact h2.elim
theorem mi_enum {p tpos : Pos} {elts : List Expr} {kk : Nat} (hm : X.mg "enumerate" = none) (ha : ME X ca Wx a fa) (hg : Gl X "enumerate" := by rfl) (hs : starEach [a] X.env = [(false, eval a X.env)] := by rfl) : MI X ca Wx (.Tuple elts kk tpos) (.Call (.Name "enumerate" p) [a] [] pos) (iEnum fa) := by
  refine PI.imp (pi_enum hg hm (pa_cons ha pa_nil hs) hs) ?_
  rintro σ H R ⟨m, ρ, st, hρ, hs, q⟩
  refine ⟨m, ρ, st, hρ, hs, (Post.bind q).imp ?_⟩
  rintro v H1 ⟨m1, w, st1, p1, s1, r1, h1⟩
  split at h1
  · split at h1
    · rename_i xs e
      obtain ⟨a, vs, rfl, h2, r2, hl⟩ := s1.lst e r1
      exact ⟨a, vs, rfl, .of h2, h1.now s1 (jy_enum hl at_lst)⟩
    · rename_i xs e
      obtain ⟨a, vs, rfl, h2, r2, hl⟩ := s1.rol e r1
      exact ⟨a, vs, rfl, h2.sq, h1.now s1 (jy_enum hl at_rol)⟩
    · exact h1.elim
  · exact h1.elim
theorem mi_zip {p tpos : Pos} {elts : List Expr} {kk : Nat} (hm : X.mg "zip" = none) (ha : ME X ca Wx a fa) (hb : ME X ca Wx b fb) (hg : Gl X "zip" := by rfl) (hs : starEach [a, b] X.env = (false, eval a X.env) :: starEach [b] X.env := by rfl)
    (hs2 : starEach [b] X.env = [(false, eval b X.env)] := by rfl) : MI X ca Wx (.Tuple elts kk tpos) (.Call (.Name "zip" p) [a, b] [] pos) (iZip fa fb) := by
  refine PI.imp (pi_zip hg hm (pa_cons ha (pa_cons hb pa_nil hs2) hs) hs (by rw [hs2]; rfl)) ?_
  rintro σ H R ⟨m, ρ, st, hρ, hs, q⟩
  refine ⟨m, ρ, st, hρ, hs, (Post.bind q).imp ?_⟩
  rintro v H1 ⟨m1, w, st1, p1, s1, r1, h1⟩
  refine ⟨m1, ρ, st1, hρ.mono p1, s1, (Post.bind h1).imp ?_⟩
  rintro u H2 ⟨m2, z, st2, p2, s2, r2, h2⟩
  split at h2
  · split at h2
    · rename_i xs ys e1 e2
      obtain ⟨a, vs, rfl, g1, t1, l1⟩ := s2.lst e1 (r1.mono p2)
      obtain ⟨b, us, rfl, g2, t2, l2⟩ := s2.lst e2 r2
      exact ⟨a, b, vs, us, rfl, .of g1, .of g2, h2.now s2 (jy_zip l1 l2 at_lst at_lst)⟩
    · exact h2.elim
  · exact h2.elim

/-! ### targets -/
def Tg.ix : Tg → List Nat
  | .nm i => [i]
  | .tp ts => ts
/-- a target: what it does to the names -/
def tG (G : G0) (g : Tg) : TG := fun x σ H Q => ∃ m ρ st y ρ', RE m ρ σ ∧ Sim G m st H ∧ RY G m H y x ∧ asg g y ρ st = some ρ' ∧ ∀ σ', RE m ρ' σ' → (∀ vs : List Nat, (∀ i ∈ g.ix, i ∈ vs) → wipe σ' vs = wipe σ vs) → Q σ' H
abbrev MG (X : Cx) (ca : Ca) (tg : Expr) (g : Tg) : Prop := PG X tg (tG ⟨X.K, ca⟩ g)
theorem PG.imp {X : Cx} {e : Expr} {t t' : TG} (h : PG X e t) (hi : ∀ x σ H Q, t' x σ H Q → t x σ H Q) : PG X e t' := ⟨fun pins s σ H v u Q I r q => h.run pins s σ H v u Q I r (hi v σ H Q q)⟩
theorem set_none_in {σ : L2.St} {i : Nat} {o : Option V} : ∀ {vs : List Nat}, i ∈ vs → wipe (σ.set i o) vs = wipe σ vs
  | [], h => by cases h
  | v :: vs, h => by
    unfold wipe
    by_cases hv : i ∈ vs
    · rw [set_none_in hv]
    · have e : i = v := by
        rcases List.mem_cons.mp h with h | h
        · exact h
        · exact absurd h hv
      subst e
      clear h
      have comm : ∀ vs : List Nat, i ∉ vs → wipe (σ.set i o) vs = (wipe σ vs).set i o := by
        intro vs hv
        induction vs with
        | nil => rfl
        | cons u us ih =>
          unfold wipe
          rw [ih (fun z => hv (List.mem_cons_of_mem _ z)), List.set_comm _ _ (fun z => hv (by rw [z]; exact List.mem_cons_self))]
      rw [comm vs hv, List.set_set]
theorem mg_name (i : Nat) {x : Str} (hN : X.N.Nodup) (hi : X.N[i]? = some x := by rfl) (hx : L2.Loc X.env.scope x := by first | exact Or.inl rfl | exact Or.inr rfl) (hf : X.fn x = true ∨ X.env.scope.names.lookup x = some .local := by first | exact .inl rfl | exact .inr rfl) : MG X ca (.Name x pos) (.nm i) := by
  refine PG.imp (pg_name hN hi hx hf) ?_
  rintro x σ H Q ⟨m, ρ, st, y, ρ', hρ, hs, hy, e, k⟩
  cases y with
  | v w =>
    cases e
    exact k _ (hρ.set hy i) fun vs hv => set_none_in (hv i (by simp [Tg.ix]))
  | t ws => cases e
/-- names, one after another -/
def MGs (X : Cx) (es : List Expr) (is : List Nat) : Prop :=
  ∃ t, PGs X es t ∧ (assignEach es X.env).length = is.length ∧ (assignEach es X.env).findIdx? (·.1) = none ∧ ∀ (m : List Addr) (ρ ρ' : Loc) (σ : L2.St) (H : Hp) (ws : List W) (vs : List V) (Q : L2.St → Hp → Prop), RE m ρ σ → RWs m ws vs → setAll is ws ρ = some ρ' →
    (∀ σ', RE m ρ' σ' → (∀ us : List Nat, (∀ i ∈ is, i ∈ us) → wipe σ' us = wipe σ us) → Q σ' H) → t vs σ H Q
theorem mgs_nil : MGs X [] [] := by
  refine ⟨_, pgs_nil, rfl, rfl, ?_⟩
  intro m ρ ρ' σ H ws vs Q hρ r e k
  cases r with
  | nil =>
    cases e
    exact ⟨rfl, k σ hρ fun _ _ => rfl⟩
  | cons _ _ => cases e
theorem mgs_cons (i : Nat) {x : Str} {es : List Expr} {is : List Nat} (hN : X.N.Nodup) (h : MGs X es is) (hi : X.N[i]? = some x := by rfl) (hx : L2.Loc X.env.scope x := by first | exact Or.inl rfl | exact Or.inr rfl)
    (hf : X.fn x = true ∨ X.env.scope.names.lookup x = some .local := by first | exact .inl rfl | exact .inr rfl)
    (hs : (assignEach (.Name x pos :: es) X.env).map (·.2) = assign (.Name x pos) X.env :: (assignEach es X.env).map (·.2) := by rfl)
    (hl : (assignEach (.Name x pos :: es) X.env).length = (assignEach es X.env).length + 1 := by rfl) (hd : (assignEach (.Name x pos :: es) X.env).findIdx? (·.1) = ((assignEach es X.env).findIdx? (·.1)).map (· + 1) := by rfl) : MGs X (.Name x pos :: es) (i :: is) := by
  obtain ⟨t, h1, h2, h3, h4⟩ := h
  refine ⟨_, pgs_cons (pg_name hN hi hx hf) h1 hs, by rw [hl, h2]; rfl, by rw [hd, h3]; rfl, ?_⟩
  intro m ρ ρ' σ H ws vs Q hρ r e k
  cases r with
  | nil => cases e
  | @cons w v ws vs r1 r2 =>
    refine ⟨v, vs, rfl, h4 m _ ρ' _ H ws vs Q (hρ.set r1 i) r2 e fun σ' e1 e2 => k σ' e1 fun us hu => ?_⟩
    rw [e2 us fun j hj => hu j (List.mem_cons_of_mem _ hj)]
    exact set_none_in (hu i List.mem_cons_self)
theorem mg_tup {es : List Expr} {is : List Nat} {k : Nat} (hc : X.calm = true) (h : MGs X es is) : MG X ca (.Tuple es k pos) (.tp is) := by
  obtain ⟨t, h1, h2, h3, h4⟩ := h
  refine PG.imp (pg_tup hc h1 h2 h3) ?_
  rintro x σ H Q ⟨m, ρ, st, y, ρ', hρ, hs, hy, e, k⟩
  cases y with
  | v w =>
    unfold asg at e
    simp only at e
    split at e
    · rename_i ws ew
      obtain ⟨a, vs, rfl, hq, r⟩ := hs.tups ew hy
      have len : ∀ {is : List Nat} {ws : List W} {ρ ρ' : Loc}, setAll is ws ρ = some ρ' → ws.length = is.length := by
        intro is
        induction is with
        | nil =>
          intro ws ρ ρ' e
          cases ws with
          | nil => rfl
          | cons _ _ => cases e
        | cons i is ih =>
          intro ws ρ ρ' e
          cases ws with
          | nil => cases e
          | cons w ws => rw [List.length_cons, List.length_cons, ih (show setAll is ws _ = some ρ' from e)]
      exact ⟨a, vs, rfl, hq, by rw [← r.length]; exact len e, h4 m ρ ρ' σ H ws vs Q hρ r e k⟩
    · cases e
  | t ws =>
    obtain ⟨T, vs, rfl, hq, r⟩ := hy
    have len : ∀ {is : List Nat} {ws : List W} {ρ ρ' : Loc}, setAll is ws ρ = some ρ' → ws.length = is.length := by
      intro is
      induction is with
      | nil =>
        intro ws ρ ρ' e
        cases ws with
        | nil => rfl
        | cons _ _ => cases e
      | cons i is ih =>
        intro ws ρ ρ' e
        cases ws with
        | nil => cases e
        | cons w ws => rw [List.length_cons, List.length_cons, ih (show setAll is ws _ = some ρ' from e)]
    exact ⟨T, vs, rfl, hq, by rw [← r.length]; exact len e, h4 m ρ ρ' σ H ws vs Q hρ r e k⟩
end
end Mi

set_option Elab.async false
set_option linter.all false
set_option maxRecDepth 100000
set_option maxHeartbeats 4000000
/-! Mini, part 7: comprehensions, statements, loops. -/
namespace Mi
open PySem L2
set_option autoImplicit false
abbrev MS (X : Cx) (ca : Ca) (Wx : WX) (s : Stmt) (f : SS) : Prop := PS X s (tS ⟨X.K, ca⟩ Wx f)
abbrev MSs (X : Cx) (ca : Ca) (Wx : WX) (s : List Stmt) (f : SS) : Prop := PSs X s (tS ⟨X.K, ca⟩ Wx f)
/-- no exception is wished for -/
abbrev W0 : WX := fun _ _ _ _ => False

section
variable {X : Cx} {ca : Ca} {Wx : WX} {a b c tg : Expr} {fa fb fc : ES} {pos : Pos}

/-! ### list comprehensions -/
abbrev PB (X : Cx) (scope : Scope) (P : Cx → Prop) : Prop := ∀ (s : Shared) (H : Hp) (C : Addr) (cl : List (Str × Addr)) (fp : List Addr), P (X.blk s H scope (compEnvC scope cl C X.env) fp)
/-- the tests of a comprehension -/
abbrev MTs (X : Cx) (ca : Ca) (ifs : List Expr) (f : EB) : Prop := PTs X ifs (tT ⟨X.K, ca⟩ W0 f)
theorem mts_nil : MTs X ca [] bYes := ⟨fun pins s σ H Q I h => (pts_nil (X := X)).run pins s σ H Q I (by
  obtain ⟨m, ρ, st, hρ, hs, q⟩ := h
  exact Post.now (w := true) (st := st) q hs rfl)⟩
theorem mts_one {t : Expr} {f : EB} (h : MT X ca W0 t f) : MTs X ca [t] f := pts_one h
theorem post_noExc {α β : Type} {G : G0} {σ : L2.St} {rel : List Addr → α → β → Prop} {m : List Addr} {H : Hp} {Q : β → Hp → Prop} {r : R α} (h : Post G Wx σ rel m H Q (noExc r)) : Post G W0 σ rel m H Q r := by
  cases r with
  | ok a st => exact h
  | exc c l st => exact h.elim
  | bad => exact h
theorem wipe_sub {σ : L2.St} {vs : List Nat} : ∀ us : List Nat, (∀ i ∈ us, i ∈ vs) → wipe (wipe σ us) vs = wipe σ vs
  | [], _ => rfl
  | u :: us, h => by
    rw [wipe, set_none_in (h u List.mem_cons_self)]
    exact wipe_sub us fun i hi => h i (List.mem_cons_of_mem _ hi)
theorem wipe_wipe (σ : L2.St) (vs : List Nat) : wipe (wipe σ vs) vs = wipe σ vs := wipe_sub vs fun _ h => h
/-- what a comprehension's turns are to come to -/
def LcEnd (G : G0) (Wx : WX) (σ : L2.St) (m0 : List Addr) (H0 : Hp) (Q : VK) : R (List W) → Prop := fun r => Post G Wx σ RW m0 H0 Q ((noExc r).bind fun acc st => new (.lst acc) st)
theorem lcEnd_not {G : G0} {σ : L2.St} {m0 : List Addr} {H0 : Hp} {Q : VK} (h : LcEnd G Wx σ m0 H0 Q .bad) : False := h
theorem lc_sound {G : G0} {it : IS} {g : Tg} {t : EB} {e : ES} {own : List Nat} {wi : TI} {tt : TT} {te : TE} {σ : L2.St} {H : Hp} {Q : VK}
    (hi : ∀ R, tI G Wx it σ H R → wi σ H R)
    (ht : ∀ σ H Q, tT G W0 t σ H Q → tt σ H Q) (he : ∀ σ H Q, tE G W0 e σ H Q → te σ H Q) (hown : ∀ i ∈ g.ix, i ∈ own)
    (q : tE G Wx (eLc own it g t e) σ H Q) : tLc wi (tG G g) tt te own σ H Q := by
  obtain ⟨m, ρ, st, hρ, hs, q⟩ := q
  refine hi _ ⟨m, ρ, st, hρ, hs, (Post.bind q).imp ?_⟩
  rintro J H1 ⟨m1, ⟨ys, ck⟩, st1, p1, s1, jy, q1⟩
  intro D hD
  have nD : D ∉ m1 := s1.fresh hD
  refine ⟨fun i n H' => n = ys.length - i ∧ i ≤ ys.length ∧ ∃ m' st' acc vs, m1 <+: m' ∧ Sim G m' st' H' ∧ Fr m1 H1 m' H' ∧ H' D = some (.lst vs) ∧ D ∉ m' ∧ RWs m' acc vs ∧
    LcEnd G Wx σ m1 H1 Q (lcGo ck g t e (wipeL ρ own) (ys.drop i) acc st'), ⟨_, rfl, Nat.zero_le _, m1, st1, [], [], List.prefix_refl _, s1.other hD, Fr.other hD, upd_same, nD, .nil, q1⟩, ?_⟩
  rintro i n H' ⟨rfl, hi, m', st', acc, vs, p', s', f', hd, nd, racc, qe⟩
  by_cases hlt : i < ys.length
  · have ed : ys.drop i = ys[i] :: ys.drop (i + 1) := List.drop_eq_getElem_cons hlt
    rw [ed] at qe
    unfold lcGo at qe
    split at qe
    · rename_i hck
      obtain ⟨hstep, _⟩ := jy m' st' H' p' s' hck
      obtain ⟨hgo, hy⟩ := hstep i ys[i] (List.getElem?_eq_getElem hlt)
      refine .inr ⟨hgo, fun H'' => ∃ m'' st'' acc vs, m1 <+: m'' ∧ Sim G m'' st'' H'' ∧ Fr m1 H1 m'' H'' ∧ H'' D = some (.lst vs) ∧ D ∉ m'' ∧ RWs m'' acc vs ∧ LcEnd G Wx σ m1 H1 Q (lcGo ck g t e (wipeL ρ own) (ys.drop (i + 1)) acc st''),
        fun H'' z => ⟨ys.length - (i + 1), by omega, rfl, hlt, z⟩, ?_⟩
      intro x H2 hyx
      obtain ⟨s2, f2, ry⟩ := hy x H2 hyx
      obtain ⟨hd2, nd2⟩ := f2 D _ hd nd
      split at qe
      · rename_i ρ' ea
        refine ⟨m', _, st', ys[i], ρ', (hρ.mono (p1.trans p')).wipe own, s2, ry, ea, fun σ' re hw => ⟨by rw [hw own hown]; exact wipe_wipe _ _, ht _ _ _ ⟨m', ρ', st', re, s2, ?_⟩⟩⟩
        -- the test
        have key : ∀ {r : R Bool}, LcEnd G Wx σ m1 H1 Q (r.bind fun c st => if c then (e ρ' st).bind fun w st => if acc.length < big then lcGo ck g t e (wipeL ρ own) (ys.drop (i + 1)) (acc ++ [w]) st else .bad else lcGo ck g t e (wipeL ρ own) (ys.drop (i + 1)) acc st) →
            Post G W0 σ' rB m' H2 (fun b H3 => if b = true then te σ' H3 fun y H4 => ∃ acc, H4 D = some (.lst acc) ∧ acc.length < sizeLine ∧ ∃ m'' st'' acc' vs, m1 <+: m'' ∧ Sim G m'' st'' (upd H4 D (.lst (acc ++ [y]))) ∧ Fr m1 H1 m'' (upd H4 D (.lst (acc ++ [y]))) ∧ (upd H4 D (.lst (acc ++ [y]))) D = some (.lst vs) ∧ D ∉ m'' ∧ RWs m'' acc' vs ∧ LcEnd G Wx σ m1 H1 Q (lcGo ck g t e (wipeL ρ own) (ys.drop (i + 1)) acc' st'')
              else ∃ m'' st'' acc vs, m1 <+: m'' ∧ Sim G m'' st'' H3 ∧ Fr m1 H1 m'' H3 ∧ H3 D = some (.lst vs) ∧ D ∉ m'' ∧ RWs m'' acc vs ∧ LcEnd G Wx σ m1 H1 Q (lcGo ck g t e (wipeL ρ own) (ys.drop (i + 1)) acc st'')) r := by
          intro r hr
          cases r with
          | exc _ _ _ => exact hr.elim
          | bad => exact hr.elim
          | ok k st3 =>
            intro m3 H3 b p3 s3 f3 rb
            have rb' : k = b := rb
            subst rb'
            obtain ⟨hd3, nd3⟩ := f3 D _ hd2 nd2
            cases k with
            | false =>
              rw [if_neg Bool.false_ne_true]
              exact ⟨m3, st3, acc, vs, p'.trans p3, s3, (f'.trans f2).trans f3, hd3, nd3, racc.mono p3, hr⟩
            | true =>
              rw [if_pos rfl]
              refine he _ _ _ ⟨m3, ρ', st3, re.mono p3, s3, ?_⟩
              have hr2 : LcEnd G Wx σ m1 H1 Q ((e ρ' st3).bind fun w st => if acc.length < big then lcGo ck g t e (wipeL ρ own) (ys.drop (i + 1)) (acc ++ [w]) st else .bad) := hr
              cases he4 : e ρ' st3 with
              | exc _ _ _ =>
                rw [he4] at hr2
                exact hr2.elim
              | bad =>
                rw [he4] at hr2
                exact hr2.elim
              | ok w st4 =>
                rw [he4] at hr2
                intro m4 H4 y p4 s4 f4 rw4
                obtain ⟨hd4, nd4⟩ := f4 D _ hd3 nd3
                have hr3 : LcEnd G Wx σ m1 H1 Q (if acc.length < big then lcGo ck g t e (wipeL ρ own) (ys.drop (i + 1)) (acc ++ [w]) st4 else .bad) := hr2
                split at hr3
                · rename_i hlen
                  refine ⟨vs, hd4, by rw [← racc.length, sl_big]; exact hlen, m4, st4, acc ++ [w], vs ++ [y], (p'.trans p3).trans p4, ?_, ?_, upd_same, nd4, (racc.mono (p3.trans p4)).append (.cons rw4 .nil), hr3⟩
                  · refine ⟨s4.len, fun j a k h1 h2 => ?_, s4.nd, s4.px⟩
                    have ne : a ≠ D := fun z => nd4 (by rw [← z]; exact List.mem_of_getElem? h1)
                    exact At.stay (fun u e => by rw [upd_ne ne]; exact e) (s4.at_ j a k h1 h2)
                  · intro a o ha na
                    obtain ⟨g1, g2⟩ := ((f'.trans f2).trans (f3.trans f4)) a o ha na
                    have ne : a ≠ D := fun z => by rw [z, hD] at ha; cases ha
                    exact ⟨by rw [upd_ne ne]; exact g1, g2⟩
                · exact hr3.elim
        exact key qe
      · exact qe.elim
    · exact qe.elim
  · have e0 : i = ys.length := by omega
    subst e0
    rw [List.drop_length] at qe
    unfold lcGo at qe
    split at qe
    · rename_i hck
      obtain ⟨_, hstop⟩ := jy m' st' H' p' s' hck
      refine .inl ⟨hstop, ?_⟩
      have qn : Post G Wx σ RW m1 H1 Q (new (.lst acc) st') := qe
      refine qn (m' ++ [D]) H' (.ref D) (p'.trans (snoc_pre m' D)) ?_ (fun a o ha na => ?_) ⟨D, by rw [← s'.len]; exact List.getElem?_concat_length, rfl⟩
      · have eH : upd (fun b => if b = D then none else H' b) D (.lst vs) = H' := by
          funext b
          by_cases hb : b = D
          · subst hb
            rw [upd_same, hd]
          · rw [upd_ne hb, if_neg hb]
        have s0 : Sim G m' st' (fun b => if b = D then none else H' b) := ⟨s'.len, fun j a k h1 h2 => At.stay (fun u e => by
          have ne : a ≠ D := fun z => nd (by rw [← z]; exact List.mem_of_getElem? h1)
          rw [if_neg ne]
          exact e) (s'.at_ j a k h1 h2), s'.nd, s'.px⟩
        have s3 := s0.new (p := D) (n := .lst acc) (o := .lst vs) (if_pos rfl) ⟨vs, upd_same, racc.mono (snoc_pre m' D)⟩
        rw [eH] at s3
        exact s3
      · obtain ⟨g1, g2⟩ := f' a o ha na
        refine ⟨g1, fun z => ?_⟩
        rcases List.mem_append.mp z with z | z
        · exact g2 z
        · have e : a = D := by simpa using z
          rw [e, hD] at ha
          cases ha
    · exact qe.elim

theorem me_lc {elt iter : Expr} {ifs : List Expr} {scope : Scope} (own : List (Str × Nat)) {g : Tg} {t : EB} {e : ES} {it : IS} (hc : X.calm = true) (hN : X.N.Nodup) (hi : MI X ca Wx tg iter it) (hg : PB X scope fun Y => MG Y ca tg g) (ht : PB X scope fun Y => MTs Y ca ifs t) (he : PB X scope fun Y => ME Y ca W0 elt e)
    (ok : BlkOk X.N X.env.scope scope own := by exact blkOk_by (by kernel_rfl)) (hown : ∀ i ∈ g.ix, i ∈ own.map (·.2) := by decide) (hs : ∀ x, foldedSetIterable iter X.env x = pure x := by intro _; rfl) :
    ME X ca Wx (.ListComp elt [⟨tg, iter, ifs, 0⟩] scope pos) (eLc (own.map (·.2)) it g t e) := by
  exact PE.imp (pe_lc (own := own) (g := tG ⟨X.K, ca⟩ g) (tt := tT ⟨X.K, ca⟩ W0 t) (te := tE ⟨X.K, ca⟩ W0 e) hc hN hi ok hg ht he hs) fun σ H Q q => lc_sound (fun _ z => z) (fun _ _ _ z => z) (fun _ _ _ z => z) hown q
theorem ms_setLc {elt iter : Expr} {ifs : List Expr} {scope : Scope} (i : Nat) {y : Str} {py spos : Pos} (own : List (Str × Nat)) {g : Tg} {t : EB} {e : ES} {it : IS} (hc : X.calm = true) (hN : X.N.Nodup) (hi : MI X ca Wx tg iter it) (hg : PB X scope fun Y => MG Y ca tg g) (ht : PB X scope fun Y => MTs Y ca ifs t) (he : PB X scope fun Y => ME Y ca W0 elt e)
    (hy : X.N[i]? = some y := by rfl) (hyl : X.env.scope.names.lookup y = some .local := by rfl)
    (hsw : swapsWith (.ListComp elt [⟨tg, iter, ifs, 0⟩] scope pos) (some (.Name y py)) spos.line X.env = pure true := by exact sw_true rfl rfl rfl (by decide +kernel))
    (ok : BlkOk X.N X.env.scope scope own := by exact blkOk_by (by kernel_rfl)) (hown : ∀ i ∈ g.ix, i ∈ own.map (·.2) := by decide) (hs : ∀ x, foldedSetIterable iter X.env x = pure x := by intro _; rfl) :
    MS X ca Wx (.Assign [.Name y py] (.ListComp elt [⟨tg, iter, ifs, 0⟩] scope pos) spos) (sSet i (eLc (own.map (·.2)) it g t e)) := by
  refine PS.imp (ps_setLc (own := own) (g := tG ⟨X.K, ca⟩ g) (tt := tT ⟨X.K, ca⟩ W0 t) (te := tE ⟨X.K, ca⟩ W0 e) hc hN hy hyl hsw hi ok hg ht he hs) ?_
  rintro D σ H ⟨m, ρ, st, hρ, hs, q⟩
  refine lc_sound (G := ⟨X.K, ca⟩) (Wx := Wx) (it := it) (g := g) (t := t) (e := e) (fun _ z => z) (fun _ _ _ z => z) (fun _ _ _ z => z) hown ⟨m, ρ, st, hρ, hs, (PostS.bind hρ q).imp ?_⟩
  rintro v H1 ⟨m1, w, st1, p1, s1, r1, q1⟩
  exact q1 m1 H1 _ (List.prefix_refl _) s1 Fr.refl ((hρ.mono p1).set r1 i)

/-! ### statements -/
theorem mss_nil : MSs X ca Wx [] sNop := by
  refine PSs.imp pss_nil ?_
  rintro D σ H ⟨m, ρ, st, hρ, hs, q⟩
  exact q m H σ (List.prefix_refl _) hs Fr.refl hρ
theorem mss_cons {s : Stmt} {r : List Stmt} {f g : SS} (h : MS X ca Wx s f) (k : MSs X ca Wx r g) : MSs X ca Wx (s :: r) (sSeq f g) := by
  refine PSs.imp (pss_cons h k) ?_
  rintro D σ H ⟨m, ρ, st, hρ, hs, q⟩
  refine ⟨m, ρ, st, hρ, hs, ?_⟩
  unfold sSeq at q
  cases z : f ρ st with
  | nx ρ1 st1 =>
    rw [z] at q
    exact fun m1 H1 σ1 p1 s1 f1 r1 => ⟨m1, ρ1, st1, r1, s1, q.fwd p1 f1⟩
  | rt w st1 =>
    rw [z] at q
    exact q
  | bk ρ1 st1 =>
    rw [z] at q
    exact q
  | ct ρ1 st1 =>
    rw [z] at q
    exact q
  | exc c l ρ1 st1 =>
    rw [z] at q
    exact q
  | bad =>
    rw [z] at q
    exact q
theorem mss_one {s : Stmt} {f : SS} (h : MS X ca Wx s f) : MSs X ca Wx [s] f := pss_one h
theorem ms_set (i : Nat) {x : Str} {pos' : Pos} (hN : X.N.Nodup) (ha : ME X ca Wx a fa) (hi : X.N[i]? = some x := by rfl) (hx : L2.Loc X.env.scope x := by first | exact Or.inl rfl | exact Or.inr rfl) (hs : swapsWith a (some (.Name x pos')) pos.line X.env = pure false := by rfl)
    (hf : X.fn x = true ∨ X.env.scope.names.lookup x = some .local := by first | exact .inl rfl | exact .inr rfl) : MS X ca Wx (.Assign [.Name x pos'] a pos) (sSet i fa) := by
  refine PS.imp (ps_set hN hi hx ha hs hf) ?_
  rintro D σ H ⟨m, ρ, st, hρ, hs, q⟩
  refine ⟨m, ρ, st, hρ, hs, (PostS.bind hρ q).imp ?_⟩
  rintro v H1 ⟨m1, w, st1, p1, s1, r1, q1⟩
  exact q1 m1 H1 _ (List.prefix_refl _) s1 Fr.refl ((hρ.mono p1).set r1 i)
theorem ms_expr (ha : ME X ca Wx a fa) (hs : swapsWith a none pos.line X.env = pure false := by rfl) : MS X ca Wx (.Expr a pos) (sDrop fa) := by
  refine PS.imp (ps_expr ha hs) ?_
  rintro D σ H ⟨m, ρ, st, hρ, hs, q⟩
  refine ⟨m, ρ, st, hρ, hs, (PostS.bind hρ q).imp ?_⟩
  rintro v H1 ⟨m1, w, st1, p1, s1, r1, q1⟩
  exact q1 m1 H1 _ (List.prefix_refl _) s1 Fr.refl (hρ.mono p1)
theorem ms_ret (ha : ME X ca Wx a fa) : MS X ca Wx (.Return (some a) pos) (sRet fa) := by
  refine PS.imp (ps_ret ha) ?_
  rintro D σ H ⟨m, ρ, st, hρ, hs, q⟩
  refine ⟨m, ρ, st, hρ, hs, (PostS.bind hρ q).imp ?_⟩
  rintro v H1 ⟨m1, w, st1, p1, s1, r1, q1⟩
  exact q1 m1 H1 _ (List.prefix_refl _) s1 Fr.refl r1
theorem ms_retN : MS X ca Wx (.Return none pos) sRetN := by
  refine PS.imp ps_retN ?_
  rintro D σ H ⟨m, ρ, st, hρ, hs, q⟩
  exact q m H _ (List.prefix_refl _) hs Fr.refl rfl
theorem ms_pass : MS X ca Wx (.Pass pos) sNop := by
  refine PS.imp ps_pass ?_
  rintro D σ H ⟨m, ρ, st, hρ, hs, q⟩
  exact q m H σ (List.prefix_refl _) hs Fr.refl hρ
theorem ms_brk : MS X ca Wx (.Break pos) sBrk := by
  refine PS.imp ps_break ?_
  rintro D σ H ⟨m, ρ, st, hρ, hs, q⟩
  exact q m H σ (List.prefix_refl _) hs Fr.refl hρ
theorem ms_cnt : MS X ca Wx (.Continue pos) sCnt := by
  refine PS.imp ps_continue ?_
  rintro D σ H ⟨m, ρ, st, hρ, hs, q⟩
  exact q m H σ (List.prefix_refl _) hs Fr.refl hρ
theorem ms_if {t : Expr} {ta : EB} {ss rs : List Stmt} {f g : SS} (ht : MT X ca Wx t ta) (h : MSs X ca Wx ss f) (k : MSs X ca Wx rs g) : MS X ca Wx (.If t ss rs pos) (sIf ta f g) := by
  refine PS.imp (ps_if ht h k) ?_
  rintro D σ H ⟨m, ρ, st, hρ, hs, q⟩
  refine ⟨m, ρ, st, hρ, hs, (PostS.bind hρ q).imp ?_⟩
  rintro v H1 ⟨m1, w, st1, p1, s1, rfl, q1⟩
  cases w with
  | true =>
    rw [if_pos rfl] at q1 ⊢
    exact ⟨m1, ρ, st1, hρ.mono p1, s1, q1⟩
  | false =>
    rw [if_neg Bool.false_ne_true] at q1 ⊢
    exact ⟨m1, ρ, st1, hρ.mono p1, s1, q1⟩
/-- i, j = a, b: the two are stored at once -/
theorem ms_par (i j : Nat) {x y : Str} {px py pt pt2 : Pos} {kt k2 : Nat} (hc : X.calm = true) (hN : X.N.Nodup) (ha : ME X ca Wx a fa) (hb : ME X ca Wx b fb) (hi : X.N[i]? = some x := by rfl) (hj : X.N[j]? = some y := by rfl) (hij : i ≠ j := by decide)
    (hx : X.env.scope.names.lookup x = some .local := by rfl) (hy : X.env.scope.names.lookup y = some .local := by rfl)
    (hw : swappedStores [.Tuple [.Name x px, .Name y py] kt pt] (.Tuple [a, b] k2 pt2) X.env = pure (some [x, y]) := by rfl)
    (hs : swapsWithSole [.Tuple [.Name x px, .Name y py] kt pt] (.Tuple [a, b] k2 pt2) pos.line X.env = pure false := by rfl)
    (hs1 : starEach [a, b] X.env = (false, eval a X.env) :: starEach [b] X.env := by rfl) (hs2 : starEach [b] X.env = (false, eval b X.env) :: starEach [] X.env := by rfl) :
    MS X ca Wx (.Assign [.Tuple [.Name x px, .Name y py] kt pt] (.Tuple [a, b] k2 pt2) pos) (sPar [i, j] (aCons fa (aCons fb aNil))) := by
  refine PS.imp (ps_par hc hN hi hj hij hx hy (ma_cons ha (ma_cons hb ma_nil hs2) hs1) hw hs) ?_
  rintro D σ H ⟨m, ρ, st, hρ, hs, q⟩
  refine ⟨m, ρ, st, hρ, hs, (PostS.bind hρ q).imp ?_⟩
  rintro vs H1 ⟨m1, ws, st1, p1, s1, r1, q1⟩
  split at q1
  · rename_i ρ' e
    cases r1 with
    | nil => cases e
    | cons t1 r1 =>
      cases r1 with
      | nil => cases e
      | cons t2 r1 =>
        cases r1 with
        | cons _ _ => cases e
        | nil =>
          cases e
          exact ⟨_, _, rfl, q1 m1 H1 _ (List.prefix_refl _) s1 Fr.refl (((hρ.mono p1).set t1 i).set t2 j)⟩
  · exact q1.elim
/-- targets = a tuple -/
theorem ms_unp {es : List Expr} {is : List Nat} {k : Nat} {tpos : Pos} (hc : X.calm = true) (ha : ME X ca Wx a fa) (hg : MGs X es is) (hs : swapsWithSole [.Tuple es k tpos] a pos.line X.env = pure false := by rfl) (hw : swappedStores [.Tuple es k tpos] a X.env = pure none := by rfl)
    (h1 : (assignEach [.Tuple es k tpos] X.env).map (·.2) = [assign (.Tuple es k tpos) X.env] := by rfl) : MS X ca Wx (.Assign [.Tuple es k tpos] a pos) (sUnp is fa) := by
  refine PS.imp (ps_asg ha (mg_tup (ca := ca) hc hg) hs hw h1) ?_
  rintro D σ H ⟨m, ρ, st, hρ, hs, q⟩
  refine ⟨m, ρ, st, hρ, hs, (PostS.bind hρ q).imp ?_⟩
  rintro v H1 ⟨m1, w, st1, p1, s1, r1, q1⟩
  split at q1
  · rename_i ws e
    split at q1
    · rename_i ρ' e2
      refine ⟨m1, ρ, st1, .v w, ρ', hρ.mono p1, s1, r1, ?_, fun σ' re _ => q1 m1 H1 _ (List.prefix_refl _) s1 Fr.refl re⟩
      unfold asg
      simp only [e]
      exact e2
    · exact q1.elim
  · exact q1.elim
/-- o[i] = v, o a list -/
theorem ms_sub {pos' : Pos} (hv : ME X ca Wx c fc) (ho : ME X ca Wx a fa) (hi : ME X ca Wx b fb)
    (ha : ∀ v, assign (.Subscript a b pos') X.env v = (do
      let ov ← holding [v] (eval a X.env)
      let iv ← holding [v, ov] (eval b X.env)
      standAt pos'
      holding [v, ov, iv] (setItem ov iv v)
      release [v, ov, iv] []) := by intro _; rfl)
    (hs : swapsWithSole [.Subscript a b pos'] c pos.line X.env = pure false := by rfl) (hw : swappedStores [.Subscript a b pos'] c X.env = pure none := by rfl)
    (h1 : (assignEach [.Subscript a b pos'] X.env).map (·.2) = [assign (.Subscript a b pos') X.env] := by rfl) : MS X ca Wx (.Assign [.Subscript a b pos'] c pos) (sSub fa fb fc) := by
  refine PS.imp (ps_asg hv (pg_sub ho hi set_list ha) hs hw h1) ?_
  rintro D σ H ⟨m, ρ, st, hρ, hs, q⟩
  refine ⟨m, ρ, st, hρ, hs, (PostS.bind hρ q).imp ?_⟩
  rintro v H1 ⟨m1, w, st1, p1, s1, r1, q1⟩
  refine ⟨m1, ρ, st1, hρ.mono p1, s1, (PostS.bind (hρ.mono p1) q1).imp ?_⟩
  rintro o H2 ⟨m2, w2, st2, p2, s2, r2, q2⟩
  refine ⟨m2, ρ, st2, hρ.mono (p1.trans p2), s2, (PostS.bind (hρ.mono (p1.trans p2)) q2).imp ?_⟩
  rintro i H3 ⟨m3, w3, st3, p3, s3, r3, q3⟩
  have r1' := r1.mono (p2.trans p3)
  have r2' := r2.mono p3
  split at q3
  · rename_i st' e
    unfold stSub at e
    split at e
    · split at e
      · rename_i xs ex
        split at e
        · rename_i k
          split at e
          · rename_i j ej
            cases e
            obtain ⟨p, vs, rfl, h4, r4, h5⟩ := s3.lst ex r2'
            cases r3
            refine ⟨p, vs, k, j, rfl, rfl, h4, by rw [← r4.length]; exact ej, ?_⟩
            exact q3 m3 _ _ (List.prefix_refl _) (s3.write h5 ⟨_, upd_same, RWs.set r1' j r4⟩) (Fr.write h5) (hρ.mono ((p1.trans p2).trans p3))
          · cases e
        · cases e
      · cases e
    · cases e
  · exact q3.elim
/-- d[k] = v -/
theorem ms_dict {pos' : Pos} (hu : X.A.units + 1 < cLine) (hv : ME X ca Wx c fc) (ho : ME X ca Wx a fa) (hi : ME X ca Wx b fb) (hs : swapsWith c (some (.Subscript a b pos')) pos.line X.env = pure false := by rfl) : MS X ca Wx (.Assign [.Subscript a b pos'] c pos) (sDict fa fb fc) := by
  refine PS.imp (ps_dput hu ho hi hv hs) ?_
  rintro D σ H ⟨m, ρ, st, hρ, hs, q⟩
  refine ⟨m, ρ, st, hρ, hs, (PostS.bind hρ q).imp ?_⟩
  rintro v H1 ⟨m1, w, st1, p1, s1, r1, q1⟩
  refine ⟨m1, ρ, st1, hρ.mono p1, s1, (PostS.bind (hρ.mono p1) q1).imp ?_⟩
  rintro o H2 ⟨m2, w2, st2, p2, s2, r2, q2⟩
  refine ⟨m2, ρ, st2, hρ.mono (p1.trans p2), s2, (PostS.bind (hρ.mono (p1.trans p2)) q2).imp ?_⟩
  rintro i H3 ⟨m3, w3, st3, p3, s3, r3, q3⟩
  have r1' := r1.mono (p2.trans p3)
  have r2' := r2.mono p3
  split at q3
  · rename_i st' e
    unfold stDict at e
    split at e
    · split at e
      · rename_i kvs ex
        split at e
        · rename_i k ek
          split at e
          · rename_i hl
            cases e
            obtain ⟨p, vs, rfl, h4, r4, h5⟩ := s3.dic ex r2'
            have ei := key_rel r3 ek
            subst ei
            refine ⟨p, _, rfl, DPut.k h4 (by rw [← Paired.length r4, sl_big]; exact hl), ?_⟩
            exact q3 m3 _ _ (List.prefix_refl _) (s3.write h5 ⟨_, upd_same, put_rel r1' r4⟩) (Fr.write h5) (hρ.mono ((p1.trans p2).trans p3))
          · cases e
        · cases e
      · cases e
    · cases e
  · exact q3.elim

/-! ### loops -/
theorem ms_for {iter : Expr} {ss : List Stmt} {g : Tg} {it : IS} {f : SS} (hp : PassesOwn (model X.prog X.w) X.A X.env X.xe) (hc : X.calm = true) (hi : MI X ca Wx tg iter it) (hg : MG X ca tg g) (hb : MSs X ca Wx ss f) (hs : ∀ x, foldedSetIterable iter X.env x = pure x := by intro _; rfl) :
    MS X ca Wx (.For tg iter ss [] pos) (sFor it g f) := by
  refine PS.imp (ps_for hp hc hi hg hb hs) ?_
  rintro D σ H ⟨m, ρ, st, hρ, hs, q⟩
  refine ⟨m, ρ, st, hρ, hs, (PostS.bind hρ q).imp ?_⟩
  rintro J H1 ⟨m1, ⟨ys, ck⟩, st1, p1, s1, jy, q1⟩
  refine ⟨fun i n σ' H' => n = ys.length - i ∧ i ≤ ys.length ∧ ∃ m' ρ' st', m1 <+: m' ∧ RE m' ρ' σ' ∧ Sim ⟨X.K, ca⟩ m' st' H' ∧ PostS ⟨X.K, ca⟩ Wx m' H' D (forGo ck g f (ys.drop i) ρ' st'),
    ⟨_, rfl, Nat.zero_le _, m1, ρ, st1, List.prefix_refl _, hρ.mono p1, s1, q1⟩, ?_⟩
  rintro i n σ' H' ⟨rfl, hi, m', ρ', st', p', hρ', s', qe⟩
  by_cases hlt : i < ys.length
  · have ed : ys.drop i = ys[i] :: ys.drop (i + 1) := List.drop_eq_getElem_cons hlt
    rw [ed] at qe
    unfold forGo at qe
    split at qe
    · rename_i hck
      obtain ⟨hstep, _⟩ := jy m' st' H' p' s' hck
      obtain ⟨hgo, hy⟩ := hstep i ys[i] (List.getElem?_eq_getElem hlt)
      refine .inr ⟨hgo, fun σ2 H2 => ∃ m' ρ' st', m1 <+: m' ∧ RE m' ρ' σ2 ∧ Sim ⟨X.K, ca⟩ m' st' H2 ∧ PostS ⟨X.K, ca⟩ Wx m' H2 D (forGo ck g f (ys.drop (i + 1)) ρ' st'), fun σ2 H2 z => ⟨ys.length - (i + 1), by omega, rfl, hlt, z⟩, ?_⟩
      intro x H2 hyx
      obtain ⟨s2, f2, ry⟩ := hy x H2 hyx
      split at qe
      · rename_i ρ2 ea
        refine ⟨m', ρ', st', ys[i], ρ2, hρ', s2, ry, ea, fun σ3 re _ => ⟨m', ρ2, st', re, s2, ?_⟩⟩
        have qe2 := qe.fwd (List.prefix_refl _) f2
        clear qe
        revert qe2
        cases f ρ2 st' with
        | nx ρ4 st4 => exact fun qe m4 H4 σ4 p4 s4 f4 r4 => ⟨m4, ρ4, st4, p'.trans p4, r4, s4, qe.fwd p4 f4⟩
        | ct ρ4 st4 => exact fun qe m4 H4 σ4 p4 s4 f4 r4 => ⟨m4, ρ4, st4, p'.trans p4, r4, s4, qe.fwd p4 f4⟩
        | bk ρ4 st4 => exact fun qe m4 H4 σ4 p4 s4 f4 r4 => qe m4 H4 σ4 p4 s4 f4 r4
        | rt w st4 => exact fun qe => qe
        | exc c l ρ4 st4 => exact fun qe => qe
        | bad => exact fun qe => qe
      · exact qe.elim
    · exact qe.elim
  · have e0 : i = ys.length := by omega
    subst e0
    rw [List.drop_length] at qe
    unfold forGo at qe
    split at qe
    · rename_i hck
      obtain ⟨_, hstop⟩ := jy m' st' H' p' s' hck
      exact .inl ⟨hstop, qe m' H' σ' (List.prefix_refl _) s' Fr.refl hρ'⟩
    · exact qe.elim
theorem ms_while {t : Expr} {ta : EB} {ss : List Stmt} {f : SS} (hp : PassesOwn (model X.prog X.w) X.A X.env X.xe) (ht : MT X ca Wx t ta) (hb : MSs X ca Wx ss f) : MS X ca Wx (.While t ss [] pos) (sWhile ta f) := by
  refine PS.imp (ps_while hp ht hb) ?_
  rintro D σ H ⟨m, ρ, st, hρ, hs, q⟩
  refine ⟨fun n σ' H' => ∃ m' ρ' st', RE m' ρ' σ' ∧ Sim ⟨X.K, ca⟩ m' st' H' ∧ PostS ⟨X.K, ca⟩ Wx m' H' D (whileGo ta f n ρ' st'), ⟨fuel, m, ρ, st, hρ, hs, q⟩, ?_⟩
  rintro n σ' H' ⟨m', ρ', st', hρ', s', qe⟩
  cases n with
  | zero => exact qe.elim
  | succ n =>
    refine ⟨m', ρ', st', hρ', s', (PostS.bind hρ' qe).imp ?_⟩
    rintro k H1 ⟨m1, w, st1, p1, s1, rfl, q1⟩
    cases w with
    | false =>
      rw [if_neg Bool.false_ne_true] at q1 ⊢
      exact q1 m1 H1 _ (List.prefix_refl _) s1 Fr.refl (hρ'.mono p1)
    | true =>
      rw [if_pos rfl] at q1 ⊢
      refine ⟨fun σ2 H2 => ∃ m' ρ' st', RE m' ρ' σ2 ∧ Sim ⟨X.K, ca⟩ m' st' H2 ∧ PostS ⟨X.K, ca⟩ Wx m' H2 D (whileGo ta f n ρ' st'), fun σ2 H2 z => ⟨n, by omega, z⟩, m1, ρ', st1, hρ'.mono p1, s1, ?_⟩
      revert q1
      cases f ρ' st1 with
      | nx ρ4 st4 => exact fun qe m4 H4 σ4 p4 s4 f4 r4 => ⟨m4, ρ4, st4, r4, s4, qe.fwd p4 f4⟩
      | ct ρ4 st4 => exact fun qe m4 H4 σ4 p4 s4 f4 r4 => ⟨m4, ρ4, st4, r4, s4, qe.fwd p4 f4⟩
      | bk ρ4 st4 => exact fun qe m4 H4 σ4 p4 s4 f4 r4 => qe m4 H4 σ4 p4 s4 f4 r4
      | rt w st4 => exact fun qe => qe
      | exc c l ρ4 st4 => exact fun qe => qe
      | bad => exact fun qe => qe
end
end Mi

set_option Elab.async false
set_option linter.all false
set_option maxRecDepth 100000
set_option maxHeartbeats 4000000
/-! Mini, part 8: calls of defs, errors, try. -/
namespace Mi
open PySem L2
set_option autoImplicit false

/-! ### room, and no display under way -/
structure RoomG (k : Nat) (A : Around) : Prop where
  rm : Room k A
  gd : A.guards = some []
theorem RoomG.mono {j k : Nat} {A : Around} (r : RoomG k A) (h : j ≤ k) : RoomG j A := ⟨r.rm.mono h, r.gd⟩
theorem RoomG.deeper {k : Nat} {A : Around} (r : RoomG (k + 1) A) (env : Env) : RoomG k (A.deeper env) := ⟨r.rm.deeper env, r.gd⟩
/-- a def's word where no display is under way -/
structure FnG (P : Program) (w : World) (K : PySem.W.Frag) (mg : Str → Option Value) (base : Heap) (CX : CXT) (k : Nat) (f : Addr) (fd : FuncData) (ps : List Str) (sp : Sp) : Prop where
  len : ∀ vs H Q E, sp vs H Q E → vs.length = ps.length
  run : ∀ (A : Around) (outer : List Env) (s : Shared) (H : Hp) (args : Args) (us : List Value) (vs : List V) (Q : VK) (E : XK), RoomG k A → Env0 P w K mg base A outer s H → BindsTo s fd args (ps.zip us) → Vals vs us → sp vs H Q E →
    codeAny (model P w) A (.call (.ref f) args) (CR CX outer P w H s Q E) s
theorem FnG.mono {P : Program} {w : World} {K : PySem.W.Frag} {mg : Str → Option Value} {base : Heap} {CX : CXT} {j k : Nat} {f : Addr} {fd : FuncData} {ps : List Str} {sp : Sp} (F : FnG P w K mg base CX j f fd ps sp) (h : j ≤ k) : FnG P w K mg base CX k f fd ps sp :=
  ⟨F.len, fun A outer s H args us vs Q E hr => F.run A outer s H args us vs Q E (hr.mono h)⟩
/-- by its body -/
theorem FnG.by {CX : CXT} {P : Program} {w : World} {K : PySem.W.Frag} {mg : Str → Option Value} {base : Heap} {k : Nat} {f : Addr} {x qual : Str} {params : Arguments} {body : List Stmt} {scope : Scope} {fd : FuncData} {N ps : List Str} {sp : Sp} (FD : FunD K x qual params body scope [] [] f fd) (S : FnScope N ps scope)
    (len : ∀ vs H Q E, sp vs H Q E → vs.length = ps.length)
    (hbody : ∀ (cdv : Value) (A : Around) (outer : List Env) (s : Shared) (H : Hp) (vs : List V) (Q : VK) (E : XK), RoomG k (A.deeper (PyProof.Rows.envOfC qual scope s.heap.objs.size f cdv)) → sp vs H Q E →
      ∃ t, PSs (cxOf CX P w K mg base N qual scope f cdv A outer s H E) body t ∧ t { nx := fun _ H' => Q .non H', rt := Q } (L2.start N vs) H) : FnG P w K mg base CX (k + 1) f fd ps sp := by
  obtain ⟨oc, od, dV, kV, doc, pm, an, cdv, ct, osl, rfl, lk, hcd, _, _⟩ := FD.ex
  refine ⟨len, fun A outer s H args us vs Q E hr e0 hb r hsp => ?_⟩
  have grow : ∀ b o, base.get? b = some o → s.heap.get? b = some o := fun b o e => (e0.bs b o e).1
  have kIn : K.In s.heap := e0.mod.kin.keeps grow
  refine codeAny_call_function hr.rm.depth (kIn _ _ lk) rfl S.co S.gen rfl (PySem.W.codeRec_of kIn hcd) (hb _ _ _ _ ?_)
  have bound : ∀ y ∈ ps.zip us, scope.names.lookup y.1 = some .local ∨ (scope.names.lookup y.1 = some .cell ∧ ((cellsFrom (s.heap.objs.size + 1) scope.names []).lookup y.1).isSome = true) := by
    rintro ⟨n, v⟩ hy
    exact (S.par n (List.of_mem_zip hy).1).imp id fun q => ⟨q, PySem.W.cellsFrom_some _ _ _ (.inl q)⟩
  refine wpAny_newFunctionEnv_cells S.kind bound fun env he s1 x => ?_
  subst he
  refine ⟨(e0.mod.nolimit.keeps grow).keeps x.toInCall.keep, codeAny_func ?_⟩
  obtain ⟨t, ht, hq⟩ := hbody cdv A outer s H vs Q E (hr.deeper _) hsp
  refine wpAny_mono (ht.run [] s1 (L2.start N vs) H _ (inv_start S hr.rm.hd e0 (len _ _ _ _ hsp) r x) hq) (fun fl s' hs => ?_) fun e s' hs => hs
  cases fl with
  | next =>
    obtain ⟨σ', H', J, q⟩ := hs
    exact ⟨V.non, H', J.os, J.bare, J.base, J.hok, rfl, q⟩
  | ret u =>
    obtain ⟨v, σ', H', J, rv, q⟩ := hs
    exact ⟨v, H', J.os, J.bare, J.base, J.hok, rv, q⟩
  | brk =>
    obtain ⟨_, _, _, q⟩ := hs
    exact q.elim
  | cont =>
    obtain ⟨_, _, _, q⟩ := hs
    exact q.elim
/-- what comes back -/
theorem FnG.back {X : Cx} {CX : CXT} {pins : List (Addr × Obj)} {σ : St} {H : Hp} {s : Shared} {Q : VK} {E : XK} (hx : PassesAt CX X σ E) (I : Inv X pins σ H s) {r : Result} {s' : Shared} (hq : CR CX X.stack X.prog X.w H s Q E r s') :
    match r with
    | .ok (.ret u) => EP X pins σ Q u s'
    | .ok _ => False
    | .error e => X.xe e s' := by
  cases r with
  | error e => exact hx pins H s e s' I hq
  | ok fl =>
    cases fl with
    | ret u => exact I.after hq
    | next => exact hq.elim
    | brk => exact hq.elim
    | cont => exact hq.elim
theorem FnG.call {X : Cx} {CX : CXT} {k : Nat} {f : Addr} {fd : FuncData} {ps : List Str} {sp : Sp} {pins : List (Addr × Obj)} {σ : St} {H : Hp} {s : Shared} {Q : VK} {E : XK} {us : List Value} {vs : List V} (F : FnG X.prog X.w X.K X.mg X.base CX k f fd ps sp) (hr : RoomG k X.A) (hb : Binds X.K fd ps []) (hx : PassesAt CX X σ E)
    (I : Inv X pins σ H s) (r : Vals vs us) (h : sp vs H Q E) : wpAny (model X.prog X.w) X.A (PySem.call (.ref f) us) (EP X pins σ Q) X.xe s := by
  have hl : us.length = ps.length := by rw [← r.length]; exact F.len _ _ _ _ h
  have hb' := hb s us I.kIn (by rw [List.append_nil]; exact hl)
  rw [List.append_nil] at hb'
  refine wpAny_call (codeAny_mono (F.run X.A X.stack s H ⟨us, []⟩ us vs Q E hr I.env0 hb' r h) fun r s' hq => ?_)
  have z := FnG.back hx I hq
  cases r with
  | error e => exact z
  | ok fl => cases fl <;> exact z

/-! ### a def's promise: what Mini says of it -/
/-- what is wished of an error, whatever the slots -/
abbrev wOf (E : XK) : WX := fun c d _ H => E c d H
def spM (G : G0) (n : Nat) (F : List W → Sto → R W) : Sp := fun vs H Q E => vs.length = n ∧ ∃ m ws st, RWs m ws vs ∧ Sim G m st H ∧ Post G (wOf E) [] RW m H Q (F ws st)
theorem post_wx {α β : Type} {G : G0} {Wx Wx' : WX} {σ σ' : L2.St} {rel : List Addr → α → β → Prop} {m : List Addr} {H : Hp} {Q : β → Hp → Prop} {r : R α} (h : Post G Wx σ rel m H Q r) (hw : ∀ c d H, Wx c d σ H → Wx' c d σ' H) : Post G Wx' σ' rel m H Q r := by
  cases r with
  | ok a st => exact h
  | exc c l st => exact fun m' H' C d fs es p s f e1 e2 e3 e4 => hw _ _ _ (h m' H' C d fs es p s f e1 e2 e3 e4)
  | bad => exact h
/-- a def of the text -/
structure Dd where
  nm : Str
  qual : Str
  ps : List Str
  st : Stmt
/-- it stands, and keeps Mini's word, called at most so deep -/
def DOk (P : Program) (w : World) (K : PySem.W.Frag) (mg : Str → Option Value) (base : Heap) (ca : Ca) (k : Nat) (d : Dd) (F : List W → Sto → R W) : Prop :=
  (∀ ws st, ws.length ≠ d.ps.length → F ws st = .bad) ∧ ∃ f fd, mg d.nm = some (.ref f) ∧ FunD K d.nm d.qual (defArgs d.st) (defBody d.st) (defScope d.st) [] [] f fd ∧ FnG P w K mg base (L2.CX P w) k f fd d.ps (spM ⟨K, ca⟩ d.ps.length F)
/-- how its arguments bind: h is «fun _ _ _ _ _ _ us hl => match us, hl with | [_, _], _ => rfl» -/
abbrev BindN (d : Dd) : Prop := ∀ (kV doc pm : Value) (an : Option Addr) (cdv ct : Value) (us : List Value), us.length = d.ps.length → bindArgs (PySem.W.fnOf d.nm d.qual (defArgs d.st) (defBody d.st) (defScope d.st) .none kV doc pm an cdv ct) ⟨us, []⟩ = pure (d.ps.zip us)
/-- the values in another order -/
def perm {α : Type} (ix : List Nat) (l : List α) : List α := ix.filterMap fun i => l[i]?
theorem perm_rel {α β : Type} {F : α → β → Prop} {l : List α} {r : List β} (h : Paired F l r) : ∀ ix : List Nat, Paired F (perm ix l) (perm ix r)
  | [] => .nil
  | i :: ix => by
    have key : ∀ {l : List α} {r : List β} {i : Nat}, Paired F l r → (l[i]? = none ∧ r[i]? = none) ∨ ∃ a b, l[i]? = some a ∧ r[i]? = some b ∧ F a b := by
      intro l r i h
      induction h generalizing i with
      | nil => exact .inl ⟨by simp, by simp⟩
      | @cons a b l r h t ih =>
        cases i with
        | zero => exact .inr ⟨a, b, rfl, rfl, h⟩
        | succ i =>
          rcases ih (i := i) with ⟨h1, h2⟩ | ⟨a, b, h1, h2, h3⟩
          · exact .inl ⟨by simpa using h1, by simpa using h2⟩
          · exact .inr ⟨a, b, by simpa using h1, by simpa using h2, h3⟩
    unfold perm
    rw [List.filterMap_cons, List.filterMap_cons]
    rcases key (i := i) h with ⟨h1, h2⟩ | ⟨a, b, h1, h2, h3⟩
    · rw [h1, h2]
      exact perm_rel h ix
    · rw [h1, h2]
      exact .cons h3 (perm_rel h ix)
abbrev BindK (d : Dd) (ks : List Str) (ix : List Nat) : Prop := ∀ (kV doc pm : Value) (an : Option Addr) (cdv ct : Value) (ws : List Value), ws.length = ks.length → bindArgs (PySem.W.fnOf d.nm d.qual (defArgs d.st) (defBody d.st) (defScope d.st) .none kV doc pm an cdv ct) ⟨[], ks.zip ws⟩ = pure (d.ps.zip (perm ix ws))

section
variable {X : Cx} {ca : Ca} {Wx : WX} {a b c tg : Expr} {fa fb fc : ES} {pos : Pos}
theorem me_call {k : Nat} {d : Dd} {F : List W → Sto → R W} {p : Pos} {es : List Expr} {fr : AS} (D : DOk X.prog X.w X.K X.mg X.base ca k d F) (hb : BindN d) (hr : RoomG k X.A) (tk : Takes X Wx) (ha : MA X ca Wx (a :: es) fr) (hg : Gl X d.nm := by rfl)
    (hdb : (d.nm == ("__debug__" : Str)) = false := by decide) (he : starEach (a :: es) X.env = (false, eval a X.env) :: starEach es X.env := by rfl) (hpl : (backTo pos (starEach es X.env)).any (·.1) = false := by rfl) :
    ME X ca Wx (.Call (.Name d.nm p) (a :: es) [] pos) (eN F fr) := by
  obtain ⟨hF, f, fd, hm, FD, FO⟩ := D
  refine ⟨fun pins s σ H Q I ⟨m, ρ, st, hρ, hs, q⟩ => ?_⟩
  refine wpAny_Call_Name_kw (ld_glob I hg hm ?_ hdb)
  refine PySem.W.callWith_K (h₀ := X.base) I.ok.mod.kin FD.kp (thn (ha.run pos pins s σ H _ I ⟨m, ρ, st, hρ, hs, Post.bind q⟩) fun us s1 ⟨vs, H1, I1, r, m1, ws, st1, p1, s1', r1, q1⟩ => ⟨I1.kIn, ?_⟩) he hpl
  refine FO.call hr (FD.bindsN hb) (passAt tk σ) I1 r ⟨?_, m1, ws, st1, r1, s1', post_wx q1 fun _ _ _ z => z⟩
  by_cases hl : ws.length = d.ps.length
  · rw [← r1.length, hl]
  · rw [hF ws st1 hl] at q1
    exact q1.elim
/-- f() -/
theorem me_call0 {k : Nat} {d : Dd} {F : List W → Sto → R W} {p : Pos} (D : DOk X.prog X.w X.K X.mg X.base ca k d F) (hb : BindN d) (hr : RoomG k X.A) (tk : Takes X Wx) (hg : Gl X d.nm := by rfl) (hdb : (d.nm == ("__debug__" : Str)) = false := by decide) :
    ME X ca Wx (.Call (.Name d.nm p) [] [] pos) (eN F aNil) := by
  obtain ⟨hF, f, fd, hm, FD, FO⟩ := D
  have B : Binds X.K fd d.ps [] := FD.bindsN hb
  refine ⟨fun pins s σ H Q I h => ?_⟩
  obtain ⟨m, ρ, st, hρ, hs, q⟩ := h
  have q1 : Post ⟨X.K, ca⟩ Wx σ RW m H Q (F [] st) := q
  refine wpAny_Call_Name_kw (ld_glob I hg hm ?_ hdb)
  refine PySem.W.callWith_K0 I.kIn FD.kp (FO.call (us := []) hr B (passAt tk σ) I .nil ?_)
  refine ⟨?_, m, [], st, .nil, hs, post_wx q1 fun _ _ _ z => z⟩
  by_cases hl : ([] : List W).length = d.ps.length
  · exact hl
  · rw [hF [] st hl] at q1
    exact q1.elim
/-- f(k = v, ..) -/
def MKw (X : Cx) (ca : Ca) (Wx : WX) (kws : List Keyword) (f : AS) : Prop := PK X kws (tA ⟨X.K, ca⟩ Wx f)
theorem PK.imp {X : Cx} {e : List Keyword} {t t' : TA} (h : PK X e t) (hi : ∀ σ H Q, t' σ H Q → t σ H Q) : PK X e t' := ⟨fun pos pins s σ H Q I q => h.run pos pins s σ H Q I (hi σ H Q q)⟩
theorem mk_nil : MKw X ca Wx [] aNil := by
  refine PK.imp pk_nil ?_
  rintro σ H Q ⟨m, ρ, st, hρ, hs, q⟩
  exact q.now hs .nil
theorem mk_cons {kws : List Keyword} {nm : Option Str} {kpos : Pos} {fr : AS} (ha : ME X ca Wx a fa) (hr : MKw X ca Wx kws fr) : MKw X ca Wx (⟨nm, a, kpos⟩ :: kws) (aCons fa fr) := by
  refine PK.imp (pk_cons ha hr) ?_
  rintro σ H Q ⟨m, ρ, st, hρ, hs, q⟩
  refine ⟨m, ρ, st, hρ, hs, (Post.bind q).imp ?_⟩
  rintro v H1 ⟨m1, w, st1, p1, s1, r1, h1⟩
  refine ⟨m1, ρ, st1, hρ.mono p1, s1, (Post.bind h1).imp ?_⟩
  rintro vs H2 ⟨m2, ws, st2, p2, s2, r2, h2⟩
  exact h2.now s2 (.cons (r1.mono p2) r2)
theorem me_callK0 {k : Nat} {d : Dd} {F : List W → Sto → R W} {p : Pos} {kws : List Keyword} {fr : AS} (ks : List Str) (ix : List Nat) (D : DOk X.prog X.w X.K X.mg X.base ca k d F) (hb : BindK d ks ix) (hr : RoomG k X.A) (tk : Takes X Wx) (hkw : MKw X ca Wx kws fr)
    (hn : ks.length = d.ps.length := by rfl) (hg : Gl X d.nm := by rfl) (hall : (backToKw pos (keywordEach kws X.env)).all (·.1.isSome) = true := by rfl) (hks : (backToKw pos (keywordEach kws X.env)).filterMap (·.1) = ks := by rfl)
    (hdb : (d.nm == ("__debug__" : Str)) = false := by decide) (hpl : ((backTo pos (starEach [] X.env)).any (·.1) || (backToKw pos (keywordEach kws X.env)).any (·.1.isNone)) = false := by rfl) :
    ME X ca Wx (.Call (.Name d.nm p) [] kws pos) (eN (fun ws st => if ws.length = ks.length then F (perm ix ws) st else .bad) fr) := by
  obtain ⟨hF, f, fd, hm, FD, FO⟩ := D
  obtain ⟨oc, od, dV, kV, doc, pm, an, cdv, ct, osl, rfl, lk, hcd, hD, hK⟩ := FD.ex
  rcases hD with ⟨_, rfl⟩ | ⟨e, _⟩
  · refine ⟨fun pins s σ H Q I h => ?_⟩
    obtain ⟨m, ρ, st, hρ, hs, q⟩ := h
    refine wpAny_Call_Name_kw (ld_glob I hg hm ?_ hdb)
    refine PySem.W.callWith_KW0 (h₀ := X.base) I.ok.mod.kin FD.kp hall ?_ hpl
    refine thn (hkw.run pos pins s σ H _ I ⟨m, ρ, st, hρ, hs, Post.bind q⟩) fun us s2 ⟨zs, H2, I2, rz, m1, ws, st1, p1, s1, r1, q1⟩ => ⟨I2.kIn, ?_⟩
    split at q1
    · rename_i hl
      have hlu : us.length = ks.length := by rw [← Paired.length rz, ← r1.length, hl]
      have rp := perm_rel rz ix
      have rq := perm_rel r1 ix
      have hlp : (perm ix ws).length = d.ps.length := by
        by_cases hz : (perm ix ws).length = d.ps.length
        · exact hz
        · rw [hF _ st1 hz] at q1
          exact q1.elim
      rw [hks, List.nil_append]
      refine wpAny_call (codeAny_mono (FO.run X.A X.stack s2 H2 ⟨[], ks.zip us⟩ (perm ix us) (perm ix zs) Q (WE Wx σ) hr I2.env0 (.of_eq (hb kV doc pm an cdv ct us hlu)) rp ⟨?_, m1, perm ix ws, st1, rq, s1, post_wx q1 fun _ _ _ z => z⟩) fun r s' hq => ?_)
      · rw [← RWs.length rq, hlp]
      · cases r with
        | error e => exact passAt tk σ pins H2 s2 e s' I2 hq
        | ok fl =>
          cases fl with
          | ret u => exact I2.after hq
          | next => exact False.elim hq
          | brk => exact False.elim hq
          | cont => exact False.elim hq
    · exact q1.elim
  · exact absurd rfl e
end

/-! ### a def by its body -/
theorem dok {P : Program} {w : World} {K : PySem.W.Frag} {mg : Str → Option Value} {base : Heap} {ca : Ca} {k : Nat} {d : Dd} {N : List Str} {f : Addr} {fd : FuncData} {sem : SS} (hm : mg d.nm = some (.ref f)) (FD : FunD K d.nm d.qual (defArgs d.st) (defBody d.st) (defScope d.st) [] [] f fd) (S : FnScope N d.ps (defScope d.st))
    (hb : ∀ (cdv : Value) (A : Around) (outer : List Env) (s : Shared) (H : Hp) (E : XK), RoomG k (A.deeper (PyProof.Rows.envOfC d.qual (defScope d.st) s.heap.objs.size f cdv)) →
      MSs (cxOf (L2.CX P w) P w K mg base N d.qual (defScope d.st) f cdv A outer s H E) ca (wOf E) (defBody d.st) sem) : DOk P w K mg base ca (k + 1) d (dfn d.ps.length N.length sem) := by
  refine ⟨fun ws st h => by unfold dfn; rw [if_neg h], f, fd, hm, FD, FnG.by FD S (fun vs H Q E h => h.1) fun cdv A outer s H vs Q E hr h => ?_⟩
  obtain ⟨hl, m, ws, st, r, hs, q⟩ := h
  have hlw : ws.length = d.ps.length := by rw [r.length, hl]
  unfold dfn at q
  rw [if_pos hlw] at q
  refine ⟨_, hb cdv A outer s H E hr, m, ws.map some ++ List.replicate (N.length - d.ps.length) none, st, ?_, hs, ?_⟩
  · unfold L2.start
    rw [hl]
    exact RE.start r _
  · revert q
    cases sem (ws.map some ++ List.replicate (N.length - d.ps.length) none) st with
    | nx ρ st1 => exact fun q m1 H1 σ1 p1 s1 f1 r1 => q m1 H1 .non p1 s1 f1 rfl
    | rt w st1 => exact fun q m1 H1 v1 p1 s1 f1 r1 => q m1 H1 v1 p1 s1 f1 r1
    | bk ρ st1 => exact fun q => q.elim
    | ct ρ st1 => exact fun q => q.elim
    | exc c l ρ st1 => exact fun q m1 H1 σ1 C dd fs es p1 s1 f1 r1 e1 e2 e3 e4 => q m1 H1 C dd fs es p1 s1 f1 e1 e2 e3 e4
    | bad => exact fun q => q.elim
/-- at level 0 nothing is said -/
theorem dok0 {P : Program} {w : World} {K : PySem.W.Frag} {mg : Str → Option Value} {base : Heap} {ca : Ca} {k : Nat} {d : Dd} {f : Addr} {fd : FuncData} (hm : mg d.nm = some (.ref f)) (FD : FunD K d.nm d.qual (defArgs d.st) (defBody d.st) (defScope d.st) [] [] f fd) : DOk P w K mg base ca k d fun _ _ => .bad :=
  ⟨fun _ _ _ => rfl, f, fd, hm, FD, ⟨fun vs H Q E h => h.1, fun A outer s H args us vs Q E hr e0 hb hv ⟨_, _, _, _, _, _, q⟩ => q.elim⟩⟩
theorem DOk.mono {P : Program} {w : World} {K : PySem.W.Frag} {mg : Str → Option Value} {base : Heap} {ca : Ca} {j k : Nat} {d : Dd} {F : List W → Sto → R W} (h : DOk P w K mg base ca j d F) (hk : j ≤ k) : DOk P w K mg base ca k d F := by
  obtain ⟨h1, f, fd, h2, h3, h4⟩ := h
  exact ⟨h1, f, fd, h2, h3, h4.mono hk⟩

/-! ### errors: a class under the program's own base, one field -/
/-- the base class: its __init__ is ValueError's -/
structure BaF (K : PySem.W.Frag) (mg : Str → Option Value) (x : Str) (B : Addr) : Prop where
  gB : mg x = some (.ref B)
  ga : PySem.W.specialIn K (.ref B) "__getattribute__" = some (some (.builtin "type.__getattribute__"))
  rd : PySem.W.readsIn K B (.type "type") = true
  fi : PySem.W.findCls K (.ref B) (.type "type") "__init__" = some (.val (.builtin "ValueError.__init__"))
structure ExF (K : PySem.W.Frag) (mg : Str → Option Value) (x f : Str) (C fI : Addr) : Prop where
  gC : mg x = some (.ref C)
  ox : OexC K C
  iC : PySem.W.findIn K (.ref C) "__init__" = some (some (.ref fI))
  tI : PySem.W.typeIn K (.ref fI) = some (.type "function")
  nf : PySem.W.findIn K (.ref C) f = some none
  xf : XfC K C
/-- __init__(self, f): the error at a gets its dict, at any free d -/
def spX (C : Addr) (f : Str) : Sp := fun vs H Q _ => ∃ a v, vs = [.ref a, v] ∧ H a = some (exo a C none) ∧ ∀ d, H d = none → d ≠ a → Q .non (upd (upd H d (exd d [(f, v)])) a (exo a C (some d)))
section
variable {X : Cx} {o e : Expr} {es : List Expr} {to te : TE} {ta : TA} {f x : Str} {p p' p1 p2 pos : Pos} {B : Addr}
theorem pe_bainit {pl : Sem Bool} (hg : Gl X x) (T : BaF X.K X.mg x B) (ha : PA X (e :: es) ta) (hdb : (x == ("__debug__" : Str)) = false := by decide)
    (hc : eval (.Call (.Attribute (.Name x p1) "__init__" p2) (e :: es) [] pos) X.env = (do
      let ov ← eval (.Name x p1) X.env
      standAt p2.atName
      let (f, first) ← holding [ov] (getMethod ov "__init__" pl)
      callWith pos f first (backTo pos (starEach (e :: es) X.env)) (backToKw pos (keywordEach [] X.env))) := by rfl)
    (he : starEach (e :: es) X.env = (false, eval e X.env) :: starEach es X.env := by rfl) (hpl : (backTo pos (starEach es X.env)).any (·.1) = false := by rfl) :
    PE X (.Call (.Attribute (.Name x p1) "__init__" p2) (e :: es) [] pos) (tVeI X.K ta) := by
  refine ⟨fun pins s σ H Q I h => ?_⟩
  refine PySem.W.methodCall_KW (ld_glob I hg T.gB ?_ hdb) hc
  refine PySem.W.method_cls I.kIn T.ga (PySem.W.cls_value I.kIn T.rd T.fi (by decide +kernel) ?_)
  show wpAny _ _ (callWith pos (Value.builtin "ValueError.__init__") [] (backTo pos (starEach (e :: es) X.env)) []) _ _ _
  refine PyProof.Rows.callWith_method1 (thn (ha.run pos pins _ σ H _ (I.tok _) h) fun us s1 ⟨vs, H1, I1, r1, a, C, ws, ev, hl, T, ea, q⟩ => ?_) he hpl
  subst ev
  cases r1 with
  | @cons _ u0 _ ur ra rw' =>
    obtain rfl : u0 = Value.ref a := ra
    have hlen : ur.length ≤ sizeLine := by
      rw [← Paired.length rw', sizeLine_eq]
      omega
    exact oinit_ok T I1 ea hlen fun s' J => ⟨.non, H1, J, rfl, q⟩
end
section
variable {P : Program} {w : World} {K : PySem.W.Frag} {mg : Str → Option Value} {base : Heap}
theorem ex_init {x qual f : Str} {params : Arguments} {scope : Scope} {C B fI : Addr} {fd : FuncData} {t : Str} {kk : Nat} {p1 p2 p3 p4 p5 p6 p7 p8 p9 p10 : Pos} (T : ExF K mg x f C fI) (TB : BaF K mg "RowsError" B)
    (FD : FunD K "__init__" qual params [.Expr (.Call (.Attribute (.Name "RowsError" p1) "__init__" p2) [.Name "self" p3, .Constant (.str t) kk p4] [] p5) p6, .Assign [.Attribute (.Name "self" p7) f p8] (.Name f p9) p10] scope [] [] fI fd)
    (S : FnScope ([("self" : Str), f] : List Str) ([("self" : Str), f] : List Str) scope) (hg : scope.names.lookup ("RowsError" : Str) = some NameKind.globalImplicit) (hv : ∀ (X : Cx) (ta : TA), Gl X "RowsError" → BaF X.K X.mg "RowsError" B → PA X [.Name "self" p3, .Constant (.str t) kk p4] ta → PE X (.Call (.Attribute (.Name "RowsError" p1) "__init__" p2) [.Name "self" p3, .Constant (.str t) kk p4] [] p5) (tVeI X.K ta)) (hf : (f == ("__debug__" : Str)) = false) (hfc : (f == ("__classdict__" : Str)) = false) : FnOk P w K mg base CX0 1 fI fd ([("self" : Str), f] : List Str) (spX C f) := by
  refine FD.ok S (fun vs H Q E h => ?_) fun cdv A outer s H vs Q E hr h => ?_
  · obtain ⟨a, v, rfl, _⟩ := h
    rfl
  · obtain ⟨a, v, rfl, ha, q⟩ := h
    have vis : ∀ y ∈ ([("self" : Str), f] : List Str), Vis scope y := fun y hy => by
      rcases S.par y hy with z | z
      · exact .inl z
      · exact .inr (.inl z)
    have pself : ∀ p : Pos, PE (cxOf CX0 P w K mg base ([("self" : Str), f] : List Str) qual scope fI cdv A outer s H E) (.Name "self" p) (tVar 0) := fun p => pe_var (i := 0) rfl (vis _ (by simp))
    have pf : PE (cxOf CX0 P w K mg base ([("self" : Str), f] : List Str) qual scope fI cdv A outer s H E) (.Name f p9) (tVar 1) := pe_var (i := 1) rfl (vis _ (by simp)) hf hfc
    refine ⟨_, pss_cons (ps_expr (hv _ _ hg TB (pa_cons (pself p3) (pa_cons pe_str pa_nil)))) (pss_one (ps_ost (pself p7) pf)), ?_⟩
    refine ⟨_, rfl, a, C, [.str t], rfl, by simp, T.ox, ha, _, rfl, _, rfl, a, C, rfl, T.ox, T.nf, .inl ⟨ha, fun d hd ne => ?_⟩⟩
    exact q d hd ne
end
section
variable {X : Cx} {ca : Ca} {Wx : WX} {a : Expr} {fa : ES} {pos : Pos}
/-- raise C(e) -/
theorem ms_raise {x f : Str} {p p' : Pos} {ci k : Nat} {C fI : Addr} {fd : FuncData} (hc : X.calm = true) (tk : Takes X Wx) (T : ExF X.K X.mg x f C fI) (hC : ca.cls ci = some C) (F1 : FnOk X.prog X.w X.K X.mg X.base CX0 k fI fd ([("self" : Str), f] : List Str) (spX C f)) (hb : Binds X.K fd ([("self" : Str), f] : List Str) []) (hr : RoomG (k + 1) X.A)
    (ha : ME X ca Wx a fa) (hg : Gl X x := by rfl) (hdb : (x == ("__debug__" : Str)) = false := by decide) (he : starEach [a] X.env = (false, eval a X.env) :: starEach [] X.env := by rfl) :
    MS X ca Wx (.Raise (some (.Call (.Name x p) [a] [] p')) none pos) (sRaise ci [f] (aCons fa aNil)) := by
  refine PS.imp (ps_raise (W := Wx) hc tk (pmk_oex (dvs := []) T.ox T.iC T.tI F1 hr.rm hb .nil pass0 hg T.gC (ma_cons ha ma_nil he) hdb he rfl)) ?_
  rintro D σ H ⟨m, ρ, st, hρ, hs, q⟩
  refine ⟨m, ρ, st, hρ, hs, (PostS.bind hρ q).imp ?_⟩
  rintro vs H1 ⟨m1, ws, st1, p1, s1, r1, q1⟩
  split at q1
  · rename_i hl
    cases r1 with
    | nil => cases hl
    | @cons w v ws vs rw r1 =>
      cases r1 with
      | cons _ _ => simp at hl
      | nil =>
        refine ⟨by simp, fun e he => ⟨e, v, rfl, upd_same, fun d hd ne => ⟨rfl, d, [(f, v)], upd_same, ?_, ?_, ?_⟩⟩⟩
        · rw [upd_ne ne, upd_same]
        · rw [upd_ne ne] at hd
          exact hd
        · have hd1 : H1 d = none := by
            rw [upd_ne ne] at hd
            exact hd
          have eH : upd (del (upd (upd (upd H1 e (exo e C none)) d (exd d [(f, v)])) e (exo e C (some d))) e) d (.xd [(f, v)]) = upd H1 d (.xd [(f, v)]) := by
            funext b
            by_cases hb : b = d
            · rw [hb, upd_same, upd_same]
            · rw [upd_ne hb, upd_ne hb]
              by_cases hbe : b = e
              · rw [hbe, del_same, he]
              · rw [del_ne hbe, upd_ne hbe, upd_ne hb, upd_ne hbe]
          rw [eH]
          have s2 : Sim ⟨X.K, ca⟩ (m1 ++ [d]) (st1 ++ [.xd [(f, w)]]) (upd H1 d (.xd [(f, v)])) := s1.new hd1 ⟨_, upd_same, .cons ⟨rfl, rw.mono (snoc_pre m1 d)⟩ .nil⟩
          exact q1 _ _ σ C d [(f, w)] [(f, v)] (snoc_pre m1 d) s2 (Fr.new hd1) (hρ.mono (p1.trans (snoc_pre m1 d))) hC (by rw [← s1.len]; exact List.getElem?_concat_length) List.getElem?_concat_length upd_same
  · exact q1.elim
end
end Mi

set_option Elab.async false
set_option linter.all false
set_option maxRecDepth 100000
set_option maxHeartbeats 4000000
/-! Mini, part 9: try with several clauses, with or without a name. -/
namespace Mi
open PySem L2
set_option autoImplicit false

theorem Sim.out {K : PySem.W.Frag} {ca : Ca} {p : Nat × Addr} {m : List Addr} {st : Sto} {H : Hp} (s : Sim ⟨K, { ca with px := p :: ca.px }⟩ m st H) : Sim ⟨K, ca⟩ m st H := by
  refine ⟨s.len, fun i a n h1 h2 => ?_, s.nd, fun q hq => s.px q (List.mem_cons_of_mem _ hq)⟩
  have h := s.at_ i a n h1 h2
  cases n <;> exact h
theorem Sim.inn {K : PySem.W.Frag} {ca : Ca} {l : Nat} {a : Addr} {m : List Addr} {st : Sto} {H : Hp} (s : Sim ⟨K, ca⟩ m st H) (h : m[l]? = some a) : Sim ⟨K, { ca with px := (l, a) :: ca.px }⟩ m st H := by
  refine ⟨s.len, fun i b n h1 h2 => ?_, s.nd, fun q hq => ?_⟩
  · have h := s.at_ i b n h1 h2
    cases n <;> exact h
  · rcases List.mem_cons.mp hq with e | e
    · rw [e]
      exact h
    · exact s.px q e
/-- in an except suite an error comes to no end here -/
theorem PostS.suite {K : PySem.W.Frag} {ca : Ca} {p : Nat × Addr} {Wx : WX} {m : List Addr} {H : Hp} {D : Ends} {r : RS} (h : PostS ⟨K, ca⟩ Wx m H D r.noExc) : PostS ⟨K, { ca with px := p :: ca.px }⟩ (fun _ _ _ _ => False) m H D r := by
  cases r with
  | nx ρ st => exact fun m2 H2 σ p2 s f r => h m2 H2 σ p2 s.out f r
  | bk ρ st => exact fun m2 H2 σ p2 s f r => h m2 H2 σ p2 s.out f r
  | ct ρ st => exact fun m2 H2 σ p2 s f r => h m2 H2 σ p2 s.out f r
  | rt w st => exact fun m2 H2 v p2 s f r => h m2 H2 v p2 s.out f r
  | exc c l ρ st => exact h.elim
  | bad => exact h
theorem PostS.as {K : PySem.W.Frag} {ca : Ca} {p : Nat × Addr} {Wx : WX} {m : List Addr} {H : Hp} {D : Ends} {s : SS} {i a : Nat} {ρ : Mi.Loc} {st : Sto} (h : PostS ⟨K, ca⟩ Wx m H D (hAsR i a s ρ st).noExc) :
    PostS ⟨K, { ca with px := p :: ca.px }⟩ (fun _ _ _ _ => False) m H { nx := fun σ' H' => D.nx (σ'.set i none) H', rt := D.rt, bk := fun σ' H' => D.bk (σ'.set i none) H', ct := fun σ' H' => D.ct (σ'.set i none) H' } (s (ρ.set i (some (.raw a))) st) := by
  unfold hAsR at h
  revert h
  cases s (ρ.set i (some (.raw a))) st with
  | nx ρ st => exact fun h m2 H2 σ p2 s f r => h m2 H2 _ p2 s.out f (r.setNone i none)
  | bk ρ st => exact fun h m2 H2 σ p2 s f r => h m2 H2 _ p2 s.out f (r.setNone i none)
  | ct ρ st => exact fun h m2 H2 σ p2 s f r => h m2 H2 _ p2 s.out f (r.setNone i none)
  | rt w st => exact fun h m2 H2 v p2 s f r => h m2 H2 v p2 s.out f r
  | exc c l ρ st => exact fun h => h.elim
  | bad => exact fun h => h
/-- what a clause says of the classes that are told -/
def Cat (K : PySem.W.Frag) (ca : Ca) (c : Value) (p : Nat → Bool) : Prop := ∀ (i : Nat) (C : Addr), ca.cls i = some C → PySem.W.exmOne K (.ref C) c = some (p i)
/-- the clauses -/
inductive MHs (X : Cx) (ca : Ca) : List ExceptHandler → List Hd → Prop
  | nil : MHs X ca [] []
  | no {x : Str} {c : Value} {p : Nat → Bool} {f : Nat → SS} {b₀ : Stmt} {suite : List Stmt} {np pos' : Pos} {hds : List ExceptHandler} {hs : List Hd} (hn : Names X x c) (hc : Cat X.K ca c p)
      (hf : ∀ (l : Nat) (a : Addr) (oe : Obj) (C dd : Addr) (pn : List (Addr × Obj)), Zc (.ref C) (some dd) oe → (∃ vs, oe.data = .fields vs) → MSs (X.suite a ((a, oe) :: pn)) { ca with px := (l, dd) :: ca.px } (fun _ _ _ _ => False) (b₀ :: suite) (f l))
      (hr : MHs X ca hds hs) : MHs X ca (.ExceptHandler (some (.Name x np)) none (b₀ :: suite) pos' :: hds) (.mk p f :: hs)
  | as {x n : Str} {i : Nat} {c : Value} {p : Nat → Bool} {f : Nat → SS} {g : Nat → Nat → SS} {b₀ : Stmt} {suite : List Stmt} {np pos' : Pos} {hds : List ExceptHandler} {hs : List Hd} (hn : Names X x c) (hc : Cat X.K ca c p) (hi : X.N[i]? = some n) (hl : X.env.kindOf n = some .local)
      (he : ∀ (l a : Nat) (ρ : Mi.Loc) (st : Sto), i < ρ.length → (hAsR i a (g l a) ρ st).noExc = (hAs i (f l) ρ st).noExc)
      (hf : ∀ (l : Nat) (a : Addr) (oe : Obj) (ci : Nat) (C dd : Addr) (pn : List (Addr × Obj)), p ci = true → ca.cls ci = some C → Zc (.ref C) (some dd) oe → (∃ vs, oe.data = .fields vs) → MSs (X.suite a ((a, oe) :: pn)) { ca with px := (l, dd) :: ca.px } (fun _ _ _ _ => False) (b₀ :: suite) (g l a))
      (hr : MHs X ca hds hs) : MHs X ca (.ExceptHandler (some (.Name x np)) (some n) (b₀ :: suite) pos' :: hds) (.mk p (fun l => hAs i (f l)) :: hs)
/-- what is wished of an error of the body -/
def wTry (K : PySem.W.Frag) (ca : Ca) (Wx : WX) (D : Ends) (hs : List Hd) : WX := fun cls d σ H => ∃ (C dd : Addr) (l ci : Nat) (m : List Addr) (ρ : Mi.Loc) (st : Sto) (fs : List (Str × W)) (es : List (Str × V)), cls = .ref C ∧ d = some dd ∧ RE m ρ σ ∧ Sim ⟨K, ca⟩ m st H ∧
  ca.cls ci = some C ∧ m[l]? = some dd ∧ st[l]? = some (.xd fs) ∧ H dd = some (.xd es) ∧ PostS ⟨K, ca⟩ Wx m H D (hGo ci l ρ st hs)
section
variable {X : Cx} {ca : Ca} {Wx : WX} {pos : Pos}
theorem ms_try {body : List Stmt} {b : SS} {h₀ : ExceptHandler} {hds : List ExceptHandler} {hs : List Hd} (hst : X.stack = X.env :: X.outer) (hfr : X.env.frame = some X.env.locals) (hN : X.N.Nodup) (tk : Takes X Wx)
    (hb : ∀ (W : WX) (pn : List (Addr × Obj)) (xe : Value → Shared → Prop), Takes (X.tr pn xe) W → PassesOwn (model X.prog X.w) X.A X.env xe → MSs (X.tr pn xe) ca W body b) (hh : MHs X ca (h₀ :: hds) hs) : MS X ca Wx (.Try body (h₀ :: hds) [] [] pos) (sTry b hs) := by
  refine ⟨fun pins s σ H D I ⟨m, ρ, st, hρ, hs0, q⟩ => ?_⟩
  have ok := I.ok
  have hfs : X.A.frames = some (X.env :: X.outer) := by rw [ok.frames, hst]
  have q1 : PostS ⟨X.K, ca⟩ (wTry X.K ca Wx D hs) m H D (b ρ st) := by
    unfold sTry at q
    revert q
    cases b ρ st with
    | exc c l ρ' st' => exact fun q m' H' σ' C d fs es p1 s1 f1 r1 e1 e2 e3 e4 => ⟨C, d, l, c, m', ρ', st', fs, es, rfl, rfl, r1, s1, e1, e2, e3, e4, q.fwd p1 f1⟩
    | nx ρ' st' => exact fun q => q
    | bk ρ' st' => exact fun q => q
    | ct ρ' st' => exact fun q => q
    | rt w st' => exact fun q => q
    | bad => exact fun q => q
  refine wpAny_Try_except (wpAny_mono ((hb (wTry X.K ca Wx D hs) (X.pn ++ pins) (fun e s₁ => wpAny (model X.prog X.w) X.A (noteFrame e X.env) (fun _ s₂ => wpAny (model X.prog X.w) X.A (setFlight e none) (fun _ s₃ =>
    wpAny (model X.prog X.w) X.A (handleBy e X.env (h₀ :: hds)) (SP X pins D) X.xe s₃) X.xe s₂) X.xe s₁) (fun u s' xx => ?_) PassesOwn.looking).run [] s σ H D (I.toTry _) ⟨m, ρ, st, hρ, hs0, q1⟩) (fun f s1 hsp => ?_) fun e s1 he => he)
  · obtain ⟨a, B, sI, pins', σ', H', cls, d, rfl, J0, nb, up, sky, na, os, ag, C, dd, l, ci, m', ρ', st', fs, es, rfl, rfl, rρ, sm, ec, el, ex, ed, w⟩ := xx
    have J := J0.ofTry ok
    show wpAny (model X.prog X.w) X.A (noteFrame (.ref a) X.env) _ _ _
    refine Sky.land Zc.steady hfs hfr (hst ▸ sky) fun h3 fl3 up3 => ?_
    have J3 : Inv X pins σ' H' { s' with heap := h3 } := J.landed nb fl3.1 (up.trans up3) os ag
    obtain ⟨oe3, vs3, he3, hz3, hd3⟩ := fl3.there
    have nfr : a ∉ frs (X.env :: X.outer) := fun hm => by
      obtain ⟨_, o', e', hnf⟩ := fl3.2.2.1.mem hm
      rw [he3] at e'
      cases e'
      exact hnf _ hd3
    have nL : a ≠ X.env.locals := fun z => nfr (List.mem_filterMap.mpr ⟨X.env, List.mem_cons_self, by rw [hfr, z]⟩)
    have nF : a ∉ X.fs := fun hm => by
      obtain ⟨e, he, q⟩ := List.mem_filterMap.mp hm
      exact nfr (List.mem_filterMap.mpr ⟨e, List.mem_cons_of_mem _ he, q⟩)
    have S3 := J3.suite he3 hd3 na nL nF
    have LT : PySem.W.Looks (model X.prog X.w) h3 (typeOf (.ref a)) (.ref C) := fun A Q E s k q => wpAny_typeOf_ref (k _ _ he3) (by rw [hz3.1]; exact q)
    have test : ∀ {x : Str} {c : Value} {np : Pos} {Q : Value → Shared → Prop} {E : Value → Shared → Prop}, Names X x c → Q c { s' with heap := h3 } → wpAny (model X.prog X.w) (X.A.mark (some (.ref a))) (eval (.Name x np) X.env) Q E { s' with heap := h3 } := fun {x c np Q E} hn q => by
      obtain ⟨hg, hdbg, hm | ⟨hm, hv, hnn⟩⟩ := hn
      · exact ld_glob (X := X.suite a ((a, oe3) :: (X.pn ++ pins))) S3 hg hm q hdbg
      · exact ld_blt (X := X.suite a ((a, oe3) :: (X.pn ++ pins))) S3 hg hm hv q hnn hdbg
    have go : ∀ {hds' : List ExceptHandler} {hs' : List Hd}, MHs X ca hds' hs' → PostS ⟨X.K, ca⟩ Wx m' H' D (hGo ci l ρ' st' hs') → wpAny (model X.prog X.w) X.A (handleBy (.ref a) X.env hds') (SP X pins D) X.xe { s' with heap := h3 } := by
      intro hds' hs' hk
      induction hk with
      | nil =>
        intro w
        refine wpAny_handleBy_nil ?_
        obtain ⟨k1, k2, k3, oe, vs, T, oT, ts', he, hz, hd, h1, hr⟩ := id fl3
        unfold PySem.passOn
        refine wpAny_bind (wpAny_field he hd h1 ?_)
        rw [if_neg (show ¬ ((Value.ref T == Value.none) = true) from by simp)]
        have fin : wpAny (model X.prog X.w) X.A (setFlight (.ref a) X.env.frame) (fun _ s4 => wpAny (model X.prog X.w) X.A (throw (.ref a) : Sem Flow) (SP X pins D) X.xe s4) X.xe { s' with heap := h3 } := by
          rw [hfr]
          refine HandSPX.setFlight_upZ fl3 fun h4 hh4 up4 => wpAny_throw (tk _ _ ⟨a, B, sI, pins, σ', H', .ref C, some dd, rfl, J, nb, (up.trans up3).trans up4, .inr (.inr (by rw [hst]; exact hh4)), na, os, ag, ?_⟩)
          exact w m' H' σ' C dd fs es (List.prefix_refl _) sm Fr.refl rρ ec el ex ed
        first
          | exact wpAny_bind (wpAny_pure (wpAny_bind fin))
          | exact wpAny_bind fin
      | @no x c p f b₀ suite np pos' hds2 hs2 hn hc hf hr ih =>
        intro w
        refine wpAny_handleBy_cons (codeAny_handlers_test (test hn ((PySem.W.exm_one (M := model X.prog X.w) (J3.kIn) LT (hc ci C ec)).here ?_))) (by intro q; cases q)
        unfold hGo at w
        cases z : p ci with
        | false =>
          rw [z, if_neg Bool.false_ne_true] at w
          show wpAny _ X.A (handleBy (.ref a) X.env hds2) _ _ _
          exact ih w
        | true =>
          rw [z, if_pos rfl] at w
          refine codeAny_handlers_suite (HandSPX.lands_againZ fl3 fun h4 fl4 up4 => ?_)
          have J4 : Inv X pins σ' H' { s' with heap := h4 } := J.landed nb fl4.1 ((up.trans up3).trans up4) os ag
          obtain ⟨oe4, vs4, he4, hz4, hd4⟩ := fl4.there
          refine wpAny_mono ((hf l a oe4 C dd (X.pn ++ pins) hz4 ⟨_, hd4⟩).run [] _ _ H' D (J4.suite he4 hd4 na nL nF) ⟨m', ρ', st', rρ, sm.inn el, w.suite⟩) (fun f s6 hsp => ?_) (fun _ _ z => False.elim z)
          cases f with
          | ret u =>
            obtain ⟨v6, σ6, H6, S6, r6, q6⟩ := hsp
            exact ⟨_, _, _, S6.unsuite ok, r6, q6⟩
          | next =>
            obtain ⟨σ6, H6, S6, q6⟩ := hsp
            exact ⟨_, _, S6.unsuite ok, q6⟩
          | brk =>
            obtain ⟨σ6, H6, S6, q6⟩ := hsp
            exact ⟨_, _, S6.unsuite ok, q6⟩
          | cont =>
            obtain ⟨σ6, H6, S6, q6⟩ := hsp
            exact ⟨_, _, S6.unsuite ok, q6⟩
      | @as x n i c p f g b₀ suite np pos' hds2 hs2 hn hc hi hl he hf hr ih =>
        intro w
        refine wpAny_handleBy_cons (codeAny_handlers_test (test hn ((PySem.W.exm_one (M := model X.prog X.w) (J3.kIn) LT (hc ci C ec)).here ?_))) (by intro q; cases q)
        unfold hGo at w
        cases z : p ci with
        | false =>
          rw [z, if_neg Bool.false_ne_true] at w
          show wpAny _ X.A (handleBy (.ref a) X.env hds2) _ _ _
          exact ih w
        | true =>
          rw [z, if_pos rfl] at w
          have li : i < ρ'.length := by
            rw [rρ.len, J3.len]
            exact (List.getElem?_eq_some_iff.mp hi).1
          have w : PostS ⟨X.K, ca⟩ Wx m' H' D (hAs i (f l) ρ' st').noExc := w
          rw [← he l a ρ' st' li] at w
          refine codeAny_handlers_suite_as (HandSPX.lands_againZ fl3 fun h4 fl4 up4 => ?_)
          have J4 : Inv X pins σ' H' { s' with heap := h4 } := J.landed nb fl4.1 ((up.trans up3).trans up4) os ag
          obtain ⟨oe4, vs4, he4, hz4, hd4⟩ := fl4.there
          refine store_ok (X := X.suite a ((a, oe4) :: (X.pn ++ pins))) (v := .ref a) (J4.suite he4 hd4 na nL nF) hN hi (.inl hl) rfl (fun s5 S5 => ?_) (.inr hl)
          refine wpAny_mono ((hf l a oe4 ci C dd (X.pn ++ pins) z ec hz4 ⟨_, hd4⟩).run [] s5 _ H' _ S5 ⟨m', _, st', rρ.set (w := .raw a) rfl i, sm.inn el, w.as⟩) (fun f s6 hsp => ?_) (fun _ _ z => False.elim z)
          cases f with
          | ret u =>
            obtain ⟨v6, σ6, H6, S6, r6, q6⟩ := hsp
            exact gone_ok (S6.unsuite ok) hN hi hl fun s7 J7 => ⟨_, _, _, J7, r6, q6⟩
          | next =>
            obtain ⟨σ6, H6, S6, q6⟩ := hsp
            exact gone_ok (S6.unsuite ok) hN hi hl fun s7 J7 => ⟨_, _, J7, q6⟩
          | brk =>
            obtain ⟨σ6, H6, S6, q6⟩ := hsp
            exact gone_ok (S6.unsuite ok) hN hi hl fun s7 J7 => ⟨_, _, J7, q6⟩
          | cont =>
            obtain ⟨σ6, H6, S6, q6⟩ := hsp
            exact gone_ok (S6.unsuite ok) hN hi hl fun s7 J7 => ⟨_, _, J7, q6⟩
    exact go hh w
  · cases f with
    | next =>
      obtain ⟨σ', H', J', q⟩ := hsp
      exact wpAny_execs_nil ⟨σ', H', J'.ofTry ok, q⟩
    | brk =>
      obtain ⟨σ', H', J', q⟩ := hsp
      exact ⟨σ', H', J'.ofTry ok, q⟩
    | cont =>
      obtain ⟨σ', H', J', q⟩ := hsp
      exact ⟨σ', H', J'.ofTry ok, q⟩
    | ret u =>
      obtain ⟨v, σ', H', J', r, q⟩ := hsp
      exact ⟨v, σ', H', J'.ofTry ok, r, q⟩
/-- e.f, e the error of the suite: i is its slot -/
theorem me_fldR {i l : Nat} {a C dd : Addr} {oe : Obj} {pn : List (Addr × Obj)} {n f : Str} {p : Pos} {ci : Nat} (T : XfC X.K C) (hno : PySem.W.findIn X.K (.ref C) f = some none) (hz : Zc (.ref C) (some dd) oe) (hf : ∃ vs, oe.data = .fields vs)
    (he : ME (X.suite a ((a, oe) :: pn)) { ca with px := (l, dd) :: ca.px } Wx (.Name n p) (eV i)) (hb : attributeBase (.Name n p) f X.env (eval (.Name n p) X.env) = eval (.Name n p) X.env := by rfl) :
    ME (X.suite a ((a, oe) :: pn)) { ca with px := (l, dd) :: ca.px } Wx (.Attribute (.Name n p) f pos) (eFldR i a l f) := by
  refine PE.imp (pe_xf T hno hz hf he hb) ?_
  rintro σ H Q ⟨m, ρ, st, hρ, hs, q⟩
  refine ⟨m, ρ, st, hρ, hs, ?_⟩
  unfold eFldR at q
  split at q
  · rename_i hi
    have ev : eV i ρ st = .ok (.raw a) st := by
      unfold eV
      rw [hi]
    rw [ev]
    rintro m1 H1 v p1 s1 f1 r1
    refine ⟨r1, rfl, dd, ?_⟩
    have hm : m1[l]? = some dd := s1.px (l, dd) List.mem_cons_self
    unfold eFld at q
    split at q
    · rename_i fs hfs
      obtain ⟨es, hd, rf⟩ := s1.at_ l dd _ hm hfs
      revert q
      cases hl : fs.lookup f with
      | none => exact fun q => q.elim
      | some w =>
        intro q
        obtain ⟨u, hu, ru⟩ : ∃ u, es.lookup f = some u ∧ RW m1 w u := by
          clear q hd hfs
          induction rf with
          | nil => cases hl
          | @cons x y xs ys hxy _ ih =>
            obtain ⟨k, w'⟩ := x
            obtain ⟨k', u'⟩ := y
            obtain ⟨e1, e2⟩ := hxy
            dsimp only at e1 e2
            subst e1
            rw [List.lookup_cons] at hl ⊢
            split at hl
            · cases hl
              exact ⟨u', rfl, e2⟩
            · exact ih hl
        exact ⟨es, u, rfl, hd, hu, q m1 H1 u p1 s1 f1 ru⟩
    · exact q.elim
  · exact q.elim
end
end Mi

set_option Elab.async false
set_option linter.all false
set_option maxRecDepth 100000
set_option maxHeartbeats 4000000
/-! Mini, part 10: ranges as values, comprehensions of two for, repr. -/
namespace Mi
open PySem L2
set_option autoImplicit false

/-! ### what repr shows -/
def flatPy : W → Option PyData
  | .non => some .none
  | .bl b => some (.bool b)
  | .int i => some (.int i)
  | .str s => some (.str (S s))
  | .loc _ => none
  | .raw _ => none
def kPy : KW → PyData
  | .inl i => .int i
  | .inr s => .str (S s)
def pyOf (st : Sto) : Nat → W → Option PyData
  | 0, w => flatPy w
  | n + 1, w => match w with
    | .loc l => match st[l]? with
      | some (.lst xs) => (mapO (pyOf st n) xs).map .list
      | some (.rol xs) => (mapO (pyOf st n) xs).map .list
      | some (.tup xs) => (mapO (pyOf st n) xs).map .tuple
      | some (.dic kvs) => (mapO (fun kv : KW × W => pyOf st n kv.2) kvs).map fun ds => .dict ((kvs.map fun kv => kPy kv.1).zip ds)
      | _ => none
    | w => flatPy w
def deepR : Nat := 12
def reprOf (st : Sto) (w : W) : Option (List Nat) := match pyOf st deepR w with
  | some d => if d.showable = true ∧ d.shown.length ≤ big then some d.shown.cps.toList else none
  | none => none
def cRepr (ws : List W) (st : Sto) : R W := match ws with
  | [w] => match reprOf st w with
    | some s => .ok (.str s) st
    | none => .bad
  | _ => .bad

theorem mapO_len {α β : Type} {f : α → Option β} : ∀ {xs : List α} {ys : List β}, mapO f xs = some ys → ys.length = xs.length
  | [], ys, h => by
    cases h
    rfl
  | x :: xs, ys, h => by
    unfold mapO at h
    cases hx : f x with
    | none =>
      rw [hx] at h
      cases h
    | some y =>
      rw [hx] at h
      cases hr : mapO f xs with
      | none =>
        rw [hr] at h
        cases h
      | some r =>
        rw [hr] at h
        cases h
        rw [List.length_cons, List.length_cons, mapO_len hr]
section
variable {X : Cx} {pins : List (Addr × Obj)} {σ : L2.St} {H : Hp} {s : Shared} {ca : Ca} {m : List Addr} {st : Sto}
theorem flat_reads {w : W} {v : V} {u : Value} {d : PyData} (h : flatPy w = some d) (r : RW m w v) (q : RelV v u) : Reads s.heap u d [] := by
  cases w with
  | non =>
    cases h
    cases r
    cases q
    exact Reads.none
  | bl b =>
    cases h
    cases r
    cases q
    exact Reads.bool b
  | int i =>
    cases h
    cases r
    obtain ⟨t, rfl⟩ := q
    exact Reads.int i t
  | str x =>
    cases h
    cases r
    obtain ⟨t, rfl⟩ := q
    exact Reads.str _ t
  | loc l => cases h
  | raw a => cases h
/-- the members, if each is read -/
theorem all_reads {f : W → Option PyData} (hf : ∀ (w : W) (v : V) (u : Value) (d : PyData), f w = some d → RW m w v → RelV v u → ∃ as, Reads s.heap u d as ∧ sysModules ∉ as) :
    ∀ (xs : List W) (vs : List V) (us : List Value) (ds : List PyData), mapO f xs = some ds → RWs m xs vs → Vals vs us → ∃ as, ReadsAll s.heap us ds as ∧ sysModules ∉ as
  | [], _, _, ds, h, .nil, .nil => by
    cases h
    exact ⟨[], ReadsAll.nil, by simp⟩
  | x :: xs, _, _, ds, h, .cons (b := v) (l₂ := vs) r t, .cons (b := u) (l₂ := us) q z => by
    unfold mapO at h
    cases hx : f x with
    | none =>
      rw [hx] at h
      cases h
    | some d =>
      rw [hx] at h
      cases hr : mapO f xs with
      | none =>
        rw [hr] at h
        cases h
      | some ds' =>
        rw [hr] at h
        cases h
        obtain ⟨a1, k1, n1⟩ := hf x v u d hx r q
        obtain ⟨a2, k2, n2⟩ := all_reads hf xs vs us ds' hr t z
        exact ⟨a1 ++ a2, ReadsAll.cons k1 k2, fun y => (List.mem_append.mp y).elim n1 n2⟩
/-- a dict's keys -/
theorem keys_read : ∀ {kvs : List (KW × W)} {es : List (Key × V)} {vs : List (Key × Value)} {des : List DictEntry}, RKV m kvs es → KV es vs → Pairs (mixKind X.prog X.w) des vs → ReadsAll s.heap (des.map (·.key)) (kvs.map fun kv => kPy kv.1) []
  | _, _, _, _, .nil, .nil, .nil => ReadsAll.nil
  | _, _, _, _, .cons (a := a) (b := b) r t, .cons (b := c) r' t', .cons (e := e) hk he hp => by
    have rest := keys_read t t' hp
    have k1 : kk a.1 = c.1 := r.1.trans r'.1
    have hk' : keyIs c.1 e.key = true := hk
    rw [← k1] at hk'
    refine ReadsAll.cons (as := []) (show Reads s.heap e.key (kPy a.1) [] from ?_) rest
    rcases keyIs_shape hk' with ⟨i, t, e1, e2⟩ | ⟨x, t, e1, e2⟩
    · cases ha : a.1 with
      | inl j =>
        rw [ha] at e1
        cases e1
        rw [e2]
        exact Reads.int _ t
      | inr j =>
        rw [ha] at e1
        cases e1
    · cases ha : a.1 with
      | inr j =>
        rw [ha] at e1
        cases e1
        rw [e2]
        exact Reads.str _ t
      | inl j =>
        rw [ha] at e1
        cases e1
/-- .. its values -/
theorem vals_of_pairs : ∀ {kvs : List (KW × W)} {es : List (Key × V)} {vs : List (Key × Value)} {des : List DictEntry}, RKV m kvs es → KV es vs → Pairs (mixKind X.prog X.w) des vs → RWs m (kvs.map (·.2)) (es.map (·.2)) ∧ Vals (es.map (·.2)) (des.map (·.val))
  | _, _, _, _, .nil, .nil, .nil => ⟨.nil, .nil⟩
  | _, _, _, _, .cons r t, .cons r' t', .cons hk he hp => by
    obtain ⟨h1, h2⟩ := vals_of_pairs t t' hp
    exact ⟨.cons r.2 h1, .cons (by have z := r'.2; rw [← he] at z; exact z) h2⟩
theorem mapO_map {α β γ : Type} (f : β → Option γ) (g : α → β) : ∀ xs : List α, mapO (fun x => f (g x)) xs = mapO f (xs.map g)
  | [] => rfl
  | x :: xs => by
    unfold mapO
    rw [mapO_map f g xs]
    rfl
theorem reads_ok (I : Inv X pins σ H s) (hs : Sim ⟨X.K, ca⟩ m st H) (hsys : H sysModules = none) : ∀ (n : Nat) (w : W) (v : V) (u : Value) (d : PyData), pyOf st n w = some d → RW m w v → RelV v u → ∃ as, Reads s.heap u d as ∧ sysModules ∉ as
  | 0, w, v, u, d, h, r, q => ⟨[], flat_reads h r q, by simp⟩
  | n + 1, w, v, u, d, h, r, q => by
    have ih := reads_ok I hs hsys n
    have lists : ∀ {l : Nat} {xs : List W}, listAt st (.loc l) = some xs → w = .loc l → (mapO (pyOf st n) xs).map PyData.list = some d → ∃ as, Reads s.heap u d as ∧ sysModules ∉ as := by
      intro l xs e ew hm
      subst ew
      obtain ⟨a, vs, rfl, hq, rv⟩ := hs.lists e r
      obtain ⟨its, ri, p, _⟩ := I.list hq
      obtain ⟨o, n', ho, hc, _, hd⟩ := p
      cases q
      cases hd' : mapO (pyOf st n) xs with
      | none =>
        rw [hd'] at hm
        cases hm
      | some ds =>
        rw [hd'] at hm
        cases hm
        obtain ⟨as, k, ns⟩ := all_reads ih xs vs its ds hd' rv ri
        refine ⟨a :: as, Reads.list ho hc hd (by simpa using k), fun z => ?_⟩
        rcases List.mem_cons.mp z with z | z
        · obtain ⟨b, hb, hat⟩ := hs.ref (n := st[l]?.getD (.lst [])) (l := l) (v := .ref a) (by
            unfold listAt nodeAt at e
            cases hl : st[l]? with
            | none => simp [hl] at e
            | some nd => rfl) r
          cases hb
          obtain ⟨o2, h2⟩ := hat.2.some
          rw [← z, hsys] at h2
          cases h2
        · exact ns z
    cases w with
    | loc l =>
      have h' : (match st[l]? with
        | some (.lst xs) => (mapO (pyOf st n) xs).map PyData.list
        | some (.rol xs) => (mapO (pyOf st n) xs).map PyData.list
        | some (.tup xs) => (mapO (pyOf st n) xs).map PyData.tuple
        | some (.dic kvs) => (mapO (fun kv : KW × W => pyOf st n kv.2) kvs).map fun ds => PyData.dict ((kvs.map fun kv => kPy kv.1).zip ds)
        | _ => none) = some d := h
      split at h'
      · rename_i xs e
        exact lists (l := l) (xs := xs) (by simp [listAt, nodeAt, e]) rfl h'
      · rename_i xs e
        exact lists (l := l) (xs := xs) (by simp [listAt, nodeAt, e]) rfl h'
      · rename_i xs e
        obtain ⟨a, vs, rfl, h1, rv, _⟩ := hs.tup e r
        obtain ⟨its, ri, p, _⟩ := I.tuple (.of h1)
        obtain ⟨o, ho, hc, n', hd⟩ := p
        cases q
        cases hd' : mapO (pyOf st n) xs with
        | none =>
          rw [hd'] at h'
          cases h'
        | some ds =>
          rw [hd'] at h'
          cases h'
          obtain ⟨as, k, ns⟩ := all_reads ih xs vs its ds hd' rv ri
          exact ⟨as, Reads.tuple ho hc hd (by simpa using k), ns⟩
      · rename_i kvs e
        obtain ⟨a, es, rfl, h1, rv, _⟩ := hs.dic e r
        obtain ⟨_, nsys, vs, rk, o, des, ep, ho, hx, hd, _, hp, _⟩ := I.hok a _ h1
        cases q
        rw [mapO_map (pyOf st n) (fun kv : KW × W => kv.2)] at h'
        cases hd' : mapO (pyOf st n) (kvs.map fun kv : KW × W => kv.2) with
        | none =>
          rw [hd'] at h'
          cases h'
        | some ds =>
          rw [hd'] at h'
          cases h'
          obtain ⟨r1, r2⟩ := vals_of_pairs rv rk hp
          obtain ⟨as, k, ns⟩ := all_reads ih _ _ _ ds hd' r1 r2
          have kr := keys_read (s := s) rv rk hp
          have hl : ds.length = kvs.length := by rw [mapO_len hd', List.length_map]
          refine ⟨a :: [] ++ as, Reads.dict ho hx.1 hd (as := []) (bs := as) ?_ ?_, fun z => ?_⟩
          · rw [List.map_fst_zip (by rw [List.length_map, hl]; exact Nat.le_refl _)]
            exact kr
          · rw [List.map_snd_zip (by rw [List.length_map, hl]; exact Nat.le_refl _)]
            exact k
          · rcases List.mem_cons.mp (show sysModules ∈ a :: as from z) with z | z
            · rw [← z] at nsys
              simp at nsys
            · exact ns z
      · cases h'
    | non => exact ⟨[], flat_reads (w := .non) h r q, by simp⟩
    | bl b => exact ⟨[], flat_reads (w := .bl b) h r q, by simp⟩
    | int i => exact ⟨[], flat_reads (w := .int i) h r q, by simp⟩
    | str x => exact ⟨[], flat_reads (w := .str x) h r q, by simp⟩
    | raw a => cases h
end
theorem pyOf_depth {st : Sto} : ∀ (n : Nat) (w : W) (d : PyData), pyOf st n w = some d → d.depth ≤ n := by
  have flat : ∀ (w : W) (d : PyData) (n : Nat), flatPy w = some d → d.depth ≤ n := by
    intro w d n h
    cases w <;> cases h <;> simp [PyData.depth]
  have all : ∀ (n : Nat), (∀ (w : W) (d : PyData), pyOf st n w = some d → d.depth ≤ n) → ∀ (xs : List W) (ds : List PyData), mapO (pyOf st n) xs = some ds → PyData.depthAll ds ≤ n := by
    intro n ih xs
    induction xs with
    | nil =>
      intro ds h
      cases h
      simp [PyData.depthAll]
    | cons x xs ix =>
      intro ds h
      unfold mapO at h
      cases hx : pyOf st n x with
      | none =>
        rw [hx] at h
        cases h
      | some d =>
        rw [hx] at h
        cases hr : mapO (pyOf st n) xs with
        | none =>
          rw [hr] at h
          cases h
        | some ds' =>
          rw [hr] at h
          cases h
          have h1 := ih x d hx
          have h2 := ix ds' hr
          simp [PyData.depthAll]
          omega
  intro n
  induction n with
  | zero => exact fun w d h => flat w d 0 h
  | succ n ih =>
    intro w d h
    cases w with
    | loc l =>
      have h' : (match st[l]? with
        | some (.lst xs) => (mapO (pyOf st n) xs).map PyData.list
        | some (.rol xs) => (mapO (pyOf st n) xs).map PyData.list
        | some (.tup xs) => (mapO (pyOf st n) xs).map PyData.tuple
        | some (.dic kvs) => (mapO (fun kv : KW × W => pyOf st n kv.2) kvs).map fun ds => PyData.dict ((kvs.map fun kv => kPy kv.1).zip ds)
        | _ => none) = some d := h
      split at h'
      · rename_i xs e
        cases hd' : mapO (pyOf st n) xs with
        | none =>
          rw [hd'] at h'
          cases h'
        | some ds =>
          rw [hd'] at h'
          cases h'
          have := all n ih xs ds hd'
          simp only [PyData.depth]
          omega
      · rename_i xs e
        cases hd' : mapO (pyOf st n) xs with
        | none =>
          rw [hd'] at h'
          cases h'
        | some ds =>
          rw [hd'] at h'
          cases h'
          have := all n ih xs ds hd'
          simp only [PyData.depth]
          omega
      · rename_i xs e
        cases hd' : mapO (pyOf st n) xs with
        | none =>
          rw [hd'] at h'
          cases h'
        | some ds =>
          rw [hd'] at h'
          cases h'
          have := all n ih xs ds hd'
          simp only [PyData.depth]
          omega
      · rename_i kvs e
        rw [mapO_map (pyOf st n) (fun kv : KW × W => kv.2)] at h'
        cases hd' : mapO (pyOf st n) (kvs.map fun kv : KW × W => kv.2) with
        | none =>
          rw [hd'] at h'
          cases h'
        | some ds =>
          rw [hd'] at h'
          cases h'
          have h1 := all n ih _ ds hd'
          have h2 : ∀ (ks : List KW) (ds : List PyData), PyData.depthAll ds ≤ n → PyData.depthKv ((ks.map kPy).zip ds) ≤ n := by
            intro ks
            induction ks with
            | nil => intro ds _; simp [PyData.depthKv]
            | cons k ks ik =>
              intro ds hd
              cases ds with
              | nil => simp [PyData.depthKv]
              | cons d ds =>
                simp only [PyData.depthAll] at hd
                have := ik ds (by omega)
                have hk : (kPy k).depth = 0 := by cases k <;> simp [kPy, PyData.depth]
                simp only [List.map_cons, List.zip_cons_cons, PyData.depthKv, hk]
                omega
          have h3 := h2 (kvs.map (·.1)) ds h1
          rw [List.map_map] at h3
          simp only [PyData.depth]
          have h4 : ((kvs.map fun kv => kPy kv.1).zip ds) = ((kvs.map (kPy ∘ fun x => x.1)).zip ds) := rfl
          rw [h4]
          omega
      · cases h'
    | non => exact flat (.non) d _ h
    | bl b => exact flat (.bl b) d _ h
    | int i => exact flat (.int i) d _ h
    | str x => exact flat (.str x) d _ h
    | raw a => cases h
end Mi

set_option Elab.async false
set_option linter.all false
set_option maxRecDepth 100000
set_option maxHeartbeats 4000000
/-! Mini, part 11: repr, ranges as values, comprehensions of two for: the rules. -/
namespace Mi
open PySem L2
set_option autoImplicit false
section
variable {X : Cx} {ca : Ca}
/-- what repr is to show -/
def rRepr (X : Cx) : List V → Hp → VK → Prop := fun xs H Q => ∃ (v : V) (d : PyData), xs = [v] ∧ (∀ (pins : List (Addr × Obj)) (σ : L2.St) (s : Shared) (u : Value), Inv X pins σ H s → RelV v u → ∃ as, Reads s.heap u d as ∧ sysModules ∉ as) ∧
  d.showable = true ∧ d.shown.length ≤ sizeLine ∧ d.depth ≤ deepR ∧ Q (.str d.shown) H
theorem call_repr (hr : RoomG 0 X.A) : CallR X (.builtin "repr") (rRepr X) := by
  intro pins s σ H xs us Q I r h
  obtain ⟨v, d, rfl, hrd, hs, hl, hd, q⟩ := h
  cases r with
  | @cons _ u _ _ ru rr =>
    cases rr
    obtain ⟨as, rd, ns⟩ := hrd pins σ s u I ru
    cases u with
    | ref a =>
      have hu : X.A.units + (d.depth + 1) < cLine := by
        have h1 := hr.rm.un
        have h2 : d.depth ≤ 12 := hd
        omega
      refine repr_of_reads' (h₀ := s.heap) rd hs (fun _ => ns) hr.gd hu (fun _ _ e => e) (fun h' u' tk kp => ⟨.str d.shown, H, ?_, ⟨u', rfl⟩, q⟩) hl
      exact I.kept (t' := tk) (h' := h') kp
    | none =>
      cases rd
      exact PySem.P.repr_of_none ⟨.str _, H, I.tok _, ⟨_, rfl⟩, q⟩
    | bool b =>
      cases rd
      exact PySem.P.repr_of_bool ⟨.str _, H, I.tok _, ⟨_, rfl⟩, by cases b <;> exact q⟩
    | int i t =>
      cases rd
      have hs' : i.natAbs.log2 < 1920 := of_decide_eq_true (by simpa only [PyData.showable] using hs)
      exact PySem.P.repr_of_int hs' ⟨.str _, H, I.tok _, ⟨_, rfl⟩, q⟩
    | str x t =>
      cases rd
      exact PySem.P.repr_of_str ⟨.str _, H, I.tok _, ⟨_, rfl⟩, q⟩ hl
    | _ => cases rd
theorem cm_repr (hr : RoomG 0 X.A) (hK : (X.K.lookup sysModules).isSome = true) : CM X ca (.builtin "repr") cRepr := by
  refine ⟨_, call_repr hr, ?_⟩
  intro Wx σ m st H xs vs Q hs r q
  unfold cRepr at q
  split at q
  · rename_i w
    obtain ⟨v, rfl, r1⟩ := RWs.one r
    unfold reprOf at q
    cases hd : pyOf st deepR w with
    | none =>
      rw [hd] at q
      exact q.elim
    | some d =>
      rw [hd] at q
      dsimp only at q
      split at q
      · rename_i s e
        split at e
        · rename_i hh
          cases e
          refine ⟨v, d, rfl, fun pins σ s u I ru => ?_, hh.1, by rw [sl_big]; exact hh.2, pyOf_depth _ _ _ hd, q.now hs (by show _ = _; rw [S_cps])⟩
          obtain ⟨o, ho⟩ := Option.isSome_iff_exists.mp hK
          exact reads_ok I hs (I.bs _ _ (I.ok.mod.kin _ _ ho)).2 _ _ _ _ _ hd r1 ru
        · cases e
      · exact q.elim
  · exact q.elim

/-! ### ranges as values -/
theorem cr_range1 : CallR X (.type "range") (fun vs H Q => ∃ j, vs = [V.int j] ∧ ∀ p, H p = none → Q (.ref p) (upd H p (.rng 0 j))) := by
  intro pins s σ H vs us Q I r h
  obtain ⟨j, rfl, q⟩ := h
  cases r with
  | cons rj rr =>
    cases rr
    obtain ⟨t, rfl⟩ := rj
    refine call_range_1 ⟨.ref s.heap.objs.size, upd H s.heap.objs.size (.rng 0 j), I.laid (fun b o e => Heap.get?_push_of_some _ e) (Nat.le_refl _) ⟨_, _, _, Heap.get?_push_size _ rfl⟩, rfl, q _ (I.hok.fresh (Nat.le_refl _))⟩
theorem cm_rng : CM X ca (.type "range") cRng := by
  refine ⟨_, cr_range1, ?_⟩
  intro Wx σ m st H xs vs Q hs r q
  unfold cRng at q
  split at q
  · rename_i j
    split at q
    · obtain ⟨v, rfl, r1⟩ := RWs.one r
      cases r1
      refine ⟨j, rfl, fun p hp => ?_⟩
      have q' : Post ⟨X.K, ca⟩ Wx σ RW m H Q (.ok (.loc st.length) (st ++ [.rng 0 j])) := q
      exact q' (m ++ [p]) _ (.ref p) (snoc_pre m p) (hs.new hp upd_same) (Fr.new hp) ⟨p, by rw [← hs.len]; exact List.getElem?_concat_length, rfl⟩
    · exact q.elim
  · exact q.elim
/-- a range object walked -/
theorem pi_rngV {tg e : Expr} {te : TE} (he : PE X e te) : PI X tg e (fun σ H R => te σ H fun x H1 => ∃ (a : Addr) (lo hi : Int), x = .ref a ∧ H1 a = some (.rng lo hi) ∧ (-(2 ^ 62) ≤ lo ∧ lo < 2 ^ 62 ∧ -(2 ^ 62) ≤ hi ∧ hi < 2 ^ 62) ∧ R (Itr lo (hi - lo).toNat) H1) := by
  refine ⟨fun pins s σ H R I h => thn (he.run pins s σ H _ I h) fun v s1 ⟨x, H1, I1, r1, a, lo, hi, ex, ha, ⟨z1, z2, z3, z4⟩, q⟩ => ?_⟩
  subst ex
  cases r1
  obtain ⟨t, u, w, ho⟩ := I1.hok a _ ha
  refine wpAny_pyIter_range (show IsRange s1.heap a lo hi 1 t u w from ho) (small_one z1 z2 z3 z4) ⟨s1.heap.objs.size, [s1.heap.objs.size], _, _, H1, rfl, I1.kept (t' := s1.toks) fun b o e => Heap.get?_push_of_some _ e, turn_range _ lo (hi - lo).toNat, ?_, fun b hb => ?_, q⟩
  · have e1 : lo + ((0 : Nat) : Int) * 1 = lo := by simp
    have e2 : (((hi - lo).toNat : Nat) : Int) - ((0 : Nat) : Int) = Builtin.Range.rangeSize lo hi 1 := by
      rw [rangeSize_one]
      split <;> omega
    dsimp only
    rw [e1, e2]
    exact Heap.get?_push_size _ rfl
  · obtain rfl : b = s1.heap.objs.size := by simpa using hb
    exact I1.fpOk (Nat.le_refl _) (I1.hok.fresh (Nat.le_refl _))
theorem mi_rngV {Wx : WX} {tg a : Expr} {fa : ES} (ha : ME X ca Wx a fa) : MI X ca Wx tg a (iRngV fa) := by
  refine PI.imp (pi_rngV ha) ?_
  rintro σ H R ⟨m, ρ, st, hρ, hs, q⟩
  refine ⟨m, ρ, st, hρ, hs, (Post.bind q).imp ?_⟩
  rintro v H1 ⟨m1, w, st1, p1, s1, r1, h1⟩
  split at h1
  · rename_i l
    split at h1
    · rename_i lo hi e
      split at h1
      · rename_i hz
        obtain ⟨a, rfl, hl, hat⟩ := s1.ref e r1
        exact ⟨a, lo, hi, rfl, hat, by omega, h1.now s1 jy_rng⟩
      · exact h1.elim
    · exact h1.elim
  · exact h1.elim

/-! ### comprehensions of two for -/
/-- a comprehension on its way: its list stands at D, what is still to come is told by k -/
def Way (G : G0) (D : Addr) (m0 : List Addr) (H0 : Hp) (K : R (List W) → Prop) (k : List W → Sto → R (List W)) (H : Hp) : Prop :=
  ∃ m st acc vs, m0 <+: m ∧ Sim G m st H ∧ Fr m0 H0 m H ∧ H D = some (.lst vs) ∧ D ∉ m ∧ RWs m acc vs ∧ K (k acc st)
theorem Way.app {G : G0} {D : Addr} {m0 : List Addr} {H0 : Hp} {K : R (List W) → Prop} {k : List W → Sto → R (List W)} (hD : H0 D = none) {m : List Addr} {st : Sto} {H : Hp} {acc : List W} {vs : List V} {w : W} {y : V} (p : m0 <+: m) (s : Sim G m st H) (f : Fr m0 H0 m H) (nd : D ∉ m) (r : RWs m acc vs) (rw' : RW m w y)
    (q : K (k (acc ++ [w]) st)) : Way G D m0 H0 K k (upd H D (.lst (vs ++ [y]))) := by
  refine ⟨m, st, acc ++ [w], vs ++ [y], p, ⟨s.len, fun j a n h1 h2 => ?_, s.nd, s.px⟩, fun a o ha na => ?_, upd_same, nd, r.append (.cons rw' .nil), q⟩
  · have ne : a ≠ D := fun z => nd (by rw [← z]; exact List.mem_of_getElem? h1)
    exact At.stay (fun u e => by rw [upd_ne ne]; exact e) (s.at_ j a n h1 h2)
  · obtain ⟨g1, g2⟩ := f a o ha na
    have ne : a ≠ D := fun z => by rw [z, hD] at ha; cases ha
    exact ⟨by rw [upd_ne ne]; exact g1, g2⟩
/-- the turns of one for -/
theorem way_loop {G : G0} {D : Addr} {m0 : List Addr} {H0 : Hp} (hD : H0 D = none) {K : R (List W) → Prop} (nx : ∀ c l st, ¬ K (.exc c l st)) (nb : ¬ K .bad) {rest : List W → Sto → R (List W)}
    {ck : Ck} {g : Tg} {t : EB} {e : ES} {ρ : Mi.Loc} {σ : L2.St} {own : List Nat} (hown : ∀ i ∈ g.ix, i ∈ own) {ys : List Y} {J : It} {m1 : List Addr} {tt : TT} {te : TE} (hρ : RE m1 ρ σ) (p01 : m0 <+: m1) (jy : JY G m1 ys ck J)
    (ht : ∀ σ H Q, tT G W0 t σ H Q → tt σ H Q) (he : ∀ σ H Q, tE G W0 e σ H Q → te σ H Q) :
    ∀ (i n : Nat) (H : Hp), (n = ys.length - i ∧ i ≤ ys.length ∧ ∃ m st acc vs, m1 <+: m ∧ Sim G m st H ∧ Fr m0 H0 m H ∧ H D = some (.lst vs) ∧ D ∉ m ∧ RWs m acc vs ∧ K ((lcGo ck g t e (wipeL ρ own) (ys.drop i) acc st).bind rest)) →
      (J.stop i H ∧ Way G D m0 H0 K rest H) ∨ (J.go i H ∧ ∃ Nx : Hp → Prop, (∀ H', Nx H' → ∃ n', n' < n ∧ (n' = ys.length - (i + 1) ∧ i + 1 ≤ ys.length ∧ ∃ m st acc vs, m1 <+: m ∧ Sim G m st H' ∧ Fr m0 H0 m H' ∧ H' D = some (.lst vs) ∧ D ∉ m ∧ RWs m acc vs ∧ K ((lcGo ck g t e (wipeL ρ own) (ys.drop (i + 1)) acc st).bind rest))) ∧
        ∀ x H', J.yld i H x H' → tG G g x (wipe σ own) H' fun σ3 H5 => wipe σ3 own = wipe σ own ∧ tt σ3 H5 fun b H6 => if b = true then te σ3 H6 fun y H7 => ∃ acc, H7 D = some (.lst acc) ∧ acc.length < sizeLine ∧ Nx (upd H7 D (.lst (acc ++ [y]))) else Nx H6) := by
  rintro i n H ⟨rfl, hi, m, st, acc, vs, p1, s1, f1, hd, nd, ra, q⟩
  by_cases hlt : i < ys.length
  · rw [List.drop_eq_getElem_cons hlt] at q
    unfold lcGo at q
    split at q
    · rename_i hck
      obtain ⟨hgo, hy⟩ := (jy m st H p1 s1 hck).1 i ys[i] (List.getElem?_eq_getElem hlt)
      refine .inr ⟨hgo, fun H' => ∃ m st acc vs, m1 <+: m ∧ Sim G m st H' ∧ Fr m0 H0 m H' ∧ H' D = some (.lst vs) ∧ D ∉ m ∧ RWs m acc vs ∧ K ((lcGo ck g t e (wipeL ρ own) (ys.drop (i + 1)) acc st).bind rest), fun H' z => ⟨_, by omega, rfl, hlt, z⟩, fun x H2 hyx => ?_⟩
      obtain ⟨s2, f2, ry⟩ := hy x H2 hyx
      obtain ⟨hd2, nd2⟩ := f2 D _ hd nd
      split at q
      · rename_i ρ' ea
        refine ⟨m, _, st, ys[i], ρ', (hρ.mono p1).wipe own, s2, ry, ea, fun σ' re hw => ⟨by rw [hw own hown]; exact wipe_wipe _ _, ht _ _ _ ⟨m, ρ', st, re, s2, ?_⟩⟩⟩
        cases et : t ρ' st with
        | exc c l st' =>
          rw [et] at q
          exact (nx _ _ _ q).elim
        | bad =>
          rw [et] at q
          exact (nb q).elim
        | ok k st3 =>
          rw [et] at q
          rintro m3 H3 b p3 s3 f3 rb
          obtain rfl : k = b := rb
          obtain ⟨hd3, nd3⟩ := f3 D _ hd2 nd2
          cases k with
          | false =>
            rw [if_neg Bool.false_ne_true]
            exact ⟨m3, st3, acc, vs, p1.trans p3, s3, (f1.trans f2).trans f3, hd3, nd3, ra.mono p3, q⟩
          | true =>
            rw [if_pos rfl]
            refine he _ _ _ ⟨m3, ρ', st3, re.mono p3, s3, ?_⟩
            have q2 : K (((e ρ' st3).bind fun w st => if acc.length < big then lcGo ck g t e (wipeL ρ own) (ys.drop (i + 1)) (acc ++ [w]) st else .bad).bind rest) := q
            cases ee : e ρ' st3 with
            | exc c l st' =>
              rw [ee] at q2
              exact (nx _ _ _ q2).elim
            | bad =>
              rw [ee] at q2
              exact (nb q2).elim
            | ok w st4 =>
              rw [ee] at q2
              have q3 : K ((if acc.length < big then lcGo ck g t e (wipeL ρ own) (ys.drop (i + 1)) (acc ++ [w]) st4 else .bad).bind rest) := q2
              rintro m4 H4 y p4 s4 f4 r4
              obtain ⟨hd4, nd4⟩ := f4 D _ hd3 nd3
              split at q3
              · rename_i hlen
                refine ⟨vs, hd4, by rw [← ra.length, sl_big]; exact hlen, ?_⟩
                obtain ⟨m', st', acc', vs', z⟩ := Way.app (k := fun acc st => (lcGo ck g t e (wipeL ρ own) (ys.drop (i + 1)) acc st).bind rest) (m0 := m0) (m := m4) hD (p01.trans (p1.trans (p3.trans p4))) s4 ((f1.trans f2).trans (f3.trans f4)) nd4 (ra.mono (p3.trans p4)) r4 q3
                exact ⟨m4, st4, acc ++ [w], vs ++ [y], p1.trans (p3.trans p4), (by
                  refine ⟨s4.len, fun j a n h1 h2 => ?_, s4.nd, s4.px⟩
                  have ne : a ≠ D := fun z => nd4 (by rw [← z]; exact List.mem_of_getElem? h1)
                  exact At.stay (fun u e => by rw [upd_ne ne]; exact e) (s4.at_ j a n h1 h2)), (by
                  intro a o ha na
                  obtain ⟨g1, g2⟩ := ((f1.trans f2).trans (f3.trans f4)) a o ha na
                  have ne : a ≠ D := fun z => by rw [z, hD] at ha; cases ha
                  exact ⟨by rw [upd_ne ne]; exact g1, g2⟩), upd_same, nd4, (ra.mono (p3.trans p4)).append (.cons r4 .nil), q3⟩
              · exact (nb q3).elim
      · exact (nb q).elim
    · exact (nb q).elim
  · obtain rfl : i = ys.length := by omega
    rw [List.drop_length] at q
    unfold lcGo at q
    split at q
    · rename_i hck
      exact .inl ⟨(jy m st H p1 s1 hck).2, m, st, acc, vs, p01.trans p1, s1, f1, hd, nd, ra, q⟩
    · exact (nb q).elim
theorem lc2_sound {G : G0} {Wx : WX} {it it1 : IS} {g g1 : Tg} {t t1 : EB} {e : ES} {own own1 : List Nat} {wi wi1 : TI} {tt tt1 : TT} {te : TE} {σ : L2.St} {H : Hp} {Q : VK}
    (hi : ∀ R, tI G Wx it σ H R → wi σ H R) (hi1 : ∀ σ H R, tI G W0 it1 σ H R → wi1 σ H R)
    (ht : ∀ σ H Q, tT G W0 t σ H Q → tt σ H Q) (ht1 : ∀ σ H Q, tT G W0 t1 σ H Q → tt1 σ H Q) (he : ∀ σ H Q, tE G W0 e σ H Q → te σ H Q) (hown : ∀ i ∈ g.ix, i ∈ own) (hown1 : ∀ i ∈ g1.ix, i ∈ own1)
    (q : tE G Wx (eLc2 own it g t it1 own1 g1 t1 e) σ H Q) : tLc2 wi (tG G g) tt wi1 (tG G g1) tt1 te own own1 σ H Q := by
  obtain ⟨m, ρ, st, hρ, hs, q⟩ := q
  refine hi _ ⟨m, ρ, st, hρ, hs, (Post.bind q).imp ?_⟩
  rintro J H1 ⟨m1, ⟨ys, ck⟩, st1, p1, s1, jy, q1⟩
  intro D hD
  have nD : D ∉ m1 := s1.fresh hD
  have nx : ∀ c l st, ¬ LcEnd G Wx σ m1 H1 Q (.exc c l st) := fun _ _ _ z => z
  have nb : ¬ LcEnd G Wx σ m1 H1 Q .bad := fun z => z
  refine ⟨fun i n H' => n = ys.length - i ∧ i ≤ ys.length ∧ Way G D m1 H1 (LcEnd G Wx σ m1 H1 Q) (fun acc st => lcGo2 ck g t it1 own1 g1 t1 e (wipeL ρ own) (ys.drop i) acc st) H', ⟨_, rfl, Nat.zero_le _, m1, st1, [], [], List.prefix_refl _, s1.other hD, Fr.other hD, upd_same, nD, .nil, q1⟩, ?_⟩
  rintro i n H' ⟨rfl, hi', m', st', acc, vs, p', s', f', hd, nd, ra, qe⟩
  by_cases hlt : i < ys.length
  · rw [List.drop_eq_getElem_cons hlt] at qe
    unfold lcGo2 at qe
    dsimp only at qe
    split at qe
    · rename_i hck
      obtain ⟨hgo, hy⟩ := (jy m' st' H' p' s' hck).1 i ys[i] (List.getElem?_eq_getElem hlt)
      refine .inr ⟨hgo, Way G D m1 H1 (LcEnd G Wx σ m1 H1 Q) (fun acc st => lcGo2 ck g t it1 own1 g1 t1 e (wipeL ρ own) (ys.drop (i + 1)) acc st), fun H'' z => ⟨ys.length - (i + 1), by omega, rfl, hlt, z⟩, fun x H2 hyx => ?_⟩
      obtain ⟨s2, f2, ry⟩ := hy x H2 hyx
      obtain ⟨hd2, nd2⟩ := f2 D _ hd nd
      split at qe
      · rename_i ρ' ea
        refine ⟨m', _, st', ys[i], ρ', (hρ.mono (p1.trans p')).wipe own, s2, ry, ea, fun σ' re hw => ⟨by rw [hw own hown]; exact wipe_wipe _ _, ht _ _ _ ⟨m', ρ', st', re, s2, ?_⟩⟩⟩
        cases et : t ρ' st' with
        | exc c l st3 =>
          rw [et] at qe
          exact (nx _ _ _ qe).elim
        | bad =>
          rw [et] at qe
          exact (nb qe).elim
        | ok k st3 =>
          rw [et] at qe
          rintro m3 H3 b p3 s3 f3 rb
          obtain rfl : k = b := rb
          obtain ⟨hd3, nd3⟩ := f3 D _ hd2 nd2
          cases k with
          | false =>
            rw [if_neg Bool.false_ne_true]
            exact ⟨m3, st3, acc, vs, p'.trans p3, s3, (f'.trans f2).trans f3, hd3, nd3, ra.mono p3, qe⟩
          | true =>
            rw [if_pos rfl]
            refine hi1 _ _ _ ⟨m3, ρ', st3, re.mono p3, s3, ?_⟩
            have q2 : LcEnd G Wx σ m1 H1 Q ((it1 ρ' st3).bind fun p st => (lcGo p.2 g1 t1 e (wipeL ρ' own1) p.1 acc st).bind fun acc st => lcGo2 ck g t it1 own1 g1 t1 e (wipeL ρ own) (ys.drop (i + 1)) acc st) := qe
            cases ei : it1 ρ' st3 with
            | exc c l st4 =>
              rw [ei] at q2
              exact (nx _ _ _ q2).elim
            | bad =>
              rw [ei] at q2
              exact (nb q2).elim
            | ok pr st4 =>
              rw [ei] at q2
              obtain ⟨zs, ck1⟩ := pr
              rintro m4 H4 J1 p4 s4 f4 j4
              obtain ⟨hd4, nd4⟩ := f4 D _ hd3 nd3
              refine ⟨fun j n H => n = zs.length - j ∧ j ≤ zs.length ∧ ∃ m st acc vs, m4 <+: m ∧ Sim G m st H ∧ Fr m1 H1 m H ∧ H D = some (.lst vs) ∧ D ∉ m ∧ RWs m acc vs ∧ LcEnd G Wx σ m1 H1 Q ((lcGo ck1 g1 t1 e (wipeL ρ' own1) (zs.drop j) acc st).bind fun acc st => lcGo2 ck g t it1 own1 g1 t1 e (wipeL ρ own) (ys.drop (i + 1)) acc st),
                ⟨_, rfl, Nat.zero_le _, m4, st4, acc, vs, List.prefix_refl _, s4, (f'.trans f2).trans (f3.trans f4), hd4, nd4, ra.mono (p3.trans p4), q2⟩, ?_⟩
              exact way_loop (G := G) (m0 := m1) (H0 := H1) hD nx nb hown1 (re.mono (p3.trans p4)) ((p'.trans p3).trans p4) j4 ht1 he
      · exact (nb qe).elim
    · exact (nb qe).elim
  · obtain rfl : i = ys.length := by omega
    rw [List.drop_length] at qe
    unfold lcGo2 at qe
    dsimp only at qe
    split at qe
    · rename_i hck
      refine .inl ⟨(jy m' st' H' p' s' hck).2, ?_⟩
      have qn : Post G Wx σ RW m1 H1 Q (new (.lst acc) st') := qe
      refine qn (m' ++ [D]) H' (.ref D) (p'.trans (snoc_pre m' D)) ?_ (fun a o ha na => ?_) ⟨D, by rw [← s'.len]; exact List.getElem?_concat_length, rfl⟩
      · have eH : upd (fun b => if b = D then none else H' b) D (.lst vs) = H' := by
          funext b
          by_cases hb : b = D
          · subst hb
            rw [upd_same, hd]
          · rw [upd_ne hb, if_neg hb]
        have s0 : Sim G m' st' (fun b => if b = D then none else H' b) := ⟨s'.len, fun j a k h1 h2 => At.stay (fun u e => by
          have ne : a ≠ D := fun z => nd (by rw [← z]; exact List.mem_of_getElem? h1)
          rw [if_neg ne]
          exact e) (s'.at_ j a k h1 h2), s'.nd, s'.px⟩
        have s3 := s0.new (p := D) (n := .lst acc) (o := .lst vs) (if_pos rfl) ⟨vs, upd_same, ra.mono (snoc_pre m' D)⟩
        rw [eH] at s3
        exact s3
      · obtain ⟨g1, g2⟩ := f' a o ha na
        refine ⟨g1, fun z => ?_⟩
        rcases List.mem_append.mp z with z | z
        · exact g2 z
        · obtain rfl : a = D := by simpa using z
          rw [hD] at ha
          cases ha
    · exact (nb qe).elim
theorem me_lc2 {Wx : WX} {elt tg iter tg1 iter1 : Expr} {ifs ifs1 : List Expr} {scope : Scope} {pos : Pos} (own : List (Str × Nat)) (own1 : List Nat) {g g1 : Tg} {t t1 : EB} {e : ES} {it it1 : IS} (hc : X.calm = true) (hN : X.N.Nodup) (hi : MI X ca Wx tg iter it) (hg : PB X scope fun Y => MG Y ca tg g) (ht : PB X scope fun Y => MTs Y ca ifs t)
    (hi1 : PB X scope fun Y => MI Y ca W0 tg1 iter1 it1) (hg1 : PB X scope fun Y => MG Y ca tg1 g1) (ht1 : PB X scope fun Y => MTs Y ca ifs1 t1) (he : PB X scope fun Y => ME Y ca W0 elt e)
    (ok : BlkOk X.N X.env.scope scope own := by exact blkOk_by (by kernel_rfl)) (hv : ∀ i ∈ own1, i ∈ own.map (·.2) := by decide) (hown : ∀ i ∈ g.ix, i ∈ own.map (·.2) := by decide) (hown1 : ∀ i ∈ g1.ix, i ∈ own1 := by decide)
    (hs : ∀ x, foldedSetIterable iter X.env x = pure x := by intro _; rfl) (hs1 : ∀ env x, foldedSetIterable iter1 env x = pure x := by intro _ _; rfl) :
    ME X ca Wx (.ListComp elt [⟨tg, iter, ifs, 0⟩, ⟨tg1, iter1, ifs1, 0⟩] scope pos) (eLc2 (own.map (·.2)) it g t it1 own1 g1 t1 e) := by
  exact PE.imp (pe_lc2 (own := own) (vs1 := own1) (g := tG ⟨X.K, ca⟩ g) (g1 := tG ⟨X.K, ca⟩ g1) (tt := tT ⟨X.K, ca⟩ W0 t) (tt1 := tT ⟨X.K, ca⟩ W0 t1) (wi1 := tI ⟨X.K, ca⟩ W0 it1) (te := tE ⟨X.K, ca⟩ W0 e) hc hN hi ok hv hg ht hi1 hg1 ht1 he hs hs1)
    fun σ H Q q => lc2_sound (fun _ z => z) (fun _ _ _ z => z) (fun _ _ _ z => z) (fun _ _ _ z => z) (fun _ _ _ z => z) hown hown1 q
end
end Mi

set_option Elab.async false
set_option linter.all false
set_option maxRecDepth 100000
set_option maxHeartbeats 4000000
/-! Mini, part 12: what the head tells, the end. -/
namespace Mi
open PySem L2
set_option autoImplicit false

/-! ### the written part, without lists -/
abbrev Fx : Type := PySem.W.Frag → Bool
def noList (g : Addr → Option Obj) (a : Addr) : Option Obj := match g a with
  | some o => if o.cls == .type "list" then none else some o
  | none => none
theorem noList_some {g : Addr → Option Obj} {a : Addr} {o : Obj} (h : noList g a = some o) : g a = some o ∧ (o.cls == .type "list") = false := by
  unfold noList at h
  split at h
  · rename_i u e
    split at h
    · cases h
    · rename_i hn
      cases h
      exact ⟨e, Bool.not_eq_true _ ▸ hn⟩
  · cases h
def frM (n : Nat) (g : Addr → Option Obj) : PySem.W.Frag := He.frG (noList g) (sysModules :: cStatics :: He.asD g n)
def NoL (K : PySem.W.Frag) : Prop := ∀ (a : Addr) (o : Obj), K.lookup a = some o → (o.cls == .type "list") = false
theorem frM_in {n : Nat} {h : Heap} : (frM n h.get?).In h := fun a o e => (noList_some (He.frG_at (g := noList h.get?) _ e)).1
theorem frM_noL {n : Nat} {g : Addr → Option Obj} : NoL (frM n g) := fun a o e => (noList_some (He.frG_at (g := noList g) _ e)).2
def obsM (fx : List Fx) (fn : List He.DefD) (K : PySem.W.Frag) : He.AlD := ((fx.all fun f => f K) && fn.all fun d => d.ok K, fn.map fun d => He.fnW K d.at_)
def SaysM (fx : List Fx) (fn : List He.DefD) (K : PySem.W.Frag) : Prop := obsM fx fn K = He.valD fn
def hookM (n : Nat) (fx : List Fx) (fn : List He.DefD) : PySem.W.Hook where
  α := He.AlD
  obs := fun s => obsM fx fn (frM n s.heap.get?)
  val := fun _ => He.valD fn
  says := fun _ h => ∃ K : PySem.W.Frag, K.In h ∧ NoL K ∧ SaysM fx fn K
  of := fun _ _ e => ⟨_, frM_in, frM_noL, e⟩
  keeps := fun _ _ _ ⟨K, hK, c⟩ k => ⟨K, PySem.W.Frag.In.keeps hK k, c⟩
theorem hookM_eq {n : Nat} {fx : List Fx} {fn : List He.DefD} {g : Addr → Option Obj} {s : Shared} (h : ∀ a, g a = s.heap.get? a) : obsM fx fn (frM n g) = (hookM n fx fn).obs s := by
  have e : g = s.heap.get? := funext h
  rw [e] <;> rfl
section
variable {fx : List Fx} {fn : List He.DefD} {K : PySem.W.Frag}
theorem SaysM.fact (c : SaysM fx fn K) (i : Nat) {f : Fx} (h : fx[i]? = some f := by rfl) : f K = true := by
  have c1 := (He.ba (show ((fx.all fun f => f K) && fn.all fun d => d.ok K) = true from congrArg (fun z : He.AlD => z.1) c)).1
  exact List.all_eq_true.mp c1 f (List.mem_of_getElem? h)
theorem SaysM.def_ (c : SaysM fx fn K) (i : Nat) {d : He.DefD} (h : fn[i]? = some d := by rfl) : ∃ fd, FunD K d.name d.qual d.params d.body d.scope (d.dvs K) (d.kws K) (He.fAd K d.at_) fd := by
  have c2 := (He.ba (show ((fx.all fun f => f K) && fn.all fun d => d.ok K) = true from congrArg (fun z : He.AlD => z.1) c)).2
  have e : fn.map (fun d => He.fnW K d.at_) = fn.map He.DefD.val := congrArg (fun z : He.AlD => z.2) c
  have e2 : (fn.map fun d => He.fnW K d.at_)[i]? = (fn.map He.DefD.val)[i]? := by rw [e]
  rw [List.getElem?_map, List.getElem?_map, h] at e2
  exact He.DefD.funD (Option.some.inj e2) (List.all_eq_true.mp c2 d (List.mem_of_getElem? h))
end
/-! ### facts of classes -/
def oexCls (K : PySem.W.Frag) (C : Addr) : Bool := match K.lookup C with
  | some ⟨.type t, _, .cls cd, sl⟩ => (match cd.mro, sl.toList with
    | .ref C' :: bm, [_, _, _, _, some (.builtin n), _] => decide (t = "type") && (decide (C' = C) && (decide (n = "ValueError.__new__") && (!cd.hasDel && (cd.hasDict && PySem.HandSPX.refsVE bm))))
    | _, _ => false)
  | _ => false
def oexB (K : PySem.W.Frag) (C : Addr) : Bool := oexCls K C && (He.eqO (PySem.W.findIn K (.ref C) "__setattr__") (some (some (.builtin "object.__setattr__"))) && (decide (PySem.W.subIn K (.ref C) (.type "BaseException") = some true) && (decide (PySem.W.typeIn K (.ref C) = some (.type "type")) && PySem.W.keepIn K (.ref C))))
theorem oexB_ok {K : PySem.W.Frag} {C : Addr} (h : oexB K C = true) : OexC K C := by
  obtain ⟨h1, h⟩ := He.ba h
  obtain ⟨h2, h⟩ := He.ba h
  obtain ⟨h3, h⟩ := He.ba h
  obtain ⟨h4, h5⟩ := He.ba h
  refine ⟨?_, He.eqO_ok h2, of_decide_eq_true h3, of_decide_eq_true h4, h5⟩
  unfold oexCls at h1
  split at h1
  · rename_i t dd cd sl ho
    split at h1
    · rename_i C' bm k0 k1 k2 k3 n k5 hm hs
      simp only [Bool.and_eq_true, decide_eq_true_eq, Bool.not_eq_true'] at h1
      obtain ⟨rfl, rfl, rfl, hdel, hdict, hr⟩ := h1
      obtain ⟨nm, bs, mro, ns, qn, hd, sn, sub, ab, col, del⟩ := cd
      dsimp only at hm hdel hdict
      subst hm hdel hdict
      have hsl : sl = #[k0, k1, k2, k3, some (.builtin "ValueError.__new__"), k5] := by
        apply Array.ext'
        simpa using hs
      subst hsl
      exact ⟨nm, qn, ns, bs, bm, sn, sub, ab, col, dd, k0, k1, k2, k3, k5, ho, hr⟩
    · cases h1
  · cases h1
/-- the class x with the field f -/
def exfB (x f : Str) : Fx := fun K => oexB K (He.ga K x) && (He.eqO (PySem.W.nsIn K mainGlobals x) (some (some (.ref (He.ga K x)))) && (He.eqO (PySem.W.findIn K (.ref (He.ga K x)) "__init__") (some (some (.ref (He.ma K (He.ga K x) "__init__")))) &&
  (decide (PySem.W.typeIn K (.ref (He.ma K (He.ga K x) "__init__")) = some (.type "function")) && (He.eqO (PySem.W.findIn K (.ref (He.ga K x)) f) (some none) && xfB K (He.ga K x)))))
theorem exfB_ok {K : PySem.W.Frag} {h : Heap} {mg : Str → Option Value} (X : K.In h) (G : h.Ns mainGlobals mg) {x f : Str} (c : exfB x f K = true) : ExF K mg x f (He.ga K x) (He.ma K (He.ga K x) "__init__") := by
  obtain ⟨h1, c⟩ := He.ba c
  obtain ⟨h2, c⟩ := He.ba c
  obtain ⟨h3, c⟩ := He.ba c
  obtain ⟨h4, c⟩ := He.ba c
  obtain ⟨h5, h6⟩ := He.ba c
  exact ⟨PySem.W.mg_of X G (He.eqO_ok h2), oexB_ok h1, He.eqO_ok h3, of_decide_eq_true h4, He.eqO_ok h5, xfB_ok h6⟩
def bafB (x : Str) : Fx := fun K => He.eqO (PySem.W.nsIn K mainGlobals x) (some (some (.ref (He.ga K x)))) && (decide (PySem.W.specialIn K (.ref (He.ga K x)) "__getattribute__" = some (some (.builtin "type.__getattribute__"))) &&
  (PySem.W.readsIn K (He.ga K x) (.type "type") && (match PySem.W.findCls K (.ref (He.ga K x)) (.type "type") "__init__" with
    | some (.val (.builtin n)) => decide (n = "ValueError.__init__")
    | _ => false)))
theorem bafB_ok {K : PySem.W.Frag} {h : Heap} {mg : Str → Option Value} (X : K.In h) (G : h.Ns mainGlobals mg) {x : Str} (c : bafB x K = true) : BaF K mg x (He.ga K x) := by
  obtain ⟨h1, c⟩ := He.ba c
  obtain ⟨h2, c⟩ := He.ba c
  obtain ⟨h3, h4⟩ := He.ba c
  refine ⟨PySem.W.mg_of X G (He.eqO_ok h1), of_decide_eq_true h2, h3, ?_⟩
  split at h4
  · rename_i n e
    rw [e, of_decide_eq_true h4]
  · cases h4
def exmB (x y : Str) (b : Bool) : Fx := fun K => decide (PySem.W.exmOne K (.ref (He.ga K x)) (.ref (He.ga K y)) = some b)
def sysB : Fx := fun K => (K.lookup sysModules).isSome
def faB (f : He.Fa) : Fx := fun K => f.ok K

/-! ### the end -/
/-- the law's call -/
theorem law_callG {P : Program} {w : World} {K : PySem.W.Frag} {ca : Ca} {mg mb : Str → Option Value} {k : Nat} {fa a : Addr} {fd : FuncData} {x : Str} {F : List W → Sto → R W} {s₁ : Shared} {vs : List Value} {ns : List Int}
    (KX : K.In s₁.heap) (nl : NoL K) (hpx : ca.px = []) (hns : s₁.heap.Ns mainGlobals mg) (hb : s₁.heap.Ns builtinsNs mb) (hbb : ∀ x : Str, x ≠ "__name__" → mb x = bootBuiltins x) (hlim : s₁.heap.NoLimit) (hg : s₁.gens = #[])
    (ha : s₁.heap.get? a = some { cls := .type "list", data := .seq vs.toArray }) (hi : PyProof.Rows.IntsAre vs ns) (hl : ns.length ≤ sizeLine) (hr : Room k callerA)
    (FO : ∀ base : Heap, K.In base → base.Ns mainGlobals mg → FnG P w K mg base (L2.CX P w) k fa fd [x] (spM ⟨K, ca⟩ 1 F)) (hbind : ∀ (s : Shared) (u : Value), BindsTo s fd ⟨[u], []⟩ [(x, u)])
    (hF : ∃ st', F [.loc 0] [.rol (ns.map .int)] = .ok (.bl true) st') :
    codeAny (model P w) callerA (.call (.ref fa) ⟨[.ref a], []⟩) (fun r s' => r = .ok (.ret (.bool true)) ∧ OldK s₁.heap s'.heap ∧ s'.os = s₁.os ∧ PyProof.Rows.AllBare s'.gens) s₁ := by
  have rv := vals_ints hi
  have lenV := hi.length
  have hk : K.lookup a = none := by
    cases q : K.lookup a with
    | none => rfl
    | some o =>
      have e := KX a o q
      rw [ha] at e
      cases e
      have z := nl a _ q
      simp at z
  let H : Hp := fun b => if b = a then some (.frz { cls := .type "list", data := .seq vs.toArray } (.lst (ns.map V.int))) else none
  have Ha : H a = some (.frz { cls := .type "list", data := .seq vs.toArray } (.lst (ns.map V.int))) := if_pos rfl
  have Hn : ∀ {b : Addr}, b ≠ a → H b = none := fun {b} h => if_neg h
  have hok : HOk P w H s₁.heap := fun b u z => by
    by_cases hb : b = a
    · subst hb
      rw [Ha] at z
      cases z
      exact ⟨ha, by rw [List.length_map]; exact hl, vs, _, rv, ha⟩
    · rw [Hn hb] at z
      cases z
  have base_of : ∀ {b : Addr} {o : Obj}, s₁.heap.get? b = some o → b ≠ a → (hidT s₁.heap H).get? b = some o := fun e n => hidT_get e (Hn n)
  have nsK : ∀ {b : Addr} {m : Str → Option Value}, s₁.heap.Ns b m → (hidT s₁.heap H).Ns b m := fun {b m} ⟨o, es, ep, e, d, r⟩ => ⟨o, es, ep, base_of e (fun z => by
    rw [z, ha] at e
    cases e
    have d' : Data.seq vs.toArray _ = Data.dict es ep := d
    cases d'), d, r⟩
  have hKb : K.In (hidT s₁.heap H) := fun b o e => base_of (KX b o e) fun z => by
    rw [z, hk] at e
    cases e
  have hM : Mod K mg (hidT s₁.heap H) := ⟨hKb, nsK hns, ⟨mb, nsK hb, hbb⟩, let ⟨mc, h1, h2⟩ := hlim; ⟨mc, nsK h1, h2⟩⟩
  have e0 : Env0 P w K mg (hidT s₁.heap H) callerA [] s₁ H := ⟨rfl, hM, fun b o e => of_hidT e, Nat.le_of_eq (hidT_size _ _), trivial, (fun b hb => by cases hb), hok, .of_eq hg⟩
  obtain ⟨st', hF⟩ := hF
  have rw0 : ∀ ns : List Int, RWs [a] (ns.map W.int) (ns.map V.int) := fun ns => by
    induction ns with
    | nil => exact .nil
    | cons n ns ih => exact .cons rfl ih
  have sp0 : spM ⟨K, ca⟩ 1 F [.ref a] H (fun v _ => v = .bl true) fun _ _ _ => False := by
    refine ⟨rfl, [a], [.loc 0], [.rol (ns.map .int)], .cons ⟨a, rfl, rfl⟩ .nil, ⟨rfl, fun i b n h1 h2 => ?_, by simp, fun p hp => ?_⟩, ?_⟩
    · cases i with
      | zero =>
        cases h1
        cases h2
        exact ⟨ns.map V.int, ⟨_, Ha⟩, rw0 ns⟩
      | succ i => simp at h1
    · have hp' : p ∈ ca.px := hp
      rw [hpx] at hp'
      cases hp'
    · rw [hF]
      exact fun m' H' v _ _ _ r => r
  refine codeAny_mono ((FO _ hKb (nsK hns)).run callerA [] s₁ H ⟨[.ref a], []⟩ [.ref a] [.ref a] _ _ ⟨hr, rfl⟩ e0 (hbind s₁ (.ref a)) (.cons rfl .nil) sp0) fun r s' h => ?_
  cases r with
  | error e =>
    obtain ⟨_, _, _, _, _, _, _, _, _, _, _, _, z⟩ := h
    exact z.elim
  | ok fl =>
    cases fl with
    | next => exact False.elim h
    | brk => exact False.elim h
    | cont => exact False.elim h
    | ret u =>
      obtain ⟨v, H', os, bare, un, hok', r', q⟩ := h
      have q' : v = .bl true := q
      subst q'
      obtain rfl : u = Value.bool true := r'
      refine ⟨rfl, OldK.of_keep fun b o e => ?_, os, bare⟩
      by_cases hb : b = a
      · subst hb
        obtain ⟨e2, _⟩ := hok' b _ (un.frzs b _ _ Ha)
        rw [ha] at e
        cases e
        exact e2
      · exact un.keep b o e (Hn hb) (fun z => by cases z) (by simp)
end Mi

set_option Elab.async false
set_option linter.all false
set_option maxRecDepth 100000
set_option maxHeartbeats 4000000
/-! Mini, part 13: what the printed walks name. -/
namespace Mi
open PySem L2
set_option autoImplicit false
theorem _root_.Mi.RoomG.u64 {k : Nat} {A : Around} (r : RoomG k A) : A.units + 64 < cLine := r.rm.units
theorem _root_.Mi.RoomG.u1 {k : Nat} {A : Around} (r : RoomG k A) : A.units + 1 < cLine := by have := r.rm.units; omega
theorem _root_.Mi.RoomG.u0 {k : Nat} {A : Around} (r : RoomG k A) : A.units < cLine := r.rm.units0
theorem tk0 {X : Cx} : Takes X W0 := fun _ _ x => by
  obtain ⟨_, _, _, _, _, _, _, _, _, _, _, _, _, _, _, _, z⟩ := x
  exact z.elim
section
variable {X : Cx} {ca : Ca} {Wx : WX} {a b c : Expr} {fa fb fc : ES} {pos : Pos}
theorem me_neg (ha : ME X ca Wx a fa) : ME X ca Wx (.UnaryOp .USub a pos) (e1 opNeg fa) := by
  refine PE.imp (pe_un un_neg ha) ?_
  rintro σ H Q ⟨m, ρ, st, hρ, hs, q⟩
  refine ⟨m, ρ, st, hρ, hs, (Post.bind q).imp ?_⟩
  rintro v H1 ⟨m1, w, st1, p1, s1, r1, h1⟩
  cases w with
  | int i =>
    cases r1
    exact ⟨i, rfl, h1.now s1 rfl⟩
  | _ => exact h1.elim
section
variable {apos cpos : Pos} {es : List Expr} {fr : AS}
theorem me_app (ho : ME X ca Wx a fa) (ha : ME X ca Wx b fb) (hbase : attributeBase a "append" X.env (eval a X.env) = eval a X.env := by rfl)
    (hfew : ((backTo cpos (starEach [b] X.env)).all (fun x => !x.1) && (backToKw cpos (keywordEach [] X.env)).all (fun x => x.1.isSome) && decide ([b].length + ([] : List Keyword).length + (if ([] : List Keyword).isEmpty then 0 else 1) < 30)) = true := by rfl)
    (hline : (apos.endLine == cpos.line) = true := by rfl) (hs : starEach [b] X.env = (false, eval b X.env) :: starEach [] X.env := by rfl) : ME X ca Wx (.Call (.Attribute a "append" apos) [b] [] cpos) (eM kList mAppend fa (aCons fb aNil)) :=
  me_m km_list mm_append PySem.F.plainAttrs_list PySem.F.slot_list_append PySem.F.type_list_append ho (ma_cons ha ma_nil hs) hbase hfew hline hs rfl
theorem me_pop1 (ho : ME X ca Wx a fa) (ha : ME X ca Wx b fb) (hbase : attributeBase a "pop" X.env (eval a X.env) = eval a X.env := by rfl)
    (hfew : ((backTo cpos (starEach [b] X.env)).all (fun x => !x.1) && (backToKw cpos (keywordEach [] X.env)).all (fun x => x.1.isSome) && decide ([b].length + ([] : List Keyword).length + (if ([] : List Keyword).isEmpty then 0 else 1) < 30)) = true := by rfl)
    (hline : (apos.endLine == cpos.line) = true := by rfl) (hs : starEach [b] X.env = (false, eval b X.env) :: starEach [] X.env := by rfl) : ME X ca Wx (.Call (.Attribute a "pop" apos) [b] [] cpos) (eM kList mPop1 fa (aCons fb aNil)) :=
  me_m km_list mm_pop1 PySem.F.plainAttrs_list PySem.F.slot_list_pop PySem.F.type_list_pop ho (ma_cons ha ma_nil hs) hbase hfew hline hs rfl
theorem me_pop0 (ho : ME X ca Wx a fa) (hbase : attributeBase a "pop" X.env (eval a X.env) = eval a X.env := by rfl) (hline : (apos.endLine == cpos.line) = true := by rfl) : ME X ca Wx (.Call (.Attribute a "pop" apos) [] [] cpos) (eM0 kList mPop0 fa) :=
  me_m0 km_list mm_pop0 PySem.F.plainAttrs_list PySem.F.slot_list_pop PySem.F.type_list_pop ho hbase hline
theorem me_join (ho : ME X ca Wx a fa) (ha : ME X ca Wx b fb) (hbase : attributeBase a "join" X.env (eval a X.env) = eval a X.env := by rfl)
    (hfew : ((backTo cpos (starEach [b] X.env)).all (fun x => !x.1) && (backToKw cpos (keywordEach [] X.env)).all (fun x => x.1.isSome) && decide ([b].length + ([] : List Keyword).length + (if ([] : List Keyword).isEmpty then 0 else 1) < 30)) = true := by rfl)
    (hline : (apos.endLine == cpos.line) = true := by rfl) (hs : starEach [b] X.env = (false, eval b X.env) :: starEach [] X.env := by rfl) : ME X ca Wx (.Call (.Attribute a "join" apos) [b] [] cpos) (eM kStr mJoin fa (aCons fb aNil)) :=
  me_m km_str mm_join PySem.F.plainAttrs_str PySem.F.slot_str_join PySem.F.type_str_join ho (ma_cons ha ma_nil hs) hbase hfew hline hs rfl
theorem me_starts (ho : ME X ca Wx a fa) (ha : ME X ca Wx b fb) (hbase : attributeBase a "startswith" X.env (eval a X.env) = eval a X.env := by rfl)
    (hfew : ((backTo cpos (starEach [b] X.env)).all (fun x => !x.1) && (backToKw cpos (keywordEach [] X.env)).all (fun x => x.1.isSome) && decide ([b].length + ([] : List Keyword).length + (if ([] : List Keyword).isEmpty then 0 else 1) < 30)) = true := by rfl)
    (hline : (apos.endLine == cpos.line) = true := by rfl) (hs : starEach [b] X.env = (false, eval b X.env) :: starEach [] X.env := by rfl) : ME X ca Wx (.Call (.Attribute a "startswith" apos) [b] [] cpos) (eM kStr mStarts fa (aCons fb aNil)) :=
  me_m km_str mm_starts PySem.F.plainAttrs_str PySem.F.slot_str_startswith PySem.F.type_str_startswith ho (ma_cons ha ma_nil hs) hbase hfew hline hs rfl
theorem me_dpopR (ho : ME X ca Wx a fa) (hb : ME X ca Wx b fb) (h1 : attributeBase a "pop" X.env (eval a X.env) = eval a X.env := by rfl) (h2 : (apos.endLine == cpos.line) = true := by rfl) (h3 : starEach [b] X.env = [(false, eval b X.env)] := by rfl) :
    ME X ca Wx (.Call (.Attribute a "pop" apos) [b] [] cpos) (eM kDict mDPop fa (aCons fb aNil)) := me_dpop ho hb (m1_of h1 h2 h3)
end
end
/-! ### errors -/
def ExOk (P : Program) (w : World) (K : PySem.W.Frag) (mg : Str → Option Value) (base : Heap) (ca : Ca) (ci : Nat) (x f : Str) : Prop :=
  ∃ C fI fd, ExF K mg x f C fI ∧ ca.cls ci = some C ∧ FnOk P w K mg base CX0 1 fI fd ([("self" : Str), f] : List Str) (spX C f) ∧ Binds K fd ([("self" : Str), f] : List Str) []
theorem ms_raiseE {X : Cx} {ca : Ca} {Wx : WX} {a : Expr} {fa : ES} {pos : Pos} {x f : Str} {p p' : Pos} {ci : Nat} (hc : X.calm = true) (tk : Takes X Wx) (T : ExOk X.prog X.w X.K X.mg X.base ca ci x f) (hr : RoomG 2 X.A)
    (ha : ME X ca Wx a fa) (hg : Gl X x := by rfl) (hdb : (x == ("__debug__" : Str)) = false := by decide) (he : starEach [a] X.env = (false, eval a X.env) :: starEach [] X.env := by rfl) :
    MS X ca Wx (.Raise (some (.Call (.Name x p) [a] [] p')) none pos) (sRaise ci [f] (aCons fa aNil)) := by
  obtain ⟨C, fI, fd, T, hC, F1, hb⟩ := T
  exact ms_raise hc tk T hC F1 hb hr ha hg hdb he
theorem me_fldE {X : Cx} {ca : Ca} {Wx : WX} {pos : Pos} {i l ci ci0 : Nat} {a C dd : Addr} {oe : Obj} {pn : List (Addr × Obj)} {n x f : Str} {p : Pos} (T : ExOk X.prog X.w X.K X.mg X.base ca ci0 x f) (h0 : (ci == ci0) = true) (hC : ca.cls ci = some C) (hz : Zc (.ref C) (some dd) oe) (hf : ∃ vs, oe.data = .fields vs)
    (he : ME (X.suite a ((a, oe) :: pn)) { ca with px := (l, dd) :: ca.px } Wx (.Name n p) (eV i)) (hb : attributeBase (.Name n p) f X.env (eval (.Name n p) X.env) = eval (.Name n p) X.env := by rfl) :
    ME (X.suite a ((a, oe) :: pn)) { ca with px := (l, dd) :: ca.px } Wx (.Attribute (.Name n p) f pos) (eFldR i a l f) := by
  obtain ⟨C', fI, fd, T, hC', F1, hb'⟩ := T
  obtain rfl : ci = ci0 := beq_iff_eq.mp h0
  rw [hC] at hC'
  cases hC'
  exact me_fldR (ci := ci) T.xf T.nf hz hf he hb
/-- the class x in an except clause -/
def CatOk (K : PySem.W.Frag) (mg : Str → Option Value) (ca : Ca) (x : Str) (p : Nat → Bool) : Prop := ∃ c, mg x = some c ∧ Cat K ca c p
theorem MHs.noE {X : Cx} {ca : Ca} {x : Str} {p : Nat → Bool} {f : Nat → SS} {b₀ : Stmt} {suite : List Stmt} {np pos' : Pos} {hds : List ExceptHandler} {hs : List Hd} (hc : CatOk X.K X.mg ca x p)
    (hf : ∀ (l : Nat) (a : Addr) (oe : Obj) (C dd : Addr) (pn : List (Addr × Obj)), Zc (.ref C) (some dd) oe → (∃ vs, oe.data = .fields vs) → MSs (X.suite a ((a, oe) :: pn)) { ca with px := (l, dd) :: ca.px } (fun _ _ _ _ => False) (b₀ :: suite) (f l))
    (hr : MHs X ca hds hs) (hg : Gl X x := by rfl) (hdb : (x == ("__debug__" : Str)) = false := by decide) : MHs X ca (.ExceptHandler (some (.Name x np)) none (b₀ :: suite) pos' :: hds) (.mk p f :: hs) := by
  obtain ⟨c, hm, hc⟩ := hc
  exact .no ⟨hg, hdb, .inl hm⟩ hc hf hr
theorem MHs.asE {X : Cx} {ca : Ca} {x n : Str} (i : Nat) {p : Nat → Bool} {f : Nat → SS} (g : Nat → Nat → SS) {b₀ : Stmt} {suite : List Stmt} {np pos' : Pos} {hds : List ExceptHandler} {hs : List Hd} (hc : CatOk X.K X.mg ca x p)
    (he : ∀ (l a : Nat) (ρ : Mi.Loc) (st : Sto), i < ρ.length → (hAsR i a (g l a) ρ st).noExc = (hAs i (f l) ρ st).noExc)
    (hf : ∀ (l : Nat) (a : Addr) (oe : Obj) (ci : Nat) (C dd : Addr) (pn : List (Addr × Obj)), p ci = true → ca.cls ci = some C → Zc (.ref C) (some dd) oe → (∃ vs, oe.data = .fields vs) → MSs (X.suite a ((a, oe) :: pn)) { ca with px := (l, dd) :: ca.px } (fun _ _ _ _ => False) (b₀ :: suite) (g l a))
    (hr : MHs X ca hds hs) (hi : X.N[i]? = some n := by rfl) (hl : X.env.kindOf n = some .local := by rfl) (hg : Gl X x := by rfl) (hdb : (x == ("__debug__" : Str)) = false := by decide) :
    MHs X ca (.ExceptHandler (some (.Name x np)) (some n) (b₀ :: suite) pos' :: hds) (.mk p (fun l => hAs i (f l)) :: hs) := by
  obtain ⟨c, hm, hc⟩ := hc
  exact .as ⟨hg, hdb, .inl hm⟩ hc hi hl he hf hr
theorem fldR_set {i a l : Nat} {f : Str} {ρ : Mi.Loc} {st : Sto} (h : i < ρ.length) : eFldR i a l f (ρ.set i (some (.raw a))) st = eFld l f (ρ.set i none) st := by
  unfold eFldR
  rw [if_pos (List.getElem?_set_self h)]
  rfl
theorem hAs_ret {i a : Nat} {e e' : ES} {ρ : Mi.Loc} {st : Sto} (h : e (ρ.set i (some (.raw a))) st = e' (ρ.set i none) st) : (hAsR i a (sRet e) ρ st).noExc = (hAs i (sRet e') ρ st).noExc := by
  unfold hAsR hAs sRet
  rw [h]
  cases e' (ρ.set i none) st <;> rfl
theorem hAs_drop {i a : Nat} {e e' : ES} {ρ : Mi.Loc} {st : Sto} (h : e (ρ.set i (some (.raw a))) st = e' (ρ.set i none) st) : (hAsR i a (sDrop e) ρ st).noExc = (hAs i (sDrop e') ρ st).noExc := by
  unfold hAsR hAs sDrop
  rw [h]
  cases e' (ρ.set i none) st with
  | ok w st =>
    show RS.nx ((ρ.set i (some (.raw a))).set i none) st = RS.nx ((ρ.set i none).set i none) st
    rw [List.set_set, List.set_set]
  | exc c l st => rfl
  | bad => rfl
theorem hAs_set {i a j : Nat} {e e' : ES} {ρ : Mi.Loc} {st : Sto} (h : e (ρ.set i (some (.raw a))) st = e' (ρ.set i none) st) (hj : j ≠ i) : (hAsR i a (sSet j e) ρ st).noExc = (hAs i (sSet j e') ρ st).noExc := by
  unfold hAsR hAs sSet
  rw [h]
  cases e' (ρ.set i none) st with
  | ok w st =>
    show RS.nx (((ρ.set i (some (.raw a))).set j (some w)).set i none) st = RS.nx (((ρ.set i none).set j (some w)).set i none) st
    rw [List.set_comm _ _ (Ne.symm hj), List.set_comm _ _ (Ne.symm hj), List.set_set, List.set_set]
  | exc c l st => rfl
  | bad => rfl
/-- a def by its body, at a level -/
theorem dokE {P : Program} {w : World} {K : PySem.W.Frag} {mg : Str → Option Value} {base : Heap} {ca : Ca} {d : Dd} {N : List Str} {sem : SS} (k : Nat) (h : ∃ f fd, mg d.nm = some (.ref f) ∧ FunD K d.nm d.qual (defArgs d.st) (defBody d.st) (defScope d.st) [] [] f fd) (S : FnScope N d.ps (defScope d.st))
    (hb : ∀ (f : Addr) (cdv : Value) (A : Around) (outer : List Env) (s : Shared) (H : Hp) (E : XK), RoomG k (A.deeper (PyProof.Rows.envOfC d.qual (defScope d.st) s.heap.objs.size f cdv)) → Takes (cxOf (L2.CX P w) P w K mg base N d.qual (defScope d.st) f cdv A outer s H E) (wOf E) → PassesOwn (model P w) (cxOf (L2.CX P w) P w K mg base N d.qual (defScope d.st) f cdv A outer s H E).A (cxOf (L2.CX P w) P w K mg base N d.qual (defScope d.st) f cdv A outer s H E).env (cxOf (L2.CX P w) P w K mg base N d.qual (defScope d.st) f cdv A outer s H E).xe →
      MSs (cxOf (L2.CX P w) P w K mg base N d.qual (defScope d.st) f cdv A outer s H E) ca (wOf E) (defBody d.st) sem) : DOk P w K mg base ca (k + 1) d (dfn d.ps.length N.length sem) := by
  obtain ⟨f, fd, hm, FD⟩ := h
  exact dok hm FD S fun cdv A outer s H E hr => hb f cdv A outer s H E hr (takes_of rfl rfl rfl rfl) (passes_of rfl)
/-- the end: the goal that the head leaves -/
theorem walk_M {l : PySem.W.OpenLaw} {n k : Nat} {q : Program} {loose : List Str} {XP : (Str → Option Value) → Heap → Prop} {YP : World → Heap → Prop} {d : DefRec} {x : Str} {F : List W → Sto → R W}
    (hn : l.most = some n) (hn2 : n ≤ sizeLine) (hdf : d.params.defaults = []) (hr : Room k callerA)
    (hF : ∀ ns : List Int, ns.length ≤ n → (∀ z ∈ ns, Builtin.Int.intBits z ≤ 1048576) → ∃ st', F [.loc 0] [.rol (ns.map .int)] = .ok (.bl true) st')
    (FO : ∀ (w : World) (mg : Str → Option Value) (fa : Addr) (h : Heap), YP w h → h.Ns mainGlobals mg → mg d.name = some (.ref fa) → ∃ (K : PySem.W.Frag) (ca : Ca) (dd : Dd), K.In h ∧ NoL K ∧ ca.px = [] ∧ dd.ps = [x] ∧ dd.nm = d.name ∧ BindN dd ∧
      ∀ base : Heap, K.In base → base.Ns mainGlobals mg → DOk l.prog w K mg base ca k dd F) :
    PySem.W.WalkO q loose XP YP l.row.toRowW d [] (fun f vs => PySem.call f vs) := by
  refine Att.attach_callB hn hdf fun w s₀ s₁ mg mb fa o pm cd doc a vs ns G Y ho hd hcd hmg hobj hints hlen hbits hg => ?_
  obtain ⟨K, ca, dd, KX, nl, hpx, hps, hnm, hb, hD⟩ := FO w mg fa _ Y G.T.g hmg
  have key : ∀ base : Heap, K.In base → base.Ns mainGlobals mg → ∃ fd, FnG l.prog w K mg base (L2.CX l.prog w) k fa fd [x] (spM ⟨K, ca⟩ 1 F) ∧ FunD K dd.nm dd.qual (defArgs dd.st) (defBody dd.st) (defScope dd.st) [] [] fa fd := by
    intro base h1 h2
    obtain ⟨_, f, fd, hm, FD, FO⟩ := hD base h1 h2
    rw [hnm, hmg] at hm
    cases hm
    rw [hps] at FO
    exact ⟨fd, FO, FD⟩
  obtain ⟨fd0, _, FD0⟩ := key s₁.heap KX G.T.g
  have same : ∀ base : Heap, K.In base → base.Ns mainGlobals mg → FnG l.prog w K mg base (L2.CX l.prog w) k fa fd0 [x] (spM ⟨K, ca⟩ 1 F) := by
    intro base h1 h2
    obtain ⟨fd, FO, FD⟩ := key base h1 h2
    obtain ⟨_, _, _, _, _, _, _, _, _, _, e1, k1, _⟩ := FD.ex
    obtain ⟨_, _, _, _, _, _, _, _, _, _, e2, k2, _⟩ := FD0.ex
    rw [k1] at k2
    cases k2
    exact FO
  refine law_callG KX nl hpx G.T.g G.T.b G.T.builtins G.T.nolimit hg hobj hints (Nat.le_trans hlen hn2) hr same (fun s v => ?_) (hF ns hlen hbits)
  have b := FD0.bindsA hb s [v] (by rw [hps]; rfl)
  rw [hps] at b
  exact b
end Mi

set_option Elab.async false
set_option linter.all false
set_option maxRecDepth 100000
/-! Plain laws of Mini: what is kept, loops, common shapes. -/
namespace Mi
open PySem
set_option autoImplicit false

/-! ### what is kept -/
/-- but for the nodes S, the store's nodes stand -/
def Keep (S : List Nat) (st st' : Sto) : Prop := ∀ l n, l ∉ S → st[l]? = some n → st'[l]? = some n
theorem Keep.refl {S : List Nat} {st : Sto} : Keep S st st := fun _ _ _ h => h
theorem Keep.trans {S : List Nat} {a b c : Sto} (h : Keep S a b) (k : Keep S b c) : Keep S a c := fun l n hl e => k l n hl (h l n hl e)
theorem Keep.mono {S T : List Nat} {a b : Sto} (h : Keep S a b) (k : ∀ x ∈ S, x ∈ T) : Keep T a b := fun l n hl e => h l n (fun z => hl (k l z)) e
theorem Keep.of_nil {T : List Nat} {a b : Sto} (h : Keep [] a b) : Keep T a b := h.mono fun _ z => nomatch z
theorem Keep.app {S : List Nat} {st r : Sto} : Keep S st (st ++ r) := fun l n _ e => by
  obtain ⟨hl, _⟩ := List.getElem?_eq_some_iff.mp e
  rw [List.getElem?_append_left hl]
  exact e
theorem get_app {st r : Sto} {l : Nat} {n : Nd} (h : st[l]? = some n) : (st ++ r)[l]? = some n := Keep.app (S := []) l n (by simp) h
theorem Keep.get {S : List Nat} {a b : Sto} (h : Keep S a b) {l : Nat} {n : Nd} (e : a[l]? = some n) (hl : l ∉ S := by simp) : b[l]? = some n := h l n hl e
theorem Keep.nil_get {a b : Sto} (h : Keep [] a b) {l : Nat} {n : Nd} (e : a[l]? = some n) : b[l]? = some n := h l n (by simp) e
theorem Keep.set {S : List Nat} {st : Sto} {l : Nat} {n : Nd} (h : l ∈ S) : Keep S st (st.set l n) := fun k m hk e => by
  have ne : l ≠ k := fun z => hk (z ▸ h)
  rw [List.getElem?_set_ne ne]
  exact e
theorem Keep.len {a b : Sto} (h : Keep [] a b) : a.length ≤ b.length := by
  by_cases h0 : a.length = 0
  · omega
  · have hl : a.length - 1 < a.length := by omega
    have e := h _ _ (by simp) (List.getElem?_eq_getElem hl)
    have := (List.getElem?_eq_some_iff.mp e).1
    omega
theorem Keep.len' {S : List Nat} {a b : Sto} (h : Keep S a b) {l : Nat} (hl : ∀ x ∈ S, x < l) (hla : l ≤ a.length) (hb : ∀ x ∈ S, x < b.length) : a.length ≤ b.length := by
  by_cases h0 : a.length = 0
  · omega
  · have h1 : a.length - 1 < a.length := by omega
    by_cases h2 : a.length - 1 ∈ S
    · have := hb _ h2
      omega
    · have e := h _ _ h2 (List.getElem?_eq_getElem h1)
      have := (List.getElem?_eq_some_iff.mp e).1
      omega
/-- a node that came behind may change -/
theorem Keep.late {S : List Nat} {a b : Sto} (h : Keep S a b) {l : Nat} {n : Nd} (hl : a.length ≤ l) : Keep S a (b.set l n) := fun k m hk e => by
  have hka := (List.getElem?_eq_some_iff.mp e).1
  have ne : l ≠ k := fun z => by omega
  rw [List.getElem?_set_ne ne]
  exact h k m hk e
theorem set_get {st : Sto} {l : Nat} {n m : Nd} (h : st[l]? = some n) : (st.set l m)[l]? = some m := List.getElem?_set_self (List.getElem?_eq_some_iff.mp h).1
theorem set_ne {st : Sto} {l k : Nat} {n m : Nd} (h : st[k]? = some n) (ne : l ≠ k) : (st.set l m)[k]? = some n := by
  rw [List.getElem?_set_ne ne]
  exact h
theorem set_same {st : Sto} {l : Nat} {n : Nd} (h : st[l]? = some n) : st.set l n = st := by
  obtain ⟨hl, e⟩ := List.getElem?_eq_some_iff.mp h
  apply List.ext_getElem (by simp)
  intro i h1 h2
  by_cases hi : l = i
  · subst hi
    simp [e]
  · simp [hi]
theorem get_new {st : Sto} {n : Nd} : (st ++ [n])[st.length]? = some n := List.getElem?_concat_length
theorem lt_of_get {st : Sto} {l : Nat} {n : Nd} (h : st[l]? = some n) : l < st.length := (List.getElem?_eq_some_iff.mp h).1

/-! ### combinators, evaluated -/
section
variable (ρ : Mi.Loc) (st : Sto) (a b c : ES) (t u : EB) (w : W) (i : Nat) (r : AS) (p q : SS)
@[simp] theorem x_eC : eC w ρ st = .ok w st := (Eq.refl _).trans (Eq.refl _)
@[simp] theorem x_eV : eV i ρ st = (match ρ[i]? with
  | some (some w) => .ok w st
  | _ => .bad) := (Eq.refl _).trans (Eq.refl _)
@[simp] theorem x_e1 (g : W → Sto → R W) : e1 g a ρ st = (a ρ st).bind g := (Eq.refl _).trans (Eq.refl _)
@[simp] theorem x_e2 (g : W → W → Sto → R W) : e2 g a b ρ st = (a ρ st).bind fun x st => (b ρ st).bind fun y st => g x y st := (Eq.refl _).trans (Eq.refl _)
@[simp] theorem x_aNil : aNil ρ st = .ok [] st := (Eq.refl _).trans (Eq.refl _)
@[simp] theorem x_aCons : aCons a r ρ st = (a ρ st).bind fun x st => (r ρ st).bind fun xs st => .ok (x :: xs) st := (Eq.refl _).trans (Eq.refl _)
@[simp] theorem x_eN (g : List W → Sto → R W) : eN g r ρ st = (r ρ st).bind g := (Eq.refl _).trans (Eq.refl _)
@[simp] theorem x_eTup : eTup r ρ st = (r ρ st).bind newT := (Eq.refl _).trans (Eq.refl _)
@[simp] theorem x_eLst : eLst r ρ st = (r ρ st).bind newL := (Eq.refl _).trans (Eq.refl _)
@[simp] theorem x_bT : bT a ρ st = (a ρ st).bind fun x st => (match truth st x with
  | some b => .ok b st
  | none => .bad) := (Eq.refl _).trans (Eq.refl _)
@[simp] theorem x_bB : bB a ρ st = (a ρ st).bind fun x st => (match x with
  | .bl b => .ok b st
  | _ => .bad) := (Eq.refl _).trans (Eq.refl _)
@[simp] theorem x_bAnd : bAnd t u ρ st = (t ρ st).bind fun c st => if c then u ρ st else .ok false st := (Eq.refl _).trans (Eq.refl _)
@[simp] theorem x_bOr : bOr t u ρ st = (t ρ st).bind fun c st => if c then .ok true st else u ρ st := (Eq.refl _).trans (Eq.refl _)
@[simp] theorem x_bNot : bNot t ρ st = (t ρ st).bind fun c st => .ok (!c) st := (Eq.refl _).trans (Eq.refl _)
@[simp] theorem x_bYes : bYes ρ st = .ok true st := (Eq.refl _).trans (Eq.refl _)
@[simp] theorem x_eIf : eIf t a b ρ st = (t ρ st).bind fun c st => if c then a ρ st else b ρ st := (Eq.refl _).trans (Eq.refl _)
@[simp] theorem x_eAnd : eAnd a b ρ st = (a ρ st).bind fun x st => (match truth st x with
  | some true => b ρ st
  | some false => .ok x st
  | none => .bad) := (Eq.refl _).trans (Eq.refl _)
@[simp] theorem x_eOr : eOr a b ρ st = (a ρ st).bind fun x st => (match truth st x with
  | some true => .ok x st
  | some false => b ρ st
  | none => .bad) := (Eq.refl _).trans (Eq.refl _)
@[simp] theorem x_eNot : eNot a ρ st = (a ρ st).bind fun x st => (match truth st x with
  | some b => .ok (.bl (!b)) st
  | none => .bad) := (Eq.refl _).trans (Eq.refl _)
@[simp] theorem x_eCh (g h : W → W → Sto → R W) : eCh g h a b c ρ st = (a ρ st).bind fun x st => (b ρ st).bind fun y st => (g x y st).bind fun z st => (match z with
  | .bl true => (c ρ st).bind fun w st => h y w st
  | .bl false => .ok (.bl false) st
  | _ => .bad) := (Eq.refl _).trans (Eq.refl _)
@[simp] theorem x_oN : oN ρ st = .ok none st := (Eq.refl _).trans (Eq.refl _)
@[simp] theorem x_oS : oS a ρ st = (a ρ st).bind fun x st => (match x with
  | .int i => .ok (some i) st
  | _ => .bad) := (Eq.refl _).trans (Eq.refl _)
@[simp] theorem x_eSl (l h : Mi.Loc → Sto → R (Option Int)) : eSl a l h ρ st = (a ρ st).bind fun x st => (l ρ st).bind fun l st => (h ρ st).bind fun h st => opSl x l h st := (Eq.refl _).trans (Eq.refl _)
@[simp] theorem x_eM (k : W → Sto → Bool) (g : W → List W → Sto → R W) : eM k g a r ρ st = (a ρ st).bind fun x st => if k x st then (r ρ st).bind fun ws st => g x ws st else .bad := (Eq.refl _).trans (Eq.refl _)
@[simp] theorem x_eM0 (k : W → Sto → Bool) (g : W → Sto → R W) : eM0 k g a ρ st = (a ρ st).bind fun x st => if k x st then g x st else .bad := (Eq.refl _).trans (Eq.refl _)
@[simp] theorem x_eIsi (ts : List Ty) : eIsi a ts ρ st = (a ρ st).bind fun w st => (match isAny st ts w with
  | some b => .ok (.bl b) st
  | none => .bad) := (Eq.refl _).trans (Eq.refl _)
@[simp] theorem x_eDict0 : eDict0 ρ st = .ok (.loc st.length) (st ++ [.dic []]) := (Eq.refl _).trans (Eq.refl _)
@[simp] theorem x_sNop : sNop ρ st = .nx ρ st := (Eq.refl _).trans (Eq.refl _)
@[simp] theorem x_sSeq : sSeq p q ρ st = (p ρ st).andThen q := (Eq.refl _).trans (Eq.refl _)
@[simp] theorem x_sSet : sSet i a ρ st = (a ρ st).toS ρ fun w st => .nx (ρ.set i (some w)) st := (Eq.refl _).trans (Eq.refl _)
@[simp] theorem x_sPar (is : List Nat) : sPar is r ρ st = (r ρ st).toS ρ fun ws st => (match setAll is ws ρ with
  | some ρ' => .nx ρ' st
  | none => .bad) := (Eq.refl _).trans (Eq.refl _)
@[simp] theorem x_sUnp (is : List Nat) : sUnp is a ρ st = (a ρ st).toS ρ fun w st => (match tupAt st w with
  | some ws => (match setAll is ws ρ with
    | some ρ' => .nx ρ' st
    | none => .bad)
  | none => .bad) := (Eq.refl _).trans (Eq.refl _)
@[simp] theorem x_sDrop : sDrop a ρ st = (a ρ st).toS ρ fun _ st => .nx ρ st := (Eq.refl _).trans (Eq.refl _)
@[simp] theorem x_sRet : sRet a ρ st = (a ρ st).toS ρ fun w st => .rt w st := (Eq.refl _).trans (Eq.refl _)
@[simp] theorem x_sRetN : sRetN ρ st = .rt .non st := (Eq.refl _).trans (Eq.refl _)
@[simp] theorem x_sIf : sIf t p q ρ st = (t ρ st).toS ρ fun c st => if c then p ρ st else q ρ st := (Eq.refl _).trans (Eq.refl _)
@[simp] theorem x_sRaise (k : Nat) (fs : List Str) : sRaise k fs r ρ st = (r ρ st).toS ρ fun ws st => if ws.length = fs.length then .exc k st.length ρ (st ++ [.xd (fs.zip ws)]) else .bad := (Eq.refl _).trans (Eq.refl _)
@[simp] theorem x_sSub : sSub a b c ρ st = (c ρ st).toS ρ fun v st => (a ρ st).toS ρ fun x st => (b ρ st).toS ρ fun y st => (match stSub x y v st with
  | some st' => .nx ρ st'
  | none => .bad) := (Eq.refl _).trans (Eq.refl _)
@[simp] theorem x_sDict : sDict a b c ρ st = (c ρ st).toS ρ fun v st => (a ρ st).toS ρ fun x st => (b ρ st).toS ρ fun y st => (match stDict x y v st with
  | some st' => .nx ρ st'
  | none => .bad) := (Eq.refl _).trans (Eq.refl _)
@[simp] theorem x_tru_bl (k : Bool) : truth st (.bl k) = some k := (Eq.refl _).trans (Eq.refl _)
@[simp] theorem x_tru_non : truth st .non = some false := (Eq.refl _).trans (Eq.refl _)
@[simp] theorem x_tru_int (k : Int) : truth st (.int k) = some (k != 0) := (Eq.refl _).trans (Eq.refl _)
end
section
variable {α β : Type}
theorem y_bind (a : α) (st : Sto) (k : α → Sto → R β) : (R.ok a st).bind k = k a st := (Eq.refl _).trans (Eq.refl _)
end
@[simp] theorem ev_new (n : Nd) (st : Sto) : new n st = .ok (.loc st.length) (st ++ [n]) := rfl
theorem x_cRng (j : Int) (st : Sto) : cRng [.int j] st = (if (-4611686018427387904 ≤ j ∧ j < 4611686018427387904) then new (.rng 0 j) st else .bad) := rfl
theorem cRng_ok {j : Int} {st : Sto} (h1 : -4611686018427387904 ≤ j) (h2 : j < 4611686018427387904) : cRng [.int j] st = new (.rng 0 j) st := by
  rw [x_cRng, if_pos ⟨h1, h2⟩]
theorem iRng1_ok {a : ES} {ρ : Mi.Loc} {st st' : Sto} {j : Int} (h : a ρ st = .ok (.int j) st') (h1 : -4611686018427387904 ≤ j) (h2 : j < 4611686018427387904) : iRng1 a ρ st = .ok (rng 0 j, []) st' := by
  unfold iRng1
  rw [h, R.bind_ok]
  dsimp only
  rw [if_pos ⟨h1, h2⟩]
theorem ev_lst {xs : List W} {st : Sto} (h : xs.length ≤ big) : newL xs st = .ok (.loc st.length) (st ++ [.lst xs]) := if_pos h
theorem ev_tup {xs : List W} {st : Sto} (h : xs.length ≤ big) : newT xs st = .ok (.loc st.length) (st ++ [.tup xs]) := if_pos h

/-! ### turns -/
section
variable {ck : Ck} {g : Tg} {t : EB} {e : ES} {ρ : Mi.Loc}
/-- a comprehension: I by what there is already -/
theorem lc_in (I : List W → Sto → Prop) (L : Nat) (hck : ∀ acc st, I acc st → ckOk ck st = true) : ∀ (ys : List Y) (acc : List W) (st : Sto), I acc st →
    (∀ y ∈ ys, ∀ acc st, I acc st → acc.length < L → ∃ ρ', asg g y ρ st = some ρ' ∧ ((∃ st1 w st2, t ρ' st = .ok true st1 ∧ e ρ' st1 = .ok w st2 ∧ I (acc ++ [w]) st2) ∨ ∃ st1, t ρ' st = .ok false st1 ∧ I acc st1)) → acc.length + ys.length ≤ L → L ≤ big →
    ∃ acc' st', lcGo ck g t e ρ ys acc st = .ok acc' st' ∧ I acc' st' ∧ acc'.length ≤ acc.length + ys.length
  | [], acc, st, h, _, _, _ => ⟨acc, st, by unfold lcGo; rw [if_pos (hck _ _ h)], h, by simp⟩
  | y :: ys, acc, st, h, hs, hl, hL => by
    rw [List.length_cons] at hl
    obtain ⟨ρ', ha, hc⟩ := hs y List.mem_cons_self acc st h (by omega)
    unfold lcGo
    rw [if_pos (hck _ _ h), ha]
    rcases hc with ⟨st1, w, st2, h1, h2, h3⟩ | ⟨st1, h1, h3⟩
    · obtain ⟨acc', st', k1, k2, k3⟩ := lc_in I L hck ys (acc ++ [w]) st2 h3 (fun y hy => hs y (List.mem_cons_of_mem _ hy)) (by rw [List.length_append, List.length_singleton]; omega) hL
      refine ⟨acc', st', ?_, k2, by rw [List.length_append, List.length_singleton] at k3; rw [List.length_cons]; omega⟩
      have hb : acc.length < big := by omega
      simp only [h1, h2, R.bind_ok, if_true, if_pos hb]
      exact k1
    · obtain ⟨acc', st', k1, k2, k3⟩ := lc_in I L hck ys acc st1 h3 (fun y hy => hs y (List.mem_cons_of_mem _ hy)) (by omega) hL
      refine ⟨acc', st', ?_, k2, by rw [List.length_cons]; omega⟩
      simp only [h1, R.bind_ok, Bool.false_eq_true, if_false]
      exact k1
/-- .. whose values are told ahead -/
theorem lc_gr (P : Sto → Prop) (f : Y → Option W) (hck : ∀ st, P st → ckOk ck st = true) : ∀ (ys : List Y) (acc : List W) (st : Sto), P st →
    (∀ y ∈ ys, ∀ st, P st → ∃ ρ', asg g y ρ st = some ρ' ∧ ((∃ st1 w st2, t ρ' st = .ok true st1 ∧ e ρ' st1 = .ok w st2 ∧ P st2 ∧ f y = some w) ∨ ∃ st1, t ρ' st = .ok false st1 ∧ P st1 ∧ f y = none)) → acc.length + ys.length ≤ big →
    ∃ st', lcGo ck g t e ρ ys acc st = .ok (acc ++ ys.filterMap f) st' ∧ P st'
  | [], acc, st, h, _, _ => ⟨st, by unfold lcGo; rw [if_pos (hck _ h)]; simp, h⟩
  | y :: ys, acc, st, h, hs, hl => by
    rw [List.length_cons] at hl
    obtain ⟨ρ', ha, hc⟩ := hs y List.mem_cons_self st h
    unfold lcGo
    rw [if_pos (hck _ h), ha]
    rcases hc with ⟨st1, w, st2, h1, h2, h3, h4⟩ | ⟨st1, h1, h3, h4⟩
    · obtain ⟨st', k1, k2⟩ := lc_gr P f hck ys (acc ++ [w]) st2 h3 (fun y hy => hs y (List.mem_cons_of_mem _ hy)) (by rw [List.length_append, List.length_singleton]; omega)
      refine ⟨st', ?_, k2⟩
      have hb : acc.length < big := by omega
      simp only [h1, h2, R.bind_ok, if_true, if_pos hb, List.filterMap_cons, h4]
      rw [k1]
      simp
    · obtain ⟨st', k1, k2⟩ := lc_gr P f hck ys acc st1 h3 (fun y hy => hs y (List.mem_cons_of_mem _ hy)) (by omega)
      refine ⟨st', ?_, k2⟩
      simp only [h1, R.bind_ok, Bool.false_eq_true, if_false, List.filterMap_cons, h4]
      exact k1
/-- the whole comprehension -/
theorem elc_gr {own : List Nat} {it : IS} {ρ0 : Mi.Loc} {st0 st1 : Sto} {ys : List Y} (hit : it ρ0 st0 = .ok (ys, ck) st1) (P : Sto → Prop) (f : Y → Option W) (hck : ∀ st, P st → ckOk ck st = true) (h1 : P st1) (hl : ys.length ≤ big)
    (hs : ∀ y ∈ ys, ∀ st, P st → ∃ ρ', asg g y (wipeL ρ0 own) st = some ρ' ∧ ((∃ st1 w st2, t ρ' st = .ok true st1 ∧ e ρ' st1 = .ok w st2 ∧ P st2 ∧ f y = some w) ∨ ∃ st1, t ρ' st = .ok false st1 ∧ P st1 ∧ f y = none)) :
    ∃ st', eLc own it g t e ρ0 st0 = .ok (.loc st'.length) (st' ++ [.lst (ys.filterMap f)]) ∧ P st' := by
  obtain ⟨st', k1, k2⟩ := lc_gr P f hck ys [] st1 h1 hs (by simpa using hl)
  refine ⟨st', ?_, k2⟩
  unfold eLc
  rw [hit, R.bind_ok]
  dsimp only
  rw [k1]
  simp [noExc]
theorem elc_in {own : List Nat} {it : IS} {ρ0 : Mi.Loc} {st0 st1 : Sto} {ys : List Y} (hit : it ρ0 st0 = .ok (ys, ck) st1) (I : List W → Sto → Prop) (hck : ∀ acc st, I acc st → ckOk ck st = true) (h1 : I [] st1) (hl : ys.length ≤ big)
    (hs : ∀ y ∈ ys, ∀ acc st, I acc st → acc.length < ys.length → ∃ ρ', asg g y (wipeL ρ0 own) st = some ρ' ∧ ((∃ st1 w st2, t ρ' st = .ok true st1 ∧ e ρ' st1 = .ok w st2 ∧ I (acc ++ [w]) st2) ∨ ∃ st1, t ρ' st = .ok false st1 ∧ I acc st1)) :
    ∃ acc st', eLc own it g t e ρ0 st0 = .ok (.loc st'.length) (st' ++ [.lst acc]) ∧ I acc st' ∧ acc.length ≤ ys.length := by
  obtain ⟨acc, st', k1, k2, k3⟩ := lc_in I ys.length hck ys [] st1 h1 hs (by simp) hl
  refine ⟨acc, st', ?_, k2, by simpa using k3⟩
  unfold eLc
  rw [hit, R.bind_ok]
  dsimp only
  rw [k1]
  simp [noExc]
/-- for -/
theorem for_in {b : SS} (I : List Y → Mi.Loc → Sto → Prop) (Out : RS → Prop) (step : ∀ ys ρ st, I ys ρ st → ckOk ck st = true ∧ (match ys with
    | [] => Out (.nx ρ st)
    | y :: ys => ∃ ρ', asg g y ρ st = some ρ' ∧ ((∃ ρ2 st2, (b ρ' st = .nx ρ2 st2 ∨ b ρ' st = .ct ρ2 st2) ∧ I ys ρ2 st2) ∨ (∃ w st2, b ρ' st = .rt w st2 ∧ Out (.rt w st2)) ∨ ∃ c l ρ2 st2, b ρ' st = .exc c l ρ2 st2 ∧ Out (.exc c l ρ2 st2)))) :
    ∀ ys ρ st, I ys ρ st → Out (forGo ck g b ys ρ st)
  | [], ρ, st, h => by
    obtain ⟨h1, h2⟩ := step _ _ _ h
    unfold forGo
    rw [if_pos h1]
    exact h2
  | y :: ys, ρ, st, h => by
    obtain ⟨h1, ρ', h2, h3⟩ := step _ _ _ h
    unfold forGo
    rw [if_pos h1, h2]
    rcases h3 with ⟨ρ2, st2, h4 | h4, h5⟩ | ⟨w, st2, h4, h5⟩ | ⟨c, l, ρ2, st2, h4, h5⟩
    · simp only [h4]
      exact for_in I Out step ys ρ2 st2 h5
    · simp only [h4]
      exact for_in I Out step ys ρ2 st2 h5
    · simp only [h4]
      exact h5
    · simp only [h4]
      exact h5
/-- while -/
theorem while_in {b : SS} (I : Nat → Mi.Loc → Sto → Prop) (Out : RS → Prop) (step : ∀ n ρ st, I n ρ st → (∃ st1, t ρ st = .ok false st1 ∧ Out (.nx ρ st1)) ∨ ∃ st1, t ρ st = .ok true st1 ∧
    ((∃ ρ2 st2 m, (b ρ st1 = .nx ρ2 st2 ∨ b ρ st1 = .ct ρ2 st2) ∧ m < n ∧ I m ρ2 st2) ∨ (∃ w st2, b ρ st1 = .rt w st2 ∧ Out (.rt w st2)) ∨ ∃ c l ρ2 st2, b ρ st1 = .exc c l ρ2 st2 ∧ Out (.exc c l ρ2 st2))) :
    ∀ k n ρ st, I n ρ st → n < k → Out (whileGo t b k ρ st)
  | 0, n, _, _, _, hk => by omega
  | k + 1, n, ρ, st, h, hk => by
    unfold whileGo
    rcases step _ _ _ h with ⟨st1, h1, h2⟩ | ⟨st1, h1, h3⟩
    · simp only [h1, R.toS_ok, Bool.false_eq_true, if_false]
      exact h2
    · simp only [h1, R.toS_ok, if_true]
      rcases h3 with ⟨ρ2, st2, m, h4 | h4, h5, h6⟩ | ⟨w, st2, h4, h5⟩ | ⟨c, l, ρ2, st2, h4, h5⟩
      · simp only [h4]
        exact while_in I Out step k m ρ2 st2 h6 (by omega)
      · simp only [h4]
        exact while_in I Out step k m ρ2 st2 h6 (by omega)
      · simp only [h4]
        exact h5
      · simp only [h4]
        exact h5
end
theorem ck1 {l : Nat} {n : Nd} {st : Sto} (h : st[l]? = some n) : ckOk [(l, n)] st = true := by simp [ckOk, h]
theorem ck0 {st : Sto} : ckOk [] st = true := rfl

/-! ### draws -/
/-- the law's stream at l: at most n numbers were drawn -/
def Strm (st : Sto) (l : Nat) (n : Nat) : Prop := ∃ a b c : Int, st[l]? = some (.lst [.int a, .int b, .int c]) ∧ 0 ≤ a ∧ 0 ≤ b ∧ b < 2147483629 ∧ 0 ≤ c ∧ c ≤ n
theorem Strm.mono {st : Sto} {l n m : Nat} (h : Strm st l n) (k : n ≤ m) : Strm st l m := by
  obtain ⟨a, b, c, h1, h2, h3, h4, h5, h6⟩ := h
  exact ⟨a, b, c, h1, h2, h3, h4, h5, by omega⟩
theorem Strm.keep {st st' : Sto} {l n : Nat} {S : List Nat} (h : Strm st l n) (k : Keep S st st') (hl : l ∉ S := by simp) : Strm st' l n := by
  obtain ⟨a, b, c, h1, r⟩ := h
  exact ⟨a, b, c, k.get h1 hl, r⟩
theorem bits_le {x : Int} {n : Nat} (h : x.natAbs < 2 ^ n) (hn : 0 < n) : Builtin.Int.intBits x ≤ n := by
  unfold Builtin.Int.intBits
  split
  · omega
  · rename_i h0
    have h1 : x.natAbs ≠ 0 := by simpa using h0
    have := (Nat.log2_lt h1).mpr h
    omega
def B_take : SS := (sSeq (sIf (bB (e2 opGt (e2 opIx (eV 0) (eC (.int 0))) (eC (.int 0)))) (sSeq (sSet 3 (e2 opMod (e2 opIx (eV 0) (eC (.int 0))) (eV 1)))
  (sSeq (sSub (eV 0) (eC (.int 0)) (e2 opDiv (e2 opIx (eV 0) (eC (.int 0))) (eV 1)))
  (sRet (eV 3)))) sNop)
  (sSeq (sSub (eV 0) (eC (.int 2)) (e2 opAdd (e2 opIx (eV 0) (eC (.int 2))) (eC (.int 1))))
  (sSeq (sSet 2 (e2 opMod (e2 opAdd (e2 opMul (e2 opAdd (e2 opIx (eV 0) (eC (.int 1))) (e2 opMul (eC (.int 7919)) (e2 opIx (eV 0) (eC (.int 2))))) (eC (.int 48271))) (eC (.int 101))) (eC (.int 2147483647))))
  (sSeq (sSet 2 (e2 opMod (e2 opMul (eV 2) (eV 2)) (eC (.int 2147483629))))
  (sRet (e2 opMod (e2 opDiv (e2 opMod (e2 opAdd (e2 opMul (eV 2) (eV 2)) (e2 opMul (eC (.int 104729)) (e2 opIx (eV 0) (eC (.int 2))))) (eC (.int 2147483587))) (eC (.int 16))) (eV 1)))))))
def F_take : List W → Sto → R W := dfn 2 4 B_take
def B_stream : SS := (sRet (eLst (aCons (e2 opMul (eV 0) (eN cInt (aCons (e2 opGe (eV 0) (e2 opPow (eC (.int 10)) (eC (.int 18)))) aNil))) (aCons (e2 opMod (eV 0) (eC (.int 2147483629))) (aCons (eC (.int 0)) aNil)))))
def F_stream : List W → Sto → R W := dfn 1 1 B_stream
theorem at0 {α : Type} (x : α) (xs : List α) : ixW (x :: xs) 0 = some x := by
  unfold ixW L2.atI L2.ixN
  simp
theorem at3 {α : Type} (x y z : α) : ixW [x, y, z] 1 = some y ∧ ixW [x, y, z] 2 = some z := ⟨rfl, rfl⟩
theorem take_ok {st : Sto} {l n many : Nat} (h : Strm st l n) (hm : 0 < many) (hm2 : many < 4294967296) (hn : n < 1000000000000) :
    ∃ (d : Nat) (st' : Sto), F_take [.loc l, .int many] st = .ok (.int d) st' ∧ d < many ∧ Strm st' l (n + 1) ∧ Keep [l] st st' ∧ st'.length = st.length := by
  obtain ⟨a, b, c, h1, h2, h3, h4, h5, h6⟩ := h
  have hl := lt_of_get h1
  by_cases ha : 0 < a
  · refine ⟨(a % (many : Int)).toNat, st.set l (.lst [.int (a / many), .int b, .int c]), ?_, ?_, ⟨a / many, b, c, set_get h1, Int.ediv_nonneg h2 (by omega), h3, h4, h5, by omega⟩, Keep.set (by simp), by simp⟩
    · have hm4 : many.log2 < 9000 := (Nat.log2_lt (by omega)).mpr (Nat.lt_of_lt_of_le hm2 (by decide +kernel))
      have hmi : (0 : Int) < many := by omega
      have he : (((a % (many : Int)).toNat : Nat) : Int) = a % many := Int.toNat_of_nonneg (Int.emod_nonneg _ (by omega))
      simp [F_take, dfn, B_take, opIx, h1, at0, lift1, opGt, cmpI, ha, opMod, hm, opDiv, hm4, stSub, L2.ixN, he]
    · have : (a % (many : Int)).toNat < many := by
        have h7 := Int.emod_lt_of_pos a (show (0 : Int) < many by omega)
        have h8 := Int.emod_nonneg a (show (many : Int) ≠ 0 by omega)
        omega
      exact this
  · have ea : a = 0 := by omega
    subst ea
    have key : ∀ x : Int, 0 ≤ x → ((x % (many : Int)).toNat : Int) = x % many ∧ (x % (many : Int)).toNat < many := fun x hx => by
      have h7 := Int.emod_lt_of_pos x (show (0 : Int) < many by omega)
      have h8 := Int.emod_nonneg x (show (many : Int) ≠ 0 by omega)
      exact ⟨Int.toNat_of_nonneg h8, by omega⟩
    have bits : ∀ x : Int, 0 ≤ x → x < 18446744073709551616 → Builtin.Int.intBits x ≤ 64 := fun x h1 h2 => bits_le (by
      have : x.natAbs < 18446744073709551616 := by omega
      exact this) (by omega)
    have m1 : ∀ x y : Int, 0 ≤ x → x < 18446744073709551616 → 0 ≤ y → y < 18446744073709551616 → Builtin.Int.intBits x + Builtin.Int.intBits y ≤ 134217728 := fun x y h1 h2 h3 h4 => by
      have := bits x h1 h2
      have := bits y h3 h4
      omega
    generalize hx : ((b + 7919 * (c + 1)) * 48271 + 101) % 2147483647 = x
    have x0 : 0 ≤ x ∧ x < 2147483647 := by omega
    generalize hy : x * x % 2147483629 = y
    have y0 : 0 ≤ y ∧ y < 2147483629 := by omega
    generalize hz : (y * y + 104729 * (c + 1)) % 2147483587 / 16 = z
    have z0 : 0 ≤ z := by omega
    refine ⟨(z % (many : Int)).toNat, st.set l (.lst [.int 0, .int b, .int (c + 1)]), ?_, (key z z0).2, ⟨0, b, c + 1, set_get h1, Int.le_refl _, h3, h4, by omega, by omega⟩, Keep.set (by simp), by simp⟩
    have hmi : (0 : Int) < many := by omega
    have hl2 := set_get (m := .lst [.int 0, .int b, .int (c + 1)]) h1
    have c1 := m1 7919 (c + 1) (by omega) (by omega) (by omega) (by omega)
    have c2 := m1 (b + 7919 * (c + 1)) 48271 (by omega) (by omega) (by omega) (by omega)
    have c3 := m1 x x (by omega) (by omega) (by omega) (by omega)
    have c4 := m1 y y (by omega) (by omega) (by omega) (by omega)
    have c5 := m1 104729 (c + 1) (by omega) (by omega) (by omega) (by omega)
    have l16 : Nat.log2 16 < 9000 := by decide +kernel
    simp [F_take, dfn, B_take, opIx, h1, at0, at3, lift1, opGt, cmpI, opMod, hm, opDiv, opAdd, opMul, stSub, L2.ixN, hl2, c1, c2, c3, c4, c5, hx, hy, hz, (key z z0).1, l16]
theorem stream_ok {st : Sto} {z : Int} (hz : Builtin.Int.intBits z ≤ 1048576) : ∃ st', F_stream [.int z] st = .ok (.loc st.length) st' ∧ Strm st' st.length 0 ∧ Keep [] st st' ∧ st'.length = st.length + 1 := by
  have l1 : Builtin.Int.intBits 1 ≤ 64 := by decide
  have l0 : Builtin.Int.intBits 0 ≤ 64 := by decide
  by_cases h : 1000000000000000000 ≤ z
  · refine ⟨st ++ [.lst [.int z, .int (z % 2147483629), .int 0]], ?_, ⟨z, z % 2147483629, 0, get_new, by omega, by omega, by omega, Int.le_refl _, by omega⟩, Keep.app, by simp⟩
    have c1 : Builtin.Int.intBits z + Builtin.Int.intBits 1 ≤ 134217728 := by omega
    simp [F_stream, dfn, B_stream, opPow, opGe, cmpI, cInt, h, opMul, c1, opMod, newL, big]
  · refine ⟨st ++ [.lst [.int 0, .int (z % 2147483629), .int 0]], ?_, ⟨0, z % 2147483629, 0, get_new, by omega, by omega, by omega, Int.le_refl _, by omega⟩, Keep.app, by simp⟩
    have c1 : Builtin.Int.intBits z + Builtin.Int.intBits 0 ≤ 134217728 := by omega
    have h' : z < 1000000000000000000 := by omega
    simp [F_stream, dfn, B_stream, opPow, opGe, cmpI, cInt, h, h', opMul, c1, opMod, newL, big]
end Mi

set_option Elab.async false
set_option linter.all false
set_option maxRecDepth 100000
/-! law_k82_items_as_bits: what each def computes, in Mini. Printed by gen.py. -/
namespace k82
open PySem Mi
set_option autoImplicit false
/-- is_whole(thing); names: 0 thing -/
def B_is_whole : SS := (sRet (eAnd (eIsi (eV 0) [.int]) (eNot (eIsi (eV 0) [.bool]))))
def F_is_whole : List W → Sto → R W := dfn 1 1 B_is_whole
/-- is_bits(thing); names: 0 thing, 1 sign -/
def L_is_bits_1 : ES := (eLc [1] (iStr (eV 0)) (.nm 1) bYes (e2 opIn (eV 1) (eC (.str [48, 49]))))
def B_is_bits : SS := (sRet (eAnd (eIsi (eV 0) [.str]) (eN cAll (aCons L_is_bits_1 aNil))))
def F_is_bits : List W → Sto → R W := dfn 1 2 B_is_bits
/-- is_code(value); names: 0 value, 1 places, 2 word, 3 one, 4 other -/
def S_is_code_1 : SS := (sIf (bOr (bNot (bT (eIsi (eV 0) [.list, .tuple]))) (bNot (bB (eCh opLe opLe (eC (.int 1)) (eN cLen (aCons (eV 0) aNil)) (eC (.int 40)))))) (sRet (eC (.bl false))) sNop)
def L_is_code_2 : ES := (eLc [2] (iSeq (eV 0)) (.nm 2) bYes (eAnd (eN F_is_bits (aCons (eV 2) aNil)) (e2 opLe (eN cLen (aCons (eV 2) aNil)) (eC (.int 60)))))
def S_is_code_3 : SS := (sIf (bNot (bT (eN cAll (aCons L_is_code_2 aNil)))) (sRet (eC (.bl false))) sNop)
def S_is_code_4 : SS := (sSet 1 (eN cRng (aCons (eN cLen (aCons (eV 0) aNil)) aNil)))
def L_is_code_5 : ES := (eLc2 [3, 4] (iRngV (eV 1)) (.nm 3) bYes (iRngV (eV 1)) [4] (.nm 4) (bB (e2 opNe (eV 3) (eV 4))) (eM kStr mStarts (e2 opIx (eV 0) (eV 4)) (aCons (e2 opIx (eV 0) (eV 3)) aNil)))
def B_is_code : SS := (sSeq S_is_code_1
  (sSeq S_is_code_3
  (sSeq S_is_code_4
  (sRet (eNot (eN cAny (aCons L_is_code_5 aNil)))))))
def F_is_code : List W → Sto → R W := dfn 1 5 B_is_code
/-- need_code(code); names: 0 code -/
def S_need_code_1 : SS := (sRaise 0 ["given"] (aCons (eV 0) aNil))
def S_need_code_2 : SS := (sIf (bNot (bT (eN F_is_code (aCons (eV 0) aNil)))) S_need_code_1 sNop)
def B_need_code : SS := S_need_code_2
def F_need_code : List W → Sto → R W := dfn 1 1 B_need_code
/-- bits_of(code, items); names: 0 code, 1 items, 2 one -/
def S_bits_of_1 : SS := (sDrop (eN F_need_code (aCons (eV 0) aNil)))
def L_bits_of_2 : ES := (eLc [2] (iSeq (eV 1)) (.nm 2) bYes (eAnd (eN F_is_whole (aCons (eV 2) aNil)) (eCh opLe opLt (eC (.int 0)) (eV 2) (eN cLen (aCons (eV 0) aNil)))))
def S_bits_of_3 : SS := (sRaise 1 ["given"] (aCons (eV 1) aNil))
def S_bits_of_4 : SS := (sIf (bOr (bNot (bT (eIsi (eV 1) [.list, .tuple]))) (bNot (bT (eN cAll (aCons L_bits_of_2 aNil))))) S_bits_of_3 sNop)
def L_bits_of_5 : ES := (eLc [2] (iSeq (eV 1)) (.nm 2) bYes (e2 opIx (eV 0) (eV 2)))
def B_bits_of : SS := (sSeq S_bits_of_1
  (sSeq S_bits_of_4
  (sRet (eM kStr mJoin (eC (.str [])) (aCons L_bits_of_5 aNil)))))
def F_bits_of : List W → Sto → R W := dfn 2 3 B_bits_of
/-- item_at(code, text, at); names: 0 code, 1 text, 2 at, 3 found, 4 one, 5 word -/
def L_item_at_1 : ES := (eLc [4, 5] (iEnum (eV 0)) (.tp [4, 5]) (bB (e2 opEq (eSl (eV 1) (oS (eV 2)) (oS (e2 opAdd (eV 2) (eN cLen (aCons (eV 5) aNil))))) (eV 5))) (eV 4))
def S_item_at_2 : SS := (sSet 3 L_item_at_1)
def B_item_at : SS := (sSeq S_item_at_2
  (sRet (eIf (bB (e2 opNe (eV 3) (eLst aNil))) (e2 opIx (eV 3) (eC (.int 0))) (eC .non))))
def F_item_at : List W → Sto → R W := dfn 3 6 B_item_at
/-- read_items(code, text); names: 0 code, 1 text, 2 found, 3 at, 4 item -/
def S_read_items_1 : SS := (sDrop (eN F_need_code (aCons (eV 0) aNil)))
def S_read_items_2 : SS := (sRaise 1 ["given"] (aCons (eV 1) aNil))
def S_read_items_3 : SS := (sIf (bOr (bNot (bT (eN F_is_bits (aCons (eV 1) aNil)))) (bAnd (bB (e2 opEq (e2 opIx (eV 0) (eC (.int 0))) (eC (.str [])))) (bB (e2 opNe (eV 1) (eC (.str [])))))) S_read_items_2 sNop)
def S_read_items_4 : SS := (sPar [2, 3] (aCons (eLst aNil) (aCons (eC (.int 0)) aNil)))
def S_read_items_5 : SS := (sSet 4 (eN F_item_at (aCons (eV 0) (aCons (eV 1) (aCons (eV 3) aNil)))))
def S_read_items_6 : SS := (sRaise 1 ["given"] (aCons (eV 1) aNil))
def S_read_items_7 : SS := (sIf (bB (e1 opIsN (eV 4))) S_read_items_6 sNop)
def S_read_items_8 : SS := (sDrop (eM kList mAppend (eV 2) (aCons (eV 4) aNil)))
def S_read_items_9 : SS := (sSet 3 (e2 opAdd (eV 3) (eN cLen (aCons (e2 opIx (eV 0) (eV 4)) aNil))))
def S_read_items_10 : SS := (sWhile (bB (e2 opLt (eV 3) (eN cLen (aCons (eV 1) aNil)))) (sSeq S_read_items_5
  (sSeq S_read_items_7
  (sSeq S_read_items_8
  S_read_items_9))))
def B_read_items : SS := (sSeq S_read_items_1
  (sSeq S_read_items_3
  (sSeq S_read_items_4
  (sSeq S_read_items_10
  (sRet (eV 2))))))
def F_read_items : List W → Sto → R W := dfn 2 5 B_read_items
/-- _law_cell(script, k); names: 0 script, 1 k -/
def S__law_cell_1 : SS := (sIf (bB (e2 opLt (eV 1) (eN cLen (aCons (eV 0) aNil)))) (sRet (e2 opIx (eV 0) (eV 1))) sNop)
def B__law_cell : SS := (sSeq S__law_cell_1
  (sRet (e2 opAdd (e2 opMul (eC (.int 49979723)) (eV 1)) (eC (.int 187)))))
def F__law_cell : List W → Sto → R W := dfn 2 2 B__law_cell
/-- _law_stream(cell); names: 0 cell -/
def B__law_stream : SS := (sRet (eLst (aCons (e2 opMul (eV 0) (eN cInt (aCons (e2 opGe (eV 0) (e2 opPow (eC (.int 10)) (eC (.int 18)))) aNil))) (aCons (e2 opMod (eV 0) (eC (.int 2147483629))) (aCons (eC (.int 0)) aNil)))))
def F__law_stream : List W → Sto → R W := dfn 1 1 B__law_stream
/-- _law_take(stream, many); names: 0 stream, 1 many, 2 number, 3 digit -/
def S__law_take_1 : SS := (sSet 3 (e2 opMod (e2 opIx (eV 0) (eC (.int 0))) (eV 1)))
def S__law_take_2 : SS := (sSub (eV 0) (eC (.int 0)) (e2 opDiv (e2 opIx (eV 0) (eC (.int 0))) (eV 1)))
def S__law_take_3 : SS := (sIf (bB (e2 opGt (e2 opIx (eV 0) (eC (.int 0))) (eC (.int 0)))) (sSeq S__law_take_1
  (sSeq S__law_take_2
  (sRet (eV 3)))) sNop)
def S__law_take_4 : SS := (sSub (eV 0) (eC (.int 2)) (e2 opAdd (e2 opIx (eV 0) (eC (.int 2))) (eC (.int 1))))
def S__law_take_5 : SS := (sSet 2 (e2 opMod (e2 opAdd (e2 opMul (e2 opAdd (e2 opIx (eV 0) (eC (.int 1))) (e2 opMul (eC (.int 7919)) (e2 opIx (eV 0) (eC (.int 2))))) (eC (.int 48271))) (eC (.int 101))) (eC (.int 2147483647))))
def S__law_take_6 : SS := (sSet 2 (e2 opMod (e2 opMul (eV 2) (eV 2)) (eC (.int 2147483629))))
def B__law_take : SS := (sSeq S__law_take_3
  (sSeq S__law_take_4
  (sSeq S__law_take_5
  (sSeq S__law_take_6
  (sRet (e2 opMod (e2 opDiv (e2 opMod (e2 opAdd (e2 opMul (eV 2) (eV 2)) (e2 opMul (eC (.int 104729)) (e2 opIx (eV 0) (eC (.int 2))))) (eC (.int 2147483587))) (eC (.int 16))) (eV 1)))))))
def F__law_take : List W → Sto → R W := dfn 2 4 B__law_take
/-- _law_is(told, due); names: 0 told, 1 due, 2 k -/
def S__law_is_1 (f : List W → Sto → R W) : SS := (sIf (bOr (bNot (bT (eIsi (eV 0) [.list, .tuple]))) (bOr (bB (e2 opNe (eIsi (eV 0) [.list]) (eIsi (eV 1) [.list]))) (bB (e2 opNe (eN cLen (aCons (eV 0) aNil)) (eN cLen (aCons (eV 1) aNil)))))) (sRet (eC (.bl false))) sNop)
def L__law_is_2 (f : List W → Sto → R W) : ES := (eLc [2] (iRng1 (eN cLen (aCons (eV 1) aNil))) (.nm 2) (bNot (bT (eN f (aCons (e2 opIx (eV 0) (eV 2)) (aCons (e2 opIx (eV 1) (eV 2)) aNil))))) (eV 2))
def S__law_is_3 (f : List W → Sto → R W) : SS := (sIf (bT (eIsi (eV 1) [.list, .tuple])) (sSeq (S__law_is_1 f)
  (sRet (e2 opEq (L__law_is_2 f) (eLst aNil)))) sNop)
def S__law_is_4 (f : List W → Sto → R W) : SS := (sIf (bB (e1 opIsN (eV 1))) (sRet (e1 opIsN (eV 0))) sNop)
def S__law_is_5 (f : List W → Sto → R W) : SS := (sIf (bT (eIsi (eV 1) [.bool])) (sRet (eAnd (eIsi (eV 0) [.bool]) (e2 opEq (eV 0) (eV 1)))) sNop)
def S__law_is_6 (f : List W → Sto → R W) : SS := (sIf (bT (eIsi (eV 1) [.str])) (sRet (eAnd (eIsi (eV 0) [.str]) (e2 opEq (eV 0) (eV 1)))) sNop)
def B__law_is (f : List W → Sto → R W) : SS := (sSeq (S__law_is_3 f)
  (sSeq (S__law_is_4 f)
  (sSeq (S__law_is_5 f)
  (sSeq (S__law_is_6 f)
  (sRet (eAnd (eIsi (eV 0) [.int]) (eAnd (eNot (eIsi (eV 0) [.bool])) (e2 opEq (eV 0) (eV 1)))))))))
def F__law_is : Nat → List W → Sto → R W
  | 0 => fun _ _ => .bad
  | n + 1 => dfn 2 3 (B__law_is (F__law_is n))
/-- _law_very(given, thing); names: 0 given, 1 thing, 2 same -/
def S__law_very_1 : SS := (sDrop (eM kList mAppend (eV 1) (aCons (eC (.str [109, 111, 114, 101])) aNil)))
def S__law_very_2 : SS := (sIf (bT (eIsi (eV 1) [.list])) S__law_very_1 sNop)
def S__law_very_3 : SS := (sDict (eV 1) (eC (.str [109, 111, 114, 101])) (eC (.int 1)))
def S__law_very_4 : SS := (sIf (bT (eIsi (eV 1) [.dict])) S__law_very_3 sNop)
def S__law_very_5 : SS := (sSet 2 (e2 opEq (eN cRepr (aCons (eV 0) aNil)) (eN cRepr (aCons (eV 1) aNil))))
def S__law_very_6 : SS := (sDrop (eM0 kList mPop0 (eV 1)))
def S__law_very_7 : SS := (sIf (bT (eIsi (eV 1) [.list])) S__law_very_6 sNop)
def S__law_very_8 : SS := (sDrop (eM kDict mDPop (eV 1) (aCons (eC (.str [109, 111, 114, 101])) aNil)))
def S__law_very_9 : SS := (sIf (bT (eIsi (eV 1) [.dict])) S__law_very_8 sNop)
def B__law_very : SS := (sSeq S__law_very_2
  (sSeq S__law_very_4
  (sSeq S__law_very_5
  (sSeq S__law_very_7
  (sSeq S__law_very_9
  (sRet (eV 2)))))))
def F__law_very : List W → Sto → R W := dfn 2 3 B__law_very
/-- _law_is_code(value); names: 0 value, 1 k, 2 word, 3 m, 4 sign -/
def S__law_is_code_1 : SS := (sIf (bOr (bNot (bT (eIsi (eV 0) [.list, .tuple]))) (bNot (bB (eCh opLe opLe (eC (.int 1)) (eN cLen (aCons (eV 0) aNil)) (eC (.int 40)))))) (sRet (eC (.bl false))) sNop)
def L__law_is_code_2 : ES := (eLc [4] (iStr (eV 2)) (.nm 4) (bB (e2 opNotIn (eV 4) (eC (.str [48, 49])))) (eV 4))
def L__law_is_code_3 : ES := (eLc [2] (iSeq (eV 0)) (.nm 2) (bOr (bNot (bT (eIsi (eV 2) [.str]))) (bOr (bB (e2 opGt (eN cLen (aCons (eV 2) aNil)) (eC (.int 60)))) (bB (e2 opNe L__law_is_code_2 (eLst aNil))))) (eV 2))
def S__law_is_code_4 : SS := (sIf (bB (e2 opNe L__law_is_code_3 (eLst aNil))) (sRet (eC (.bl false))) sNop)
def L__law_is_code_5 : ES := (eLc [3] (iRng1 (eN cLen (aCons (eV 0) aNil))) (.nm 3) (bAnd (bB (e2 opNe (eV 3) (eV 1))) (bB (e2 opEq (eSl (e2 opIx (eV 0) (eV 3)) oN (oS (eN cLen (aCons (eV 2) aNil)))) (eV 2)))) (eV 3))
def S__law_is_code_6 : SS := (sIf (bB (e2 opNe L__law_is_code_5 (eLst aNil))) (sRet (eC (.bl false))) sNop)
def S__law_is_code_7 : SS := (sFor (iEnum (eV 0)) (.tp [1, 2]) S__law_is_code_6)
def B__law_is_code : SS := (sSeq S__law_is_code_1
  (sSeq S__law_is_code_4
  (sSeq S__law_is_code_7
  (sRet (eC (.bl true))))))
def F__law_is_code : List W → Sto → R W := dfn 1 5 B__law_is_code
/-- _law_drawn(stream); names: 0 stream, 1 found, 2 turn, 3 word, 4 rest, 5 code -/
def S__law_drawn_1 : SS := (sSet 1 (eLst (aCons (eC (.str [])) aNil)))
def S__law_drawn_2 : SS := (sSet 3 (eM kList mPop1 (eV 1) (aCons (eN F__law_take (aCons (eV 0) (aCons (eN cLen (aCons (eV 1) aNil)) aNil))) aNil)))
def S__law_drawn_3 : SS := (sSet 1 (e2 opAdd (eV 1) (eLst (aCons (e2 opAdd (eV 3) (eC (.str [48]))) (aCons (e2 opAdd (eV 3) (eC (.str [49]))) aNil)))))
def S__law_drawn_4 : SS := (sFor (iRng1 (eN F__law_take (aCons (eV 0) (aCons (eC (.int 10)) aNil)))) (.nm 2) (sSeq S__law_drawn_2
  S__law_drawn_3))
def S__law_drawn_5 : SS := (sDrop (eM kList mPop1 (eV 1) (aCons (eN F__law_take (aCons (eV 0) (aCons (eN cLen (aCons (eV 1) aNil)) aNil))) aNil)))
def S__law_drawn_6 : SS := (sIf (bAnd (bB (e2 opGt (eN cLen (aCons (eV 1) aNil)) (eC (.int 1)))) (bB (e2 opEq (eN F__law_take (aCons (eV 0) (aCons (eC (.int 2)) aNil))) (eC (.int 0))))) S__law_drawn_5 sNop)
def S__law_drawn_7 : SS := (sPar [4, 5] (aCons (eV 1) (aCons (eLst aNil) aNil)))
def S__law_drawn_8 : SS := (sDrop (eM kList mAppend (eV 5) (aCons (eM kList mPop1 (eV 4) (aCons (eN F__law_take (aCons (eV 0) (aCons (eN cLen (aCons (eV 4) aNil)) aNil))) aNil)) aNil)))
def S__law_drawn_9 : SS := (sWhile (bB (e2 opNe (eV 4) (eLst aNil))) S__law_drawn_8)
def B__law_drawn : SS := (sSeq S__law_drawn_1
  (sSeq S__law_drawn_4
  (sSeq S__law_drawn_6
  (sSeq S__law_drawn_7
  (sSeq S__law_drawn_9
  (sRet (eV 5)))))))
def F__law_drawn : List W → Sto → R W := dfn 1 6 B__law_drawn
/-- _law_read(code, text); names: 0 code, 1 text, 2 found, 3 left, 4 items, 5 k, 6 word -/
def S__law_read_1 : SS := (sIf (bB (e2 opEq (eV 0) (eLst (aCons (eC (.str [])) aNil)))) (sRet (eIf (bB (e2 opEq (eV 1) (eC (.str [])))) (eLst aNil) (eC .non))) sNop)
def S__law_read_2 : SS := (sUnp [2, 3] (eTup (aCons (eLst aNil) (aCons (eV 1) aNil))))
def L__law_read_3 : ES := (eLc [5, 6] (iEnum (eV 0)) (.tp [5, 6]) (bB (e2 opEq (eSl (eV 3) oN (oS (eN cLen (aCons (eV 6) aNil)))) (eV 6))) (eV 5))
def S__law_read_4 : SS := (sSet 4 L__law_read_3)
def S__law_read_5 : SS := (sIf (bB (e2 opEq (eV 4) (eLst aNil))) (sRet (eC .non)) sNop)
def S__law_read_6 : SS := (sDrop (eM kList mAppend (eV 2) (aCons (e2 opIx (eV 4) (eC (.int 0))) aNil)))
def S__law_read_7 : SS := (sSet 3 (eSl (eV 3) (oS (eN cLen (aCons (e2 opIx (eV 0) (e2 opIx (eV 4) (eC (.int 0)))) aNil))) oN))
def S__law_read_8 : SS := (sWhile (bB (e2 opNe (eV 3) (eC (.str [])))) (sSeq S__law_read_4
  (sSeq S__law_read_5
  (sSeq S__law_read_6
  S__law_read_7))))
def B__law_read : SS := (sSeq S__law_read_1
  (sSeq S__law_read_2
  (sSeq S__law_read_8
  (sRet (eV 2)))))
def F__law_read : List W → Sto → R W := dfn 2 7 B__law_read
/-- _law_asked(way, code, thing); names: 0 way, 1 code, 2 thing, 3 e -/
def S__law_asked_1 : SS := (sTry (sRet (eLst (aCons (eC (.str [116, 111, 108, 100])) (aCons (eIf (bB (e2 opEq (eV 0) (eC (.int 0)))) (eN F_bits_of (aCons (eV 1) (aCons (eV 2) aNil))) (eN F_read_items (aCons (eV 1) (aCons (eV 2) aNil)))) aNil)))) [(.mk (fun i => i == 0) (fun l => hAs 3 (sRet (eLst (aCons (eC (.str [99, 111, 100, 101])) (aCons (eFld l "given") aNil)))))),
  (.mk (fun i => i == 1) (fun l => hAs 3 (sRet (eLst (aCons (eC (.str [98, 105, 116, 115])) (aCons (eFld l "given") aNil)))))),
  (.mk (fun _ => true) (fun _ => (sRet (eLst (aCons (eC (.str [111, 116, 104, 101, 114])) (aCons (eC .non) aNil))))))])
def B__law_asked : SS := S__law_asked_1
def F__law_asked : List W → Sto → R W := dfn 3 4 B__law_asked
/-- _law_right(stream, code, items); names: 0 stream, 1 code, 2 items, 3 text, 4 handed, 5 due, 6 turn, 7 told, 8 sign, 9 bent, 10 found, 11 good, 12 read, 13 at, 14 word, 15 item, 16 one -/
def L__law_right_1 : ES := (eLc [15] (iSeq (eV 2)) (.nm 15) bYes (e2 opIx (eV 1) (eV 15)))
def S__law_right_2 : SS := (sSet 3 (eM kStr mJoin (eC (.str [])) (aCons L__law_right_1 aNil)))
def S__law_right_3 : SS := (sIf (bOr (bNot (bT (eN (F__law_is 40) (aCons (eN F_bits_of (aCons (eV 1) (aCons (eV 4) aNil))) (aCons (eV 3) aNil))))) (bNot (bT (eN (F__law_is 40) (aCons (eN (fun ws st => if ws.length = 2 then F_bits_of (perm [1, 0] ws) st else .bad) (aCons (eV 4) (aCons (eN cTuple (aCons (eV 1) aNil)) aNil))) (aCons (eV 3) aNil)))))) (sRet (eC (.bl false))) sNop)
def S__law_right_4 : SS := (sFor (iSeq (eLst (aCons (eV 2) (aCons (eN cTuple (aCons (eV 2) aNil)) aNil)))) (.nm 4) S__law_right_3)
def S__law_right_5 : SS := (sSet 5 (eIf (bB (e2 opNe (eV 1) (eLst (aCons (eC (.str [])) aNil)))) (eV 2) (eLst aNil)))
def S__law_right_6 : SS := (sSet 7 (eIf (bB (e2 opEq (eV 6) (eC (.int 0)))) (eN F_read_items (aCons (eV 1) (aCons (eV 3) aNil))) (eN (fun ws st => if ws.length = 2 then F_read_items (perm [1, 0] ws) st else .bad) (aCons (eV 3) (aCons (eV 1) aNil)))))
def S__law_right_7 : SS := (sIf (bNot (bT (eN (F__law_is 40) (aCons (eV 7) (aCons (eV 5) aNil))))) (sRet (eC (.bl false))) sNop)
def S__law_right_8 : SS := (sDrop (eM kList mAppend (eV 7) (aCons (eC .non) aNil)))
def S__law_right_9 : SS := (sFor (iRng1 (eC (.int 2))) (.nm 6) (sSeq S__law_right_6
  (sSeq S__law_right_7
  S__law_right_8)))
def S__law_right_10 : SS := (sPar [13, 14] (aCons (eN F__law_take (aCons (eV 0) (aCons (e2 opAdd (eN cLen (aCons (eV 3) aNil)) (eC (.int 1))) aNil))) (aCons (e2 opIx (eV 1) (eN F__law_take (aCons (eV 0) (aCons (eN cLen (aCons (eV 1) aNil)) aNil)))) aNil)))
def S__law_right_11 : SS := (sSet 8 (e2 opIx (eLst (aCons (eC (.str [48])) (aCons (eC (.str [49])) (aCons (eC (.str [50])) (aCons (eC (.str [32])) (aCons (eSl (eV 14) oN (oS (e1 opNeg (eC (.int 1))))) (aCons (eV 14) aNil))))))) (eN F__law_take (aCons (eV 0) (aCons (eC (.int 6)) aNil)))))
def S__law_right_12 : SS := (sSet 9 (e2 opIx (eLst (aCons (e2 opAdd (e2 opAdd (eSl (eV 3) oN (oS (eV 13))) (eV 8)) (eSl (eV 3) (oS (eV 13)) oN)) (aCons (e2 opAdd (eSl (eV 3) oN (oS (eV 13))) (eSl (eV 3) (oS (e2 opAdd (eV 13) (eC (.int 1)))) oN)) (aCons (e2 opAdd (e2 opAdd (eSl (eV 3) oN (oS (eV 13))) (eV 8)) (eSl (eV 3) (oS (e2 opAdd (eV 13) (eC (.int 1)))) oN)) (aCons (e2 opAdd (eV 3) (eV 8)) aNil))))) (eN F__law_take (aCons (eV 0) (aCons (eC (.int 4)) aNil)))))
def S__law_right_13 : SS := (sSet 10 (eN F__law_asked (aCons (eC (.int 1)) (aCons (eV 1) (aCons (eV 9) aNil)))))
def L__law_right_14 : ES := (eLc [16] (iStr (eV 9)) (.nm 16) (bB (e2 opNotIn (eV 16) (eC (.str [48, 49])))) (eV 16))
def S__law_right_15 : SS := (sSet 11 (e2 opEq L__law_right_14 (eLst aNil)))
def S__law_right_16 : SS := (sSet 12 (eIf (bT (eV 11)) (eN F__law_read (aCons (eV 1) (aCons (eV 9) aNil))) (eC .non)))
def S__law_right_17 : SS := (sIf (bOr (bAnd (bB (e1 opIsN (eV 12))) (bB (e2 opNe (eV 10) (eLst (aCons (eC (.str [98, 105, 116, 115])) (aCons (eV 9) aNil)))))) (bAnd (bB (e1 opNotN (eV 12))) (bNot (bT (eN (F__law_is 40) (aCons (eV 10) (aCons (eLst (aCons (eC (.str [116, 111, 108, 100])) (aCons (eV 12) aNil))) aNil))))))) (sRet (eC (.bl false))) sNop)
def S__law_right_18 : SS := (sFor (iRng1 (eC (.int 8))) (.nm 6) (sSeq S__law_right_10
  (sSeq S__law_right_11
  (sSeq S__law_right_12
  (sSeq S__law_right_13
  (sSeq S__law_right_15
  (sSeq S__law_right_16
  S__law_right_17)))))))
def B__law_right : SS := (sSeq S__law_right_2
  (sSeq S__law_right_4
  (sSeq S__law_right_5
  (sSeq S__law_right_9
  (sSeq S__law_right_18
  (sRet (eC (.bl true))))))))
def F__law_right : List W → Sto → R W := dfn 3 17 B__law_right
/-- _law_odd_text(stream); names: 0 stream -/
def B__law_odd_text : SS := (sRet (e2 opIx (eLst (aCons (eC (.str [97])) (aCons (eC (.str [48, 32, 49])) (aCons (eC (.str [48, 49, 120])) (aCons (eC (.str [48, 10])) aNil))))) (eN F__law_take (aCons (eV 0) (aCons (eC (.int 4)) aNil)))))
def F__law_odd_text : List W → Sto → R W := dfn 1 1 B__law_odd_text
/-- _law_refused_right(stream, code, items); names: 0 stream, 1 code, 2 items, 3 odd, 4 bad, 5 wrong, 6 cases, 7 way, 8 one, 9 thing, 10 word, 11 given, 12 found -/
def S__law_refused_right_1 : SS := (sSet 3 (e2 opIx (eLst (aCons (eC .non) (aCons (eC (.int 7)) (aCons eDict0 (aCons (eC (.str [48])) (aCons (e2 opAdd (eV 2) (eLst (aCons (eN cLen (aCons (eV 1) aNil)) aNil))) (aCons (e2 opAdd (eV 2) (eLst (aCons (e1 opNeg (eC (.int 1))) aNil))) (aCons (e2 opAdd (eV 2) (eLst (aCons (eC (.bl true)) aNil))) (aCons (e2 opAdd (eV 2) (eLst (aCons (eC .non) aNil))) (aCons (eLst (aCons (eLst (aCons (eC (.int 0)) aNil)) aNil)) aNil)))))))))) (eN F__law_take (aCons (eV 0) (aCons (eC (.int 9)) aNil)))))
def S__law_refused_right_2 : SS := (sSet 4 (e2 opIx (eLst (aCons (eC .non) (aCons (eC (.int 7)) (aCons eDict0 (aCons (eC (.str [48, 49])) (aCons (eLst aNil) (aCons (e2 opAdd (eV 1) (eLst (aCons (e2 opIx (eV 1) (eC (.int 0))) aNil))) (aCons (e2 opAdd (eV 1) (eLst (aCons (eC .non) aNil))) (aCons (eLst (aCons (eC (.str [50])) aNil)) (aCons (eLst (aCons (eC (.str [48])) (aCons (eC (.str [48, 49])) aNil))) (aCons (eLst (aCons (eC (.str [])) (aCons (eC (.str [48])) aNil))) aNil))))))))))) (eN F__law_take (aCons (eV 0) (aCons (eC (.int 10)) aNil)))))
def S__law_refused_right_3 : SS := (sSet 5 (e2 opIx (eLst (aCons (eC .non) (aCons (eC (.int 7)) (aCons eDict0 (aCons (eLst (aCons (eC (.str [48])) aNil)) (aCons (eN F__law_odd_text (aCons (eV 0) aNil)) (aCons (eC (.bl true)) (aCons (eTup (aCons (eC (.str [48])) aNil)) aNil)))))))) (eN F__law_take (aCons (eV 0) (aCons (eC (.int 7)) aNil)))))
def S__law_refused_right_4 : SS := (sSet 6 (eLst (aCons (eTup (aCons (eC (.int 0)) (aCons (eV 4) (aCons (eV 3) (aCons (eC (.str [99, 111, 100, 101])) (aCons (eV 4) aNil)))))) (aCons (eTup (aCons (eC (.int 1)) (aCons (eV 4) (aCons (eV 5) (aCons (eC (.str [99, 111, 100, 101])) (aCons (eV 4) aNil)))))) (aCons (eTup (aCons (eC (.int 0)) (aCons (eV 1) (aCons (eV 3) (aCons (eC (.str [98, 105, 116, 115])) (aCons (eV 3) aNil)))))) (aCons (eTup (aCons (eC (.int 1)) (aCons (eV 1) (aCons (eV 5) (aCons (eC (.str [98, 105, 116, 115])) (aCons (eV 5) aNil)))))) aNil))))))
def S__law_refused_right_5 : SS := (sSet 12 (eN F__law_asked (aCons (eV 7) (aCons (eV 8) (aCons (eV 9) aNil)))))
def S__law_refused_right_6 : SS := (sIf (bOr (bB (e2 opNe (e2 opIx (eV 12) (eC (.int 0))) (eV 10))) (bNot (bT (eN F__law_very (aCons (e2 opIx (eV 12) (eC (.int 1))) (aCons (eV 11) aNil)))))) (sRet (eC (.bl false))) sNop)
def S__law_refused_right_7 : SS := (sFor (iSeq (eV 6)) (.tp [7, 8, 9, 10, 11]) (sSeq S__law_refused_right_5
  S__law_refused_right_6))
def B__law_refused_right : SS := (sSeq S__law_refused_right_1
  (sSeq S__law_refused_right_2
  (sSeq S__law_refused_right_3
  (sSeq S__law_refused_right_4
  (sSeq S__law_refused_right_7
  (sRet (eAnd (eN F__law_is_code (aCons (eV 1) aNil)) (eNot (eN F__law_is_code (aCons (eV 4) aNil))))))))))
def F__law_refused_right : List W → Sto → R W := dfn 3 13 B__law_refused_right
/-- law(script); names: 0 script, 1 k, 2 stream, 3 code, 4 items, 5 turn -/
def S_law_1 : SS := (sSet 2 (eN F__law_stream (aCons (eN F__law_cell (aCons (eV 0) (aCons (eV 1) aNil))) aNil)))
def S_law_2 : SS := (sSet 3 (eN F__law_drawn (aCons (eV 2) aNil)))
def L_law_3 : ES := (eLc [5] (iRng1 (e2 opIx (eLst (aCons (eN F__law_take (aCons (eV 2) (aCons (eC (.int 9)) aNil))) (aCons (eN F__law_take (aCons (eV 2) (aCons (eC (.int 61)) aNil))) aNil))) (eN F__law_take (aCons (eV 2) (aCons (eC (.int 2)) aNil))))) (.nm 5) bYes (eN F__law_take (aCons (eV 2) (aCons (eN cLen (aCons (eV 3) aNil)) aNil))))
def S_law_4 : SS := (sSet 4 L_law_3)
def S_law_5 : SS := (sIf (bOr (bNot (bT (eN F__law_right (aCons (eV 2) (aCons (eV 3) (aCons (eV 4) aNil)))))) (bNot (bT (eN F__law_refused_right (aCons (eV 2) (aCons (eV 3) (aCons (eV 4) aNil))))))) (sRet (eC (.bl false))) sNop)
def S_law_6 : SS := (sFor (iRng1 (eN cMax2 (aCons (eC (.int 2)) (aCons (eN cMin2 (aCons (eC (.int 8)) (aCons (eN cLen (aCons (eV 0) aNil)) aNil))) aNil)))) (.nm 1) (sSeq S_law_1
  (sSeq S_law_2
  (sSeq S_law_4
  S_law_5))))
def B_law : SS := (sSeq S_law_6
  (sRet (eC (.bl true))))
def F_law : List W → Sto → R W := dfn 1 6 B_law
end k82

set_option Elab.async false
set_option linter.all false
set_option maxRecDepth 100000
set_option maxHeartbeats 0
/-! law_k82_items_as_bits: the walks. Printed by gen.py. -/
namespace k82
open PySem L2 Mi
set_option autoImplicit false
def top (i : Nat) : Stmt := PySem.Challenge.pw_rowsjoined_k82_items_as_bits.main.body.getD i (.Pass ⟨0, 0, 0, 0⟩)
def inC (st : Stmt) (j : Nat) : Stmt := match st with
  | .ClassDef (body := b) .. => b.getD j (.Pass ⟨0, 0, 0, 0⟩)
  | _ => .Pass ⟨0, 0, 0, 0⟩
abbrev d_is_whole : Dd := ⟨"is_whole", "is_whole", ["thing"], top 5⟩
abbrev d_is_bits : Dd := ⟨"is_bits", "is_bits", ["thing"], top 9⟩
abbrev d_is_code : Dd := ⟨"is_code", "is_code", ["value"], top 10⟩
abbrev d_need_code : Dd := ⟨"need_code", "need_code", ["code"], top 11⟩
abbrev d_bits_of : Dd := ⟨"bits_of", "bits_of", ["code", "items"], top 12⟩
abbrev d_item_at : Dd := ⟨"item_at", "item_at", ["code", "text", "at"], top 13⟩
abbrev d_read_items : Dd := ⟨"read_items", "read_items", ["code", "text"], top 14⟩
abbrev d__law_cell : Dd := ⟨"_law_cell", "_law_cell", ["script", "k"], top 16⟩
abbrev d__law_stream : Dd := ⟨"_law_stream", "_law_stream", ["cell"], top 17⟩
abbrev d__law_take : Dd := ⟨"_law_take", "_law_take", ["stream", "many"], top 18⟩
abbrev d__law_is : Dd := ⟨"_law_is", "_law_is", ["told", "due"], top 19⟩
abbrev d__law_very : Dd := ⟨"_law_very", "_law_very", ["given", "thing"], top 20⟩
abbrev d__law_is_code : Dd := ⟨"_law_is_code", "_law_is_code", ["value"], top 21⟩
abbrev d__law_drawn : Dd := ⟨"_law_drawn", "_law_drawn", ["stream"], top 22⟩
abbrev d__law_read : Dd := ⟨"_law_read", "_law_read", ["code", "text"], top 23⟩
abbrev d__law_asked : Dd := ⟨"_law_asked", "_law_asked", ["way", "code", "thing"], top 24⟩
abbrev d__law_right : Dd := ⟨"_law_right", "_law_right", ["stream", "code", "items"], top 25⟩
abbrev d__law_odd_text : Dd := ⟨"_law_odd_text", "_law_odd_text", ["stream"], top 27⟩
abbrev d__law_refused_right : Dd := ⟨"_law_refused_right", "_law_refused_right", ["stream", "code", "items"], top 26⟩
abbrev d_law : Dd := ⟨"law", "law", ["script"], top 28⟩
/-- what the head tells -/
structure En (P : Program) (w : World) (K : PySem.W.Frag) (mg : Str → Option Value) (base : Heap) (ca : Ca) : Prop where
  sys : (K.lookup sysModules).isSome = true
  b_all : mg "all" = none
  b_any : mg "any" = none
  b_bool : mg "bool" = none
  b_dict : mg "dict" = none
  b_enumerate : mg "enumerate" = none
  b_int : mg "int" = none
  b_isinstance : mg "isinstance" = none
  b_len : mg "len" = none
  b_list : mg "list" = none
  b_max : mg "max" = none
  b_min : mg "min" = none
  b_range : mg "range" = none
  b_repr : mg "repr" = none
  b_str : mg "str" = none
  b_tuple : mg "tuple" = none
  c_MOST_ITEMS : ∃ t, mg "MOST_ITEMS" = some (.int 40 t)
  c_MOST_LENGTH : ∃ t, mg "MOST_LENGTH" = some (.int 60 t)
  f_is_whole : ∃ f fd, mg d_is_whole.nm = some (.ref f) ∧ FunD K d_is_whole.nm d_is_whole.qual (defArgs d_is_whole.st) (defBody d_is_whole.st) (defScope d_is_whole.st) [] [] f fd
  f_is_bits : ∃ f fd, mg d_is_bits.nm = some (.ref f) ∧ FunD K d_is_bits.nm d_is_bits.qual (defArgs d_is_bits.st) (defBody d_is_bits.st) (defScope d_is_bits.st) [] [] f fd
  f_is_code : ∃ f fd, mg d_is_code.nm = some (.ref f) ∧ FunD K d_is_code.nm d_is_code.qual (defArgs d_is_code.st) (defBody d_is_code.st) (defScope d_is_code.st) [] [] f fd
  f_need_code : ∃ f fd, mg d_need_code.nm = some (.ref f) ∧ FunD K d_need_code.nm d_need_code.qual (defArgs d_need_code.st) (defBody d_need_code.st) (defScope d_need_code.st) [] [] f fd
  f_bits_of : ∃ f fd, mg d_bits_of.nm = some (.ref f) ∧ FunD K d_bits_of.nm d_bits_of.qual (defArgs d_bits_of.st) (defBody d_bits_of.st) (defScope d_bits_of.st) [] [] f fd
  f_item_at : ∃ f fd, mg d_item_at.nm = some (.ref f) ∧ FunD K d_item_at.nm d_item_at.qual (defArgs d_item_at.st) (defBody d_item_at.st) (defScope d_item_at.st) [] [] f fd
  f_read_items : ∃ f fd, mg d_read_items.nm = some (.ref f) ∧ FunD K d_read_items.nm d_read_items.qual (defArgs d_read_items.st) (defBody d_read_items.st) (defScope d_read_items.st) [] [] f fd
  f__law_cell : ∃ f fd, mg d__law_cell.nm = some (.ref f) ∧ FunD K d__law_cell.nm d__law_cell.qual (defArgs d__law_cell.st) (defBody d__law_cell.st) (defScope d__law_cell.st) [] [] f fd
  f__law_stream : ∃ f fd, mg d__law_stream.nm = some (.ref f) ∧ FunD K d__law_stream.nm d__law_stream.qual (defArgs d__law_stream.st) (defBody d__law_stream.st) (defScope d__law_stream.st) [] [] f fd
  f__law_take : ∃ f fd, mg d__law_take.nm = some (.ref f) ∧ FunD K d__law_take.nm d__law_take.qual (defArgs d__law_take.st) (defBody d__law_take.st) (defScope d__law_take.st) [] [] f fd
  f__law_is : ∃ f fd, mg d__law_is.nm = some (.ref f) ∧ FunD K d__law_is.nm d__law_is.qual (defArgs d__law_is.st) (defBody d__law_is.st) (defScope d__law_is.st) [] [] f fd
  f__law_very : ∃ f fd, mg d__law_very.nm = some (.ref f) ∧ FunD K d__law_very.nm d__law_very.qual (defArgs d__law_very.st) (defBody d__law_very.st) (defScope d__law_very.st) [] [] f fd
  f__law_is_code : ∃ f fd, mg d__law_is_code.nm = some (.ref f) ∧ FunD K d__law_is_code.nm d__law_is_code.qual (defArgs d__law_is_code.st) (defBody d__law_is_code.st) (defScope d__law_is_code.st) [] [] f fd
  f__law_drawn : ∃ f fd, mg d__law_drawn.nm = some (.ref f) ∧ FunD K d__law_drawn.nm d__law_drawn.qual (defArgs d__law_drawn.st) (defBody d__law_drawn.st) (defScope d__law_drawn.st) [] [] f fd
  f__law_read : ∃ f fd, mg d__law_read.nm = some (.ref f) ∧ FunD K d__law_read.nm d__law_read.qual (defArgs d__law_read.st) (defBody d__law_read.st) (defScope d__law_read.st) [] [] f fd
  f__law_asked : ∃ f fd, mg d__law_asked.nm = some (.ref f) ∧ FunD K d__law_asked.nm d__law_asked.qual (defArgs d__law_asked.st) (defBody d__law_asked.st) (defScope d__law_asked.st) [] [] f fd
  f__law_right : ∃ f fd, mg d__law_right.nm = some (.ref f) ∧ FunD K d__law_right.nm d__law_right.qual (defArgs d__law_right.st) (defBody d__law_right.st) (defScope d__law_right.st) [] [] f fd
  f__law_odd_text : ∃ f fd, mg d__law_odd_text.nm = some (.ref f) ∧ FunD K d__law_odd_text.nm d__law_odd_text.qual (defArgs d__law_odd_text.st) (defBody d__law_odd_text.st) (defScope d__law_odd_text.st) [] [] f fd
  f__law_refused_right : ∃ f fd, mg d__law_refused_right.nm = some (.ref f) ∧ FunD K d__law_refused_right.nm d__law_refused_right.qual (defArgs d__law_refused_right.st) (defBody d__law_refused_right.st) (defScope d__law_refused_right.st) [] [] f fd
  f_law : ∃ f fd, mg d_law.nm = some (.ref f) ∧ FunD K d_law.nm d_law.qual (defArgs d_law.st) (defBody d_law.st) (defScope d_law.st) [] [] f fd
  x_NoCode : ExOk P w K mg base ca 0 "NoCode" "given"
  x_NoBits : ExOk P w K mg base ca 1 "NoBits" "given"
  y_NoBits : CatOk K mg ca "NoBits" (fun i => i == 1)
  y_NoCode : CatOk K mg ca "NoCode" (fun i => i == 0)
  y_RowsError : CatOk K mg ca "RowsError" (fun _ => true)
section
variable {P : Program} {w : World} {K : PySem.W.Frag} {mg : Str → Option Value} {base : Heap} {ca : Ca}
theorem sc_is_whole : FnScope ["thing"] d_is_whole.ps (defScope d_is_whole.st) := ⟨rfl, rfl, rfl, by decide +kernel, rfl, by decide +kernel, by decide +kernel⟩
theorem ok_is_whole (en : En P w K mg base ca) : DOk P w K mg base ca 1 d_is_whole F_is_whole := by
  have hN : (["thing"] : List Str).Nodup := sc_is_whole.nd
  refine dokE 0 en.f_is_whole sc_is_whole fun f cdv A outer s H E hr tk hp => ?_
  exact (mss_one (ms_ret (me_and (me_isi en.b_isinstance (me_var 0) (ty_n en.b_int)) (me_one (me_not (me_isi en.b_isinstance (me_var 0) (ty_n en.b_bool)))))))
theorem sc_is_bits : FnScope ["thing", "sign"] d_is_bits.ps (defScope d_is_bits.st) := ⟨rfl, rfl, rfl, by decide +kernel, rfl, by decide +kernel, by decide +kernel⟩
theorem ok_is_bits (en : En P w K mg base ca) : DOk P w K mg base ca 1 d_is_bits F_is_bits := by
  have hN : (["thing", "sign"] : List Str).Nodup := sc_is_bits.nd
  refine dokE 0 en.f_is_bits sc_is_bits fun f cdv A outer s H E hr tk hp => ?_
  exact (mss_one (ms_ret (me_and (me_isi en.b_isinstance (me_var 0) (ty_n en.b_str)) (me_one (me_cb (cm_all rfl) en.b_all (ma_cons (me_lc [("sign", 1)] rfl hN (mi_str (me_var 0)) (fun _ _ _ _ _ => (mg_name 1 hN)) (fun _ _ _ _ _ => mts_nil) (fun _ _ _ _ _ => (me_cmp om_in (me_var 1) (me_str (s := [48, 49])) rfl))) ma_nil))))))
theorem sc_is_code : FnScope ["value", "places", "word", "one", "other"] d_is_code.ps (defScope d_is_code.st) := ⟨rfl, rfl, rfl, by decide +kernel, rfl, by decide +kernel, by decide +kernel⟩
theorem ok_is_code (en : En P w K mg base ca) : DOk P w K mg base ca 2 d_is_code F_is_code := by
  have hN : (["value", "places", "word", "one", "other"] : List Str).Nodup := sc_is_code.nd
  refine dokE 1 en.f_is_code sc_is_code fun f cdv A outer s H E hr tk hp => ?_
  exact (mss_cons (ms_if (mt_w (mt_or' (mt_not (mt_truth (me_isiT en.b_isinstance (me_var 0) (.cons (ty_n en.b_list) (.cons (ty_n en.b_tuple) .nil))))) (mt_or1 (mt_not (mt_ch om_le om_le me_int (me_cb cm_len en.b_len (ma_cons (me_var 0) ma_nil)) (me_glI en.c_MOST_ITEMS)))))) (mss_one (ms_ret me_bl)) mss_nil)
  (mss_cons (ms_if (mt_not (mt_truth (me_cb (cm_all rfl) en.b_all (ma_cons (me_lc [("word", 2)] rfl hN (mi_seq (me_var 0)) (fun _ _ _ _ _ => (mg_name 2 hN)) (fun _ _ _ _ _ => mts_nil) (fun _ _ _ _ _ => (me_and (me_call (d := d_is_bits) (ok_is_bits en) (fun _ _ _ _ _ _ us hl => match us, hl with | [_], _ => rfl) (hr.mono (by decide)) tk0 (ma_cons (me_var 2) ma_nil)) (me_one (me_cmp om_le (me_cb cm_len en.b_len (ma_cons (me_var 2) ma_nil)) (me_glI en.c_MOST_LENGTH) rfl))))) ma_nil)))) (mss_one (ms_ret me_bl)) mss_nil)
  (mss_cons (ms_set 1 hN (me_ct cm_rng en.b_range (ma_cons (me_cb cm_len en.b_len (ma_cons (me_var 0) ma_nil)) ma_nil)))
  (mss_one (ms_ret (me_not (me_cb (cm_any rfl) en.b_any (ma_cons (me_lc2 [("one", 3), ("other", 4)] [4] rfl hN (mi_rngV (me_var 1)) (fun _ _ _ _ _ => (mg_name 3 hN)) (fun _ _ _ _ _ => mts_nil) (fun _ _ _ _ _ => (mi_rngV (me_var 1))) (fun _ _ _ _ _ => (mg_name 4 hN)) (fun _ _ _ _ _ => (mts_one (mt_cmp (om_ne hr.u64) (me_var 3) (me_var 4) rfl))) (fun _ _ _ _ _ => (me_starts (me_ix (me_var 0) (me_var 4)) (me_ix (me_var 0) (me_var 3))))) ma_nil))))))))
theorem sc_need_code : FnScope ["code"] d_need_code.ps (defScope d_need_code.st) := ⟨rfl, rfl, rfl, by decide +kernel, rfl, by decide +kernel, by decide +kernel⟩
theorem ok_need_code (en : En P w K mg base ca) : DOk P w K mg base ca 3 d_need_code F_need_code := by
  have hN : (["code"] : List Str).Nodup := sc_need_code.nd
  refine dokE 2 en.f_need_code sc_need_code fun f cdv A outer s H E hr tk hp => ?_
  exact (mss_one (ms_if (mt_not (mt_truth (me_call (d := d_is_code) (ok_is_code en) (fun _ _ _ _ _ _ us hl => match us, hl with | [_], _ => rfl) (hr.mono (by decide)) tk (ma_cons (me_var 0) ma_nil)))) (mss_one (ms_raiseE rfl tk en.x_NoCode (hr.mono (by omega)) (me_var 0))) mss_nil))
theorem sc_bits_of : FnScope ["code", "items", "one"] d_bits_of.ps (defScope d_bits_of.st) := ⟨rfl, rfl, rfl, by decide +kernel, rfl, by decide +kernel, by decide +kernel⟩
theorem ok_bits_of (en : En P w K mg base ca) : DOk P w K mg base ca 4 d_bits_of F_bits_of := by
  have hN : (["code", "items", "one"] : List Str).Nodup := sc_bits_of.nd
  refine dokE 3 en.f_bits_of sc_bits_of fun f cdv A outer s H E hr tk hp => ?_
  exact (mss_cons (ms_expr (me_call (d := d_need_code) (ok_need_code en) (fun _ _ _ _ _ _ us hl => match us, hl with | [_], _ => rfl) (hr.mono (by decide)) tk (ma_cons (me_var 0) ma_nil)))
  (mss_cons (ms_if (mt_w (mt_or' (mt_not (mt_truth (me_isiT en.b_isinstance (me_var 1) (.cons (ty_n en.b_list) (.cons (ty_n en.b_tuple) .nil))))) (mt_or1 (mt_not (mt_truth (me_cb (cm_all rfl) en.b_all (ma_cons (me_lc [("one", 2)] rfl hN (mi_seq (me_var 1)) (fun _ _ _ _ _ => (mg_name 2 hN)) (fun _ _ _ _ _ => mts_nil) (fun _ _ _ _ _ => (me_and (me_call (d := d_is_whole) (ok_is_whole en) (fun _ _ _ _ _ _ us hl => match us, hl with | [_], _ => rfl) (hr.mono (by decide)) tk0 (ma_cons (me_var 2) ma_nil)) (me_one (me_ch om_le om_lt me_int (me_var 2) (me_cb cm_len en.b_len (ma_cons (me_var 0) ma_nil))))))) ma_nil))))))) (mss_one (ms_raiseE rfl tk en.x_NoBits (hr.mono (by omega)) (me_var 1))) mss_nil)
  (mss_one (ms_ret (me_join (me_str (s := [])) (me_lc [("one", 2)] rfl hN (mi_seq (me_var 1)) (fun _ _ _ _ _ => (mg_name 2 hN)) (fun _ _ _ _ _ => mts_nil) (fun _ _ _ _ _ => (me_ix (me_var 0) (me_var 2)))))))))
theorem sc_item_at : FnScope ["code", "text", "at", "found", "one", "word"] d_item_at.ps (defScope d_item_at.st) := ⟨rfl, rfl, rfl, by decide +kernel, rfl, by decide +kernel, by decide +kernel⟩
theorem ok_item_at (en : En P w K mg base ca) : DOk P w K mg base ca 1 d_item_at F_item_at := by
  have hN : (["code", "text", "at", "found", "one", "word"] : List Str).Nodup := sc_item_at.nd
  refine dokE 0 en.f_item_at sc_item_at fun f cdv A outer s H E hr tk hp => ?_
  exact (mss_cons (ms_setLc 3 [("one", 4), ("word", 5)] rfl hN (mi_enum en.b_enumerate (me_var 0)) (fun _ _ _ _ _ => (mg_tup rfl (mgs_cons 4 hN (mgs_cons 5 hN mgs_nil)))) (fun _ _ _ _ _ => (mts_one (mt_cmp (om_eq hr.u64) (me_sl (me_var 1) (mo_some (me_var 2)) (mo_some (me_op om_add (me_var 2) (me_cb cm_len en.b_len (ma_cons (me_var 5) ma_nil))))) (me_var 5) rfl))) (fun _ _ _ _ _ => (me_var 4)))
  (mss_one (ms_ret (me_if (mt_cmp (om_ne hr.u64) (me_var 3) (me_lst ma_nil) rfl) (me_ix (me_var 3) me_int) me_non))))
theorem sc_read_items : FnScope ["code", "text", "found", "at", "item"] d_read_items.ps (defScope d_read_items.st) := ⟨rfl, rfl, rfl, by decide +kernel, rfl, by decide +kernel, by decide +kernel⟩
theorem ok_read_items (en : En P w K mg base ca) : DOk P w K mg base ca 4 d_read_items F_read_items := by
  have hN : (["code", "text", "found", "at", "item"] : List Str).Nodup := sc_read_items.nd
  refine dokE 3 en.f_read_items sc_read_items fun f cdv A outer s H E hr tk hp => ?_
  exact (mss_cons (ms_expr (me_call (d := d_need_code) (ok_need_code en) (fun _ _ _ _ _ _ us hl => match us, hl with | [_], _ => rfl) (hr.mono (by decide)) tk (ma_cons (me_var 0) ma_nil)))
  (mss_cons (ms_if (mt_w (mt_or' (mt_not (mt_truth (me_call (d := d_is_bits) (ok_is_bits en) (fun _ _ _ _ _ _ us hl => match us, hl with | [_], _ => rfl) (hr.mono (by decide)) tk (ma_cons (me_var 1) ma_nil)))) (mt_or1 (mt_w (mt_and' (mt_cmp (om_eq hr.u64) (me_ix (me_var 0) me_int) (me_str (s := [])) rfl) (mt_and1 (mt_cmp (om_ne hr.u64) (me_var 1) (me_str (s := [])) rfl))))))) (mss_one (ms_raiseE rfl tk en.x_NoBits (hr.mono (by omega)) (me_var 1))) mss_nil)
  (mss_cons (ms_par 2 3 rfl hN (me_lst ma_nil) me_int)
  (mss_cons (ms_while hp (mt_cmp om_lt (me_var 3) (me_cb cm_len en.b_len (ma_cons (me_var 1) ma_nil)) rfl) (mss_cons (ms_set 4 hN (me_call (d := d_item_at) (ok_item_at en) (fun _ _ _ _ _ _ us hl => match us, hl with | [_, _, _], _ => rfl) (hr.mono (by decide)) tk (ma_cons (me_var 0) (ma_cons (me_var 1) (ma_cons (me_var 3) ma_nil)))))
  (mss_cons (ms_if (mt_isN (me_var 4)) (mss_one (ms_raiseE rfl tk en.x_NoBits (hr.mono (by omega)) (me_var 1))) mss_nil)
  (mss_cons (ms_expr (me_app (me_var 2) (me_var 4)))
  (mss_one (ms_set 3 hN (me_op om_add (me_var 3) (me_cb cm_len en.b_len (ma_cons (me_ix (me_var 0) (me_var 4)) ma_nil)))))))))
  (mss_one (ms_ret (me_var 2)))))))
theorem sc__law_cell : FnScope ["script", "k"] d__law_cell.ps (defScope d__law_cell.st) := ⟨rfl, rfl, rfl, by decide +kernel, rfl, by decide +kernel, by decide +kernel⟩
theorem ok__law_cell (en : En P w K mg base ca) : DOk P w K mg base ca 1 d__law_cell F__law_cell := by
  have hN : (["script", "k"] : List Str).Nodup := sc__law_cell.nd
  refine dokE 0 en.f__law_cell sc__law_cell fun f cdv A outer s H E hr tk hp => ?_
  exact (mss_cons (ms_if (mt_cmp om_lt (me_var 1) (me_cb cm_len en.b_len (ma_cons (me_var 0) ma_nil)) rfl) (mss_one (ms_ret (me_ix (me_var 0) (me_var 1)))) mss_nil)
  (mss_one (ms_ret (me_op om_add (me_op om_mul me_int (me_var 1)) me_int))))
theorem sc__law_stream : FnScope ["cell"] d__law_stream.ps (defScope d__law_stream.st) := ⟨rfl, rfl, rfl, by decide +kernel, rfl, by decide +kernel, by decide +kernel⟩
theorem ok__law_stream (en : En P w K mg base ca) : DOk P w K mg base ca 1 d__law_stream F__law_stream := by
  have hN : (["cell"] : List Str).Nodup := sc__law_stream.nd
  refine dokE 0 en.f__law_stream sc__law_stream fun f cdv A outer s H E hr tk hp => ?_
  exact (mss_one (ms_ret (me_lst (ma_cons (me_op om_mul (me_var 0) (me_ct cm_int en.b_int (ma_cons (me_cmp om_ge (me_var 0) (me_op om_pow me_int me_int) rfl) ma_nil))) (ma_cons (me_op om_mod (me_var 0) me_int) (ma_cons me_int ma_nil))))))
theorem sc__law_take : FnScope ["stream", "many", "number", "digit"] d__law_take.ps (defScope d__law_take.st) := ⟨rfl, rfl, rfl, by decide +kernel, rfl, by decide +kernel, by decide +kernel⟩
theorem ok__law_take (en : En P w K mg base ca) : DOk P w K mg base ca 1 d__law_take F__law_take := by
  have hN : (["stream", "many", "number", "digit"] : List Str).Nodup := sc__law_take.nd
  refine dokE 0 en.f__law_take sc__law_take fun f cdv A outer s H E hr tk hp => ?_
  exact (mss_cons (ms_if (mt_cmp om_gt (me_ix (me_var 0) me_int) me_int rfl) (mss_cons (ms_set 3 hN (me_op om_mod (me_ix (me_var 0) me_int) (me_var 1)))
  (mss_cons (ms_sub (me_op om_div (me_ix (me_var 0) me_int) (me_var 1)) (me_var 0) me_int)
  (mss_one (ms_ret (me_var 3))))) mss_nil)
  (mss_cons (ms_sub (me_op om_add (me_ix (me_var 0) me_int) me_int) (me_var 0) me_int)
  (mss_cons (ms_set 2 hN (me_op om_mod (me_op om_add (me_op om_mul (me_op om_add (me_ix (me_var 0) me_int) (me_op om_mul me_int (me_ix (me_var 0) me_int))) me_int) me_int) me_int))
  (mss_cons (ms_set 2 hN (me_op om_mod (me_op om_mul (me_var 2) (me_var 2)) me_int))
  (mss_one (ms_ret (me_op om_mod (me_op om_div (me_op om_mod (me_op om_add (me_op om_mul (me_var 2) (me_var 2)) (me_op om_mul me_int (me_ix (me_var 0) me_int))) me_int) me_int) (me_var 1))))))))
theorem sc__law_is : FnScope ["told", "due", "k"] d__law_is.ps (defScope d__law_is.st) := ⟨rfl, rfl, rfl, by decide +kernel, rfl, by decide +kernel, by decide +kernel⟩
theorem ok__law_is (en : En P w K mg base ca) : ∀ n : Nat, DOk P w K mg base ca (n + 1) d__law_is (F__law_is n)
  | 0 => by
    obtain ⟨f, fd, hm, FD⟩ := en.f__law_is
    exact dok0 hm FD
  | n + 1 => by
    have ih := ok__law_is en n
    have hN : (["told", "due", "k"] : List Str).Nodup := sc__law_is.nd
    refine dokE (n + 1) en.f__law_is sc__law_is fun f cdv A outer s H E hr tk hp => ?_
    exact (mss_cons (ms_if (mt_truth (me_isiT en.b_isinstance (me_var 1) (.cons (ty_n en.b_list) (.cons (ty_n en.b_tuple) .nil)))) (mss_cons (ms_if (mt_w (mt_or' (mt_not (mt_truth (me_isiT en.b_isinstance (me_var 0) (.cons (ty_n en.b_list) (.cons (ty_n en.b_tuple) .nil))))) (mt_or' (mt_cmp (om_ne hr.u64) (me_isi en.b_isinstance (me_var 0) (ty_n en.b_list)) (me_isi en.b_isinstance (me_var 1) (ty_n en.b_list)) rfl) (mt_or1 (mt_cmp (om_ne hr.u64) (me_cb cm_len en.b_len (ma_cons (me_var 0) ma_nil)) (me_cb cm_len en.b_len (ma_cons (me_var 1) ma_nil)) rfl))))) (mss_one (ms_ret me_bl)) mss_nil)
  (mss_one (ms_ret (me_cmp (om_eq hr.u64) (me_lc [("k", 2)] rfl hN (mi_rng1 en.b_range (me_cb cm_len en.b_len (ma_cons (me_var 1) ma_nil))) (fun _ _ _ _ _ => (mg_name 2 hN)) (fun _ _ _ _ _ => (mts_one (mt_not (mt_truth (me_call (d := d__law_is) ih (fun _ _ _ _ _ _ us hl => match us, hl with | [_, _], _ => rfl) hr tk0 (ma_cons (me_ix (me_var 0) (me_var 2)) (ma_cons (me_ix (me_var 1) (me_var 2)) ma_nil))))))) (fun _ _ _ _ _ => (me_var 2))) (me_lst ma_nil) rfl)))) mss_nil)
  (mss_cons (ms_if (mt_isN (me_var 1)) (mss_one (ms_ret (me_isN (me_var 0)))) mss_nil)
  (mss_cons (ms_if (mt_truth (me_isi en.b_isinstance (me_var 1) (ty_n en.b_bool))) (mss_one (ms_ret (me_and (me_isi en.b_isinstance (me_var 0) (ty_n en.b_bool)) (me_one (me_cmp (om_eq hr.u64) (me_var 0) (me_var 1) rfl))))) mss_nil)
  (mss_cons (ms_if (mt_truth (me_isi en.b_isinstance (me_var 1) (ty_n en.b_str))) (mss_one (ms_ret (me_and (me_isi en.b_isinstance (me_var 0) (ty_n en.b_str)) (me_one (me_cmp (om_eq hr.u64) (me_var 0) (me_var 1) rfl))))) mss_nil)
  (mss_one (ms_ret (me_and (me_isi en.b_isinstance (me_var 0) (ty_n en.b_int)) (me_and (me_not (me_isi en.b_isinstance (me_var 0) (ty_n en.b_bool))) (me_one (me_cmp (om_eq hr.u64) (me_var 0) (me_var 1) rfl))))))))))
theorem sc__law_very : FnScope ["given", "thing", "same"] d__law_very.ps (defScope d__law_very.st) := ⟨rfl, rfl, rfl, by decide +kernel, rfl, by decide +kernel, by decide +kernel⟩
theorem ok__law_very (en : En P w K mg base ca) : DOk P w K mg base ca 1 d__law_very F__law_very := by
  have hN : (["given", "thing", "same"] : List Str).Nodup := sc__law_very.nd
  refine dokE 0 en.f__law_very sc__law_very fun f cdv A outer s H E hr tk hp => ?_
  exact (mss_cons (ms_if (mt_truth (me_isi en.b_isinstance (me_var 1) (ty_n en.b_list))) (mss_one (ms_expr (me_app (me_var 1) (me_str (s := [109, 111, 114, 101]))))) mss_nil)
  (mss_cons (ms_if (mt_truth (me_isi en.b_isinstance (me_var 1) (ty_n en.b_dict))) (mss_one (ms_dict hr.u1 me_int (me_var 1) (me_str (s := [109, 111, 114, 101])))) mss_nil)
  (mss_cons (ms_set 2 hN (me_cmp (om_eq hr.u64) (me_cb (cm_repr (hr.mono (by omega)) en.sys) en.b_repr (ma_cons (me_var 0) ma_nil)) (me_cb (cm_repr (hr.mono (by omega)) en.sys) en.b_repr (ma_cons (me_var 1) ma_nil)) rfl))
  (mss_cons (ms_if (mt_truth (me_isi en.b_isinstance (me_var 1) (ty_n en.b_list))) (mss_one (ms_expr (me_pop0 (me_var 1)))) mss_nil)
  (mss_cons (ms_if (mt_truth (me_isi en.b_isinstance (me_var 1) (ty_n en.b_dict))) (mss_one (ms_expr (me_dpopR (me_var 1) (me_str (s := [109, 111, 114, 101]))))) mss_nil)
  (mss_one (ms_ret (me_var 2))))))))
theorem sc__law_is_code : FnScope ["value", "k", "word", "m", "sign"] d__law_is_code.ps (defScope d__law_is_code.st) := ⟨rfl, rfl, rfl, by decide +kernel, rfl, by decide +kernel, by decide +kernel⟩
theorem ok__law_is_code (en : En P w K mg base ca) : DOk P w K mg base ca 1 d__law_is_code F__law_is_code := by
  have hN : (["value", "k", "word", "m", "sign"] : List Str).Nodup := sc__law_is_code.nd
  refine dokE 0 en.f__law_is_code sc__law_is_code fun f cdv A outer s H E hr tk hp => ?_
  exact (mss_cons (ms_if (mt_w (mt_or' (mt_not (mt_truth (me_isiT en.b_isinstance (me_var 0) (.cons (ty_n en.b_list) (.cons (ty_n en.b_tuple) .nil))))) (mt_or1 (mt_not (mt_ch om_le om_le me_int (me_cb cm_len en.b_len (ma_cons (me_var 0) ma_nil)) me_int))))) (mss_one (ms_ret me_bl)) mss_nil)
  (mss_cons (ms_if (mt_cmp (om_ne hr.u64) (me_lc [("word", 2)] rfl hN (mi_seq (me_var 0)) (fun _ _ _ _ _ => (mg_name 2 hN)) (fun _ _ _ _ _ => (mts_one (mt_w (mt_or' (mt_not (mt_truth (me_isi en.b_isinstance (me_var 2) (ty_n en.b_str)))) (mt_or' (mt_cmp om_gt (me_cb cm_len en.b_len (ma_cons (me_var 2) ma_nil)) me_int rfl) (mt_or1 (mt_cmp (om_ne hr.u64) (me_lc [("sign", 4)] rfl hN (mi_str (me_var 2)) (fun _ _ _ _ _ => (mg_name 4 hN)) (fun _ _ _ _ _ => (mts_one (mt_cmp om_notIn (me_var 4) (me_str (s := [48, 49])) rfl))) (fun _ _ _ _ _ => (me_var 4))) (me_lst ma_nil) rfl))))))) (fun _ _ _ _ _ => (me_var 2))) (me_lst ma_nil) rfl) (mss_one (ms_ret me_bl)) mss_nil)
  (mss_cons (ms_for hp rfl (mi_enum en.b_enumerate (me_var 0)) (mg_tup rfl (mgs_cons 1 hN (mgs_cons 2 hN mgs_nil))) (mss_one (ms_if (mt_cmp (om_ne hr.u64) (me_lc [("m", 3)] rfl hN (mi_rng1 en.b_range (me_cb cm_len en.b_len (ma_cons (me_var 0) ma_nil))) (fun _ _ _ _ _ => (mg_name 3 hN)) (fun _ _ _ _ _ => (mts_one (mt_w (mt_and' (mt_cmp (om_ne hr.u64) (me_var 3) (me_var 1) rfl) (mt_and1 (mt_cmp (om_eq hr.u64) (me_sl (me_ix (me_var 0) (me_var 3)) mo_none (mo_some (me_cb cm_len en.b_len (ma_cons (me_var 2) ma_nil)))) (me_var 2) rfl)))))) (fun _ _ _ _ _ => (me_var 3))) (me_lst ma_nil) rfl) (mss_one (ms_ret me_bl)) mss_nil)))
  (mss_one (ms_ret me_bl)))))
theorem sc__law_drawn : FnScope ["stream", "found", "turn", "word", "rest", "code"] d__law_drawn.ps (defScope d__law_drawn.st) := ⟨rfl, rfl, rfl, by decide +kernel, rfl, by decide +kernel, by decide +kernel⟩
theorem ok__law_drawn (en : En P w K mg base ca) : DOk P w K mg base ca 2 d__law_drawn F__law_drawn := by
  have hN : (["stream", "found", "turn", "word", "rest", "code"] : List Str).Nodup := sc__law_drawn.nd
  refine dokE 1 en.f__law_drawn sc__law_drawn fun f cdv A outer s H E hr tk hp => ?_
  exact (mss_cons (ms_set 1 hN (me_lst (ma_cons (me_str (s := [])) ma_nil)))
  (mss_cons (ms_for hp rfl (mi_rng1 en.b_range (me_call (d := d__law_take) (ok__law_take en) (fun _ _ _ _ _ _ us hl => match us, hl with | [_, _], _ => rfl) (hr.mono (by decide)) tk (ma_cons (me_var 0) (ma_cons me_int ma_nil)))) (mg_name 2 hN) (mss_cons (ms_set 3 hN (me_pop1 (me_var 1) (me_call (d := d__law_take) (ok__law_take en) (fun _ _ _ _ _ _ us hl => match us, hl with | [_, _], _ => rfl) (hr.mono (by decide)) tk (ma_cons (me_var 0) (ma_cons (me_cb cm_len en.b_len (ma_cons (me_var 1) ma_nil)) ma_nil)))))
  (mss_one (ms_set 1 hN (me_op om_add (me_var 1) (me_lst (ma_cons (me_op om_add (me_var 3) (me_str (s := [48]))) (ma_cons (me_op om_add (me_var 3) (me_str (s := [49]))) ma_nil))))))))
  (mss_cons (ms_if (mt_w (mt_and' (mt_cmp om_gt (me_cb cm_len en.b_len (ma_cons (me_var 1) ma_nil)) me_int rfl) (mt_and1 (mt_cmp (om_eq hr.u64) (me_call (d := d__law_take) (ok__law_take en) (fun _ _ _ _ _ _ us hl => match us, hl with | [_, _], _ => rfl) (hr.mono (by decide)) tk (ma_cons (me_var 0) (ma_cons me_int ma_nil))) me_int rfl)))) (mss_one (ms_expr (me_pop1 (me_var 1) (me_call (d := d__law_take) (ok__law_take en) (fun _ _ _ _ _ _ us hl => match us, hl with | [_, _], _ => rfl) (hr.mono (by decide)) tk (ma_cons (me_var 0) (ma_cons (me_cb cm_len en.b_len (ma_cons (me_var 1) ma_nil)) ma_nil)))))) mss_nil)
  (mss_cons (ms_par 4 5 rfl hN (me_var 1) (me_lst ma_nil))
  (mss_cons (ms_while hp (mt_cmp (om_ne hr.u64) (me_var 4) (me_lst ma_nil) rfl) (mss_one (ms_expr (me_app (me_var 5) (me_pop1 (me_var 4) (me_call (d := d__law_take) (ok__law_take en) (fun _ _ _ _ _ _ us hl => match us, hl with | [_, _], _ => rfl) (hr.mono (by decide)) tk (ma_cons (me_var 0) (ma_cons (me_cb cm_len en.b_len (ma_cons (me_var 4) ma_nil)) ma_nil))))))))
  (mss_one (ms_ret (me_var 5))))))))
theorem sc__law_read : FnScope ["code", "text", "found", "left", "items", "k", "word"] d__law_read.ps (defScope d__law_read.st) := ⟨rfl, rfl, rfl, by decide +kernel, rfl, by decide +kernel, by decide +kernel⟩
theorem ok__law_read (en : En P w K mg base ca) : DOk P w K mg base ca 1 d__law_read F__law_read := by
  have hN : (["code", "text", "found", "left", "items", "k", "word"] : List Str).Nodup := sc__law_read.nd
  refine dokE 0 en.f__law_read sc__law_read fun f cdv A outer s H E hr tk hp => ?_
  exact (mss_cons (ms_if (mt_cmp (om_eq hr.u64) (me_var 0) (me_lst (ma_cons (me_str (s := [])) ma_nil)) rfl) (mss_one (ms_ret (me_if (mt_cmp (om_eq hr.u64) (me_var 1) (me_str (s := [])) rfl) (me_lst ma_nil) me_non))) mss_nil)
  (mss_cons (ms_unp rfl (me_tup (ma_cons (me_lst ma_nil) (ma_cons (me_var 1) ma_nil))) (mgs_cons 2 hN (mgs_cons 3 hN mgs_nil)))
  (mss_cons (ms_while hp (mt_cmp (om_ne hr.u64) (me_var 3) (me_str (s := [])) rfl) (mss_cons (ms_setLc 4 [("k", 5), ("word", 6)] rfl hN (mi_enum en.b_enumerate (me_var 0)) (fun _ _ _ _ _ => (mg_tup rfl (mgs_cons 5 hN (mgs_cons 6 hN mgs_nil)))) (fun _ _ _ _ _ => (mts_one (mt_cmp (om_eq hr.u64) (me_sl (me_var 3) mo_none (mo_some (me_cb cm_len en.b_len (ma_cons (me_var 6) ma_nil)))) (me_var 6) rfl))) (fun _ _ _ _ _ => (me_var 5)))
  (mss_cons (ms_if (mt_cmp (om_eq hr.u64) (me_var 4) (me_lst ma_nil) rfl) (mss_one (ms_ret me_non)) mss_nil)
  (mss_cons (ms_expr (me_app (me_var 2) (me_ix (me_var 4) me_int)))
  (mss_one (ms_set 3 hN (me_sl (me_var 3) (mo_some (me_cb cm_len en.b_len (ma_cons (me_ix (me_var 0) (me_ix (me_var 4) me_int)) ma_nil))) mo_none)))))))
  (mss_one (ms_ret (me_var 2))))))
theorem sc__law_asked : FnScope ["way", "code", "thing", "e"] d__law_asked.ps (defScope d__law_asked.st) := ⟨rfl, rfl, rfl, by decide +kernel, rfl, by decide +kernel, by decide +kernel⟩
theorem ok__law_asked (en : En P w K mg base ca) : DOk P w K mg base ca 5 d__law_asked F__law_asked := by
  have hN : (["way", "code", "thing", "e"] : List Str).Nodup := sc__law_asked.nd
  refine dokE 4 en.f__law_asked sc__law_asked fun f cdv A outer s H E hr tk hp => ?_
  exact (mss_one (ms_try rfl rfl hN tk (fun W pn xe tk1 hp1 => (mss_one (ms_ret (me_lst (ma_cons (me_str (s := [116, 111, 108, 100])) (ma_cons (me_if (mt_cmp (om_eq hr.u64) (me_var 0) me_int rfl) (me_call (d := d_bits_of) (ok_bits_of en) (fun _ _ _ _ _ _ us hl => match us, hl with | [_, _], _ => rfl) (hr.mono (by decide)) tk1 (ma_cons (me_var 1) (ma_cons (me_var 2) ma_nil))) (me_call (d := d_read_items) (ok_read_items en) (fun _ _ _ _ _ _ us hl => match us, hl with | [_, _], _ => rfl) (hr.mono (by decide)) tk1 (ma_cons (me_var 1) (ma_cons (me_var 2) ma_nil)))) ma_nil)))))) (MHs.asE 3 (fun l a => (sRet (eLst (aCons (eC (.str [99, 111, 100, 101])) (aCons (eFldR 3 a l "given") aNil))))) en.y_NoCode (fun l a ρ st h => (hAs_ret (by simp only [eLst, eTup, eN, aCons, aNil, eC, fldR_set h]))) (fun l a oe ci C dd pn hp0 hc0 hz0 hf0 => (mss_one (ms_ret (me_lst (ma_cons (me_str (s := [99, 111, 100, 101])) (ma_cons (me_fldE en.x_NoCode hp0 hc0 hz0 hf0 (me_var 3)) ma_nil)))))) (MHs.asE 3 (fun l a => (sRet (eLst (aCons (eC (.str [98, 105, 116, 115])) (aCons (eFldR 3 a l "given") aNil))))) en.y_NoBits (fun l a ρ st h => (hAs_ret (by simp only [eLst, eTup, eN, aCons, aNil, eC, fldR_set h]))) (fun l a oe ci C dd pn hp0 hc0 hz0 hf0 => (mss_one (ms_ret (me_lst (ma_cons (me_str (s := [98, 105, 116, 115])) (ma_cons (me_fldE en.x_NoBits hp0 hc0 hz0 hf0 (me_var 3)) ma_nil)))))) (MHs.noE en.y_RowsError (fun l a oe C dd pn hz0 hf0 => (mss_one (ms_ret (me_lst (ma_cons (me_str (s := [111, 116, 104, 101, 114])) (ma_cons me_non ma_nil)))))) .nil)))))
theorem sc__law_right : FnScope ["stream", "code", "items", "text", "handed", "due", "turn", "told", "sign", "bent", "found", "good", "read", "at", "word", "item", "one"] d__law_right.ps (defScope d__law_right.st) := ⟨rfl, rfl, rfl, by decide +kernel, rfl, by decide +kernel, by decide +kernel⟩
theorem ok__law_right (en : En P w K mg base ca) : DOk P w K mg base ca 42 d__law_right F__law_right := by
  have hN : (["stream", "code", "items", "text", "handed", "due", "turn", "told", "sign", "bent", "found", "good", "read", "at", "word", "item", "one"] : List Str).Nodup := sc__law_right.nd
  refine dokE 41 en.f__law_right sc__law_right fun f cdv A outer s H E hr tk hp => ?_
  exact (mss_cons (ms_set 3 hN (me_join (me_str (s := [])) (me_lc [("item", 15)] rfl hN (mi_seq (me_var 2)) (fun _ _ _ _ _ => (mg_name 15 hN)) (fun _ _ _ _ _ => mts_nil) (fun _ _ _ _ _ => (me_ix (me_var 1) (me_var 15))))))
  (mss_cons (ms_for hp rfl (mi_seq (me_lst (ma_cons (me_var 2) (ma_cons (me_ct cm_tuple en.b_tuple (ma_cons (me_var 2) ma_nil)) ma_nil)))) (mg_name 4 hN) (mss_one (ms_if (mt_w (mt_or' (mt_not (mt_truth (me_call (d := d__law_is) (ok__law_is en 40) (fun _ _ _ _ _ _ us hl => match us, hl with | [_, _], _ => rfl) (hr.mono (by decide)) tk (ma_cons (me_call (d := d_bits_of) (ok_bits_of en) (fun _ _ _ _ _ _ us hl => match us, hl with | [_, _], _ => rfl) (hr.mono (by decide)) tk (ma_cons (me_var 1) (ma_cons (me_var 4) ma_nil))) (ma_cons (me_var 3) ma_nil))))) (mt_or1 (mt_not (mt_truth (me_call (d := d__law_is) (ok__law_is en 40) (fun _ _ _ _ _ _ us hl => match us, hl with | [_, _], _ => rfl) (hr.mono (by decide)) tk (ma_cons (me_callK0 (d := d_bits_of) ["items", "code"] [1, 0] (ok_bits_of en) (fun _ _ _ _ _ _ us hl => match us, hl with | [_, _], _ => rfl) (hr.mono (by decide)) tk (mk_cons (me_var 4) (mk_cons (me_ct cm_tuple en.b_tuple (ma_cons (me_var 1) ma_nil)) mk_nil))) (ma_cons (me_var 3) ma_nil)))))))) (mss_one (ms_ret me_bl)) mss_nil)))
  (mss_cons (ms_set 5 hN (me_if (mt_cmp (om_ne hr.u64) (me_var 1) (me_lst (ma_cons (me_str (s := [])) ma_nil)) rfl) (me_var 2) (me_lst ma_nil)))
  (mss_cons (ms_for hp rfl (mi_rng1 en.b_range me_int) (mg_name 6 hN) (mss_cons (ms_set 7 hN (me_if (mt_cmp (om_eq hr.u64) (me_var 6) me_int rfl) (me_call (d := d_read_items) (ok_read_items en) (fun _ _ _ _ _ _ us hl => match us, hl with | [_, _], _ => rfl) (hr.mono (by decide)) tk (ma_cons (me_var 1) (ma_cons (me_var 3) ma_nil))) (me_callK0 (d := d_read_items) ["text", "code"] [1, 0] (ok_read_items en) (fun _ _ _ _ _ _ us hl => match us, hl with | [_, _], _ => rfl) (hr.mono (by decide)) tk (mk_cons (me_var 3) (mk_cons (me_var 1) mk_nil)))))
  (mss_cons (ms_if (mt_not (mt_truth (me_call (d := d__law_is) (ok__law_is en 40) (fun _ _ _ _ _ _ us hl => match us, hl with | [_, _], _ => rfl) (hr.mono (by decide)) tk (ma_cons (me_var 7) (ma_cons (me_var 5) ma_nil))))) (mss_one (ms_ret me_bl)) mss_nil)
  (mss_one (ms_expr (me_app (me_var 7) me_non))))))
  (mss_cons (ms_for hp rfl (mi_rng1 en.b_range me_int) (mg_name 6 hN) (mss_cons (ms_par 13 14 rfl hN (me_call (d := d__law_take) (ok__law_take en) (fun _ _ _ _ _ _ us hl => match us, hl with | [_, _], _ => rfl) (hr.mono (by decide)) tk (ma_cons (me_var 0) (ma_cons (me_op om_add (me_cb cm_len en.b_len (ma_cons (me_var 3) ma_nil)) me_int) ma_nil))) (me_ix (me_var 1) (me_call (d := d__law_take) (ok__law_take en) (fun _ _ _ _ _ _ us hl => match us, hl with | [_, _], _ => rfl) (hr.mono (by decide)) tk (ma_cons (me_var 0) (ma_cons (me_cb cm_len en.b_len (ma_cons (me_var 1) ma_nil)) ma_nil)))))
  (mss_cons (ms_set 8 hN (me_ix (me_lst (ma_cons (me_str (s := [48])) (ma_cons (me_str (s := [49])) (ma_cons (me_str (s := [50])) (ma_cons (me_str (s := [32])) (ma_cons (me_sl (me_var 14) mo_none (mo_some (me_neg me_int))) (ma_cons (me_var 14) ma_nil))))))) (me_call (d := d__law_take) (ok__law_take en) (fun _ _ _ _ _ _ us hl => match us, hl with | [_, _], _ => rfl) (hr.mono (by decide)) tk (ma_cons (me_var 0) (ma_cons me_int ma_nil)))))
  (mss_cons (ms_set 9 hN (me_ix (me_lst (ma_cons (me_op om_add (me_op om_add (me_sl (me_var 3) mo_none (mo_some (me_var 13))) (me_var 8)) (me_sl (me_var 3) (mo_some (me_var 13)) mo_none)) (ma_cons (me_op om_add (me_sl (me_var 3) mo_none (mo_some (me_var 13))) (me_sl (me_var 3) (mo_some (me_op om_add (me_var 13) me_int)) mo_none)) (ma_cons (me_op om_add (me_op om_add (me_sl (me_var 3) mo_none (mo_some (me_var 13))) (me_var 8)) (me_sl (me_var 3) (mo_some (me_op om_add (me_var 13) me_int)) mo_none)) (ma_cons (me_op om_add (me_var 3) (me_var 8)) ma_nil))))) (me_call (d := d__law_take) (ok__law_take en) (fun _ _ _ _ _ _ us hl => match us, hl with | [_, _], _ => rfl) (hr.mono (by decide)) tk (ma_cons (me_var 0) (ma_cons me_int ma_nil)))))
  (mss_cons (ms_set 10 hN (me_call (d := d__law_asked) (ok__law_asked en) (fun _ _ _ _ _ _ us hl => match us, hl with | [_, _, _], _ => rfl) (hr.mono (by decide)) tk (ma_cons me_int (ma_cons (me_var 1) (ma_cons (me_var 9) ma_nil)))))
  (mss_cons (ms_set 11 hN (me_cmp (om_eq hr.u64) (me_lc [("one", 16)] rfl hN (mi_str (me_var 9)) (fun _ _ _ _ _ => (mg_name 16 hN)) (fun _ _ _ _ _ => (mts_one (mt_cmp om_notIn (me_var 16) (me_str (s := [48, 49])) rfl))) (fun _ _ _ _ _ => (me_var 16))) (me_lst ma_nil) rfl))
  (mss_cons (ms_set 12 hN (me_if (mt_truth (me_var 11)) (me_call (d := d__law_read) (ok__law_read en) (fun _ _ _ _ _ _ us hl => match us, hl with | [_, _], _ => rfl) (hr.mono (by decide)) tk (ma_cons (me_var 1) (ma_cons (me_var 9) ma_nil))) me_non))
  (mss_one (ms_if (mt_w (mt_or' (mt_w (mt_and' (mt_isN (me_var 12)) (mt_and1 (mt_cmp (om_ne hr.u64) (me_var 10) (me_lst (ma_cons (me_str (s := [98, 105, 116, 115])) (ma_cons (me_var 9) ma_nil))) rfl)))) (mt_or1 (mt_w (mt_and' (mt_notN (me_var 12)) (mt_and1 (mt_not (mt_truth (me_call (d := d__law_is) (ok__law_is en 40) (fun _ _ _ _ _ _ us hl => match us, hl with | [_, _], _ => rfl) (hr.mono (by decide)) tk (ma_cons (me_var 10) (ma_cons (me_lst (ma_cons (me_str (s := [116, 111, 108, 100])) (ma_cons (me_var 12) ma_nil))) ma_nil))))))))))) (mss_one (ms_ret me_bl)) mss_nil)))))))))
  (mss_one (ms_ret me_bl)))))))
theorem sc__law_odd_text : FnScope ["stream"] d__law_odd_text.ps (defScope d__law_odd_text.st) := ⟨rfl, rfl, rfl, by decide +kernel, rfl, by decide +kernel, by decide +kernel⟩
theorem ok__law_odd_text (en : En P w K mg base ca) : DOk P w K mg base ca 2 d__law_odd_text F__law_odd_text := by
  have hN : (["stream"] : List Str).Nodup := sc__law_odd_text.nd
  refine dokE 1 en.f__law_odd_text sc__law_odd_text fun f cdv A outer s H E hr tk hp => ?_
  exact (mss_one (ms_ret (me_ix (me_lst (ma_cons (me_str (s := [97])) (ma_cons (me_str (s := [48, 32, 49])) (ma_cons (me_str (s := [48, 49, 120])) (ma_cons (me_str (s := [48, 10])) ma_nil))))) (me_call (d := d__law_take) (ok__law_take en) (fun _ _ _ _ _ _ us hl => match us, hl with | [_, _], _ => rfl) (hr.mono (by decide)) tk (ma_cons (me_var 0) (ma_cons me_int ma_nil))))))
theorem sc__law_refused_right : FnScope ["stream", "code", "items", "odd", "bad", "wrong", "cases", "way", "one", "thing", "word", "given", "found"] d__law_refused_right.ps (defScope d__law_refused_right.st) := ⟨rfl, rfl, rfl, by decide +kernel, rfl, by decide +kernel, by decide +kernel⟩
theorem ok__law_refused_right (en : En P w K mg base ca) : DOk P w K mg base ca 6 d__law_refused_right F__law_refused_right := by
  have hN : (["stream", "code", "items", "odd", "bad", "wrong", "cases", "way", "one", "thing", "word", "given", "found"] : List Str).Nodup := sc__law_refused_right.nd
  refine dokE 5 en.f__law_refused_right sc__law_refused_right fun f cdv A outer s H E hr tk hp => ?_
  exact (mss_cons (ms_set 3 hN (me_ix (me_lst (ma_cons me_non (ma_cons me_int (ma_cons me_dict0 (ma_cons (me_str (s := [48])) (ma_cons (me_op om_add (me_var 2) (me_lst (ma_cons (me_cb cm_len en.b_len (ma_cons (me_var 1) ma_nil)) ma_nil))) (ma_cons (me_op om_add (me_var 2) (me_lst (ma_cons (me_neg me_int) ma_nil))) (ma_cons (me_op om_add (me_var 2) (me_lst (ma_cons me_bl ma_nil))) (ma_cons (me_op om_add (me_var 2) (me_lst (ma_cons me_non ma_nil))) (ma_cons (me_lst (ma_cons (me_lst (ma_cons me_int ma_nil)) ma_nil)) ma_nil)))))))))) (me_call (d := d__law_take) (ok__law_take en) (fun _ _ _ _ _ _ us hl => match us, hl with | [_, _], _ => rfl) (hr.mono (by decide)) tk (ma_cons (me_var 0) (ma_cons me_int ma_nil)))))
  (mss_cons (ms_set 4 hN (me_ix (me_lst (ma_cons me_non (ma_cons me_int (ma_cons me_dict0 (ma_cons (me_str (s := [48, 49])) (ma_cons (me_lst ma_nil) (ma_cons (me_op om_add (me_var 1) (me_lst (ma_cons (me_ix (me_var 1) me_int) ma_nil))) (ma_cons (me_op om_add (me_var 1) (me_lst (ma_cons me_non ma_nil))) (ma_cons (me_lst (ma_cons (me_str (s := [50])) ma_nil)) (ma_cons (me_lst (ma_cons (me_str (s := [48])) (ma_cons (me_str (s := [48, 49])) ma_nil))) (ma_cons (me_lst (ma_cons (me_str (s := [])) (ma_cons (me_str (s := [48])) ma_nil))) ma_nil))))))))))) (me_call (d := d__law_take) (ok__law_take en) (fun _ _ _ _ _ _ us hl => match us, hl with | [_, _], _ => rfl) (hr.mono (by decide)) tk (ma_cons (me_var 0) (ma_cons me_int ma_nil)))))
  (mss_cons (ms_set 5 hN (me_ix (me_lst (ma_cons me_non (ma_cons me_int (ma_cons me_dict0 (ma_cons (me_lst (ma_cons (me_str (s := [48])) ma_nil)) (ma_cons (me_call (d := d__law_odd_text) (ok__law_odd_text en) (fun _ _ _ _ _ _ us hl => match us, hl with | [_], _ => rfl) (hr.mono (by decide)) tk (ma_cons (me_var 0) ma_nil)) (ma_cons me_bl (ma_cons (me_tup (ma_cons (me_str (s := [48])) ma_nil)) ma_nil)))))))) (me_call (d := d__law_take) (ok__law_take en) (fun _ _ _ _ _ _ us hl => match us, hl with | [_, _], _ => rfl) (hr.mono (by decide)) tk (ma_cons (me_var 0) (ma_cons me_int ma_nil)))))
  (mss_cons (ms_set 6 hN (me_lst (ma_cons (me_tup (ma_cons me_int (ma_cons (me_var 4) (ma_cons (me_var 3) (ma_cons (me_str (s := [99, 111, 100, 101])) (ma_cons (me_var 4) ma_nil)))))) (ma_cons (me_tup (ma_cons me_int (ma_cons (me_var 4) (ma_cons (me_var 5) (ma_cons (me_str (s := [99, 111, 100, 101])) (ma_cons (me_var 4) ma_nil)))))) (ma_cons (me_tup (ma_cons me_int (ma_cons (me_var 1) (ma_cons (me_var 3) (ma_cons (me_str (s := [98, 105, 116, 115])) (ma_cons (me_var 3) ma_nil)))))) (ma_cons (me_tup (ma_cons me_int (ma_cons (me_var 1) (ma_cons (me_var 5) (ma_cons (me_str (s := [98, 105, 116, 115])) (ma_cons (me_var 5) ma_nil)))))) ma_nil))))))
  (mss_cons (ms_for hp rfl (mi_seq (me_var 6)) (mg_tup rfl (mgs_cons 7 hN (mgs_cons 8 hN (mgs_cons 9 hN (mgs_cons 10 hN (mgs_cons 11 hN mgs_nil)))))) (mss_cons (ms_set 12 hN (me_call (d := d__law_asked) (ok__law_asked en) (fun _ _ _ _ _ _ us hl => match us, hl with | [_, _, _], _ => rfl) (hr.mono (by decide)) tk (ma_cons (me_var 7) (ma_cons (me_var 8) (ma_cons (me_var 9) ma_nil)))))
  (mss_one (ms_if (mt_w (mt_or' (mt_cmp (om_ne hr.u64) (me_ix (me_var 12) me_int) (me_var 10) rfl) (mt_or1 (mt_not (mt_truth (me_call (d := d__law_very) (ok__law_very en) (fun _ _ _ _ _ _ us hl => match us, hl with | [_, _], _ => rfl) (hr.mono (by decide)) tk (ma_cons (me_ix (me_var 12) me_int) (ma_cons (me_var 11) ma_nil)))))))) (mss_one (ms_ret me_bl)) mss_nil))))
  (mss_one (ms_ret (me_and (me_call (d := d__law_is_code) (ok__law_is_code en) (fun _ _ _ _ _ _ us hl => match us, hl with | [_], _ => rfl) (hr.mono (by decide)) tk (ma_cons (me_var 1) ma_nil)) (me_one (me_not (me_call (d := d__law_is_code) (ok__law_is_code en) (fun _ _ _ _ _ _ us hl => match us, hl with | [_], _ => rfl) (hr.mono (by decide)) tk (ma_cons (me_var 4) ma_nil))))))))))))
theorem sc_law : FnScope ["script", "k", "stream", "code", "items", "turn"] d_law.ps (defScope d_law.st) := ⟨rfl, rfl, rfl, by decide +kernel, rfl, by decide +kernel, by decide +kernel⟩
theorem ok_law (en : En P w K mg base ca) : DOk P w K mg base ca 43 d_law F_law := by
  have hN : (["script", "k", "stream", "code", "items", "turn"] : List Str).Nodup := sc_law.nd
  refine dokE 42 en.f_law sc_law fun f cdv A outer s H E hr tk hp => ?_
  exact (mss_cons (ms_for hp rfl (mi_rng1 en.b_range (me_cb (cm_max2 rfl) en.b_max (ma_cons me_int (ma_cons (me_cb (cm_min2 rfl) en.b_min (ma_cons me_int (ma_cons (me_cb cm_len en.b_len (ma_cons (me_var 0) ma_nil)) ma_nil))) ma_nil)))) (mg_name 1 hN) (mss_cons (ms_set 2 hN (me_call (d := d__law_stream) (ok__law_stream en) (fun _ _ _ _ _ _ us hl => match us, hl with | [_], _ => rfl) (hr.mono (by decide)) tk (ma_cons (me_call (d := d__law_cell) (ok__law_cell en) (fun _ _ _ _ _ _ us hl => match us, hl with | [_, _], _ => rfl) (hr.mono (by decide)) tk (ma_cons (me_var 0) (ma_cons (me_var 1) ma_nil))) ma_nil)))
  (mss_cons (ms_set 3 hN (me_call (d := d__law_drawn) (ok__law_drawn en) (fun _ _ _ _ _ _ us hl => match us, hl with | [_], _ => rfl) (hr.mono (by decide)) tk (ma_cons (me_var 2) ma_nil)))
  (mss_cons (ms_setLc 4 [("turn", 5)] rfl hN (mi_rng1 en.b_range (me_ix (me_lst (ma_cons (me_call (d := d__law_take) (ok__law_take en) (fun _ _ _ _ _ _ us hl => match us, hl with | [_, _], _ => rfl) (hr.mono (by decide)) tk (ma_cons (me_var 2) (ma_cons me_int ma_nil))) (ma_cons (me_call (d := d__law_take) (ok__law_take en) (fun _ _ _ _ _ _ us hl => match us, hl with | [_, _], _ => rfl) (hr.mono (by decide)) tk (ma_cons (me_var 2) (ma_cons me_int ma_nil))) ma_nil))) (me_call (d := d__law_take) (ok__law_take en) (fun _ _ _ _ _ _ us hl => match us, hl with | [_, _], _ => rfl) (hr.mono (by decide)) tk (ma_cons (me_var 2) (ma_cons me_int ma_nil))))) (fun _ _ _ _ _ => (mg_name 5 hN)) (fun _ _ _ _ _ => mts_nil) (fun _ _ _ _ _ => (me_call (d := d__law_take) (ok__law_take en) (fun _ _ _ _ _ _ us hl => match us, hl with | [_, _], _ => rfl) (hr.mono (by decide)) tk0 (ma_cons (me_var 2) (ma_cons (me_cb cm_len en.b_len (ma_cons (me_var 3) ma_nil)) ma_nil)))))
  (mss_one (ms_if (mt_w (mt_or' (mt_not (mt_truth (me_call (d := d__law_right) (ok__law_right en) (fun _ _ _ _ _ _ us hl => match us, hl with | [_, _, _], _ => rfl) (hr.mono (by decide)) tk (ma_cons (me_var 2) (ma_cons (me_var 3) (ma_cons (me_var 4) ma_nil)))))) (mt_or1 (mt_not (mt_truth (me_call (d := d__law_refused_right) (ok__law_refused_right en) (fun _ _ _ _ _ _ us hl => match us, hl with | [_, _, _], _ => rfl) (hr.mono (by decide)) tk (ma_cons (me_var 2) (ma_cons (me_var 3) (ma_cons (me_var 4) ma_nil))))))))) (mss_one (ms_ret me_bl)) mss_nil))))))
  (mss_one (ms_ret me_bl)))
end
end k82

set_option Elab.async false
set_option linter.all false
set_option maxRecDepth 100000
set_option maxHeartbeats 1000000
/-! k82: the plain law. -/
namespace k82
open PySem Mi
set_option autoImplicit false
theorem take_eq : F__law_take = F_take := rfl
theorem stream_eq : F__law_stream = F_stream := rfl

/-! ### bits and codes -/
def isBit (c : Nat) : Bool := c == 48 || c == 49
abbrev bitsB (s : List Nat) : Bool := s.all isBit
theorem in01 (c : Nat) : decide (c ∈ [48, 49]) = isBit c := by
  simp [isBit]
  rfl
theorem allBl_map {α : Type} (f : α → Bool) : ∀ xs : List α, allBl (xs.map fun x => W.bl (f x)) = some (xs.map f)
  | [] => rfl
  | x :: xs => by
    rw [List.map_cons, List.map_cons]
    unfold allBl
    rw [allBl_map f xs]
    rfl
theorem allStr_map : ∀ xs : List (List Nat), allStr (xs.map W.str) = some xs
  | [] => rfl
  | x :: xs => by
    rw [List.map_cons]
    unfold allStr
    rw [allStr_map xs]
    rfl
theorem fm_map {α β γ : Type} (g : α → β) (f : β → Option γ) (h : α → γ) (hh : ∀ x, f (g x) = some (h x)) (xs : List α) : (xs.map g).filterMap f = xs.map h := by
  induction xs with
  | nil => rfl
  | cons x xs ih => rw [List.map_cons, List.filterMap_cons, hh, ih, List.map_cons]
theorem all_id {α : Type} (f : α → Bool) (xs : List α) : (xs.map f).all id = xs.all f := by
  rw [List.all_map]
  rfl
theorem any_id {α : Type} (f : α → Bool) (xs : List α) : (xs.map f).any id = xs.any f := by
  rw [List.any_map]
  rfl
/-- what a sign's test gives -/
def fBit : Y → Option W
  | .v (.str [c]) => some (.bl (isBit c))
  | _ => none
theorem L_is_bits {st : Sto} {s : List Nat} (hl : s.length ≤ big) : L_is_bits_1 [some (.str s), none] st = .ok (.loc st.length) (st ++ [.lst (s.map fun c => .bl (isBit c))]) := by
  obtain ⟨st', h1, h2⟩ := elc_gr (own := [1]) (it := iStr (eV 0)) (g := .nm 1) (t := bYes) (e := e2 opIn (eV 1) (eC (.str [48, 49]))) (ρ0 := [some (.str s), none]) (st0 := st) (st1 := st) (ck := []) (ys := s.map fun c => .v (.str [c])) (by simp [iStr]) (· = st) fBit (fun _ _ => rfl) rfl (by simpa using hl) (by
    intro y hy s0 e0
    rw [e0]
    obtain ⟨c, hc, rfl⟩ := List.mem_map.mp hy
    exact ⟨_, rfl, .inl ⟨st, .bl (isBit c), st, rfl, by simp [wipeL, opIn, ← in01], rfl, rfl⟩⟩)
  subst h2
  rw [fm_map _ fBit (fun c => .bl (isBit c)) (fun _ => rfl)] at h1
  exact h1
theorem all_new {α : Type} {st : Sto} (f : α → Bool) (xs : List α) : cAll [.loc st.length] (st ++ [.lst (xs.map fun x => .bl (f x))]) = .ok (.bl (xs.all f)) (st ++ [.lst (xs.map fun x => .bl (f x))]) := by
  simp [cAll, listAt, nodeAt, get_new, allBl_map, all_id]
theorem is_bits_str {st : Sto} {s : List Nat} (hl : s.length ≤ big) : ∃ st', F_is_bits [.str s] st = .ok (.bl (bitsB s)) st' ∧ Keep [] st st' := by
  refine ⟨st ++ [.lst (s.map fun c => .bl (isBit c))], ?_, Keep.app⟩
  have e1 : isAny st [Ty.str] (.str s) = some true := rfl
  simp [F_is_bits, dfn, B_is_bits, e1, L_is_bits hl, all_new]
theorem is_bits_no {st : Sto} {w : W} (h : isA st .str w = some false) : F_is_bits [w] st = .ok (.bl false) st := by
  have e1 : isAny st [Ty.str] w = some false := by simp [isAny, h]
  simp [F_is_bits, dfn, B_is_bits, e1]
/-- a word of a code -/
def wordB : W → Bool
  | .str s => bitsB s && decide (s.length ≤ 60)
  | _ => false
/-- no text or a small one -/
def WordW : W → Prop
  | .str s => s.length ≤ 100000
  | .non => True
  | _ => False
def strOf : W → List Nat
  | .str s => s
  | _ => []
/-- the places of two words, one the beginning of the other -/
def pairs (xs : List (List Nat)) : List Bool := (List.range xs.length).flatMap fun i => ((List.range xs.length).filter fun j => i != j).map fun j => isPre (xs.getD i []) (xs.getD j [])
def codeB (xs : List W) : Bool := decide (1 ≤ xs.length ∧ xs.length ≤ 40) && (xs.all wordB && !(pairs (xs.map strOf)).any id)
/-- a list or a tuple at l -/
def Sq (st : Sto) (l : Nat) (xs : List W) : Prop := st[l]? = some (.lst xs) ∨ st[l]? = some (.tup xs)
theorem Sq.keep {st st' : Sto} {l : Nat} {xs : List W} (h : Sq st l xs) (k : Keep [] st st') : Sq st' l xs := h.imp k.nil_get k.nil_get
theorem Sq.isAny {st : Sto} {l : Nat} {xs : List W} (h : Sq st l xs) : isAny st [.list, .tuple] (.loc l) = some true := by
  rcases h with h | h <;> simp [Mi.isAny, isA, h]
theorem Sq.len {st : Sto} {l : Nat} {xs : List W} (h : Sq st l xs) : cLen [.loc l] st = .ok (.int xs.length) st := by
  rcases h with h | h <;> simp [cLen, h]
theorem Sq.ix {st : Sto} {l : Nat} {xs : List W} (h : Sq st l xs) {i : Nat} {x : W} (e : xs[i]? = some x) : opIx (.loc l) (.int i) st = .ok x st := by
  obtain ⟨hi, e⟩ := List.getElem?_eq_some_iff.mp e
  have e2 : ixW xs (i : Int) = some x := by
    unfold ixW L2.atI L2.ixN
    simp [hi, e]
  rcases h with h | h <;> simp [opIx, h, e2, lift1]
theorem Sq.seq {st : Sto} {l : Nat} {xs : List W} (h : Sq st l xs) {a : ES} {ρ : Mi.Loc} (e : a ρ st = .ok (.loc l) st) : ∃ ck, iSeq a ρ st = .ok (xs.map .v, ck) st ∧ ∀ st', Keep [] st st' → ckOk ck st' = true := by
  rcases h with h | h
  · exact ⟨[(l, .lst xs)], by simp [iSeq, e, h], fun st' k => ck1 (k.nil_get h)⟩
  · exact ⟨[(l, .tup xs)], by simp [iSeq, e, h], fun st' k => ck1 (k.nil_get h)⟩
def fWord : Y → Option W
  | .v w => some (.bl (wordB w))
  | _ => none
theorem wordB_big {s : List Nat} (h : s.length ≤ 100000) : s.length ≤ big := by
  have : big = 16777216 := rfl
  omega
/-- the words' test -/
theorem words_ok {st : Sto} {l : Nat} {xs : List W} (h : Sq st l xs) (hw : ∀ x ∈ xs, WordW x) (hl : xs.length ≤ big) :
    ∃ st', L_is_code_2 [some (.loc l), none, none, none, none] st = .ok (.loc st'.length) (st' ++ [.lst (xs.map fun x => .bl (wordB x))]) ∧ Keep [] st st' := by
  obtain ⟨ck, hit, hck⟩ := h.seq (a := eV 0) (ρ := [some (.loc l), none, none, none, none]) rfl
  obtain ⟨st', h1, h2⟩ := elc_gr (own := [2]) (g := .nm 2) (t := bYes) (e := eAnd (eN F_is_bits (aCons (eV 2) aNil)) (e2 opLe (eN cLen (aCons (eV 2) aNil)) (eC (.int 60)))) hit (Keep [] st) fWord hck .refl (by simpa using hl) (by
    rintro y hy s1 k1
    obtain ⟨x, hx, rfl⟩ := List.mem_map.mp hy
    refine ⟨_, rfl, .inl ?_⟩
    have hxw := hw x hx
    cases x with
    | str z =>
      have hz : z.length ≤ big := wordB_big hxw
      obtain ⟨s2, e1, k2⟩ := is_bits_str (st := s1) hz
      refine ⟨s1, .bl (wordB (.str z)), s2, rfl, ?_, k1.trans k2, rfl⟩
      cases hb : bitsB z with
      | true =>
        rw [hb] at e1
        simp [wipeL, e1, cLen, hz, opLe, cmpI, wordB, hb]
        omega
      | false =>
        rw [hb] at e1
        simp [wipeL, e1, wordB, hb]
    | non =>
      refine ⟨s1, .bl false, s1, rfl, ?_, k1, rfl⟩
      have e1 := is_bits_no (st := s1) (w := .non) rfl
      simp [wipeL, e1]
    | _ => exact hxw.elim)
  rw [fm_map _ fWord (fun x => .bl (wordB x)) (fun _ => rfl)] at h1
  exact ⟨st', h1, h2⟩
/-- a comprehension of two for that makes nothing -/
theorem lc2_st {ck : Ck} {g g1 : Tg} {t t1 : EB} {it1 : IS} {own1 : List Nat} {e : ES} {ρ : Mi.Loc} {st : Sto} (hck : ckOk ck st = true) (m : Nat) (f : Y → List W) : ∀ (ys : List Y) (acc : List W), acc.length + ys.length * m ≤ big →
    (∀ y ∈ ys, (f y).length ≤ m ∧ ∃ ρ', asg g y ρ st = some ρ' ∧ t ρ' st = .ok true st ∧ ∃ zs ck1, it1 ρ' st = .ok (zs, ck1) st ∧ ∀ acc, acc.length + m ≤ big → lcGo ck1 g1 t1 e (wipeL ρ' own1) zs acc st = .ok (acc ++ f y) st) →
    lcGo2 ck g t it1 own1 g1 t1 e ρ ys acc st = .ok (acc ++ ys.flatMap f) st
  | [], acc, _, _ => by
    unfold lcGo2
    rw [if_pos hck]
    simp
  | y :: ys, acc, hl, hs => by
    rw [List.length_cons, Nat.add_mul] at hl
    obtain ⟨h0, ρ', h1, h2, zs, ck1, h3, h4⟩ := hs y List.mem_cons_self
    unfold lcGo2
    rw [if_pos hck, h1]
    simp only [h2, R.bind_ok, if_true, h3, h4 acc (by omega)]
    rw [lc2_st hck m f ys (acc ++ f y) (by rw [List.length_append]; omega) fun y hy => hs y (List.mem_cons_of_mem _ hy)]
    simp
def intsY (n : Nat) : List Y := (List.range n).map fun i : Nat => .v (.int i)
theorem rng_ints (n : Nat) : rng 0 (n : Int) = intsY n := by
  unfold rng intsY
  simp
/-- the inner for -/
def fIn (ws : List (List Nat)) (i : Nat) : Y → Option W
  | .v (.int j) => if (i : Int) ≠ j then some (.bl (isPre (ws.getD i []) (ws.getD j.toNat []))) else none
  | _ => none
def fOut (ws : List (List Nat)) : Y → List W
  | .v (.int i) => (intsY ws.length).filterMap (fIn ws i.toNat)
  | _ => []
theorem fOut_eq (ws : List (List Nat)) : (intsY ws.length).flatMap (fOut ws) = (pairs ws).map W.bl := by
  unfold pairs
  rw [List.map_flatMap]
  have e0 : (intsY ws.length).flatMap (fOut ws) = (List.range ws.length).flatMap fun i : Nat => fOut ws (.v (.int i)) := by
    conv => lhs; unfold intsY
    rw [List.flatMap_map]
  rw [e0]
  congr 1
  funext i
  show (intsY ws.length).filterMap (fIn ws i) = _
  unfold intsY
  rw [List.filterMap_map, List.map_map]
  induction List.range ws.length with
  | nil => rfl
  | cons j js ih =>
    rw [List.filterMap_cons, List.filter_cons]
    by_cases hij : i = j
    · subst hij
      simp [fIn, ih]
    · have h2 : (i : Int) ≠ j := by omega
      simp [fIn, ih, hij, h2]
/-- the second test -/
theorem prefix_ok {st : Sto} {l : Nat} {xs : List W} (h : Sq st l xs) (hb : xs.all wordB = true) (hl : xs.length ≤ 40) {k : Nat} (hr : st[k]? = some (.rng 0 xs.length)) :
    L_is_code_5 [some (.loc l), some (.loc k), none, none, none] st = .ok (.loc st.length) (st ++ [.lst ((pairs (xs.map strOf)).map W.bl)]) := by
  have hstr : ∀ x ∈ xs, ∃ s, x = .str s := fun x hx => by
    have := List.all_eq_true.mp hb x hx
    cases x <;> simp [wordB] at this ⊢
  have itv : ∀ {ρ : Mi.Loc}, ρ[1]? = some (some (.loc k)) → iRngV (eV 1) ρ st = .ok (intsY xs.length, []) st := fun {ρ} e => by
    have e1 : eV 1 ρ st = .ok (.loc k) st := by
      unfold eV
      rw [e]
    unfold iRngV
    rw [e1, R.bind_ok]
    dsimp only
    rw [hr]
    dsimp only
    rw [if_pos (by omega), rng_ints]
  have ws : ∀ i : Nat, i < xs.length → xs[i]? = some (.str ((xs.map strOf).getD i [])) := fun i hi => by
    obtain ⟨s, e⟩ := hstr xs[i] (List.getElem_mem hi)
    rw [List.getElem?_eq_getElem hi]
    simp [List.getD, hi, e, strOf]
  have main := lc2_st (ck := []) (g := .nm 3) (g1 := .nm 4) (t := bYes) (t1 := bB (e2 opNe (eV 3) (eV 4))) (it1 := iRngV (eV 1)) (own1 := [4]) (e := eM kStr mStarts (e2 opIx (eV 0) (eV 4)) (aCons (e2 opIx (eV 0) (eV 3)) aNil)) (ρ := wipeL [some (.loc l), some (.loc k), none, none, none] [3, 4]) (st := st) rfl xs.length (fOut (xs.map strOf)) (intsY xs.length) []
    (by
      have : big = 16777216 := rfl
      have h5 : xs.length * xs.length ≤ 40 * 40 := Nat.mul_le_mul hl hl
      simp [intsY]
      omega) (by
    intro y hy
    obtain ⟨i, hi, rfl⟩ := List.mem_map.mp hy
    have hi' : i < xs.length := List.mem_range.mp hi
    refine ⟨?_, _, rfl, rfl, intsY xs.length, [], itv rfl, fun acc hacc => ?_⟩
    · show ((intsY (xs.map strOf).length).filterMap (fIn (xs.map strOf) i)).length ≤ _
      refine Nat.le_trans (List.length_filterMap_le _ _) ?_
      simp [intsY]
    · obtain ⟨st', k3, e3⟩ := lc_gr (ck := []) (g := .nm 4) (t := bB (e2 opNe (eV 3) (eV 4))) (e := eM kStr mStarts (e2 opIx (eV 0) (eV 4)) (aCons (e2 opIx (eV 0) (eV 3)) aNil)) (ρ := wipeL [some (.loc l), some (.loc k), none, some (.int i), none] [4]) (· = st) (fIn (xs.map strOf) i) (fun _ _ => rfl) (intsY xs.length) acc st rfl (by
        intro y hy s0 e0
        rw [e0]
        obtain ⟨j, hj, rfl⟩ := List.mem_map.mp hy
        have hj' : j < xs.length := List.mem_range.mp hj
        refine ⟨_, rfl, ?_⟩
        by_cases hij : i = j
        · subst hij
          refine .inr ⟨st, ?_, rfl, by simp [fIn]⟩
          simp [wipeL, opNe, weq, scalW]
        · have hij' : (i : Int) ≠ j := by omega
          refine .inl ⟨st, .bl (isPre ((xs.map strOf).getD i []) ((xs.map strOf).getD j [])), st, ?_, ?_, rfl, by simp [fIn, hij']⟩
          · simp [wipeL, opNe, weq, scalW, hij']
          · have q1 := h.ix (ws i hi')
            have q2 := h.ix (ws j hj')
            simp [wipeL, q1, q2, kStr, mStarts]) (by simpa [intsY] using hacc)
      subst e3
      rw [show fOut (xs.map strOf) (.v (.int i)) = (intsY xs.length).filterMap (fIn (xs.map strOf) i) from by simp [fOut]]
      exact k3)
  rw [List.nil_append, show intsY xs.length = intsY (xs.map strOf).length from by simp, fOut_eq] at main
  unfold L_is_code_5 eLc2
  rw [itv rfl, R.bind_ok]
  dsimp only
  rw [show intsY xs.length = intsY (xs.map strOf).length from by simp, main]
  rfl
theorem is_code1_y {st : Sto} {l : Nat} {xs : List W} (h : Sq st l xs) (h1 : 1 ≤ xs.length ∧ xs.length ≤ 40) : S_is_code_1 [some (.loc l), none, none, none, none] st = .nx [some (.loc l), none, none, none, none] st := by
  have ha := h.isAny
  have hn := h.len
  have c1 : (1 : Int) ≤ (xs.length : Int) := by omega
  have c2 : (xs.length : Int) ≤ 40 := by omega
  simp [S_is_code_1, ha, hn, opLe, cmpI, c1, c2, h1]
theorem is_code1_n {st : Sto} {l : Nat} {xs : List W} (h : Sq st l xs) (h1 : ¬ (1 ≤ xs.length ∧ xs.length ≤ 40)) : S_is_code_1 [some (.loc l), none, none, none, none] st = .rt (.bl false) st := by
  have ha := h.isAny
  have hn := h.len
  by_cases h2 : 1 ≤ xs.length
  · have c1 : (1 : Int) ≤ (xs.length : Int) := by omega
    have c2 : ¬ (xs.length : Int) ≤ 40 := by omega
    simp [S_is_code_1, ha, hn, opLe, cmpI, c1, c2]
  · have c1 : ¬ (1 : Int) ≤ (xs.length : Int) := by omega
    simp [S_is_code_1, ha, hn, opLe, cmpI, c1]
theorem is_code4' {s2 s3 : Sto} {l : Nat} {z : Int} {w : W} (h : cLen [.loc l] s2 = .ok (.int z) s2) (hr : cRng [.int z] s2 = .ok w s3) : S_is_code_4 [some (.loc l), none, none, none, none] s2 = .nx [some (.loc l), some w, none, none, none] s3 := by
  simp [S_is_code_4, h, hr]
theorem is_code4 {s2 : Sto} {l : Nat} {xs : List W} (h : Sq s2 l xs) (hl : xs.length ≤ 1000) : S_is_code_4 [some (.loc l), none, none, none, none] s2 = .nx [some (.loc l), some (.loc s2.length), none, none, none] (s2 ++ [.rng 0 xs.length]) :=
  is_code4' h.len (cRng_ok (by omega) (by omega))
theorem is_code_ok {st : Sto} {l : Nat} {xs : List W} (h : Sq st l xs) (hw : ∀ x ∈ xs, WordW x) (hl : xs.length ≤ 1000) : ∃ st', F_is_code [.loc l] st = .ok (.bl (codeB xs)) st' ∧ Keep [] st st' := by
  have ha := h.isAny
  have hn := h.len
  by_cases h1 : 1 ≤ xs.length ∧ xs.length ≤ 40
  · have q1 := is_code1_y h h1
    obtain ⟨s1, k1, k2⟩ := words_ok h hw (by have : big = 16777216 := rfl; omega)
    have hall := all_new (st := s1) wordB xs
    cases hb : xs.all wordB with
    | false =>
      rw [hb] at hall
      refine ⟨s1 ++ [.lst (xs.map fun x => .bl (wordB x))], ?_, k2.trans Keep.app⟩
      simp [F_is_code, dfn, B_is_code, q1, S_is_code_3, k1, hall, codeB, hb]
    | true =>
      rw [hb] at hall
      have h2 : Sq (s1 ++ [.lst (xs.map fun x => .bl (wordB x))]) l xs := (h.keep k2).keep Keep.app
      have q2 : S_is_code_3 [some (.loc l), none, none, none, none] st = .nx [some (.loc l), none, none, none, none] (s1 ++ [.lst (xs.map fun x => .bl (wordB x))]) := by
        simp [S_is_code_3, k1, hall]
      generalize hs2 : s1 ++ [Nd.lst (xs.map fun x => .bl (wordB x))] = s2 at h2 q2
      have k3 : Keep [] st s2 := hs2 ▸ k2.trans Keep.app
      have q3 := is_code4 h2 hl
      have h3 : Sq (s2 ++ [.rng 0 xs.length]) l xs := h2.keep Keep.app
      have k4 : Keep [] st (s2 ++ [.rng 0 xs.length]) := k3.trans Keep.app
      have hr : (s2 ++ [Nd.rng 0 xs.length])[s2.length]? = some (.rng 0 xs.length) := get_new
      generalize hs3 : s2 ++ [Nd.rng 0 xs.length] = s3 at q3 h3 k4 hr
      have q4 := prefix_ok (k := s2.length) h3 hb h1.2 hr
      have q5 : cAny [.loc s3.length] (s3 ++ [.lst ((pairs (xs.map strOf)).map W.bl)]) = .ok (.bl ((pairs (xs.map strOf)).any id)) (s3 ++ [.lst ((pairs (xs.map strOf)).map W.bl)]) := by
        have e5 : allBl ((pairs (xs.map strOf)).map W.bl) = some (pairs (xs.map strOf)) := by
          have := allBl_map (fun b : Bool => b) (pairs (xs.map strOf))
          simpa using this
        simp only [cAny, listAt, nodeAt, get_new, e5]
      refine ⟨s3 ++ [.lst ((pairs (xs.map strOf)).map W.bl)], ?_, k4.trans Keep.app⟩
      simp [F_is_code, dfn, B_is_code, codeB, hb, h1, q1, q2, q3, q4, q5]
  · refine ⟨st, ?_, .refl⟩
    have q1 := is_code1_n h h1
    simp [F_is_code, dfn, B_is_code, q1, codeB, h1]
theorem is_code_no {st : Sto} {w : W} (h1 : isA st .list w = some false) (h2 : isA st .tuple w = some false) : F_is_code [w] st = .ok (.bl false) st := by
  have e1 : isAny st [Ty.list, Ty.tuple] w = some false := by simp [isAny, h1, h2]
  simp [F_is_code, dfn, B_is_code, S_is_code_1, e1]
/-! ### need_code, bits_of -/
theorem need_yes {st st' : Sto} {w : W} (h : F_is_code [w] st = .ok (.bl true) st') : F_need_code [w] st = .ok .non st' := by
  simp [F_need_code, dfn, B_need_code, S_need_code_2, h]
theorem need_no {st st' : Sto} {w : W} (h : F_is_code [w] st = .ok (.bl false) st') : F_need_code [w] st = .exc 0 st'.length (st' ++ [.xd [("given", w)]]) := by
  simp [F_need_code, dfn, B_need_code, S_need_code_2, S_need_code_1, h]
theorem whole_int {st : Sto} (i : Int) : F_is_whole [.int i] st = .ok (.bl true) st := by
  have e1 : isAny st [.int] (.int i) = some true := rfl
  have e2 : isAny st [.bool] (.int i) = some false := rfl
  simp [F_is_whole, dfn, B_is_whole, e1, e2]
theorem whole_bl {st : Sto} (b : Bool) : F_is_whole [.bl b] st = .ok (.bl false) st := by
  have e1 : isAny st [.int] (.bl b) = some true := rfl
  have e2 : isAny st [.bool] (.bl b) = some true := rfl
  simp [F_is_whole, dfn, B_is_whole, e1, e2]
theorem whole_no {st : Sto} {w : W} (h : isA st .int w = some false) : F_is_whole [w] st = .ok (.bl false) st := by
  have e1 : isAny st [.int] w = some false := by simp [isAny, h]
  simp [F_is_whole, dfn, B_is_whole, e1]
/-- what may stand in a list of items here -/
def ItemW (st : Sto) : W → Prop
  | .int _ => True
  | .bl _ => True
  | .non => True
  | .loc k => ∃ ys, st[k]? = some (.lst ys)
  | _ => False
def itemB (n : Nat) : W → Bool
  | .int i => decide (0 ≤ i ∧ i < (n : Int))
  | _ => false
def fItem (n : Nat) : Y → Option W
  | .v w => some (.bl (itemB n w))
  | _ => none
theorem items_ok {st : Sto} {lc l : Nat} {cs xs : List W} (hc : Sq st lc cs) (h : Sq st l xs) (hx : ∀ x ∈ xs, ItemW st x) (hl : xs.length ≤ big) :
    L_bits_of_2 [some (.loc lc), some (.loc l), none] st = .ok (.loc st.length) (st ++ [.lst (xs.map fun x => .bl (itemB cs.length x))]) := by
  obtain ⟨ck, hit, hck⟩ := h.seq (a := eV 1) (ρ := [some (.loc lc), some (.loc l), none]) rfl
  have hn := hc.len
  obtain ⟨st', h1, h2⟩ := elc_gr (own := [2]) (g := .nm 2) (t := bYes) (e := eAnd (eN F_is_whole (aCons (eV 2) aNil)) (eCh opLe opLt (eC (.int 0)) (eV 2) (eN cLen (aCons (eV 0) aNil)))) hit (· = st) (fItem cs.length) (fun s e => hck s (e ▸ .refl)) rfl (by simpa using hl) (by
    intro y hy s0 e0
    rw [e0]
    obtain ⟨x, hx', rfl⟩ := List.mem_map.mp hy
    have hxw := hx x hx'
    cases x with
    | int i =>
      refine ⟨_, rfl, .inl ⟨st, .bl (itemB cs.length (.int i)), st, rfl, ?_, rfl, rfl⟩⟩
      by_cases h0 : 0 ≤ i
      · simp [wipeL, whole_int, opLe, opLt, cmpI, hn, h0, itemB]
      · simp [wipeL, whole_int, opLe, opLt, cmpI, hn, h0, itemB]
    | bl b => exact ⟨_, rfl, .inl ⟨st, .bl false, st, rfl, by simp [wipeL, whole_bl], rfl, rfl⟩⟩
    | non => exact ⟨_, rfl, .inl ⟨st, .bl false, st, rfl, by simp [wipeL, whole_no (st := st) (w := .non) rfl], rfl, rfl⟩⟩
    | loc k =>
      obtain ⟨zs, hz⟩ := hxw
      have e3 : isA st .int (.loc k) = some false := by simp [isA, hz]
      exact ⟨_, rfl, .inl ⟨st, .bl false, st, rfl, by simp [wipeL, whole_no e3], rfl, rfl⟩⟩
    | _ => exact hxw.elim)
  subst h2
  rw [fm_map _ (fItem cs.length) (fun x => .bl (itemB cs.length x)) (fun _ => rfl)] at h1
  exact h1
theorem joinL_nil : ∀ ys : List (List Nat), joinL [] ys = ys.flatten
  | [] => rfl
  | [x] => by simp [joinL]
  | x :: y :: r => by
    have := joinL_nil (y :: r)
    simp only [joinL, List.nil_append, this, List.flatten_cons]
/-- the text of items -/
def textOf (c : List (List Nat)) (is : List Nat) : List Nat := (is.map fun i => c.getD i []).flatten
theorem sum_le {c : List (List Nat)} (hc : ∀ w ∈ c, w.length ≤ 60) : ∀ is : List Nat, ((is.map fun i => c.getD i []).map List.length).sum ≤ 60 * is.length
  | [] => by simp
  | i :: is => by
    have ih := sum_le hc is
    have h1 : (c.getD i []).length ≤ 60 := by
      rw [List.getD_eq_getElem?_getD]
      cases h : c[i]? with
      | none => simp
      | some w => exact hc w (List.mem_of_getElem? h)
    simp only [List.map_cons, List.sum_cons, List.length_cons]
    omega
def fStr (c : List (List Nat)) : Y → Option W
  | .v (.int i) => some (.str (c.getD i.toNat []))
  | _ => none
theorem strs_ok {st : Sto} {lc l : Nat} {c : List (List Nat)} {is : List Nat} (hc : Sq st lc (c.map .str)) (h : Sq st l (is.map fun i : Nat => .int i)) (hi : ∀ i ∈ is, i < c.length) (hl : is.length ≤ big) :
    L_bits_of_5 [some (.loc lc), some (.loc l), none] st = .ok (.loc st.length) (st ++ [.lst (is.map fun i => .str (c.getD i []))]) := by
  obtain ⟨ck, hit, hck⟩ := h.seq (a := eV 1) (ρ := [some (.loc lc), some (.loc l), none]) rfl
  obtain ⟨st', h1, h2⟩ := elc_gr (own := [2]) (g := .nm 2) (t := bYes) (e := e2 opIx (eV 0) (eV 2)) hit (· = st) (fStr c) (fun s e => hck s (e ▸ .refl)) rfl (by simpa using hl) (by
    intro y hy s0 e0
    rw [e0]
    rw [List.map_map] at hy
    obtain ⟨i, hi', rfl⟩ := List.mem_map.mp hy
    have hlt := hi i hi'
    have e3 : opIx (.loc lc) (.int i) st = .ok (.str (c.getD i [])) st := hc.ix (by simp [List.getD, hlt])
    exact ⟨_, rfl, .inl ⟨st, .str (c.getD i []), st, rfl, by simp only [wipeL, x_e2, x_eV, List.getElem?_cons_zero, List.getElem?_cons_succ, List.set_cons_succ, List.set_cons_zero, R.bind_ok, e3], rfl, by simp [fStr]⟩⟩)
  subst h2
  rw [List.map_map, fm_map _ (fStr c) (fun i : Nat => .str (c.getD i [])) (fun _ => by simp [fStr])] at h1
  exact h1
/-- the code is one, the items are some -/
theorem bits_ok {st : Sto} {lc l : Nat} {c : List (List Nat)} {is : List Nat} (hc : Sq st lc (c.map .str)) (hcw : ∀ w ∈ c, w.length ≤ 60) (hcb : codeB (c.map .str) = true) (h : Sq st l (is.map fun i : Nat => .int i)) (hi : ∀ i ∈ is, i < c.length) (hl : is.length ≤ 1000) :
    ∃ st', F_bits_of [.loc lc, .loc l] st = .ok (.str (textOf c is)) st' ∧ Keep [] st st' := by
  have hcl : c.length ≤ 40 := by
    have : 1 ≤ (c.map W.str).length ∧ (c.map W.str).length ≤ 40 := by
      simp only [codeB, Bool.and_eq_true, decide_eq_true_eq] at hcb
      exact hcb.1
    simpa using this.2
  obtain ⟨s1, k1, k2⟩ := is_code_ok hc (fun x hx => by
    obtain ⟨w, hw, rfl⟩ := List.mem_map.mp hx
    have := hcw w hw
    show w.length ≤ 100000
    omega) (by simpa using (show c.length ≤ 1000 by omega))
  rw [hcb] at k1
  have hc1 := hc.keep k2
  have h1 := h.keep k2
  have q1 : S_bits_of_1 [some (.loc lc), some (.loc l), none] st = .nx [some (.loc lc), some (.loc l), none] s1 := by
    simp [S_bits_of_1, need_yes k1]
  have hbig : is.length ≤ big := by
    have : big = 16777216 := rfl
    omega
  have q2 := items_ok hc1 h1 (fun x hx => by
    obtain ⟨i, _, rfl⟩ := List.mem_map.mp hx
    trivial) (by simpa using hbig)
  have hall := all_new (st := s1) (itemB (c.map W.str).length) (is.map fun i : Nat => W.int i)
  have htrue : ((is.map fun i : Nat => W.int i).all (itemB (c.map W.str).length)) = true := by
    rw [List.all_eq_true]
    intro x hx
    obtain ⟨i, hi', rfl⟩ := List.mem_map.mp hx
    have := hi i hi'
    simp [itemB]
    omega
  rw [htrue] at hall
  have q3 : S_bits_of_4 [some (.loc lc), some (.loc l), none] s1 = .nx [some (.loc lc), some (.loc l), none] (s1 ++ [.lst ((is.map fun i : Nat => W.int i).map fun x => .bl (itemB (c.map W.str).length x))]) := by
    simp only [S_bits_of_4, x_sIf, x_bOr, x_bNot, x_bT, x_eIsi, x_eV, List.getElem?_cons_zero, List.getElem?_cons_succ, R.bind_ok, h1.isAny, x_tru_bl, Bool.not_true, Bool.false_eq_true, if_false, x_eN, x_aCons, x_aNil, q2, hall, R.toS_ok, x_sNop]
  have hc2 : Sq (s1 ++ [.lst ((is.map fun i : Nat => W.int i).map fun x => .bl (itemB (c.map W.str).length x))]) lc (c.map .str) := hc1.keep Keep.app
  have h2 : Sq (s1 ++ [.lst ((is.map fun i : Nat => W.int i).map fun x => .bl (itemB (c.map W.str).length x))]) l (is.map fun i : Nat => .int i) := h1.keep Keep.app
  have k3 : Keep [] st (s1 ++ [.lst ((is.map fun i : Nat => W.int i).map fun x => .bl (itemB (c.map W.str).length x))]) := k2.trans Keep.app
  generalize s1 ++ [.lst ((is.map fun i : Nat => W.int i).map fun x => .bl (itemB (c.map W.str).length x))] = s2 at q3 hc2 h2 k3
  have q4 := strs_ok hc2 h2 hi hbig
  have q5 : mJoin (.str []) [.loc s2.length] (s2 ++ [.lst (is.map fun i => .str (c.getD i []))]) = .ok (.str (textOf c is)) (s2 ++ [.lst (is.map fun i => .str (c.getD i []))]) := by
    have e1 : is.map (fun i => W.str (c.getD i [])) = (is.map fun i => c.getD i []).map W.str := by rw [List.map_map]; rfl
    have e2 := sum_le hcw is
    have e3 : ((is.map fun i => c.getD i []).map List.length).sum + (is.map fun i => c.getD i []).length * ([] : List Nat).length ≤ 16777216 := by
      simp only [List.length_nil, Nat.mul_zero]
      omega
    simp only [mJoin, seqAt, nodeAt, get_new]
    rw [e1, allStr_map]
    dsimp only
    rw [if_pos e3, joinL_nil]
    rfl
  refine ⟨s2 ++ [.lst (is.map fun i => .str (c.getD i []))], ?_, k3.trans Keep.app⟩
  simp [F_bits_of, dfn, B_bits_of, q1, q3, kStr, q4, q5, -List.getD_eq_getElem?_getD]
theorem bits_bad_code {st st' : Sto} {w v : W} (h : F_is_code [w] st = .ok (.bl false) st') : F_bits_of [w, v] st = .exc 0 st'.length (st' ++ [.xd [("given", w)]]) := by
  simp [F_bits_of, dfn, B_bits_of, S_bits_of_1, need_no h]
theorem bits_bad_no {st st' : Sto} {w v : W} (h : F_is_code [w] st = .ok (.bl true) st') (h1 : isA st' .list v = some false) (h2 : isA st' .tuple v = some false) : F_bits_of [w, v] st = .exc 1 st'.length (st' ++ [.xd [("given", v)]]) := by
  have e1 : isAny st' [Ty.list, Ty.tuple] v = some false := by simp [isAny, h1, h2]
  simp [F_bits_of, dfn, B_bits_of, S_bits_of_1, need_yes h, S_bits_of_4, e1, S_bits_of_3]
theorem bits_bad_items {st st' : Sto} {lc l : Nat} {cs xs : List W} (h : F_is_code [.loc lc] st = .ok (.bl true) st') (hc : Sq st' lc cs) (hl : Sq st' l xs) (hx : ∀ x ∈ xs, ItemW st' x) (hlen : xs.length ≤ big) (hb : xs.all (itemB cs.length) = false) :
    ∃ s2, F_bits_of [.loc lc, .loc l] st = .exc 1 s2.length (s2 ++ [.xd [("given", .loc l)]]) ∧ Keep [] st' s2 := by
  have q2 := items_ok hc hl hx hlen
  have hall := all_new (st := st') (itemB cs.length) xs
  rw [hb] at hall
  refine ⟨_, ?_, Keep.app (r := [.lst (xs.map fun x => .bl (itemB cs.length x))])⟩
  simp [F_bits_of, dfn, B_bits_of, S_bits_of_1, need_yes h, S_bits_of_4, hl.isAny, q2, hall, S_bits_of_3]
/-! ### reading -/
def hits (c : List (List Nat)) (u : List Nat) : List Nat := (c.zipIdx.filter fun p => u.take p.1.length == p.1).map (·.2)
def item (c : List (List Nat)) (u : List Nat) : Option Nat := (hits c u).head?
def enumY (c : List (List Nat)) : List Y := (c.map W.str).zipIdx.map fun p => .t [.int p.2, p.1]
theorem enum_eq (c : List (List Nat)) : enumY c = c.zipIdx.map fun p => .t [.int p.2, .str p.1] := by
  unfold enumY
  have key : ∀ (c : List (List Nat)) (k : Nat), ((c.map W.str).zipIdx k).map (fun p => Y.t [.int p.2, p.1]) = (c.zipIdx k).map fun p => .t [.int p.2, .str p.1] := by
    intro c
    induction c with
    | nil => intro k; rfl
    | cons w c ih =>
      intro k
      rw [List.map_cons, List.zipIdx_cons, List.zipIdx_cons, List.map_cons, List.map_cons, ih]
  exact key c 0
def fHit (u : List Nat) : Y → Option W
  | .t [.int i, .str w] => if u.take w.length = w then some (.int i) else none
  | _ => none
theorem fHit_eq (c : List (List Nat)) (u : List Nat) : (enumY c).filterMap (fHit u) = (hits c u).map fun i : Nat => W.int i := by
  rw [enum_eq]
  unfold hits
  generalize c.zipIdx = l
  induction l with
  | nil => rfl
  | cons p l ih =>
    rw [List.map_cons, List.filterMap_cons, List.filter_cons]
    by_cases h : u.take p.1.length = p.1
    · have h' : (u.take p.1.length == p.1) = true := by rw [h]; exact beq_self_eq_true _
      rw [if_pos h']
      simp only [fHit, if_pos h, ih, List.map_cons]
    · have h' : ¬ (u.take p.1.length == p.1) = true := fun e => h (eq_of_beq e)
      rw [if_neg h']
      simp only [fHit, if_neg h, ih]
theorem enum_it {st : Sto} {l : Nat} {c : List (List Nat)} (h : st[l]? = some (.lst (c.map .str))) {a : ES} {ρ : Mi.Loc} (e : a ρ st = .ok (.loc l) st) : iEnum a ρ st = .ok (enumY c, [(l, .lst (c.map .str))]) st := by
  simp [iEnum, e, h, enumY]
theorem cut_at (t : List Nat) (a k : Nat) (h : a ≤ t.length) : cutW t (some (a : Int)) (some ((a : Int) + (k : Int))) = (t.drop a).take k := by
  unfold cutW
  rw [show ((a : Int) + (k : Int)) = ((a + k : Nat) : Int) from by omega, HT.sIx_nat, HT.sIx_nat, Nat.min_eq_left h]
  apply List.ext_getElem?
  intro i
  rw [List.getElem?_take, List.getElem?_take, List.getElem?_drop]
  by_cases h1 : i < k
  · rw [if_pos h1]
    by_cases h2 : a + i < t.length
    · rw [if_pos (by omega)]
    · rw [List.getElem?_eq_none (by omega)]
      simp
  · rw [if_neg h1, if_neg (by omega)]
theorem cut_to (t : List Nat) (k : Nat) : cutW t none (some (k : Int)) = t.take k := by
  unfold cutW
  rw [HT.sIx_nat, HT.sIx_none, List.drop_zero, Nat.sub_zero]
  apply List.ext_getElem?
  intro i
  rw [List.getElem?_take, List.getElem?_take]
  by_cases h1 : i < k
  · rw [if_pos h1]
    by_cases h2 : i < t.length
    · rw [if_pos (by omega)]
    · rw [List.getElem?_eq_none (by omega)]
      simp
  · rw [if_neg h1, if_neg (by omega)]
theorem cut_from (t : List Nat) (k : Nat) : cutW t (some (k : Int)) none = t.drop k := by
  unfold cutW
  rw [HT.sIx_nat, HT.sIx_none]
  apply List.ext_getElem?
  intro i
  rw [List.getElem?_take, List.getElem?_drop, List.getElem?_drop]
  by_cases h1 : k + i < t.length
  · rw [if_pos (by omega), Nat.min_eq_left (by omega)]
  · rw [List.getElem?_eq_none (show t.length ≤ k + i by omega)]
    split
    · exact List.getElem?_eq_none (by omega)
    · rfl
/-- [..] == [] -/
theorem weq_nil {st : Sto} {a b : Nat} {xs : List W} {ds : List D} (ha : st[a]? = some (.lst xs)) (hb : st[b]? = some (.lst [])) (hd : mapO (dataOf st 59) xs = some ds) : weq st (.loc a) (.loc b) = some xs.isEmpty := by
  have e1 : dataOf st deep (.loc a) = some (.lst ds) := by
    show dataOf st (59 + 1) (.loc a) = _
    unfold dataOf
    simp only [ha, hd, Option.map_some]
  have e2 : dataOf st deep (.loc b) = some (.lst []) := by
    show dataOf st (59 + 1) (.loc b) = _
    unfold dataOf
    simp only [hb, mapO, Option.map_some]
  have hl : ds.length = xs.length := mapO_len hd
  unfold weq
  rw [if_neg (by simp [scalW]), e1, e2]
  cases ds with
  | nil =>
    cases xs with
    | nil => rfl
    | cons _ _ => simp at hl
  | cons _ _ =>
    cases xs with
    | nil => simp at hl
    | cons _ _ => rfl
theorem data_ints (st : Sto) (n : Nat) : ∀ is : List Nat, mapO (dataOf st n) (is.map fun i : Nat => W.int i) = some (is.map fun i : Nat => D.int i)
  | [] => rfl
  | i :: is => by
    have e : dataOf st n (.int (i : Int)) = some (.int (i : Int)) := by cases n <;> rfl
    rw [List.map_cons, List.map_cons]
    unfold mapO
    simp only [e, data_ints st n is, Option.map_some]
theorem L_item_at {st : Sto} {lc at_ : Nat} {c : List (List Nat)} {t : List Nat} (h : st[lc]? = some (.lst (c.map .str))) (ha : at_ ≤ t.length) (ht : t.length ≤ 1000000) (hc : ∀ w ∈ c, w.length ≤ 60) (hcl : c.length ≤ 1000) :
    L_item_at_1 [some (.loc lc), some (.str t), some (.int at_), none, none, none] st = .ok (.loc st.length) (st ++ [.lst ((hits c (t.drop at_)).map fun i : Nat => .int i)]) := by
  have hb : big = 16777216 := rfl
  obtain ⟨st', h1, h2⟩ := elc_gr (own := [4, 5]) (g := .tp [4, 5]) (t := bB (e2 opEq (eSl (eV 1) (oS (eV 2)) (oS (e2 opAdd (eV 2) (eN cLen (aCons (eV 5) aNil))))) (eV 5))) (e := eV 4) (enum_it h (a := eV 0) (ρ := [some (.loc lc), some (.str t), some (.int at_), none, none, none]) rfl) (· = st) (fHit (t.drop at_)) (fun s e => e ▸ ck1 h) rfl (by simp [enumY]; omega) (by
    intro y hy s0 e0
    rw [e0]
    rw [enum_eq] at hy
    obtain ⟨p, hp, rfl⟩ := List.mem_map.mp hy
    obtain ⟨w, i⟩ := p
    have hw : w ∈ c := (List.mem_zipIdx hp).2.2 ▸ List.getElem_mem _
    have hwl := hc w hw
    have hsl : opSl (.str t) (some (at_ : Int)) (some ((at_ : Int) + (w.length : Int))) st = .ok (.str ((t.drop at_).take w.length)) st := by
      unfold opSl
      dsimp only
      rw [if_pos (by omega), cut_at t at_ w.length ha]
    have hcw : cLen [.str w] st = .ok (.int w.length) st := if_pos (by omega)
    refine ⟨_, rfl, ?_⟩
    by_cases he : (t.drop at_).take w.length = w
    · refine .inl ⟨st, .int i, st, ?_, rfl, rfl, by simp [fHit, he]⟩
      simp [wipeL, hcw, opAdd, hsl, opEq, weq, scalW, he]
    · refine .inr ⟨st, ?_, rfl, by simp [fHit, he]⟩
      simp [wipeL, hcw, opAdd, hsl, opEq, weq, scalW, he])
  subst h2
  rw [fHit_eq] at h1
  exact h1
theorem item_at_ok {st : Sto} {lc at_ : Nat} {c : List (List Nat)} {t : List Nat} (h : st[lc]? = some (.lst (c.map .str))) (ha : at_ ≤ t.length) (ht : t.length ≤ 1000000) (hc : ∀ w ∈ c, w.length ≤ 60) (hcl : c.length ≤ 1000) :
    ∃ st', F_item_at [.loc lc, .str t, .int at_] st = .ok (match item c (t.drop at_) with | some i => .int (i : Int) | none => .non) st' ∧ Keep [] st st' := by
  have q1 := L_item_at h ha ht hc hcl
  generalize hs1 : st ++ [Nd.lst ((hits c (t.drop at_)).map fun i : Nat => .int i)] = s1 at q1
  have g1 : s1[st.length]? = some (.lst ((hits c (t.drop at_)).map fun i : Nat => .int i)) := hs1 ▸ get_new
  have k1 : Keep [] st s1 := hs1 ▸ Keep.app
  have g2 : (s1 ++ [Nd.lst []])[st.length]? = some (.lst ((hits c (t.drop at_)).map fun i : Nat => .int i)) := get_app g1
  have q2 := weq_nil g2 (get_new (st := s1) (n := .lst [])) (data_ints _ 59 _)
  refine ⟨s1 ++ [.lst []], ?_, k1.trans Keep.app⟩
  unfold item
  cases hh : hits c (t.drop at_) with
  | nil =>
    rw [hh] at q2
    simp [F_item_at, dfn, B_item_at, S_item_at_2, q1, newL, big, opNe, q2]
  | cons i r =>
    rw [hh] at q2 g2
    have q3 : opIx (.loc st.length) (.int 0) (s1 ++ [.lst []]) = .ok (.int (i : Int)) (s1 ++ [.lst []]) := by
      simp only [opIx, g2, List.map_cons, at0, lift1]
    simp [F_item_at, dfn, B_item_at, S_item_at_2, q1, newL, big, opNe, q2, q3]
/-- the items that a text is of, a nonempty word at a turn -/
def dec (c : List (List Nat)) : Nat → List Nat → Option (List Nat)
  | 0, t => if t = [] then some [] else none
  | n + 1, t => if t = [] then some [] else match item c t with
    | none => none
    | some i => (dec c n (t.drop (c.getD i []).length)).map (i :: ·)
theorem item_mem {c : List (List Nat)} {u : List Nat} {i : Nat} (h : item c u = some i) : i < c.length ∧ u.take (c.getD i []).length = c.getD i [] := by
  unfold item hits at h
  have hm := List.mem_of_mem_head? (by rw [h]; exact rfl : i ∈ ((c.zipIdx.filter fun p => u.take p.1.length == p.1).map (·.2)).head?)
  obtain ⟨p, hp, rfl⟩ := List.mem_map.mp hm
  obtain ⟨hp1, hp2⟩ := List.mem_filter.mp hp
  have h2 := eq_of_beq hp2
  obtain ⟨w, i⟩ := p
  obtain ⟨_, h4, h5⟩ := List.mem_zipIdx hp1
  have h6 : i < c.length := by simpa using h4
  have h7 : c.getD i [] = w := by
    have : w = c[i] := by simpa using h5
    rw [this, List.getD_eq_getElem?_getD, List.getElem?_eq_getElem h6]
    rfl
  exact ⟨h6, by rw [h7]; exact h2⟩
theorem dec_fuel {c : List (List Nat)} (hc : ∀ w ∈ c, w ≠ []) : ∀ (n m : Nat) (t : List Nat), t.length ≤ n → t.length ≤ m → dec c n t = dec c m t
  | 0, m, t, h1, h2 => by
    have e : t = [] := List.eq_nil_of_length_eq_zero (by omega)
    subst e
    cases m <;> simp [dec]
  | n + 1, 0, t, h1, h2 => by
    have e : t = [] := List.eq_nil_of_length_eq_zero (by omega)
    subst e
    simp [dec]
  | n + 1, m + 1, t, h1, h2 => by
    unfold dec
    split
    · rfl
    · rename_i hne
      cases hi : item c t with
      | none => rfl
      | some i =>
        obtain ⟨k1, k2⟩ := item_mem hi
        have hw : c.getD i [] ∈ c := by
          rw [List.getD_eq_getElem?_getD, List.getElem?_eq_getElem k1]
          exact List.getElem_mem k1
        have hpos : 0 < (c.getD i []).length := List.length_pos_iff.mpr (hc _ hw)
        have hpos2 : 0 < t.length := List.length_pos_iff.mpr hne
        dsimp only
        rw [dec_fuel hc n m _ (by rw [List.length_drop]; omega) (by rw [List.length_drop]; omega)]
theorem item_ix {st : Sto} {lc : Nat} {c : List (List Nat)} (h : st[lc]? = some (.lst (c.map .str))) {i : Nat} (hi : i < c.length) : opIx (.loc lc) (.int (i : Int)) st = .ok (.str (c.getD i [])) st :=
  Sq.ix (.inl h) (by simp [List.getD, hi])
theorem word_in {c : List (List Nat)} {i : Nat} (h : i < c.length) : c.getD i [] ∈ c := by
  rw [List.getD_eq_getElem?_getD, List.getElem?_eq_getElem h]
  exact List.getElem_mem h
/-- the words of a drawn code -/
structure CodeOk (c : List (List Nat)) : Prop where
  len : c.length ≤ 40
  words : ∀ w ∈ c, w.length ≤ 60
theorem dec_step {c : List (List Nat)} (hne : ∀ w ∈ c, w ≠ []) {n : Nat} {t : List Nat} (hn : t.length = n) (h0 : 0 < n) : dec c n t = match item c t with
    | none => none
    | some i => (dec c (t.drop (c.getD i []).length).length (t.drop (c.getD i []).length)).map (i :: ·) := by
  cases n with
  | zero => omega
  | succ n =>
    conv => lhs; unfold dec
    rw [if_neg (fun e => by rw [e] at hn; simp at hn)]
    cases hi : item c t with
    | none => rfl
    | some i =>
      obtain ⟨k1, k2⟩ := item_mem hi
      have hpos : 0 < (c.getD i []).length := List.length_pos_iff.mpr (hne _ (word_in k1))
      dsimp only
      rw [dec_fuel hne n _ _ (by rw [List.length_drop]; omega) (Nat.le_refl _)]
theorem item_len {c : List (List Nat)} {u : List Nat} {i : Nat} (h : item c u = some i) : (c.getD i []).length ≤ u.length := by
  have h1 := (item_mem h).2
  have h2 := congrArg List.length h1
  rw [List.length_take] at h2
  omega
/-- the loop of read_items -/
def ROut (c : List (List Nat)) (t : List Nat) (lf : Nat) (st : Sto) (r : RS) : Prop := match dec c t.length t with
  | some is => ∃ ρ st', r = .nx ρ st' ∧ ρ[2]? = some (some (.loc lf)) ∧ st'[lf]? = some (.lst (is.map fun i : Nat => .int i)) ∧ Keep [lf] st st'
  | none => ∃ l ρ st', r = .exc 1 l ρ st' ∧ st'[l]? = some (.xd [("given", .str t)]) ∧ Keep [lf] st st'
theorem read_loop {st : Sto} {lc lf : Nat} {c : List (List Nat)} {t : List Nat} (h : st[lc]? = some (.lst (c.map .str))) (hf : st[lf]? = some (.lst [])) (ne : lc ≠ lf) (hc : CodeOk c) (hne : ∀ w ∈ c, w ≠ []) (ht : t.length ≤ 100000) (z : Option W) :
    ROut c t lf st (S_read_items_10 [some (.loc lc), some (.str t), some (.loc lf), some (.int 0), z] st) := by
  have hb : big = 16777216 := rfl
  refine while_in (fun n ρ s => ∃ (a : Nat) (acc : List Nat) (z : Option W), n = t.length - a ∧ a ≤ t.length ∧ acc.length ≤ a ∧ ρ = [some (.loc lc), some (.str t), some (.loc lf), some (.int a), z] ∧ s[lf]? = some (.lst (acc.map fun i : Nat => .int i)) ∧ Keep [lf] st s ∧
    dec c t.length t = (dec c (t.length - a) (t.drop a)).map (acc ++ ·)) (ROut c t lf st) ?_ _ t.length _ _ ⟨0, [], z, rfl, Nat.zero_le _, Nat.le_refl _, rfl, hf, .refl, ?_⟩ (by show t.length < 1000000000; omega)
  · rintro n ρ s ⟨a, acc, z, rfl, ha, hacc, rfl, hs, k, hd⟩
    have hcl : cLen [.str t] s = .ok (.int t.length) s := if_pos (by omega)
    have hcs : s[lc]? = some (.lst (c.map .str)) := k.get h (by simpa using ne)
    by_cases hend : a < t.length
    · have hlt : (a : Int) < (t.length : Int) := by omega
      refine .inr ⟨s, by simp [hcl, opLt, cmpI, hend], ?_⟩
      obtain ⟨s1, q1, k1⟩ := item_at_ok hcs ha (by omega) hc.words (by have := hc.len; omega)
      have hu : (t.drop a).length = t.length - a := List.length_drop
      have hstep := dec_step hne hu (by omega)
      rw [hstep] at hd
      cases hi : item c (t.drop a) with
      | none =>
        rw [hi] at q1 hd
        refine .inr (.inr ⟨1, s1.length, [some (.loc lc), some (.str t), some (.loc lf), some (.int a), some .non], s1 ++ [.xd [("given", .str t)]], ?_, ?_⟩)
        · simp [S_read_items_5, q1, S_read_items_7, opIsN, S_read_items_6]
        · unfold ROut
          rw [hd]
          exact ⟨_, _, _, rfl, get_new, (k.trans k1.of_nil).trans Keep.app⟩
      | some i =>
        rw [hi] at q1 hd
        obtain ⟨hi1, _⟩ := item_mem hi
        have hi2 := item_len hi
        have hpos : 0 < (c.getD i []).length := List.length_pos_iff.mpr (hne _ (word_in hi1))
        have hs1 : s1[lf]? = some (.lst (acc.map fun i : Nat => .int i)) := k1.nil_get hs
        have happ : mAppend (.loc lf) [.int (i : Int)] s1 = .ok .non (s1.set lf (.lst ((acc ++ [i]).map fun i : Nat => .int i))) := by
          simp only [mAppend, hs1]
          rw [if_pos (by rw [List.length_map]; omega)]
          simp
        have hkl : kList (.loc lf) s1 = true := by simp [kList, listAt, nodeAt, hs1]
        have g1 : (s1.set lf (.lst ((acc ++ [i]).map fun i : Nat => .int i)))[lc]? = some (.lst (c.map .str)) := set_ne (k1.nil_get hcs) (Ne.symm ne)
        have hix := item_ix g1 hi1
        have hwl := hc.words _ (word_in hi1)
        have hcw : ∀ s, cLen [.str (c.getD i [])] s = .ok (.int (c.getD i []).length) s := fun s => if_pos (by omega)
        refine .inl ⟨[some (.loc lc), some (.str t), some (.loc lf), some (.int ((a + (c.getD i []).length : Nat) : Int)), some (.int i)], s1.set lf (.lst ((acc ++ [i]).map fun i : Nat => .int i)), t.length - (a + (c.getD i []).length), .inl ?_, by omega, a + (c.getD i []).length, acc ++ [i], some (.int i), rfl, by omega, by rw [List.length_append, List.length_singleton]; omega, rfl, set_get hs1, ((k.trans k1.of_nil).trans (Keep.set (by simp))), ?_⟩
        · generalize hW : c.getD i [] = w at hcw hix hpos hi2 hwl
          simp only [x_sSeq, S_read_items_5, x_sSet, x_eN, x_aCons, x_aNil, x_eV, List.getElem?_cons_zero, List.getElem?_cons_succ, R.bind_ok, q1, R.toS_ok, List.set_cons_succ, List.set_cons_zero, RS.then_nx]
          simp only [x_sSeq, S_read_items_7, x_sIf, x_bB, x_e1, x_eV, List.getElem?_cons_zero, List.getElem?_cons_succ, R.bind_ok, opIsN, R.toS_ok, x_sNop, RS.then_nx, decide_false, Bool.false_eq_true, if_false, reduceCtorEq]
          simp only [x_sSeq, S_read_items_8, x_sDrop, x_eM, x_eV, List.getElem?_cons_zero, List.getElem?_cons_succ, R.bind_ok, hkl, if_true, x_aCons, x_aNil, happ, R.toS_ok, RS.then_nx]
          simp only [S_read_items_9, x_sSet, x_e2, x_eN, x_aCons, x_aNil, x_eV, List.getElem?_cons_zero, List.getElem?_cons_succ, R.bind_ok, hix, hcw, opAdd, R.toS_ok, List.set_cons_succ, List.set_cons_zero]
          rfl
        · rw [hd]
          dsimp only
          rw [List.drop_drop, List.length_drop, Option.map_map]
          congr 1
          funext x
          simp
    · have e : a = t.length := by omega
      subst e
      refine .inl ⟨s, by simp [hcl, opLt, cmpI], ?_⟩
      rw [Nat.sub_self, List.drop_length] at hd
      unfold ROut
      rw [hd]
      simp only [dec, if_true, Option.map_some, List.append_nil]
      exact ⟨_, _, rfl, rfl, hs, k⟩
  · simp
theorem Keep.late2 {a b c : Sto} {l : Nat} (h : Keep [] a b) (k : Keep [l] b c) (hl : a.length ≤ l) : Keep [] a c := fun i n hi e => by
  have h1 := (List.getElem?_eq_some_iff.mp e).1
  exact k.get (h.nil_get e) (by simp; omega)
/-- a drawn code: one empty word, or none is empty -/
structure CodeD (c : List (List Nat)) : Prop extends CodeOk c where
  isc : codeB (c.map .str) = true
  emp : c = [[]] ∨ ∀ w ∈ c, w ≠ []
def readS (c : List (List Nat)) (t : List Nat) : Option (List Nat) := if bitsB t = false then none else if c = [[]] then (if t = [] then some [] else none) else dec c t.length t
theorem CodeD.pos {c : List (List Nat)} (h : CodeD c) : 0 < c.length := by
  have h1 := h.isc
  simp only [codeB, Bool.and_eq_true, decide_eq_true_eq, List.length_map] at h1
  omega
theorem CodeD.code {c : List (List Nat)} (h : CodeD c) {st : Sto} {lc : Nat} (hs : Sq st lc (c.map .str)) : ∃ st', F_is_code [.loc lc] st = .ok (.bl true) st' ∧ Keep [] st st' := by
  have h1 := is_code_ok hs (fun x hx => by
    obtain ⟨w, hw, rfl⟩ := List.mem_map.mp hx
    have := h.words w hw
    show w.length ≤ 100000
    omega) (by have := h.len; simp; omega)
  rw [h.isc] at h1
  exact h1
theorem read_bad_code {st st' : Sto} {w v : W} (h : F_is_code [w] st = .ok (.bl false) st') : F_read_items [w, v] st = .exc 0 st'.length (st' ++ [.xd [("given", w)]]) := by
  simp [F_read_items, dfn, B_read_items, S_read_items_1, need_no h]
theorem read_bad_bits {st s1 s2 : Sto} {w v : W} (h : F_is_code [w] st = .ok (.bl true) s1) (h2 : F_is_bits [v] s1 = .ok (.bl false) s2) : F_read_items [w, v] st = .exc 1 s2.length (s2 ++ [.xd [("given", v)]]) := by
  simp [F_read_items, dfn, B_read_items, S_read_items_1, need_yes h, S_read_items_3, h2, S_read_items_2]
theorem read_ok {st : Sto} {lc : Nat} {c : List (List Nat)} {t : List Nat} (h : st[lc]? = some (.lst (c.map .str))) (hc : CodeD c) (ht : t.length ≤ 100000) :
    match readS c t with
    | some is => ∃ l st', F_read_items [.loc lc, .str t] st = .ok (.loc l) st' ∧ st'[l]? = some (.lst (is.map fun i : Nat => .int i)) ∧ Keep [] st st' ∧ st.length ≤ l
    | none => ∃ l st', F_read_items [.loc lc, .str t] st = .exc 1 l st' ∧ st'[l]? = some (.xd [("given", .str t)]) ∧ Keep [] st st' := by
  have hb : big = 16777216 := rfl
  obtain ⟨s1, q1, k1⟩ := hc.code (.inl h)
  obtain ⟨s2, q2, k2⟩ := is_bits_str (st := s1) (s := t) (by omega)
  have k12 := k1.trans k2
  unfold readS
  cases hbit : bitsB t with
  | false =>
    rw [hbit] at q2
    rw [if_pos rfl]
    exact ⟨s2.length, _, read_bad_bits q1 q2, get_new, k12.trans Keep.app⟩
  | true =>
    rw [hbit] at q2
    rw [if_neg (by decide)]
    have h2 := k12.nil_get h
    have hw0 : opIx (.loc lc) (.int 0) s2 = .ok (.str (c.getD 0 [])) s2 := item_ix h2 hc.pos
    have p1 : S_read_items_1 [some (.loc lc), some (.str t), none, none, none] st = .nx [some (.loc lc), some (.str t), none, none, none] s1 := by
      simp [S_read_items_1, need_yes q1]
    have hne0 : c ≠ [[]] → c.getD 0 [] ≠ [] := fun e => by
      rcases hc.emp with z | z
      · exact absurd z e
      · exact z _ (word_in hc.pos)
    by_cases h0 : c = [[]]
    · rw [if_pos h0]
      have hg : c.getD 0 [] = [] := by rw [h0]; rfl
      rw [hg] at hw0
      by_cases h3 : t = []
      · rw [if_pos h3]
        subst h3
        have p2 : S_read_items_3 [some (.loc lc), some (.str []), none, none, none] s1 = .nx [some (.loc lc), some (.str []), none, none, none] s2 := by
          simp [S_read_items_3, q2, hw0, opEq, opNe, weq, scalW]
        have p3 : S_read_items_4 [some (.loc lc), some (.str []), none, none, none] s2 = .nx [some (.loc lc), some (.str []), some (.loc s2.length), some (.int 0), none] (s2 ++ [.lst []]) := by
          simp [S_read_items_4, newL, big, setAll]
        have hcl : cLen [.str []] (s2 ++ [.lst []]) = .ok (.int 0) (s2 ++ [.lst []]) := by simp [cLen]
        have p4 : S_read_items_10 [some (.loc lc), some (.str []), some (.loc s2.length), some (.int 0), none] (s2 ++ [.lst []]) = .nx [some (.loc lc), some (.str []), some (.loc s2.length), some (.int 0), none] (s2 ++ [.lst []]) := by
          unfold S_read_items_10 sWhile
          refine while_in (fun n ρ s => ρ = [some (.loc lc), some (.str []), some (.loc s2.length), some (.int 0), none] ∧ s = s2 ++ [.lst []]) (fun r => r = .nx [some (.loc lc), some (.str []), some (.loc s2.length), some (.int 0), none] (s2 ++ [.lst []])) ?_ fuel 0 _ _ ⟨rfl, rfl⟩ (by show (0 : Nat) < 1000000000; omega)
          rintro n ρ s ⟨rfl, rfl⟩
          exact .inl ⟨_, by simp [hcl, opLt, cmpI], rfl⟩
        exact ⟨s2.length, s2 ++ [.lst []], by simp [F_read_items, dfn, B_read_items, p1, p2, p3, p4], get_new, k12.trans Keep.app, k12.len⟩
      · rw [if_neg h3]
        refine ⟨s2.length, s2 ++ [.xd [("given", .str t)]], ?_, get_new, k12.trans Keep.app⟩
        simp [F_read_items, dfn, B_read_items, p1, S_read_items_3, q2, hw0, opEq, opNe, weq, scalW, h3, S_read_items_2]
    · rw [if_neg h0]
      have hg := hne0 h0
      have hne : ∀ w ∈ c, w ≠ [] := hc.emp.resolve_left h0
      have p2 : S_read_items_3 [some (.loc lc), some (.str t), none, none, none] s1 = .nx [some (.loc lc), some (.str t), none, none, none] s2 := by
        generalize c.getD 0 [] = w0 at hw0 hg
        simp [S_read_items_3, q2, hw0, opEq, opNe, weq, scalW, hg]
      have p3 : S_read_items_4 [some (.loc lc), some (.str t), none, none, none] s2 = .nx [some (.loc lc), some (.str t), some (.loc s2.length), some (.int 0), none] (s2 ++ [.lst []]) := by
        simp [S_read_items_4, newL, big, setAll]
      have hl := lt_of_get h2
      have p4 := read_loop (get_app (r := [.lst []]) h2) get_new (by omega) hc.toCodeOk hne ht none
      unfold ROut at p4
      cases hd : dec c t.length t with
      | none =>
        rw [hd] at p4
        obtain ⟨l, ρ, s4, e1, e2, e3⟩ := p4
        exact ⟨l, s4, by simp [F_read_items, dfn, B_read_items, p1, p2, p3, e1], e2, Keep.late2 (k12.trans Keep.app) e3 k12.len⟩
      | some is =>
        rw [hd] at p4
        obtain ⟨ρ, s4, e1, e0, e2, e3⟩ := p4
        exact ⟨s2.length, s4, by simp [F_read_items, dfn, B_read_items, p1, p2, p3, e1, e0], e2, Keep.late2 (k12.trans Keep.app) e3 k12.len, k12.len⟩
/-! ### the law's own reading -/
theorem L_law_read {st : Sto} {lc : Nat} {c : List (List Nat)} {t u : List Nat} {w2 : Option W} {z : Option W} (h : st[lc]? = some (.lst (c.map .str))) (ht : u.length ≤ 1000000) (hc : CodeOk c) :
    L__law_read_3 [some (.loc lc), some (.str t), w2, some (.str u), z, none, none] st = .ok (.loc st.length) (st ++ [.lst ((hits c u).map fun i : Nat => .int i)]) := by
  have hb : big = 16777216 := rfl
  have hcl := hc.len
  obtain ⟨st', h1, h2⟩ := elc_gr (own := [5, 6]) (g := .tp [5, 6]) (t := bB (e2 opEq (eSl (eV 3) oN (oS (eN cLen (aCons (eV 6) aNil)))) (eV 6))) (e := eV 5) (enum_it h (a := eV 0) (ρ := [some (.loc lc), some (.str t), w2, some (.str u), z, none, none]) rfl) (· = st) (fHit u) (fun s e => e ▸ ck1 h) rfl (by simp [enumY]; omega) (by
    intro y hy s0 e0
    rw [e0]
    rw [enum_eq] at hy
    obtain ⟨p, hp, rfl⟩ := List.mem_map.mp hy
    obtain ⟨w, i⟩ := p
    have hw : w ∈ c := (List.mem_zipIdx hp).2.2 ▸ List.getElem_mem _
    have hwl := hc.words w hw
    have hsl : opSl (.str u) none (some (w.length : Int)) st = .ok (.str (u.take w.length)) st := by
      unfold opSl
      dsimp only
      rw [if_pos (by omega), cut_to]
    have hcw : cLen [.str w] st = .ok (.int w.length) st := if_pos (by omega)
    refine ⟨_, rfl, ?_⟩
    by_cases he : u.take w.length = w
    · refine .inl ⟨st, .int i, st, ?_, rfl, rfl, by simp [fHit, he]⟩
      simp [wipeL, hcw, hsl, opEq, weq, scalW, he]
    · refine .inr ⟨st, ?_, rfl, by simp [fHit, he]⟩
      simp [wipeL, hcw, hsl, opEq, weq, scalW, he])
  subst h2
  rw [fHit_eq] at h1
  exact h1
def LOut (c : List (List Nat)) (t : List Nat) (lf : Nat) (st : Sto) (r : RS) : Prop := match dec c t.length t with
  | some is => ∃ ρ st', r = .nx ρ st' ∧ ρ[2]? = some (some (.loc lf)) ∧ st'[lf]? = some (.lst (is.map fun i : Nat => .int i)) ∧ Keep [lf] st st'
  | none => ∃ st', r = .rt .non st' ∧ Keep [lf] st st'
theorem item_hits {c : List (List Nat)} {u : List Nat} : (∃ i r, hits c u = i :: r ∧ item c u = some i) ∨ (hits c u = [] ∧ item c u = none) := by
  unfold item
  cases h : hits c u with
  | nil => exact .inr ⟨rfl, rfl⟩
  | cons i r => exact .inl ⟨i, r, rfl, rfl⟩
theorem law_read_loop {st : Sto} {lc lf : Nat} {c : List (List Nat)} {t : List Nat} (h : st[lc]? = some (.lst (c.map .str))) (hf : st[lf]? = some (.lst [])) (ne : lc ≠ lf) (hc : CodeOk c) (hne : ∀ w ∈ c, w ≠ []) (ht : t.length ≤ 100000) :
    LOut c t lf st (S__law_read_8 [some (.loc lc), some (.str t), some (.loc lf), some (.str t), none, none, none] st) := by
  have hb : big = 16777216 := rfl
  unfold S__law_read_8 sWhile
  refine while_in (fun n ρ s => ∃ (u : List Nat) (acc : List Nat) (z : Option W), n = u.length ∧ acc.length + u.length ≤ t.length ∧ ρ = [some (.loc lc), some (.str t), some (.loc lf), some (.str u), z, none, none] ∧ s[lf]? = some (.lst (acc.map fun i : Nat => .int i)) ∧ Keep [lf] st s ∧
    dec c t.length t = (dec c u.length u).map (acc ++ ·)) (LOut c t lf st) ?_ _ t.length _ _ ⟨t, [], none, rfl, by simp, rfl, hf, .refl, ?_⟩ (by show t.length < 1000000000; omega)
  · rintro n ρ s ⟨u, acc, z, rfl, hu, rfl, hs, k, hd⟩
    have hcs : s[lc]? = some (.lst (c.map .str)) := k.get h (by simpa using ne)
    by_cases hend : u = []
    · subst hend
      refine .inl ⟨s, by simp [opNe, weq, scalW], ?_⟩
      unfold LOut
      rw [hd]
      simp only [List.length_nil, dec, if_true, Option.map_some, List.append_nil]
      exact ⟨_, _, rfl, rfl, hs, k⟩
    · have hupos : 0 < u.length := List.length_pos_iff.mpr hend
      refine .inr ⟨s, by simp [opNe, weq, scalW, hend], ?_⟩
      have q1 := L_law_read (t := t) (w2 := some (.loc lf)) (z := z) hcs (by omega : u.length ≤ 1000000) hc
      generalize hs1 : s ++ [Nd.lst ((hits c u).map fun i : Nat => .int i)] = s1 at q1
      have g1 : s1[s.length]? = some (.lst ((hits c u).map fun i : Nat => .int i)) := hs1 ▸ get_new
      have k1 : Keep [] s s1 := hs1 ▸ Keep.app
      have g2 : (s1 ++ [Nd.lst []])[s.length]? = some (.lst ((hits c u).map fun i : Nat => .int i)) := get_app g1
      have q2 := weq_nil g2 (get_new (st := s1) (n := .lst [])) (data_ints _ 59 _)
      have k2 : Keep [] s (s1 ++ [.lst []]) := k1.trans Keep.app
      have p1 : S__law_read_4 [some (.loc lc), some (.str t), some (.loc lf), some (.str u), z, none, none] s = .nx [some (.loc lc), some (.str t), some (.loc lf), some (.str u), some (.loc s.length), none, none] s1 := by
        simp [S__law_read_4, q1]
      have hstep := dec_step hne (rfl : u.length = u.length) hupos
      rw [hstep] at hd
      rcases item_hits (c := c) (u := u) with ⟨i, r, hh, hi⟩ | ⟨hh, hi⟩
      · rw [hi] at hd
        rw [hh] at q2 g2
        obtain ⟨hi1, _⟩ := item_mem hi
        have hi2 := item_len hi
        have hpos : 0 < (c.getD i []).length := List.length_pos_iff.mpr (hne _ (word_in hi1))
        generalize hs2 : s1 ++ [Nd.lst []] = s2 at q2 g2 k2
        have p2 : S__law_read_5 [some (.loc lc), some (.str t), some (.loc lf), some (.str u), some (.loc s.length), none, none] s1 = .nx [some (.loc lc), some (.str t), some (.loc lf), some (.str u), some (.loc s.length), none, none] s2 := by
          simp [S__law_read_5, newL, big, hs2, opEq, q2]
        have hs3 : s2[lf]? = some (.lst (acc.map fun i : Nat => .int i)) := k2.nil_get hs
        have q3 : opIx (.loc s.length) (.int 0) s2 = .ok (.int (i : Int)) s2 := by
          simp only [opIx, g2, List.map_cons, at0, lift1]
        have happ : mAppend (.loc lf) [.int (i : Int)] s2 = .ok .non (s2.set lf (.lst ((acc ++ [i]).map fun i : Nat => .int i))) := by
          simp only [mAppend, hs3]
          rw [if_pos (by rw [List.length_map]; omega)]
          simp
        have hkl : kList (.loc lf) s2 = true := by simp [kList, listAt, nodeAt, hs3]
        have ne2 : lf ≠ s.length := fun e => by
          have := lt_of_get hs
          omega
        have g3 : (s2.set lf (.lst ((acc ++ [i]).map fun i : Nat => .int i)))[s.length]? = some (.lst ((i :: r).map fun i : Nat => .int i)) := set_ne g2 ne2
        have q4 : opIx (.loc s.length) (.int 0) (s2.set lf (.lst ((acc ++ [i]).map fun i : Nat => .int i))) = .ok (.int (i : Int)) (s2.set lf (.lst ((acc ++ [i]).map fun i : Nat => .int i))) := by
          simp only [opIx, g3, List.map_cons, at0, lift1]
        have g4 : (s2.set lf (.lst ((acc ++ [i]).map fun i : Nat => .int i)))[lc]? = some (.lst (c.map .str)) := set_ne (k2.nil_get hcs) (Ne.symm ne)
        have hix := item_ix g4 hi1
        have hwl := hc.words _ (word_in hi1)
        have hcw : ∀ s, cLen [.str (c.getD i [])] s = .ok (.int (c.getD i []).length) s := fun s => if_pos (by omega)
        have hsl : ∀ s, opSl (.str u) (some ((c.getD i []).length : Int)) none s = .ok (.str (u.drop (c.getD i []).length)) s := fun s => by
          unfold opSl
          dsimp only
          rw [if_pos (by omega), cut_from]
        have p3 : S__law_read_6 [some (.loc lc), some (.str t), some (.loc lf), some (.str u), some (.loc s.length), none, none] s2 = .nx [some (.loc lc), some (.str t), some (.loc lf), some (.str u), some (.loc s.length), none, none] (s2.set lf (.lst ((acc ++ [i]).map fun i : Nat => .int i))) := by
          simp only [S__law_read_6, x_sDrop, x_eM, x_eV, x_e2, x_eC, List.getElem?_cons_zero, List.getElem?_cons_succ, R.bind_ok, hkl, if_true, x_aCons, x_aNil, q3, happ, R.toS_ok]
        generalize hs4 : s2.set lf (.lst ((acc ++ [i]).map fun i : Nat => .int i)) = s4 at p3 q4 hix
        have p4 : S__law_read_7 [some (.loc lc), some (.str t), some (.loc lf), some (.str u), some (.loc s.length), none, none] s4 = .nx [some (.loc lc), some (.str t), some (.loc lf), some (.str (u.drop (c.getD i []).length)), some (.loc s.length), none, none] s4 := by
          generalize hW : c.getD i [] = w at hcw hix hsl
          simp only [S__law_read_7, x_sSet, x_eSl, x_oS, x_oN, x_eN, x_e2, x_eC, x_aCons, x_aNil, x_eV, List.getElem?_cons_zero, List.getElem?_cons_succ, R.bind_ok, q4, hix, hcw, hsl, R.toS_ok, List.set_cons_succ, List.set_cons_zero]
        refine .inl ⟨_, s4, (u.drop (c.getD i []).length).length, .inl (by simp only [x_sSeq, p1, RS.then_nx, p2, p3, p4]), by rw [List.length_drop]; omega, u.drop (c.getD i []).length, acc ++ [i], some (.loc s.length), rfl, by rw [List.length_append, List.length_singleton, List.length_drop]; omega, rfl, hs4 ▸ set_get hs3, hs4 ▸ ((k.trans k2.of_nil).trans (Keep.set (by simp))), ?_⟩
        rw [hd]
        dsimp only
        rw [Option.map_map]
        congr 1
        funext x
        simp
      · rw [hi] at hd
        rw [hh] at q2
        refine .inr (.inl ⟨.non, s1 ++ [.lst []], ?_, ?_⟩)
        · have p2 : S__law_read_5 [some (.loc lc), some (.str t), some (.loc lf), some (.str u), some (.loc s.length), none, none] s1 = .rt .non (s1 ++ [.lst []]) := by
            simp [S__law_read_5, newL, big, opEq, q2]
          simp [p1, p2]
        · unfold LOut
          rw [hd]
          exact ⟨_, rfl, k.trans k2.of_nil⟩
  · simp
/-! ### lists of texts told equal -/
theorem flat_str {s : List Nat} (h : s.all (· < 1114112) = true) (st : Sto) (n : Nat) : dataOf st n (.str s) = some (.str s) := by
  have e : flatD (.str s) = some (.str s) := by
    show (if (s.all fun x => decide (x < 1114112)) = true then some (D.str s) else none) = _
    rw [if_pos h]
  cases n <;> exact e
theorem data_strs (st : Sto) (n : Nat) : ∀ xs : List (List Nat), (∀ s ∈ xs, s.all (· < 1114112) = true) → mapO (dataOf st n) (xs.map W.str) = some (xs.map D.str)
  | [], _ => rfl
  | x :: xs, h => by
    rw [List.map_cons, List.map_cons]
    unfold mapO
    simp only [flat_str (h x List.mem_cons_self) st n, data_strs st n xs fun s hs => h s (List.mem_cons_of_mem _ hs), Option.map_some]
theorem eqv_strs : ∀ xs ys : List (List Nat), D.eqvAll (xs.map D.str) (ys.map D.str) = decide (xs = ys)
  | [], [] => rfl
  | [], _ :: _ => rfl
  | _ :: _, [] => rfl
  | x :: xs, y :: ys => by
    rw [List.map_cons, List.map_cons]
    unfold D.eqvAll
    rw [eqv_strs xs ys]
    by_cases h1 : x = y
    · subst h1
      simp [D.eqv]
    · simp [D.eqv, h1]
theorem weq_strs {st : Sto} {a b : Nat} {xs ys : List (List Nat)} (ha : st[a]? = some (.lst (xs.map .str))) (hb : st[b]? = some (.lst (ys.map .str))) (hx : ∀ s ∈ xs, s.all (· < 1114112) = true) (hy : ∀ s ∈ ys, s.all (· < 1114112) = true) : weq st (.loc a) (.loc b) = some (decide (xs = ys)) := by
  have e1 : dataOf st deep (.loc a) = some (.lst (xs.map D.str)) := by
    show dataOf st (59 + 1) (.loc a) = _
    unfold dataOf
    simp only [ha, data_strs st 59 xs hx, Option.map_some]
  have e2 : dataOf st deep (.loc b) = some (.lst (ys.map D.str)) := by
    show dataOf st (59 + 1) (.loc b) = _
    unfold dataOf
    simp only [hb, data_strs st 59 ys hy, Option.map_some]
  unfold weq
  rw [if_neg (by simp [scalW]), e1, e2]
  dsimp only
  unfold D.eqv
  rw [eqv_strs]
theorem bits_small {s : List Nat} (h : bitsB s = true) : s.all (· < 1114112) = true := by
  rw [List.all_eq_true] at h ⊢
  intro c hc
  have := h c hc
  simp [isBit] at this
  simp
  omega
theorem CodeD.small {c : List (List Nat)} (h : CodeD c) : ∀ s ∈ c, s.all (· < 1114112) = true := fun s hs => by
  have h1 := h.isc
  simp only [codeB, Bool.and_eq_true] at h1
  have h2 := List.all_eq_true.mp h1.2.1 (.str s) (List.mem_map.mpr ⟨s, hs, rfl⟩)
  simp only [wordB, Bool.and_eq_true] at h2
  exact bits_small h2.1
theorem law_read_ok {st : Sto} {lc : Nat} {c : List (List Nat)} {t : List Nat} (h : st[lc]? = some (.lst (c.map .str))) (hc : CodeD c) (ht : t.length ≤ 100000) (hbit : bitsB t = true) :
    match readS c t with
    | some is => ∃ l st', F__law_read [.loc lc, .str t] st = .ok (.loc l) st' ∧ st'[l]? = some (.lst (is.map fun i : Nat => .int i)) ∧ Keep [] st st' ∧ st.length ≤ l
    | none => ∃ st', F__law_read [.loc lc, .str t] st = .ok .non st' ∧ Keep [] st st' := by
  have hl := lt_of_get h
  have q1 := weq_strs (st := st ++ [.lst [.str []]]) (a := lc) (b := st.length) (xs := c) (ys := [[]]) (get_app h) get_new hc.small (by simp)
  have hk : Keep [] st (st ++ [.lst [.str []]]) := Keep.app
  unfold readS
  rw [hbit, if_neg (by decide)]
  by_cases h0 : c = [[]]
  · rw [if_pos h0]
    rw [h0] at q1
    by_cases h3 : t = []
    · subst h3
      rw [if_pos rfl]
      refine ⟨st.length + 1, st ++ [.lst [.str []]] ++ [.lst []], ?_, by rw [show st.length + 1 = (st ++ [Nd.lst [.str []]]).length from by simp]; exact get_new, hk.trans Keep.app, by omega⟩
      simp [F__law_read, dfn, B__law_read, S__law_read_1, newL, big, opEq, q1, weq, scalW]
      simp [weq, scalW] at q1
      simp [q1]
    · rw [if_neg h3]
      refine ⟨st ++ [.lst [.str []]], ?_, hk⟩
      have q2 : weq (st ++ [.lst [.str []]]) (.str t) (.str []) = some false := by simp [weq, scalW, h3]
      simp [F__law_read, dfn, B__law_read, S__law_read_1, newL, big, opEq, q1, q2]
  · rw [if_neg h0]
    have hd0 : decide (c = [[]]) = false := decide_eq_false h0
    rw [hd0] at q1
    have hne : ∀ w ∈ c, w ≠ [] := hc.emp.resolve_left h0
    have p1 : S__law_read_1 [some (.loc lc), some (.str t), none, none, none, none, none] st = .nx [some (.loc lc), some (.str t), none, none, none, none, none] (st ++ [.lst [.str []]]) := by
      simp [S__law_read_1, newL, big, opEq, q1]
    generalize hs1 : st ++ [Nd.lst [.str []]] = s1 at p1 hk
    have h1 := hk.nil_get h
    have g0 : (s1 ++ [Nd.lst []])[s1.length]? = some (.lst []) := get_new
    have k2 : Keep [] st (s1 ++ [Nd.lst []]) := hk.trans Keep.app
    have h2 := k2.nil_get h
    have p2 : S__law_read_2 [some (.loc lc), some (.str t), none, none, none, none, none] s1 = .nx [some (.loc lc), some (.str t), some (.loc s1.length), some (.str t), none, none, none] (s1 ++ [.lst []] ++ [.tup [.loc s1.length, .str t]]) := by
      simp only [S__law_read_2, x_sUnp, x_eTup, x_aCons, x_aNil, x_eLst, x_eV, List.getElem?_cons_zero, List.getElem?_cons_succ, R.bind_ok, ev_lst (show ([] : List W).length ≤ big from Nat.zero_le _), ev_tup (show [W.loc s1.length, .str t].length ≤ big from by simp [big]), R.toS_ok]
      simp only [tupAt, nodeAt, get_new, setAll, List.set_cons_succ, List.set_cons_zero]
    have p3 := law_read_loop (get_app (r := [.tup [.loc s1.length, .str t]]) h2) (get_app g0) (by have := hk.len; omega) hc.toCodeOk hne ht
    have k3 : Keep [] st (s1 ++ [Nd.lst []] ++ [.tup [.loc s1.length, .str t]]) := k2.trans Keep.app
    unfold LOut at p3
    cases hd : dec c t.length t with
    | none =>
      rw [hd] at p3
      obtain ⟨s4, e1, e3⟩ := p3
      refine ⟨s4, ?_, Keep.late2 k3 e3 hk.len⟩
      generalize s1 ++ [Nd.lst []] ++ [.tup [.loc s1.length, .str t]] = s3 at p2 e1
      simp [F__law_read, dfn, B__law_read, p1, p2, e1]
    | some is =>
      rw [hd] at p3
      obtain ⟨ρ, s4, e1, e0, e2, e3⟩ := p3
      refine ⟨s1.length, s4, ?_, e2, Keep.late2 k3 e3 hk.len, hk.len⟩
      generalize s1 ++ [Nd.lst []] ++ [.tup [.loc s1.length, .str t]] = s3 at p2 e1
      simp [F__law_read, dfn, B__law_read, p1, p2, e1, e0]
/-! ### the law's equality -/
/-- values that are told the same: texts, whole numbers, lists of such -/
def SameN (st : Sto) : Nat → W → W → Prop
  | 0, a, b => a = b ∧ ((∃ s, b = .str s) ∨ ∃ i, b = .int i)
  | n + 1, a, b => (a = b ∧ ((∃ s, b = .str s) ∨ ∃ i, b = .int i)) ∨ ∃ (la lb : Nat) (xs ys : List W), a = .loc la ∧ b = .loc lb ∧ st[la]? = some (.lst xs) ∧ st[lb]? = some (.lst ys) ∧ xs.length = ys.length ∧ ys.length ≤ 100000 ∧ ∀ (i : Nat) (x y : W), xs[i]? = some x → ys[i]? = some y → SameN st n x y
theorem SameN.keep {st st' : Sto} (k : Keep [] st st') : ∀ {n : Nat} {a b : W}, SameN st n a b → SameN st' n a b
  | 0, _, _, h => h
  | n + 1, _, _, .inl h => .inl h
  | n + 1, _, _, .inr ⟨la, lb, xs, ys, h1, h2, h3, h4, h5, h6, h7⟩ => .inr ⟨la, lb, xs, ys, h1, h2, k.nil_get h3, k.nil_get h4, h5, h6, fun i x y e1 e2 => SameN.keep k (h7 i x y e1 e2)⟩
theorem F_is_succ (n : Nat) : F__law_is (n + 1) = dfn 2 3 (B__law_is (F__law_is n)) := rfl
theorem law_is_flat {st : Sto} {n : Nat} {b : W} (h : (∃ s, b = .str s) ∨ ∃ i, b = .int i) : F__law_is (n + 1) [b, b] st = .ok (.bl true) st := by
  rcases h with ⟨s, rfl⟩ | ⟨i, rfl⟩
  · have e1 : isAny st [.list, .tuple] (.str s) = some false := rfl
    have e2 : isAny st [.bool] (.str s) = some false := rfl
    have e3 : isAny st [.str] (.str s) = some true := rfl
    rw [F_is_succ]
    generalize F__law_is n = f
    simp [dfn, B__law_is, S__law_is_3, e1, S__law_is_4, opIsN, S__law_is_5, e2, S__law_is_6, e3, opEq, weq, scalW]
  · have e1 : isAny st [.list, .tuple] (.int i) = some false := rfl
    have e2 : isAny st [.bool] (.int i) = some false := rfl
    have e3 : isAny st [.str] (.int i) = some false := rfl
    have e4 : isAny st [.int] (.int i) = some true := rfl
    rw [F_is_succ]
    generalize F__law_is n = f
    simp [dfn, B__law_is, S__law_is_3, e1, S__law_is_4, opIsN, S__law_is_5, e2, S__law_is_6, e3, e4, opEq, weq, scalW]
theorem law_is_ok (n : Nat) : ∀ (st : Sto) (a b : W), SameN st n a b → ∃ st', F__law_is (n + 1) [a, b] st = .ok (.bl true) st' ∧ Keep [] st st' := by
  induction n with
  | zero =>
    rintro st a b ⟨rfl, h⟩
    exact ⟨st, law_is_flat h, .refl⟩
  | succ n law_ih =>
    intro st a b h
    rcases h with ⟨rfl, h⟩ | ⟨la, lb, xs, ys, rfl, rfl, h3, h4, h5, h6, h7⟩
    · exact ⟨st, law_is_flat h, .refl⟩
    have hb : big = 16777216 := rfl
    have a1 : isAny st [.list, .tuple] (.loc lb) = some true := Sq.isAny (.inl h4)
    have a2 : isAny st [.list, .tuple] (.loc la) = some true := Sq.isAny (.inl h3)
    have a3 : isAny st [.list] (.loc la) = some true := by simp [isAny, isA, h3]
    have a4 : isAny st [.list] (.loc lb) = some true := by simp [isAny, isA, h4]
    have l1 : cLen [.loc la] st = .ok (.int xs.length) st := Sq.len (.inl h3)
    have l2 : cLen [.loc lb] st = .ok (.int ys.length) st := Sq.len (.inl h4)
    rw [h5] at l1
    have p1 : S__law_is_1 (F__law_is (n + 1)) [some (.loc la), some (.loc lb), none] st = .nx [some (.loc la), some (.loc lb), none] st := by
      generalize ((ys.length : Nat) : Int) = z at l1 l2
      simp [S__law_is_1, a2, a3, a4, opNe, weq, scalW, l1, l2]
    obtain ⟨s1, q1, k1⟩ := elc_gr (own := [2]) (it := iRng1 (eN cLen (aCons (eV 1) aNil))) (g := .nm 2) (t := bNot (bT (eN (F__law_is (n + 1)) (aCons (e2 opIx (eV 0) (eV 2)) (aCons (e2 opIx (eV 1) (eV 2)) aNil))))) (e := eV 2) (ρ0 := [some (.loc la), some (.loc lb), none]) (st0 := st) (st1 := st) (ck := []) (ys := intsY ys.length) (rng_ints ys.length ▸ iRng1_ok (j := (ys.length : Int)) (by
        generalize ((ys.length : Nat) : Int) = z at l2
        simp [l2]) (by omega) (by omega)) (Keep [] st) (fun _ => none) (fun _ _ => rfl) .refl (by simp [intsY]; omega) (by
      intro y hy s k
      obtain ⟨i, hi, rfl⟩ := List.mem_map.mp hy
      have hi' : i < ys.length := List.mem_range.mp hi
      have e1 : xs[i]? = some xs[i] := List.getElem?_eq_getElem (by omega)
      have e2 : ys[i]? = some ys[i] := List.getElem?_eq_getElem hi'
      obtain ⟨s2, q2, k2⟩ := law_ih s _ _ (SameN.keep k (h7 i _ _ e1 e2))
      have o1 := Sq.ix (.inl (k.nil_get h3)) e1
      have o2 := Sq.ix (.inl (k.nil_get h4)) e2
      refine ⟨_, rfl, .inr ⟨s2, ?_, k.trans k2, rfl⟩⟩
      simp only [wipeL, List.set_cons_succ, List.set_cons_zero, x_bNot, x_bT, x_eN, x_aCons, x_aNil, x_e2, x_eV, List.getElem?_cons_zero, List.getElem?_cons_succ, R.bind_ok, o1, o2, q2, x_tru_bl, Bool.not_true])
    have q2 : L__law_is_2 (F__law_is (n + 1)) [some (.loc la), some (.loc lb), none] st = .ok (.loc s1.length) (s1 ++ [.lst []]) := by
      rw [show ((intsY ys.length).filterMap fun _ => (none : Option W)) = [] from by simp] at q1
      exact q1
    have g1 : ((s1 ++ [Nd.lst []]) ++ [Nd.lst []])[s1.length]? = some (.lst []) := get_app get_new
    have q3 := weq_nil (b := (s1 ++ [Nd.lst []]).length) g1 get_new (by rfl : mapO (dataOf _ 59) [] = some [])
    refine ⟨(s1 ++ [Nd.lst []]) ++ [Nd.lst []], ?_, (k1.trans Keep.app).trans Keep.app⟩
    generalize s1 ++ [Nd.lst []] = s2 at q2 q3
    rw [F_is_succ]
    generalize F__law_is (n + 1) = f at p1 q2
    simp [dfn, B__law_is, S__law_is_3, a1, p1, q2, newL, big, opEq, q3]
/-! ### what is shown -/
def SmallD (d : PyData) : Prop := d.showable = true ∧ d.shown.length ≤ 20000
theorem small_non : SmallD .none := ⟨rfl, by decide +kernel⟩
theorem small_bool (b : Bool) : SmallD (.bool b) := by cases b <;> exact ⟨rfl, by decide +kernel⟩
theorem small_int {i : Int} (h : i.natAbs < 1000000) : SmallD (.int i) := by
  refine ⟨?_, ?_⟩
  · simp only [PyData.showable, decide_eq_true_eq]
    by_cases h0 : i.natAbs = 0
    · rw [h0]
      decide
    · exact (Nat.log2_lt h0).mpr (Nat.lt_of_lt_of_le h (by decide +kernel))
  · simp only [PyData.shown]
    have h1 := int_text_length_le10 (a := i) (k := 6) (by decide) h
    have h2 : (Str.ofString (toString i)).length = (toString i).length := ofString_length _
    omega
theorem small_str {s : List Nat} (h : s.length ≤ 1000) (hs : s.all (· < 1114112) = true) : SmallD (.str (S s)) := by
  refine ⟨rfl, ?_⟩
  simp only [PyData.shown]
  have h1 := StrLaws.reprText_len (S s) (fun c hc => by
    have := List.all_eq_true.mp hs c (by simpa [S] using hc)
    simp at this
    have : (1114112 : Nat) < 16 ^ 8 := by decide
    omega)
  have h2 := S_len s
  omega
theorem shown_all {ds : List PyData} (h : ∀ d ∈ ds, SmallD d) : PyData.showableAll ds = true ∧ ((PyData.shownAll ds).map (·.length)).sum ≤ 20000 * ds.length ∧ (PyData.shownAll ds).length = ds.length := by
  induction ds with
  | nil => simp [PyData.showableAll, PyData.shownAll]
  | cons d ds ih =>
    obtain ⟨h1, h2, h3⟩ := ih fun d hd => h d (List.mem_cons_of_mem _ hd)
    obtain ⟨k1, k2⟩ := h d List.mem_cons_self
    refine ⟨by simp [PyData.showableAll, k1, h1], ?_, by simp [PyData.shownAll, h3]⟩
    simp only [PyData.shownAll, List.map_cons, List.sum_cons, List.length_cons]
    omega
theorem mapO_some {α β : Type} {f : α → Option β} {p : β → Prop} : ∀ {xs : List α}, (∀ x ∈ xs, ∃ d, f x = some d ∧ p d) → ∃ ds, mapO f xs = some ds ∧ (∀ d ∈ ds, p d) ∧ ds.length = xs.length
  | [], _ => ⟨[], rfl, by simp, rfl⟩
  | x :: xs, h => by
    obtain ⟨d, h1, h2⟩ := h x List.mem_cons_self
    obtain ⟨ds, k1, k2, k3⟩ := mapO_some (xs := xs) fun x hx => h x (List.mem_cons_of_mem _ hx)
    refine ⟨d :: ds, ?_, ?_, by simp [k3]⟩
    · unfold mapO
      rw [h1]
      dsimp only
      rw [k1]
      rfl
    · intro e he
      rcases List.mem_cons.mp he with rfl | he
      · exact h2
      · exact k2 e he
theorem list_repr {st : Sto} {l : Nat} {xs : List W} (h : st[l]? = some (.lst xs)) (hx : ∀ x ∈ xs, ∃ d, pyOf st 11 x = some d ∧ SmallD d) (hl : xs.length ≤ 200) : ∃ r, reprOf st (.loc l) = some r := by
  obtain ⟨ds, h1, h2, h3⟩ := mapO_some hx
  obtain ⟨k1, k2, k3⟩ := shown_all h2
  have e : pyOf st deepR (.loc l) = some (.list ds) := by
    show pyOf st (11 + 1) (.loc l) = _
    unfold pyOf
    simp only [h, h1, Option.map_some]
  have hlen : (PyData.list ds).shown.length ≤ big := by
    have hb : big = 16777216 := rfl
    have := listText_len_le (PyData.shownAll ds)
    simp only [PyData.shown]
    omega
  refine ⟨(PyData.list ds).shown.cps.toList, ?_⟩
  unfold reprOf
  rw [e]
  dsimp only
  rw [if_pos ⟨by simpa [PyData.showable] using k1, hlen⟩]
theorem flat_repr {st : Sto} {w : W} {d : PyData} (h : pyOf st 12 w = some d) (hd : SmallD d) : ∃ r, reprOf st w = some r := by
  have hb : big = 16777216 := rfl
  refine ⟨d.shown.cps.toList, ?_⟩
  unfold reprOf
  rw [show deepR = 12 from rfl, h]
  dsimp only
  rw [if_pos ⟨hd.1, by have := hd.2; omega⟩]
/-- the same value, however it is asked -/
theorem very_flat {st : Sto} {w : W} (h1 : isA st .list w = some false) (h2 : isA st .dict w = some false) (h3 : ∃ r, reprOf st w = some r) : F__law_very [w, w] st = .ok (.bl true) st := by
  obtain ⟨r, hr⟩ := h3
  have e1 : isAny st [.list] w = some false := by simp [isAny, h1]
  have e2 : isAny st [.dict] w = some false := by simp [isAny, h2]
  have e3 : cRepr [w] st = .ok (.str r) st := by
    unfold cRepr
    dsimp only
    rw [hr]
  simp [F__law_very, dfn, B__law_very, S__law_very_2, e1, S__law_very_4, e2, S__law_very_5, e3, opEq, weq, scalW, S__law_very_7, S__law_very_9]
theorem very_list {st : Sto} {l : Nat} {xs : List W} (h : st[l]? = some (.lst xs)) (hl : xs.length ≤ 100000) (h3 : ∃ r, reprOf (st.set l (.lst (xs ++ [.str [109, 111, 114, 101]]))) (.loc l) = some r) : F__law_very [.loc l, .loc l] st = .ok (.bl true) st := by
  have hb : big = 16777216 := rfl
  obtain ⟨r, hr⟩ := h3
  have g1 := set_get (m := .lst (xs ++ [.str [109, 111, 114, 101]])) h
  have e1 : isAny st [.list] (.loc l) = some true := by simp [isAny, isA, h]
  have happ : mAppend (.loc l) [.str [109, 111, 114, 101]] st = .ok .non (st.set l (.lst (xs ++ [.str [109, 111, 114, 101]]))) := by
    simp only [mAppend, h]
    rw [if_pos (by omega)]
  have hk : kList (.loc l) st = true := by simp [kList, listAt, nodeAt, h]
  have hs : (st.set l (.lst (xs ++ [.str [109, 111, 114, 101]]))).set l (.lst xs) = st := by
    rw [List.set_set]
    exact set_same h
  generalize hs1 : st.set l (.lst (xs ++ [.str [109, 111, 114, 101]])) = s1 at g1 happ hr hs
  have e2 : isAny s1 [.dict] (.loc l) = some false := by simp [isAny, isA, g1]
  have e4 : isAny s1 [.list] (.loc l) = some true := by simp [isAny, isA, g1]
  have e5 : isAny st [.dict] (.loc l) = some false := by simp [isAny, isA, h]
  have e3 : cRepr [.loc l] s1 = .ok (.str r) s1 := by
    unfold cRepr
    dsimp only
    rw [hr]
  have hk2 : kList (.loc l) s1 = true := by simp [kList, listAt, nodeAt, g1]
  have hpop : mPop0 (.loc l) s1 = .ok (.str [109, 111, 114, 101]) st := by
    simp only [mPop0, g1, List.getLast?_concat, List.dropLast_concat, hs]
  simp [F__law_very, dfn, B__law_very, S__law_very_2, e1, S__law_very_1, hk, happ, S__law_very_4, e2, S__law_very_5, e3, opEq, weq, scalW, S__law_very_7, e4, S__law_very_6, hk2, hpop, S__law_very_9, e5]
theorem very_dict {st : Sto} {l : Nat} (h : st[l]? = some (.dic [])) : F__law_very [.loc l, .loc l] st = .ok (.bl true) st := by
  have hb : big = 16777216 := rfl
  have g1 := set_get (m := .dic [(.inr [109, 111, 114, 101], .int 1)]) h
  have e1 : isAny st [.list] (.loc l) = some false := by simp [isAny, isA, h]
  have e0 : isAny st [.dict] (.loc l) = some true := by simp [isAny, isA, h]
  have hput : stDict (.loc l) (.str [109, 111, 114, 101]) (.int 1) st = some (st.set l (.dic [(.inr [109, 111, 114, 101], .int 1)])) := by
    simp only [stDict, h, keyOf]
    rw [if_pos (by simp [big])]
    rfl
  have hs : (st.set l (.dic [(.inr [109, 111, 114, 101], .int 1)])).set l (.dic []) = st := by
    rw [List.set_set]
    exact set_same h
  generalize hs1 : st.set l (.dic [(.inr [109, 111, 114, 101], .int 1)]) = s1 at g1 hput hs
  have e2 : isAny s1 [.dict] (.loc l) = some true := by simp [isAny, isA, g1]
  have e4 : isAny s1 [.list] (.loc l) = some false := by simp [isAny, isA, g1]
  have ep : pyOf s1 deepR (.loc l) = some (.dict [(.str (S [109, 111, 114, 101]), .int 1)]) := by
    show pyOf s1 (11 + 1) (.loc l) = _
    unfold pyOf
    simp only [g1]
    rfl
  have hr : reprOf s1 (.loc l) = some (PyData.dict [(.str (S [109, 111, 114, 101]), .int 1)]).shown.cps.toList := by
    unfold reprOf
    rw [ep]
    dsimp only
    rw [if_pos ⟨by decide +kernel, by decide +kernel⟩]
  generalize (PyData.dict [(.str (S [109, 111, 114, 101]), .int 1)]).shown.cps.toList = r at hr
  have e3 : cRepr [.loc l] s1 = .ok (.str r) s1 := by
    unfold cRepr
    dsimp only
    rw [hr]
  have hk2 : kDict (.loc l) s1 = true := by simp [kDict, dicAt, nodeAt, g1]
  have hpop : mDPop (.loc l) [.str [109, 111, 114, 101]] s1 = .ok (.int 1) st := by
    simp only [mDPop, g1, keyOf]
    have : getK [((.inr [109, 111, 114, 101] : KW), W.int 1)] (.inr [109, 111, 114, 101]) = some (.int 1) := rfl
    rw [this]
    dsimp only
    have : dropK [((.inr [109, 111, 114, 101] : KW), W.int 1)] (.inr [109, 111, 114, 101]) = [] := rfl
    rw [this, hs]
  simp [F__law_very, dfn, B__law_very, S__law_very_2, e1, S__law_very_4, e0, S__law_very_3, hput, S__law_very_5, e3, opEq, weq, scalW, S__law_very_7, e4, S__law_very_9, e2, S__law_very_8, hk2, hpop]
/-! ### drawn codes -/
abbrev Apart (a b : List Nat) : Prop := ¬ a <+: b ∧ ¬ b <+: a
structure PF (k : Nat) (c : List (List Nat)) : Prop where
  ap : c.Pairwise Apart
  bits : ∀ w ∈ c, bitsB w = true
  short : ∀ w ∈ c, w.length ≤ k
theorem apart_symm {a b : List Nat} (h : Apart a b) : Apart b a := ⟨h.2, h.1⟩
theorem apart_ext {x w : List Nat} {b : Nat} (h : Apart x w) : Apart x (w ++ [b]) := by
  refine ⟨fun e => ?_, fun e => h.2 ((List.prefix_append w [b]).trans e)⟩
  rcases List.prefix_concat_iff.mp e with e | e
  · exact h.2 (e ▸ List.prefix_append w [b])
  · exact h.1 e
theorem PF.perm {k : Nat} {c d : List (List Nat)} (h : PF k c) (p : c.Perm d) : PF k d :=
  ⟨(p.pairwise_iff fun e => apart_symm e).mp h.ap, fun w hw => h.bits w (p.mem_iff.mpr hw), fun w hw => h.short w (p.mem_iff.mpr hw)⟩
theorem erase_perm {α : Type} {c : List α} {i : Nat} {w : α} (h : c[i]? = some w) : c.Perm (w :: c.eraseIdx i) := by
  induction c generalizing i with
  | nil => simp at h
  | cons x c ih =>
    cases i with
    | zero =>
      simp at h
      subst h
      simp
    | succ i =>
      have := ih (by simpa using h)
      exact (List.Perm.cons x this).trans (List.Perm.swap w x _)
theorem PF.tail {k : Nat} {w : List Nat} {c : List (List Nat)} (h : PF k (w :: c)) : PF k c :=
  ⟨(List.pairwise_cons.mp h.ap).2, fun x hx => h.bits x (List.mem_cons_of_mem _ hx), fun x hx => h.short x (List.mem_cons_of_mem _ hx)⟩
theorem PF.split {k : Nat} {w : List Nat} {c : List (List Nat)} (h : PF k (w :: c)) : PF (k + 1) (c ++ [w ++ [48], w ++ [49]]) := by
  obtain ⟨h1, h2⟩ := List.pairwise_cons.mp h.ap
  refine ⟨?_, fun x hx => ?_, fun x hx => ?_⟩
  · rw [List.pairwise_append]
    refine ⟨h2, ?_, fun a ha b hb => ?_⟩
    · rw [List.pairwise_pair]
      refine ⟨fun e => ?_, fun e => ?_⟩
      · have := e.eq_of_length (by simp)
        simp at this
      · have := e.eq_of_length (by simp)
        simp at this
    · have := apart_symm (h1 a ha)
      simp at hb
      rcases hb with rfl | rfl <;> exact apart_ext this
  · have hw := h.bits w List.mem_cons_self
    simp at hx
    rcases hx with hx | rfl | rfl
    · exact h.bits x (List.mem_cons_of_mem _ hx)
    · simp only [bitsB, List.all_append, Bool.and_eq_true] at hw ⊢
      exact ⟨hw, by decide⟩
    · simp only [bitsB, List.all_append, Bool.and_eq_true] at hw ⊢
      exact ⟨hw, by decide⟩
  · have hw := h.short w List.mem_cons_self
    simp at hx
    rcases hx with hx | rfl | rfl
    · have := h.short x (List.mem_cons_of_mem _ hx)
      omega
    · simp
      omega
    · simp
      omega
theorem isPre_iff (p s : List Nat) : isPre p s = true ↔ p <+: s := by
  unfold isPre
  rw [beq_iff_eq, List.prefix_iff_eq_take]
  exact eq_comm
theorem PF.get {k : Nat} {c : List (List Nat)} (h : PF k c) {i j : Nat} (hi : i < c.length) (hj : j < c.length) (hij : i ≠ j) : isPre (c.getD i []) (c.getD j []) = false := by
  have e : ∀ i (hi : i < c.length), c.getD i [] = c[i] := fun i hi => by
    rw [List.getD_eq_getElem?_getD, List.getElem?_eq_getElem hi]
    rfl
  rw [e i hi, e j hj, ← Bool.not_eq_true, isPre_iff]
  have hp := List.pairwise_iff_getElem.mp h.ap
  rcases Nat.lt_or_gt_of_ne hij with g | g
  · exact (hp i j hi hj g).1
  · exact (hp j i hj hi g).2
theorem PF.code {k : Nat} {c : List (List Nat)} (h : PF k c) (hk : k ≤ 60) (h1 : 1 ≤ c.length) (h2 : c.length ≤ 40) : CodeD c := by
  refine ⟨⟨h2, fun w hw => Nat.le_trans (h.short w hw) hk⟩, ?_, ?_⟩
  · unfold codeB
    rw [List.length_map, decide_eq_true ⟨h1, h2⟩, Bool.true_and, Bool.and_eq_true]
    refine ⟨?_, ?_⟩
    · rw [List.all_map, List.all_eq_true]
      intro w hw
      have := h.short w hw
      simp only [Function.comp, wordB, h.bits w hw, Bool.true_and, decide_eq_true_eq]
      omega
    · rw [List.map_map, show (strOf ∘ W.str) = id from rfl, List.map_id]
      rw [Bool.not_eq_true', ← Bool.not_eq_true, List.any_eq_true]
      rintro ⟨b, hb, hb2⟩
      unfold pairs at hb
      rw [List.mem_flatMap] at hb
      obtain ⟨i, hi, hb⟩ := hb
      obtain ⟨j, hj, rfl⟩ := List.mem_map.mp hb
      obtain ⟨hj1, hj2⟩ := List.mem_filter.mp hj
      have := h.get (List.mem_range.mp hi) (List.mem_range.mp hj1) (by simpa using hj2)
      rw [this] at hb2
      exact Bool.false_ne_true hb2
  · by_cases he : [] ∈ c
    · left
      obtain ⟨i, hi, e⟩ := List.getElem_of_mem he
      have hl : c.length = 1 := by
        by_cases h3 : c.length = 1
        · exact h3
        · exfalso
          obtain ⟨j, hj, hij⟩ : ∃ j, j < c.length ∧ i ≠ j := by
            by_cases h4 : i = 0
            · exact ⟨1, by omega, by omega⟩
            · exact ⟨0, by omega, by omega⟩
          have := h.get hi hj hij
          rw [show c.getD i [] = [] from by rw [List.getD_eq_getElem?_getD, List.getElem?_eq_getElem hi, e]; rfl] at this
          rw [← Bool.not_eq_true, isPre_iff] at this
          exact this (List.nil_prefix)
      obtain ⟨w, rfl⟩ := List.length_eq_one_iff.mp hl
      have : i = 0 := by simpa using hi
      subst this
      simp at e
      rw [e]
    · exact .inr fun w hw z => he (z ▸ hw)
theorem erase_map {α β : Type} (f : α → β) : ∀ (c : List α) (i : Nat), (c.map f).eraseIdx i = (c.eraseIdx i).map f
  | [], _ => rfl
  | _ :: _, 0 => rfl
  | x :: c, i + 1 => by
    rw [List.map_cons, List.eraseIdx_cons_succ, List.eraseIdx_cons_succ, List.map_cons, erase_map f c i]
/-- list.pop(number) -/
theorem pop_at {st : Sto} {l : Nat} {c : List (List Nat)} {d : Nat} {w : List Nat} (h : st[l]? = some (.lst (c.map .str))) (hd : c[d]? = some w) (hc : c.length ≤ 1000) : mPop1 (.loc l) [.int (d : Int)] st = .ok (.str w) (st.set l (.lst ((c.eraseIdx d).map .str))) := by
  have hlt := (List.getElem?_eq_some_iff.mp hd).1
  have e1 : L2.ixN (c.map W.str).length (d : Int) = some d := by
    unfold L2.ixN
    rw [List.length_map, if_pos (by omega), if_pos (by omega)]
    simp
  have e2 : (c.map W.str)[d]? = some (.str w) := by
    rw [List.getElem?_map, hd]
    rfl
  unfold mPop1
  dsimp only
  rw [h]
  dsimp only
  rw [e1]
  dsimp only
  rw [e2]
  dsimp only
  rw [if_pos (by omega), erase_map]
theorem take_len {st : Sto} {ls lf n : Nat} {c : List (List Nat)} (hs : Strm st ls n) (hn : n < 100000) (h : st[lf]? = some (.lst (c.map .str))) (h1 : 0 < c.length) (h2 : c.length ≤ 1000) {ρ : Mi.Loc} {a b : ES} (ha : a ρ st = .ok (.loc ls) st) (hb : b ρ st = .ok (.loc lf) st) :
    ∃ (d : Nat) (w : List Nat) (st' : Sto), eN F__law_take (aCons a (aCons (eN cLen (aCons b aNil)) aNil)) ρ st = .ok (.int d) st' ∧ c[d]? = some w ∧ Strm st' ls (n + 1) ∧ Keep [ls] st st' ∧ st'.length = st.length := by
  obtain ⟨d, st', e1, e2, e3, e4, e5⟩ := take_ok hs h1 (by omega) (by omega)
  refine ⟨d, c[d], st', ?_, List.getElem?_eq_getElem e2, e3, e4, e5⟩
  have hl : cLen [.loc lf] st = .ok (.int c.length) st := by
    have := Sq.len (.inl h)
    rwa [List.length_map] at this
  have e1' : F__law_take [.loc ls, .int c.length] st = .ok (.int d) st' := e1
  generalize ((c.length : Nat) : Int) = z at hl e1'
  simp [ha, hb, hl, e1']
theorem take_const {st : Sto} {ls n : Nat} (hs : Strm st ls n) (hn : n < 100000) (m : Nat) (h1 : 0 < m) (h2 : m < 4294967296) {ρ : Mi.Loc} {a : ES} (ha : a ρ st = .ok (.loc ls) st) :
    ∃ (d : Nat) (st' : Sto), eN F__law_take (aCons a (aCons (eC (.int (m : Int))) aNil)) ρ st = .ok (.int d) st' ∧ d < m ∧ Strm st' ls (n + 1) ∧ Keep [ls] st st' ∧ st'.length = st.length := by
  obtain ⟨d, st', e1, e2, e3, e4, e5⟩ := take_ok hs h1 h2 (by omega)
  refine ⟨d, st', ?_, e2, e3, e4, e5⟩
  have e1' : F__law_take [.loc ls, .int m] st = .ok (.int d) st' := e1
  generalize ((m : Nat) : Int) = z at e1'
  simp [ha, e1']
/-- where the draws stand: the stream at ls, n numbers drawn, what stood ahead at st0 -/
structure Dr (st0 : Sto) (ls n : Nat) (st : Sto) : Prop where
  strm : Strm st ls n
  keep : Keep [ls] st0 st
  len : st0.length ≤ st.length
  old : ls < st0.length
theorem Dr.step {st0 : Sto} {ls n m : Nat} {st st' : Sto} (h : Dr st0 ls n st) (s : Strm st' ls m) (k : Keep [ls] st st') (l : st.length ≤ st'.length) : Dr st0 ls m st' := ⟨s, h.keep.trans k, by have := h.len; omega, h.old⟩
theorem Dr.app {st0 : Sto} {ls n : Nat} {st r : Sto} (h : Dr st0 ls n st) : Dr st0 ls n (st ++ r) := ⟨h.strm.keep (S := []) Keep.app, h.keep.trans Keep.app, by have := h.len; simp; omega, h.old⟩
theorem Dr.set {st0 : Sto} {ls n l : Nat} {st : Sto} {m : Nd} (h : Dr st0 ls n st) (hl : st0.length ≤ l) : Dr st0 ls n (st.set l m) := by
  have := h.old
  refine ⟨?_, h.keep.late hl, by have := h.len; simp; omega, h.old⟩
  obtain ⟨a, b, c, h1, r⟩ := h.strm
  exact ⟨a, b, c, set_ne h1 (by omega), r⟩
theorem Dr.mono {st0 : Sto} {ls n m : Nat} {st : Sto} (h : Dr st0 ls n st) (k : n ≤ m) : Dr st0 ls m st := ⟨h.strm.mono k, h.keep, h.len, h.old⟩
theorem Dr.grow {st0 : Sto} {ls n : Nat} {st st' : Sto} (h : Dr st0 ls n st) (k : Keep [] st st') : Dr st0 ls n st' := ⟨h.strm.keep k, h.keep.trans k.of_nil, by have := h.len; have := k.len; omega, h.old⟩
theorem kl {st : Sto} {l : Nat} {xs : List W} (h : st[l]? = some (.lst xs)) : kList (.loc l) st = true := by simp [kList, listAt, nodeAt, h]
theorem bits_len {k : Nat} {c : List (List Nat)} (h : PF k c) {i : Nat} {w : List Nat} (e : c[i]? = some w) : w.length ≤ k := h.short w (List.mem_of_getElem? e)
/-- one turn: a word is split -/
theorem drawn_turn {st0 st : Sto} {ls lf n k : Nat} {c : List (List Nat)} {z2 z3 z4 z5 : Option W} (D : Dr st0 ls n st) (hn : n < 100000) (h : st[lf]? = some (.lst (c.map .str))) (hf : st0.length ≤ lf) (hP : PF k c) (h1 : 0 < c.length) (h2 : c.length ≤ 100) (hk : k ≤ 100) :
    ∃ c' lf' w st', (sSeq S__law_drawn_2 S__law_drawn_3) [some (.loc ls), some (.loc lf), z2, z3, z4, z5] st = .nx [some (.loc ls), some (.loc lf'), z2, some (.str w), z4, z5] st' ∧ Dr st0 ls (n + 1) st' ∧ st'[lf']? = some (.lst (c'.map .str)) ∧ st0.length ≤ lf' ∧ PF (k + 1) c' ∧ c'.length = c.length + 1 := by
  have hb : big = 16777216 := rfl
  obtain ⟨d, w, s1, e1, e2, e3, e4, e5⟩ := take_len D.strm hn h h1 (by omega) (ρ := [some (.loc ls), some (.loc lf), z2, z3, z4, z5]) (a := eV 0) (b := eV 1) rfl rfl
  have old := D.old
  have hlf : lf ∉ [ls] := by simp; omega
  have g1 : s1[lf]? = some (.lst (c.map .str)) := e4.get h hlf
  have D1 : Dr st0 ls (n + 1) s1 := D.step e3 e4 (by omega)
  have hpop := pop_at g1 e2 (by omega)
  have D2 : Dr st0 ls (n + 1) (s1.set lf (.lst ((c.eraseIdx d).map .str))) := D1.set hf
  have g2 := set_get (m := .lst ((c.eraseIdx d).map W.str)) g1
  generalize hs2 : s1.set lf (.lst ((c.eraseIdx d).map .str)) = s2 at hpop D2 g2
  have p1 : S__law_drawn_2 [some (.loc ls), some (.loc lf), z2, z3, z4, z5] st = .nx [some (.loc ls), some (.loc lf), z2, some (.str w), z4, z5] s2 := by
    simp only [S__law_drawn_2, x_sSet, x_eM, x_eV, List.getElem?_cons_zero, List.getElem?_cons_succ, R.bind_ok, kl h, if_true, x_aCons (r := aNil), x_aNil, e1, hpop, R.toS_ok, List.set_cons_succ, List.set_cons_zero]
  have hw : w.length ≤ k := bits_len hP e2
  have q : ∀ b : Nat, opAdd (.str w) (.str [b]) s2 = .ok (.str (w ++ [b])) s2 := fun b => by
    unfold opAdd
    dsimp only
    rw [if_pos (by simp; omega)]
  have g3 : (s2 ++ [Nd.lst [.str (w ++ [48]), .str (w ++ [49])]])[lf]? = some (.lst ((c.eraseIdx d).map .str)) := get_app g2
  have g4 : (s2 ++ [Nd.lst [.str (w ++ [48]), .str (w ++ [49])]])[s2.length]? = some (.lst [.str (w ++ [48]), .str (w ++ [49])]) := get_new
  have hlen : (c.eraseIdx d).length + 1 = c.length := by
    have := (List.getElem?_eq_some_iff.mp e2).1
    rw [List.length_eraseIdx, if_pos this]
    omega
  have q2 : opAdd (.loc lf) (.loc s2.length) (s2 ++ [Nd.lst [.str (w ++ [48]), .str (w ++ [49])]]) = .ok (.loc (s2 ++ [Nd.lst [.str (w ++ [48]), .str (w ++ [49])]]).length) (s2 ++ [Nd.lst [.str (w ++ [48]), .str (w ++ [49])]] ++ [.lst ((c.eraseIdx d ++ [w ++ [48], w ++ [49]]).map .str)]) := by
    unfold opAdd
    dsimp only
    rw [g3, g4]
    dsimp only
    rw [if_pos (by simp; omega)]
    simp [new]
  have D3 : Dr st0 ls (n + 1) (s2 ++ [Nd.lst [.str (w ++ [48]), .str (w ++ [49])]]) := D2.app
  generalize hs3 : s2 ++ [Nd.lst [.str (w ++ [48]), .str (w ++ [49])]] = s3 at q2 D3
  have p2 : S__law_drawn_3 [some (.loc ls), some (.loc lf), z2, some (.str w), z4, z5] s2 = .nx [some (.loc ls), some (.loc s3.length), z2, some (.str w), z4, z5] (s3 ++ [.lst ((c.eraseIdx d ++ [w ++ [48], w ++ [49]]).map .str)]) := by
    simp only [S__law_drawn_3, x_sSet, x_e2, x_eLst, x_aCons, x_aNil, x_eC, x_eV, List.getElem?_cons_zero, List.getElem?_cons_succ, R.bind_ok, q, ev_lst (show [W.str (w ++ [48]), .str (w ++ [49])].length ≤ big from by simp [big]), hs3, q2, R.toS_ok, List.set_cons_succ, List.set_cons_zero]
  refine ⟨c.eraseIdx d ++ [w ++ [48], w ++ [49]], s3.length, w, _, by simp only [x_sSeq, p1, RS.then_nx, p2], D3.app, get_new, D3.len, (hP.perm (erase_perm e2)).split, by simp; omega⟩
/-- the code's words are put in another order -/
theorem drawn_mix {st0 st : Sto} {ls lr lc n k : Nat} {rest : List (List Nat)} {z1 z2 z3 : Option W} (D : Dr st0 ls n st) (hn : n < 90000) (h : st[lr]? = some (.lst (rest.map .str))) (hc : st[lc]? = some (.lst [])) (hr : st0.length ≤ lr) (hc0 : st0.length ≤ lc) (ne : lr ≠ lc) (hP : PF k rest) (h2 : rest.length ≤ 100) :
    ∃ c ρ st', S__law_drawn_9 [some (.loc ls), z1, z2, z3, some (.loc lr), some (.loc lc)] st = .nx ρ st' ∧ ρ[5]? = some (some (.loc lc)) ∧ Dr st0 ls (n + rest.length) st' ∧ st'[lc]? = some (.lst (c.map .str)) ∧ PF k c ∧ c.length = rest.length := by
  have hb : big = 16777216 := rfl
  unfold S__law_drawn_9 sWhile
  refine while_in (fun m ρ s => ∃ (r c : List (List Nat)) (j : Nat), m = r.length ∧ ρ = [some (.loc ls), z1, z2, z3, some (.loc lr), some (.loc lc)] ∧ Dr st0 ls j s ∧ j + r.length = n + rest.length ∧ s[lr]? = some (.lst (r.map .str)) ∧ s[lc]? = some (.lst (c.map .str)) ∧ rest.Perm (c ++ r))
    (fun o => ∃ c ρ st', o = .nx ρ st' ∧ ρ[5]? = some (some (.loc lc)) ∧ Dr st0 ls (n + rest.length) st' ∧ st'[lc]? = some (.lst (c.map .str)) ∧ PF k c ∧ c.length = rest.length) ?_ _ rest.length _ _ ⟨rest, [], n, rfl, rfl, D, rfl, h, hc, .refl _⟩ (by show rest.length < 1000000000; omega)
  rintro m ρ s ⟨r, c, j, rfl, rfl, Dj, hj, hr1, hc1, hp⟩
  have hsm : ∀ x ∈ r, x.all (· < 1114112) = true := fun x hx => bits_small (hP.bits x (hp.mem_iff.mpr (List.mem_append_right _ hx)))
  have g0 : (s ++ [Nd.lst []])[lr]? = some (.lst (r.map .str)) := get_app hr1
  have q1 := weq_nil g0 (get_new (st := s) (n := .lst [])) (data_strs _ 59 r hsm)
  have D1 : Dr st0 ls j (s ++ [.lst []]) := Dj.app
  have g1 : (s ++ [Nd.lst []])[lc]? = some (.lst (c.map .str)) := get_app hc1
  have hlen := hp.length_eq
  rw [List.length_append] at hlen
  generalize hs1 : s ++ [Nd.lst []] = s1 at g0 q1 D1 g1
  by_cases h0 : r = []
  · subst h0
    refine .inl ⟨s1, by simp [newL, big, hs1, opNe, q1], c, _, _, rfl, rfl, ?_, g1, ?_, ?_⟩
    · have : j = n + rest.length := by simpa using hj
      rw [← this]
      exact D1
    · rw [List.append_nil] at hp
      exact hP.perm hp
    · simpa using hlen.symm
  · have hpos : 0 < r.length := List.length_pos_iff.mpr h0
    have hemp : (r.map W.str).isEmpty = false := by
      cases r with
      | nil => exact absurd rfl h0
      | cons _ _ => rfl
    rw [hemp] at q1
    refine .inr ⟨s1, by simp [newL, big, hs1, opNe, q1], .inl ?_⟩
    obtain ⟨d, w, s2, e1, e2, e3, e4, e5⟩ := take_len D1.strm (by omega) g0 hpos (by omega) (ρ := [some (.loc ls), z1, z2, z3, some (.loc lr), some (.loc lc)]) (a := eV 0) (b := eV 4) rfl rfl
    have old := D1.old
    have D2 : Dr st0 ls (j + 1) s2 := D1.step e3 e4 (by omega)
    have g2 : s2[lr]? = some (.lst (r.map .str)) := e4.get g0 (by simp; omega)
    have g3 : s2[lc]? = some (.lst (c.map .str)) := e4.get g1 (by simp; omega)
    have hpop := pop_at g2 e2 (by omega)
    have D3 : Dr st0 ls (j + 1) (s2.set lr (.lst ((r.eraseIdx d).map .str))) := D2.set hr
    have g4 := set_get (m := .lst ((r.eraseIdx d).map W.str)) g2
    have g5 : (s2.set lr (.lst ((r.eraseIdx d).map W.str)))[lc]? = some (.lst (c.map .str)) := set_ne g3 ne
    generalize hs3 : s2.set lr (.lst ((r.eraseIdx d).map .str)) = s3 at hpop D3 g4 g5
    have hclen : c.length ≤ 100 := by omega
    have happ : mAppend (.loc lc) [.str w] s3 = .ok .non (s3.set lc (.lst ((c ++ [w]).map .str))) := by
      simp only [mAppend, g5]
      rw [if_pos (by rw [List.length_map]; omega)]
      simp
    have hrl : (r.eraseIdx d).length + 1 = r.length := by
      have := (List.getElem?_eq_some_iff.mp e2).1
      rw [List.length_eraseIdx, if_pos this]
      omega
    refine ⟨[some (.loc ls), z1, z2, z3, some (.loc lr), some (.loc lc)], s3.set lc (.lst ((c ++ [w]).map .str)), (r.eraseIdx d).length, .inl ?_, by omega, r.eraseIdx d, c ++ [w], j + 1, rfl, rfl, D3.set hc0, by omega, set_ne g4 (Ne.symm ne), set_get g5, ?_⟩
    · simp only [S__law_drawn_8, x_sDrop, x_eM, x_eV, List.getElem?_cons_zero, List.getElem?_cons_succ, R.bind_ok, kl g1, kl g0, if_true, x_aCons (r := aNil), x_aNil, e1, hpop, happ, R.toS_ok]
    · refine hp.trans ?_
      rw [List.append_assoc]
      exact List.Perm.append_left c (erase_perm e2)
theorem drawn_for {st0 st : Sto} {ls lf n : Nat} (D : Dr st0 ls n st) (hn : n < 80000) (h : st[lf]? = some (.lst [.str []])) (hf : st0.length ≤ lf) :
    ∃ c lf' k z2 z3 st', S__law_drawn_4 [some (.loc ls), some (.loc lf), none, none, none, none] st = .nx [some (.loc ls), some (.loc lf'), z2, z3, none, none] st' ∧ Dr st0 ls (n + 20) st' ∧ st'[lf']? = some (.lst (c.map .str)) ∧ st0.length ≤ lf' ∧ PF k c ∧ k ≤ 20 ∧ 1 ≤ c.length ∧ c.length ≤ 20 := by
  obtain ⟨d, s1, e1, e2, e3, e4, e5⟩ := take_const D.strm (by omega) 10 (by omega) (by omega) (ρ := [some (.loc ls), some (.loc lf), none, none, none, none]) (a := eV 0) rfl
  have old := D.old
  have D1 : Dr st0 ls (n + 1) s1 := D.step e3 e4 (by omega)
  have g1 : s1[lf]? = some (.lst [.str []]) := e4.get h (by simp; omega)
  have hit : iRng1 (eN F__law_take (aCons (eV 0) (aCons (eC (.int 10)) aNil))) [some (.loc ls), some (.loc lf), none, none, none, none] st = .ok (rng 0 (d : Int), []) s1 := iRng1_ok (j := (d : Int)) e1 (by omega) (by omega)
  rw [rng_ints] at hit
  have main := for_in (ck := []) (g := .nm 2) (b := sSeq S__law_drawn_2 S__law_drawn_3) (fun ys ρ s => ∃ c lf k z2 z3, ρ = [some (.loc ls), some (.loc lf), z2, z3, none, none] ∧ Dr st0 ls (n + 1 + k) s ∧ s[lf]? = some (.lst (c.map .str)) ∧ st0.length ≤ lf ∧ PF k c ∧ c.length = k + 1 ∧ k + ys.length ≤ 10 ∧ ∀ y ∈ ys, ∃ w, y = .v w)
    (fun r => ∃ c lf' k z2 z3 st', r = .nx [some (.loc ls), some (.loc lf'), z2, z3, none, none] st' ∧ Dr st0 ls (n + 20) st' ∧ st'[lf']? = some (.lst (c.map .str)) ∧ st0.length ≤ lf' ∧ PF k c ∧ k ≤ 20 ∧ 1 ≤ c.length ∧ c.length ≤ 20) (by
      rintro ys ρ s ⟨c, lf, k, z2, z3, rfl, Dk, hc, hlf, hP, hl, hk, hy⟩
      refine ⟨rfl, ?_⟩
      cases ys with
      | nil => exact ⟨c, lf, k, z2, z3, s, rfl, Dk.mono (by simp at hk; omega), hc, hlf, hP, by simp at hk; omega, by omega, by simp at hk; omega⟩
      | cons y ys =>
        obtain ⟨w, rfl⟩ := hy _ List.mem_cons_self
        refine ⟨_, rfl, .inl ?_⟩
        rw [List.length_cons] at hk
        obtain ⟨c', lf', w', s', t1, t2, t3, t4, t5, t6⟩ := drawn_turn (z2 := some w) (z3 := z3) (z4 := none) (z5 := none) Dk (by omega) hc hlf hP (by omega) (by omega) (by omega)
        exact ⟨_, s', .inl t1, c', lf', k + 1, some w, some (.str w'), rfl, t2, t3, t4, t5, by omega, by omega, fun y hy' => hy y (List.mem_cons_of_mem _ hy')⟩)
    (intsY d) [some (.loc ls), some (.loc lf), none, none, none, none] s1 ⟨[[]], lf, 0, none, none, rfl, D1, g1, hf, ⟨List.pairwise_singleton _ _, by simp, by simp⟩, rfl, by simp [intsY]; omega, fun y hy => by
      obtain ⟨i, _, rfl⟩ := List.mem_map.mp hy
      exact ⟨_, rfl⟩⟩
  unfold S__law_drawn_4 sFor
  rw [hit, R.toS_ok]
  exact main
theorem drawn_ok {st : Sto} {ls n : Nat} (hs : Strm st ls n) (hn : n < 70000) : ∃ c lc st', F__law_drawn [.loc ls] st = .ok (.loc lc) st' ∧ Dr st ls (n + 50) st' ∧ st'[lc]? = some (.lst (c.map .str)) ∧ CodeD c ∧ c.length ≤ 20 ∧ (∀ w ∈ c, w.length ≤ 20) ∧ st.length ≤ lc := by
  have hb : big = 16777216 := rfl
  have hls : ls < st.length := by
    obtain ⟨_, _, _, h1, _⟩ := hs
    exact lt_of_get h1
  have D0 : Dr st ls n st := ⟨hs, .refl, Nat.le_refl _, hls⟩
  have D1 : Dr st ls n (st ++ [.lst [.str []]]) := D0.app
  have p1 : S__law_drawn_1 [some (.loc ls), none, none, none, none, none] st = .nx [some (.loc ls), some (.loc st.length), none, none, none, none] (st ++ [.lst [.str []]]) := by
    simp [S__law_drawn_1, newL, big]
  obtain ⟨c1, lf, k, z2, z3, s2, p2, D2, g2, hlf, hP, hk, hc1, hc2⟩ := drawn_for D1 (by omega) get_new (Nat.le_refl _)
  -- one more may go
  have step6 : ∃ c2 s3, S__law_drawn_6 [some (.loc ls), some (.loc lf), z2, z3, none, none] s2 = .nx [some (.loc ls), some (.loc lf), z2, z3, none, none] s3 ∧ Dr st ls (n + 22) s3 ∧ s3[lf]? = some (.lst (c2.map .str)) ∧ PF k c2 ∧ 1 ≤ c2.length ∧ c2.length ≤ 20 := by
    have hl : cLen [.loc lf] s2 = .ok (.int c1.length) s2 := by
      have := Sq.len (.inl g2)
      rwa [List.length_map] at this
    by_cases h1 : 1 < c1.length
    · have hgt : opGt (.int (c1.length : Int)) (.int 1) s2 = .ok (.bl true) s2 := by
        unfold opGt cmpI
        dsimp only
        rw [decide_eq_true (by omega : (1 : Int) < (c1.length : Int))]
      obtain ⟨d, s3, e1, e2, e3, e4, e5⟩ := take_const D2.strm (by omega) 2 (by omega) (by omega) (ρ := [some (.loc ls), some (.loc lf), z2, z3, none, none]) (a := eV 0) rfl
      have e1 : eN F__law_take (aCons (eV 0) (aCons (eC (.int 2)) aNil)) [some (.loc ls), some (.loc lf), z2, z3, none, none] s2 = .ok (.int d) s3 := e1
      have D3 : Dr st ls (n + 21) s3 := D2.step e3 e4 (by omega)
      have g3 : s3[lf]? = some (.lst (c1.map .str)) := e4.get g2 (by simp; omega)
      by_cases h0 : d = 0
      · subst h0
        have hq : opEq (.int ((0 : Nat) : Int)) (.int 0) s3 = .ok (.bl true) s3 := by simp [opEq, weq, scalW]
        obtain ⟨d, w, s4, f1, f2, f3, f4, f5⟩ := take_len D3.strm (by omega) g3 (by omega) (by omega) (ρ := [some (.loc ls), some (.loc lf), z2, z3, none, none]) (a := eV 0) (b := eV 1) rfl rfl
        have D4 : Dr st ls (n + 22) s4 := D3.step f3 f4 (by omega)
        have g4 : s4[lf]? = some (.lst (c1.map .str)) := f4.get g3 (by simp; omega)
        have hpop := pop_at g4 f2 (by omega)
        have hlen : (c1.eraseIdx d).length + 1 = c1.length := by
          have := (List.getElem?_eq_some_iff.mp f2).1
          rw [List.length_eraseIdx, if_pos this]
          omega
        refine ⟨c1.eraseIdx d, s4.set lf (.lst ((c1.eraseIdx d).map .str)), ?_, D4.set hlf, set_get g4, (hP.perm (erase_perm f2)).tail, by omega, by omega⟩
        generalize ((c1.length : Nat) : Int) = z at hl hgt
        simp only [S__law_drawn_6, x_sIf, x_bAnd, x_bB, x_e2, x_eN (g := cLen), x_aCons (r := aNil), x_aNil, x_eV, x_eC, List.getElem?_cons_zero, List.getElem?_cons_succ, R.bind_ok, hl, hgt, if_true, e1, hq, R.toS_ok]
        simp only [S__law_drawn_5, x_sDrop, x_eM, x_eV, List.getElem?_cons_zero, List.getElem?_cons_succ, R.bind_ok, kl g3, if_true, x_aCons (r := aNil), x_aNil, f1, hpop, R.toS_ok]
      · have hd1 : d = 1 := by omega
        subst hd1
        have hq : opEq (.int ((1 : Nat) : Int)) (.int 0) s3 = .ok (.bl false) s3 := by simp [opEq, weq, scalW]
        refine ⟨c1, s3, ?_, D3.mono (by omega), g3, hP, hc1, hc2⟩
        generalize ((c1.length : Nat) : Int) = z at hl hgt
        simp only [S__law_drawn_6, x_sIf, x_bAnd, x_bB, x_e2, x_eN (g := cLen), x_aCons (r := aNil), x_aNil, x_eV, x_eC, List.getElem?_cons_zero, List.getElem?_cons_succ, R.bind_ok, hl, hgt, if_true, e1, hq, R.toS_ok, Bool.false_eq_true, if_false, x_sNop]
    · have hgt : opGt (.int (c1.length : Int)) (.int 1) s2 = .ok (.bl false) s2 := by
        unfold opGt cmpI
        dsimp only
        rw [decide_eq_false (by omega : ¬ (1 : Int) < (c1.length : Int))]
      refine ⟨c1, s2, ?_, D2.mono (by omega), g2, hP, hc1, hc2⟩
      generalize ((c1.length : Nat) : Int) = z at hl hgt
      simp only [S__law_drawn_6, x_sIf, x_bAnd, x_bB, x_e2, x_eN (g := cLen), x_aCons (r := aNil), x_aNil, x_eV, x_eC, List.getElem?_cons_zero, List.getElem?_cons_succ, R.bind_ok, hl, hgt, R.toS_ok, Bool.false_eq_true, if_false, x_sNop]
  obtain ⟨c2, s3, p3, D3, g3, hP2, hd1, hd2⟩ := step6
  have p4 : S__law_drawn_7 [some (.loc ls), some (.loc lf), z2, z3, none, none] s3 = .nx [some (.loc ls), some (.loc lf), z2, z3, some (.loc lf), some (.loc s3.length)] (s3 ++ [.lst []]) := by
    simp [S__law_drawn_7, newL, big, setAll]
  have hlf2 := lt_of_get g3
  obtain ⟨c, ρ, s5, p5, e0, D5, g5, hP3, hl⟩ := drawn_mix (z1 := some (.loc lf)) (z2 := z2) (z3 := z3) (D3.app (r := [.lst []])) (by omega) (get_app g3) get_new hlf D3.len (by omega) hP2 (by omega)
  refine ⟨c, s3.length, s5, ?_, D5.mono (by omega), g5, hP3.code (by omega) (by omega) (by omega), by omega, fun w hw => Nat.le_trans (hP3.short w hw) hk, D3.len⟩
  simp [F__law_drawn, dfn, B__law_drawn, p1, p2, p3, p4, p5, e0]
/-! ### reading gives the items back -/
theorem CodeD.apart {c : List (List Nat)} (h : CodeD c) {i j : Nat} (hi : i < c.length) (hj : j < c.length) (hij : i ≠ j) : ¬ c.getD i [] <+: c.getD j [] := by
  have h1 := h.isc
  simp only [codeB, Bool.and_eq_true] at h1
  have h2 := h1.2.2
  rw [Bool.not_eq_true', ← Bool.not_eq_true, List.any_eq_true, List.map_map, show (strOf ∘ W.str) = id from rfl, List.map_id] at h2
  rw [← isPre_iff]
  intro e
  refine h2 ⟨true, ?_, rfl⟩
  unfold pairs
  rw [List.mem_flatMap]
  refine ⟨i, List.mem_range.mpr hi, List.mem_map.mpr ⟨j, List.mem_filter.mpr ⟨List.mem_range.mpr hj, by simpa using hij⟩, e⟩⟩
theorem item_of {c : List (List Nat)} (h : CodeD c) {i : Nat} (hi : i < c.length) (r : List Nat) : item c (c.getD i [] ++ r) = some i := by
  have all : ∀ j ∈ hits c (c.getD i [] ++ r), j = i := fun j hj => by
    obtain ⟨p, hp, rfl⟩ := List.mem_map.mp hj
    obtain ⟨hp1, hp2⟩ := List.mem_filter.mp hp
    obtain ⟨w, j⟩ := p
    obtain ⟨_, h4, h5⟩ := List.mem_zipIdx hp1
    have h6 : j < c.length := by simpa using h4
    have h7 : c.getD j [] = w := by
      have : w = c[j] := by simpa using h5
      rw [this, List.getD_eq_getElem?_getD, List.getElem?_eq_getElem h6]
      rfl
    have h8 : w <+: c.getD i [] ++ r := by
      rw [List.prefix_iff_eq_take]
      exact (eq_of_beq hp2).symm
    have h9 : c.getD i [] <+: c.getD i [] ++ r := List.prefix_append _ _
    by_cases e : j = i
    · exact e
    · exfalso
      rcases List.prefix_or_prefix_of_prefix h8 h9 with k | k
      · exact h.apart h6 hi e (h7 ▸ k)
      · exact h.apart hi h6 (Ne.symm e) (h7 ▸ k)
  have mem : i ∈ hits c (c.getD i [] ++ r) := by
    unfold hits
    refine List.mem_map.mpr ⟨(c.getD i [], i), List.mem_filter.mpr ⟨?_, ?_⟩, rfl⟩
    · rw [List.mem_zipIdx_iff_getElem?]
      simp [List.getD, hi]
    · simp
  unfold item
  cases hh : hits c (c.getD i [] ++ r) with
  | nil =>
    rw [hh] at mem
    cases mem
  | cons j l =>
    have := all j (by rw [hh]; exact List.mem_cons_self)
    rw [this]
    rfl
theorem dec_text {c : List (List Nat)} (h : CodeD c) (hne : ∀ w ∈ c, w ≠ []) : ∀ is : List Nat, (∀ i ∈ is, i < c.length) → dec c (textOf c is).length (textOf c is) = some is
  | [], _ => by simp [textOf, dec]
  | i :: is, hi => by
    have hi1 := hi i List.mem_cons_self
    have e : textOf c (i :: is) = c.getD i [] ++ textOf c is := by
      unfold textOf
      rw [List.map_cons, List.flatten_cons]
    have hpos : 0 < (c.getD i []).length := List.length_pos_iff.mpr (hne _ (word_in hi1))
    rw [e, dec_step hne rfl (by rw [List.length_append]; omega), item_of h hi1]
    dsimp only
    rw [List.drop_left, dec_text h hne is fun j hj => hi j (List.mem_cons_of_mem _ hj)]
    rfl
theorem text_bits {c : List (List Nat)} (h : CodeD c) : ∀ is : List Nat, bitsB (textOf c is) = true
  | [] => rfl
  | i :: is => by
    have e : textOf c (i :: is) = c.getD i [] ++ textOf c is := by
      unfold textOf
      rw [List.map_cons, List.flatten_cons]
    rw [e]
    have ih := text_bits h is
    simp only [bitsB, List.all_append, Bool.and_eq_true] at ih ⊢
    refine ⟨?_, ih⟩
    rw [List.getD_eq_getElem?_getD]
    cases hc : c[i]? with
    | none => rfl
    | some w =>
      have h1 := h.isc
      simp only [codeB, Bool.and_eq_true] at h1
      have h2 := List.all_eq_true.mp h1.2.1 (.str w) (List.mem_map.mpr ⟨w, List.mem_of_getElem? hc, rfl⟩)
      simp only [wordB, Bool.and_eq_true] at h2
      exact h2.1
theorem text_len {c : List (List Nat)} (hc : ∀ w ∈ c, w.length ≤ 60) : ∀ is : List Nat, (textOf c is).length ≤ 60 * is.length := fun is => by
  have := sum_le hc is
  unfold textOf
  rw [List.length_flatten]
  exact this
/-- the items that are due -/
def dueOf (c : List (List Nat)) (is : List Nat) : List Nat := if c = [[]] then [] else is
theorem readS_text {c : List (List Nat)} (h : CodeD c) {is : List Nat} (hi : ∀ i ∈ is, i < c.length) : readS c (textOf c is) = some (dueOf c is) := by
  unfold readS dueOf
  rw [text_bits h, if_neg (by decide)]
  by_cases h0 : c = [[]]
  · rw [if_pos h0, if_pos h0]
    have : textOf c is = [] := by
      unfold textOf
      rw [List.flatten_eq_nil_iff]
      intro w hw
      obtain ⟨i, _, rfl⟩ := List.mem_map.mp hw
      rw [h0]
      cases i <;> rfl
    rw [if_pos this]
  · rw [if_neg h0, if_neg h0]
    exact dec_text h (h.emp.resolve_left h0) is hi

/-! ### asked -/
def wTold : List Nat := [116, 111, 108, 100]
def wCode : List Nat := [99, 111, 100, 101]
def wBits : List Nat := [98, 105, 116, 115]
theorem fld_given {l : Nat} {g : W} {s : Sto} {ρ : Mi.Loc} (h : s[l]? = some (.xd [("given", g)])) : eFld l "given" ρ s = .ok g s := by
  simp [eFld, h, List.lookup, lift1]
theorem asked_read_ok {st s1 : Sto} {w v x : W} (h : F_read_items [w, v] st = .ok x s1) : F__law_asked [.int 1, w, v] st = .ok (.loc s1.length) (s1 ++ [.lst [.str wTold, x]]) := by
  simp [F__law_asked, dfn, B__law_asked, S__law_asked_1, sTry, opEq, weq, scalW, h, newL, big, wTold]
theorem asked_bits_ok {st s1 : Sto} {w v x : W} (h : F_bits_of [w, v] st = .ok x s1) : F__law_asked [.int 0, w, v] st = .ok (.loc s1.length) (s1 ++ [.lst [.str wTold, x]]) := by
  simp [F__law_asked, dfn, B__law_asked, S__law_asked_1, sTry, opEq, weq, scalW, h, newL, big, wTold]
theorem asked_read_0 {st s1 : Sto} {w v g : W} {l : Nat} (h : F_read_items [w, v] st = .exc 0 l s1) (hl : s1[l]? = some (.xd [("given", g)])) : F__law_asked [.int 1, w, v] st = .ok (.loc s1.length) (s1 ++ [.lst [.str wCode, g]]) := by
  simp [F__law_asked, dfn, B__law_asked, S__law_asked_1, sTry, opEq, weq, scalW, h, hGo, hAs, fld_given hl, newL, big, wCode, RS.noExc]
theorem asked_bits_0 {st s1 : Sto} {w v g : W} {l : Nat} (h : F_bits_of [w, v] st = .exc 0 l s1) (hl : s1[l]? = some (.xd [("given", g)])) : F__law_asked [.int 0, w, v] st = .ok (.loc s1.length) (s1 ++ [.lst [.str wCode, g]]) := by
  simp [F__law_asked, dfn, B__law_asked, S__law_asked_1, sTry, opEq, weq, scalW, h, hGo, hAs, fld_given hl, newL, big, wCode, RS.noExc]
theorem asked_read_1 {st s1 : Sto} {w v g : W} {l : Nat} (h : F_read_items [w, v] st = .exc 1 l s1) (hl : s1[l]? = some (.xd [("given", g)])) : F__law_asked [.int 1, w, v] st = .ok (.loc s1.length) (s1 ++ [.lst [.str wBits, g]]) := by
  simp [F__law_asked, dfn, B__law_asked, S__law_asked_1, sTry, opEq, weq, scalW, h, hGo, hAs, fld_given hl, newL, big, wBits, RS.noExc]
theorem asked_bits_1 {st s1 : Sto} {w v g : W} {l : Nat} (h : F_bits_of [w, v] st = .exc 1 l s1) (hl : s1[l]? = some (.xd [("given", g)])) : F__law_asked [.int 0, w, v] st = .ok (.loc s1.length) (s1 ++ [.lst [.str wBits, g]]) := by
  simp [F__law_asked, dfn, B__law_asked, S__law_asked_1, sTry, opEq, weq, scalW, h, hGo, hAs, fld_given hl, newL, big, wBits, RS.noExc]
/-! ### the law: right -/
section
variable {st0 st s : Sto} {ls lc li n : Nat} {c : List (List Nat)} {is : List Nat}
abbrev N12 : List (Option W) := [none, none, none, none, none, none, none, none, none, none, none, none]
theorem right_text (hc : Sq st lc (c.map .str)) (h : Sq st li (is.map fun i : Nat => .int i)) (hi : ∀ i ∈ is, i < c.length) (hl : is.length ≤ 1000) (hcw : ∀ w ∈ c, w.length ≤ 60) :
    ∃ st', S__law_right_2 (some (.loc ls) :: some (.loc lc) :: some (.loc li) :: none :: none :: N12) st = .nx (some (.loc ls) :: some (.loc lc) :: some (.loc li) :: some (.str (textOf c is)) :: none :: N12) st' ∧ Keep [] st st' := by
  have hb : big = 16777216 := rfl
  obtain ⟨ck, hit, hck⟩ := h.seq (a := eV 2) (ρ := some (.loc ls) :: some (.loc lc) :: some (.loc li) :: none :: none :: N12) rfl
  obtain ⟨st', h1, h2⟩ := elc_gr (own := [15]) (g := .nm 15) (t := bYes) (e := e2 opIx (eV 1) (eV 15)) hit (· = st) (fStr c) (fun s e => hck s (e ▸ .refl)) rfl (by simp; omega) (by
    intro y hy s0 e0
    rw [e0]
    rw [List.map_map] at hy
    obtain ⟨i, hi', rfl⟩ := List.mem_map.mp hy
    have hlt := hi i hi'
    have e3 : opIx (.loc lc) (.int i) st = .ok (.str (c.getD i [])) st := hc.ix (by simp [List.getD, hlt])
    exact ⟨_, rfl, .inl ⟨st, .str (c.getD i []), st, rfl, by simp only [wipeL, x_e2, x_eV, List.getElem?_cons_zero, List.getElem?_cons_succ, List.set_cons_succ, List.set_cons_zero, R.bind_ok, e3], rfl, by simp [fStr]⟩⟩)
  subst h2
  rw [List.map_map, fm_map _ (fStr c) (fun i : Nat => .str (c.getD i [])) (fun _ => by simp [fStr])] at h1
  have q1 : L__law_right_1 (some (.loc ls) :: some (.loc lc) :: some (.loc li) :: none :: none :: N12) st' = .ok (.loc st'.length) (st' ++ [.lst (is.map fun i => .str (c.getD i []))]) := h1
  have q5 : mJoin (.str []) [.loc st'.length] (st' ++ [.lst (is.map fun i => .str (c.getD i []))]) = .ok (.str (textOf c is)) (st' ++ [.lst (is.map fun i => .str (c.getD i []))]) := by
    have e1 : is.map (fun i => W.str (c.getD i [])) = (is.map fun i => c.getD i []).map W.str := by rw [List.map_map]; rfl
    have e2 := sum_le hcw is
    have e3 : ((is.map fun i => c.getD i []).map List.length).sum + (is.map fun i => c.getD i []).length * ([] : List Nat).length ≤ 16777216 := by
      simp only [List.length_nil, Nat.mul_zero]
      omega
    simp only [mJoin, seqAt, nodeAt, get_new]
    rw [e1, allStr_map]
    dsimp only
    rw [if_pos e3, joinL_nil]
    rfl
  refine ⟨_, ?_, Keep.app (r := [.lst (is.map fun i => .str (c.getD i []))])⟩
  simp only [S__law_right_2, x_sSet, x_eM, x_eC, R.bind_ok, kStr, if_true, x_aCons, x_aNil, q1, q5, R.toS_ok, List.set_cons_succ, List.set_cons_zero]
theorem cTup_ok {l : Nat} {xs : List W} (h : s[l]? = some (.lst xs)) : cTuple [.loc l] s = .ok (.loc s.length) (s ++ [.tup xs]) := by
  simp [cTuple, h]
theorem law_is40 {a : W} {s : Sto} (h : (∃ z, a = .str z) ∨ ∃ i, a = .int i) : F__law_is 40 [a, a] s = .ok (.bl true) s := law_is_flat (n := 39) h
theorem right_body {lh : Nat} {z : Option W} {t : List Nat} (D : CodeD c) (hc : s[lc]? = some (.lst (c.map .str))) (h : Sq s lh (is.map fun i : Nat => .int i)) (hi : ∀ i ∈ is, i < c.length) (hl : is.length ≤ 1000) :
    ∃ s', S__law_right_3 (some (.loc ls) :: some (.loc lc) :: some (.loc li) :: some (.str (textOf c is)) :: some (.loc lh) :: N12) s = .nx (some (.loc ls) :: some (.loc lc) :: some (.loc li) :: some (.str (textOf c is)) :: some (.loc lh) :: N12) s' ∧ Keep [] s s' := by
  obtain ⟨s1, q1, k1⟩ := bits_ok (.inl hc) D.words D.isc h hi hl
  have h1 := h.keep k1
  have q2 := cTup_ok (k1.nil_get hc)
  have k2 : Keep [] s (s1 ++ [.tup (c.map .str)]) := k1.trans Keep.app
  have h2 : Sq (s1 ++ [Nd.tup (c.map W.str)]) s1.length (c.map .str) := .inr get_new
  obtain ⟨s3, q3, k3⟩ := bits_ok h2 D.words D.isc (h1.keep Keep.app) hi hl
  have q4 := law_is40 (s := s1) (a := .str (textOf c is)) (.inl ⟨_, rfl⟩)
  have q5 := law_is40 (s := s3) (a := .str (textOf c is)) (.inl ⟨_, rfl⟩)
  refine ⟨s3, ?_, k2.trans k3⟩
  have q6 : F_bits_of (perm [1, 0] [.loc lh, .loc s1.length]) (s1 ++ [.tup (c.map .str)]) = .ok (.str (textOf c is)) s3 := q3
  generalize s1 ++ [Nd.tup (c.map W.str)] = s2 at q2 q6
  simp only [S__law_right_3, x_sIf, x_bOr, x_bNot, x_bT, x_eN (g := F__law_is 40), x_eN (g := F_bits_of), x_eN (g := cTuple), x_aCons, x_aNil, x_eV, List.getElem?_cons_zero, List.getElem?_cons_succ, R.bind_ok, q1, q4, x_tru_bl, Bool.not_true, Bool.false_eq_true, if_false, q2]
  rw [x_eN]
  simp only [x_aCons, x_aNil, x_eN (g := cTuple), x_eV, List.getElem?_cons_zero, List.getElem?_cons_succ, R.bind_ok, q2]
  rw [if_pos (show [W.loc lh, W.loc s1.length].length = 2 from rfl), q6]
  simp only [R.bind_ok, q5, x_tru_bl, Bool.not_true, R.toS_ok, Bool.false_eq_true, if_false, x_sNop]
theorem right_handed (D : CodeD c) (hc : s[lc]? = some (.lst (c.map .str))) (h : s[li]? = some (.lst (is.map fun i : Nat => .int i))) (hi : ∀ i ∈ is, i < c.length) (hl : is.length ≤ 1000) :
    ∃ s' z, S__law_right_4 (some (.loc ls) :: some (.loc lc) :: some (.loc li) :: some (.str (textOf c is)) :: none :: N12) s = .nx (some (.loc ls) :: some (.loc lc) :: some (.loc li) :: some (.str (textOf c is)) :: z :: N12) s' ∧ Keep [] s s' := by
  have q1 := cTup_ok h
  have g1 : (s ++ [Nd.tup (is.map fun i : Nat => W.int i)])[s.length]? = some (.tup (is.map fun i : Nat => .int i)) := get_new
  have k1 : Keep [] s (s ++ [Nd.tup (is.map fun i : Nat => W.int i)]) := Keep.app
  generalize hs1 : s ++ [Nd.tup (is.map fun i : Nat => W.int i)] = s1 at q1 g1 k1
  have g2 : (s1 ++ [Nd.lst [.loc li, .loc s.length]])[s1.length]? = some (.lst [.loc li, .loc s.length]) := get_new
  have q2 : iSeq (eLst (aCons (eV 2) (aCons (eN cTuple (aCons (eV 2) aNil)) aNil))) (some (.loc ls) :: some (.loc lc) :: some (.loc li) :: some (.str (textOf c is)) :: none :: N12) s = .ok ([.v (.loc li), .v (.loc s.length)], [(s1.length, .lst [.loc li, .loc s.length])]) (s1 ++ [.lst [.loc li, .loc s.length]]) := by
    unfold iSeq
    simp only [x_eLst, x_eN, x_aCons, x_aNil, x_eV, List.getElem?_cons_zero, List.getElem?_cons_succ, R.bind_ok, q1, ev_lst (show [W.loc li, .loc s.length].length ≤ big from by simp [big])]
    simp only [g2]
    rfl
  have k2 : Keep [] s (s1 ++ [Nd.lst [.loc li, .loc s.length]]) := k1.trans Keep.app
  have main := for_in (ck := [(s1.length, .lst [.loc li, .loc s.length])]) (g := .nm 4) (b := S__law_right_3) (fun ys ρ s2 => (∃ z, ρ = some (.loc ls) :: some (.loc lc) :: some (.loc li) :: some (.str (textOf c is)) :: z :: N12) ∧ Keep [] (s1 ++ [Nd.lst [.loc li, .loc s.length]]) s2 ∧ ∀ y ∈ ys, ∃ lh, y = .v (.loc lh) ∧ (lh = li ∨ lh = s.length))
    (fun r => ∃ s' z, r = .nx (some (.loc ls) :: some (.loc lc) :: some (.loc li) :: some (.str (textOf c is)) :: z :: N12) s' ∧ Keep [] s s') (by
      rintro ys ρ s2 ⟨⟨z, rfl⟩, k, hy⟩
      refine ⟨ck1 (k.nil_get g2), ?_⟩
      cases ys with
      | nil => exact ⟨s2, z, rfl, k2.trans k⟩
      | cons y ys =>
        obtain ⟨lh, rfl, hlh⟩ := hy _ List.mem_cons_self
        have hh : Sq s2 lh (is.map fun i : Nat => .int i) := by
          rcases hlh with rfl | rfl
          · exact .inl ((k2.trans k).nil_get h)
          · exact .inr (k.nil_get (get_app g1))
        obtain ⟨s3, t1, t2⟩ := right_body (ls := ls) (li := li) (z := z) (t := []) D ((k2.trans k).nil_get hc) hh hi hl
        exact ⟨_, rfl, .inl ⟨_, s3, .inl t1, ⟨_, rfl⟩, k.trans t2, fun y hy' => hy y (List.mem_cons_of_mem _ hy')⟩⟩)
    [.v (.loc li), .v (.loc s.length)] (some (.loc ls) :: some (.loc lc) :: some (.loc li) :: some (.str (textOf c is)) :: none :: N12) (s1 ++ [Nd.lst [.loc li, .loc s.length]]) ⟨⟨_, rfl⟩, .refl, fun y hy => by
      simp at hy
      rcases hy with rfl | rfl
      · exact ⟨_, rfl, .inl rfl⟩
      · exact ⟨_, rfl, .inr rfl⟩⟩
  unfold S__law_right_4 sFor
  rw [q2, R.toS_ok]
  exact main
/-- the ints at a place -/
abbrev IsAt (s : Sto) (l : Nat) (xs : List Nat) : Prop := s[l]? = some (.lst (xs.map fun i : Nat => .int i))
theorem right_due {z : Option W} (D : CodeD c) (hc : s[lc]? = some (.lst (c.map .str))) (h : IsAt s li is) :
    ∃ ld s', S__law_right_5 (some (.loc ls) :: some (.loc lc) :: some (.loc li) :: some (.str (textOf c is)) :: z :: N12) s = .nx (some (.loc ls) :: some (.loc lc) :: some (.loc li) :: some (.str (textOf c is)) :: z :: some (.loc ld) :: [none, none, none, none, none, none, none, none, none, none, none]) s' ∧ Keep [] s s' ∧ IsAt s' ld (dueOf c is) := by
  have q1 := weq_strs (st := s ++ [.lst [.str []]]) (a := lc) (b := s.length) (xs := c) (ys := [[]]) (get_app hc) get_new D.small (by simp)
  have g1 : IsAt (s ++ [.lst [.str []]]) li is := get_app h
  have k1 : Keep [] s (s ++ [.lst [.str []]]) := Keep.app
  generalize hs1 : s ++ [Nd.lst [.str []]] = s1 at q1 g1 k1
  unfold dueOf
  by_cases h0 : c = [[]]
  · rw [if_pos h0]
    rw [decide_eq_true h0] at q1
    refine ⟨s1.length, s1 ++ [.lst []], ?_, k1.trans Keep.app, get_new⟩
    simp [S__law_right_5, newL, big, hs1, opNe, q1]
  · rw [if_neg h0]
    rw [decide_eq_false h0] at q1
    refine ⟨li, s1, ?_, k1, g1⟩
    simp [S__law_right_5, newL, big, hs1, opNe, q1]
theorem same_ints {s : Sto} {a b : Nat} {xs : List Nat} (ha : IsAt s a xs) (hb : IsAt s b xs) (hl : xs.length ≤ 1000) : SameN s 1 (.loc a) (.loc b) := by
  refine .inr ⟨a, b, _, _, rfl, rfl, ha, hb, rfl, by simp; omega, fun i x y h1 h2 => ?_⟩
  rw [h1] at h2
  cases h2
  rw [List.getElem?_map] at h1
  cases hx : xs[i]? with
  | none =>
    rw [hx] at h1
    cases h1
  | some k =>
    rw [hx] at h1
    cases h1
    exact ⟨rfl, .inr ⟨_, rfl⟩⟩
theorem law_isN {s : Sto} {m : Nat} (hm : m < 40) {a b : W} (h : SameN s m a b) : ∃ s', F__law_is 40 [a, b] s = .ok (.bl true) s' ∧ Keep [] s s' := by
  have up : ∀ (k m : Nat) {a b : W}, SameN s m a b → SameN s (m + k) a b := by
    intro k m
    induction m with
    | zero =>
      intro a b h
      cases k with
      | zero => exact h
      | succ k =>
        rw [Nat.zero_add]
        exact .inl h
    | succ m ih =>
      intro a b h
      rw [Nat.succ_add]
      rcases h with h | ⟨la, lb, xs, ys, h1, h2, h3, h4, h5, h6, h7⟩
      · exact .inl h
      · exact .inr ⟨la, lb, xs, ys, h1, h2, h3, h4, h5, h6, fun i x y e1 e2 => ih (h7 i x y e1 e2)⟩
  have := up (39 - m) m h
  rw [show m + (39 - m) = 39 from by omega] at this
  exact law_is_ok 39 s a b this
end
section
variable {st0 st s : Sto} {ls lc li n : Nat} {c : List (List Nat)} {is : List Nat}
abbrev N9 : List (Option W) := [none, none, none, none, none, none, none, none, none]
theorem right_told {ld turn : Nat} {z4 z7 : Option W} (D : CodeD c) (hD : Dr st0 ls n s) (hc : s[lc]? = some (.lst (c.map .str))) (hd : IsAt s ld (dueOf c is)) (hi : ∀ i ∈ is, i < c.length) (hl : is.length ≤ 1000) :
    ∃ l s', (sSeq S__law_right_6 (sSeq S__law_right_7 S__law_right_8)) (some (.loc ls) :: some (.loc lc) :: some (.loc li) :: some (.str (textOf c is)) :: z4 :: some (.loc ld) :: some (.int turn) :: z7 :: N9) s = .nx (some (.loc ls) :: some (.loc lc) :: some (.loc li) :: some (.str (textOf c is)) :: z4 :: some (.loc ld) :: some (.int turn) :: some (.loc l) :: N9) s' ∧ Dr st0 ls n s' ∧ s'[lc]? = some (.lst (c.map .str)) ∧ IsAt s' ld (dueOf c is) := by
  have hb : big = 16777216 := rfl
  have htl := text_len D.words is
  have r1 := read_ok hc D (show (textOf c is).length ≤ 100000 by omega)
  rw [readS_text D hi] at r1
  obtain ⟨l, s1, q1, g1, k1, hls⟩ := r1
  have p6 : S__law_right_6 (some (.loc ls) :: some (.loc lc) :: some (.loc li) :: some (.str (textOf c is)) :: z4 :: some (.loc ld) :: some (.int turn) :: z7 :: N9) s = .nx (some (.loc ls) :: some (.loc lc) :: some (.loc li) :: some (.str (textOf c is)) :: z4 :: some (.loc ld) :: some (.int turn) :: some (.loc l) :: N9) s1 := by
    have q2 : F_read_items (perm [1, 0] [.str (textOf c is), .loc lc]) s = .ok (.loc l) s1 := q1
    have e : opEq (.int (turn : Int)) (.int 0) s = .ok (.bl (decide ((turn : Int) = 0))) s := by simp [opEq, weq, scalW]
    generalize ((turn : Nat) : Int) = z at e
    cases hz : decide (z = 0) with
    | true =>
      rw [hz] at e
      simp only [S__law_right_6, x_sSet, x_eIf, x_bB, x_e2, x_eC, x_eV, List.getElem?_cons_zero, List.getElem?_cons_succ, R.bind_ok, e, if_true, x_eN (g := F_read_items), x_aCons, x_aNil, q1, R.toS_ok, List.set_cons_succ, List.set_cons_zero]
    | false =>
      rw [hz] at e
      simp only [S__law_right_6, x_sSet, x_eIf, x_bB, x_e2, x_eC, x_eV, List.getElem?_cons_zero, List.getElem?_cons_succ, R.bind_ok, e, Bool.false_eq_true, if_false]
      rw [x_eN]
      simp only [x_aCons, x_aNil, x_eV, List.getElem?_cons_zero, List.getElem?_cons_succ, R.bind_ok]
      rw [if_pos (show [W.str (textOf c is), W.loc lc].length = 2 from rfl), q2]
      simp only [R.toS_ok, List.set_cons_succ, List.set_cons_zero]
  have hdl : (dueOf c is).length ≤ 1000 := by
    unfold dueOf
    split
    · simp
    · exact hl
  have hd1 : IsAt s1 ld (dueOf c is) := k1.nil_get hd
  obtain ⟨s2, q3, k2⟩ := law_isN (by omega) (same_ints g1 hd1 hdl)
  have p7 : S__law_right_7 (some (.loc ls) :: some (.loc lc) :: some (.loc li) :: some (.str (textOf c is)) :: z4 :: some (.loc ld) :: some (.int turn) :: some (.loc l) :: N9) s1 = .nx (some (.loc ls) :: some (.loc lc) :: some (.loc li) :: some (.str (textOf c is)) :: z4 :: some (.loc ld) :: some (.int turn) :: some (.loc l) :: N9) s2 := by
    simp only [S__law_right_7, x_sIf, x_bNot, x_bT, x_eN, x_aCons, x_aNil, x_eV, List.getElem?_cons_zero, List.getElem?_cons_succ, R.bind_ok, q3, x_tru_bl, Bool.not_true, R.toS_ok, Bool.false_eq_true, if_false, x_sNop]
  have g2 : s2[l]? = some (.lst ((dueOf c is).map fun i : Nat => .int i)) := k2.nil_get g1
  have happ : mAppend (.loc l) [.non] s2 = .ok .non (s2.set l (.lst ((dueOf c is).map (fun i : Nat => W.int i) ++ [.non]))) := by
    simp only [mAppend, g2]
    rw [if_pos (by rw [List.length_map]; omega)]
  have p8 : S__law_right_8 (some (.loc ls) :: some (.loc lc) :: some (.loc li) :: some (.str (textOf c is)) :: z4 :: some (.loc ld) :: some (.int turn) :: some (.loc l) :: N9) s2 = .nx (some (.loc ls) :: some (.loc lc) :: some (.loc li) :: some (.str (textOf c is)) :: z4 :: some (.loc ld) :: some (.int turn) :: some (.loc l) :: N9) (s2.set l (.lst ((dueOf c is).map (fun i : Nat => W.int i) ++ [.non]))) := by
    simp only [S__law_right_8, x_sDrop, x_eM, x_eV, x_eC, List.getElem?_cons_zero, List.getElem?_cons_succ, R.bind_ok, kl g2, if_true, x_aCons, x_aNil, happ, R.toS_ok]
  have h1 := lt_of_get hc
  have h2 := lt_of_get hd
  refine ⟨l, s2.set l (.lst ((dueOf c is).map (fun i : Nat => W.int i) ++ [.non])), by simp only [x_sSeq, p6, RS.then_nx, p7, p8], ((hD.grow k1).grow k2).set (by have := hD.len; omega), set_ne ((k1.trans k2).nil_get hc) (by omega), set_ne (k2.nil_get hd1) (by omega)⟩
theorem right_twice {ld : Nat} {z4 : Option W} (D : CodeD c) (hD : Dr st0 ls n s) (hc : s[lc]? = some (.lst (c.map .str))) (hd : IsAt s ld (dueOf c is)) (hi : ∀ i ∈ is, i < c.length) (hl : is.length ≤ 1000) :
    ∃ z6 z7 s', S__law_right_9 (some (.loc ls) :: some (.loc lc) :: some (.loc li) :: some (.str (textOf c is)) :: z4 :: some (.loc ld) :: none :: none :: N9) s = .nx (some (.loc ls) :: some (.loc lc) :: some (.loc li) :: some (.str (textOf c is)) :: z4 :: some (.loc ld) :: z6 :: z7 :: N9) s' ∧ Dr st0 ls n s' ∧ s'[lc]? = some (.lst (c.map .str)) := by
  have hit : iRng1 (eC (.int 2)) (some (.loc ls) :: some (.loc lc) :: some (.loc li) :: some (.str (textOf c is)) :: z4 :: some (.loc ld) :: none :: none :: N9) s = .ok (rng 0 2, []) s := iRng1_ok rfl (by omega) (by omega)
  have main := for_in (ck := []) (g := .nm 6) (b := sSeq S__law_right_6 (sSeq S__law_right_7 S__law_right_8)) (fun ys ρ s2 => (∃ z6 z7, ρ = some (.loc ls) :: some (.loc lc) :: some (.loc li) :: some (.str (textOf c is)) :: z4 :: some (.loc ld) :: z6 :: z7 :: N9) ∧ Dr st0 ls n s2 ∧ s2[lc]? = some (.lst (c.map .str)) ∧ IsAt s2 ld (dueOf c is) ∧ ∀ y ∈ ys, ∃ t : Nat, y = .v (.int t))
    (fun r => ∃ z6 z7 s', r = .nx (some (.loc ls) :: some (.loc lc) :: some (.loc li) :: some (.str (textOf c is)) :: z4 :: some (.loc ld) :: z6 :: z7 :: N9) s' ∧ Dr st0 ls n s' ∧ s'[lc]? = some (.lst (c.map .str))) (by
      rintro ys ρ s2 ⟨⟨z6, z7, rfl⟩, k, hc2, hd2, hy⟩
      refine ⟨rfl, ?_⟩
      cases ys with
      | nil => exact ⟨z6, z7, s2, rfl, k, hc2⟩
      | cons y ys =>
        obtain ⟨t, rfl⟩ := hy _ List.mem_cons_self
        obtain ⟨l, s3, t1, t2, t3, t4⟩ := right_told (li := li) (turn := t) (z4 := z4) (z7 := z7) D k hc2 hd2 hi hl
        exact ⟨_, rfl, .inl ⟨_, s3, .inl t1, ⟨_, _, rfl⟩, t2, t3, t4, fun y hy' => hy y (List.mem_cons_of_mem _ hy')⟩⟩)
    (intsY 2) (some (.loc ls) :: some (.loc lc) :: some (.loc li) :: some (.str (textOf c is)) :: z4 :: some (.loc ld) :: none :: none :: N9) s ⟨⟨_, _, rfl⟩, hD, hc, hd, fun y hy => by
      obtain ⟨i, _, rfl⟩ := List.mem_map.mp hy
      exact ⟨_, rfl⟩⟩
  unfold S__law_right_9 sFor
  rw [hit, R.toS_ok]
  exact main
end
section
/-- a text of at most m signs, each one a sign -/
structure TxS (m : Nat) (t : List Nat) : Prop where
  len : t.length ≤ m
  small : t.all (· < 1114112) = true
theorem TxS.mono {m k : Nat} {t : List Nat} (h : TxS m t) (hk : m ≤ k) : TxS k t := ⟨Nat.le_trans h.len hk, h.small⟩
theorem TxS.app {m k : Nat} {t u : List Nat} (h : TxS m t) (g : TxS k u) : TxS (m + k) (t ++ u) := ⟨by have := h.len; have := g.len; rw [List.length_append]; omega, by rw [List.all_append, h.small, g.small]; rfl⟩
theorem TxS.cut {m : Nat} {t : List Nat} (h : TxS m t) (lo hi : Option Int) : TxS m (cutW t lo hi) := by
  refine ⟨?_, ?_⟩
  · have := h.len
    unfold cutW
    rw [List.length_take, List.length_drop]
    omega
  · rw [List.all_eq_true]
    intro x hx
    unfold cutW at hx
    exact List.all_eq_true.mp h.small x (List.mem_of_mem_drop (List.mem_of_mem_take hx))
theorem opSl_ok {m : Nat} {t : List Nat} (h : TxS m t) (hm : m ≤ 1000000) (lo hi : Option Int) (s : Sto) : opSl (.str t) lo hi s = .ok (.str (cutW t lo hi)) s := by
  have hb : big = 16777216 := rfl
  have := h.len
  unfold opSl
  dsimp only
  rw [if_pos (by omega)]
theorem opAdd_ok {m k : Nat} {t u : List Nat} (h : TxS m t) (g : TxS k u) (hm : m ≤ 1000000) (hk : k ≤ 1000000) (s : Sto) : opAdd (.str t) (.str u) s = .ok (.str (t ++ u)) s := by
  have hb : big = 16777216 := rfl
  have := h.len
  have := g.len
  unfold opAdd
  dsimp only
  rw [if_pos (by omega)]
theorem one_of {m d k : Nat} {s : Sto} {L : List W} (g : s[k]? = some (.lst L)) (hd : d < L.length) (hL : ∀ x ∈ L, ∃ t, x = .str t ∧ TxS m t) : ∃ t, opIx (.loc k) (.int (d : Int)) s = .ok (.str t) s ∧ TxS m t := by
  obtain ⟨t, e, h⟩ := hL L[d] (List.getElem_mem hd)
  exact ⟨t, Sq.ix (.inl g) (by rw [List.getElem?_eq_getElem hd, e]), h⟩
variable {st0 st s : Sto} {ls lc li n : Nat} {c : List (List Nat)}
theorem CodeD.tx (D : CodeD c) {w : List Nat} (h : w ∈ c) : TxS 60 w := ⟨D.words w h, D.small w h⟩
/-- the slots ahead of the eighth -/
abbrev P8 (ls lc li : Nat) (t : List Nat) (z4 z5 z6 z7 : Option W) (r : List (Option W)) : Mi.Loc := some (.loc ls) :: some (.loc lc) :: some (.loc li) :: some (.str t) :: z4 :: z5 :: z6 :: z7 :: r
theorem right10 {t : List Nat} {z4 z5 z6 z7 z8 z9 z10 z11 z12 z13 z14 : Option W} (D : CodeD c) (hD : Dr st0 ls n s) (hn : n < 90000) (hc : s[lc]? = some (.lst (c.map .str))) (hlc : lc ≠ ls) (ht : TxS 100000 t) :
    ∃ a w s', S__law_right_10 (P8 ls lc li t z4 z5 z6 z7 [z8, z9, z10, z11, z12, z13, z14, none, none]) s = .nx (P8 ls lc li t z4 z5 z6 z7 [z8, z9, z10, z11, z12, some (.int ((a : Nat) : Int)), some (.str w), none, none]) s' ∧ Dr st0 ls (n + 2) s' ∧ s'[lc]? = some (.lst (c.map .str)) ∧ w ∈ c := by
  have hb : big = 16777216 := rfl
  have htl := ht.len
  have hlen : cLen [.str t] s = .ok (.int t.length) s := if_pos (by omega)
  obtain ⟨a, s1, y1, y2, y3, y4, y5⟩ := take_ok (many := t.length + 1) hD.strm (by omega) (by omega) (by omega)
  have D1 : Dr st0 ls (n + 1) s1 := hD.step y3 y4 (by omega)
  have g1 : s1[lc]? = some (.lst (c.map .str)) := y4.get hc (by simpa using hlc)
  have q1 : eN F__law_take (aCons (eV 0) (aCons (e2 opAdd (eN cLen (aCons (eV 3) aNil)) (eC (.int 1))) aNil)) (P8 ls lc li t z4 z5 z6 z7 [z8, z9, z10, z11, z12, z13, z14, none, none]) s = .ok (.int ((a : Nat) : Int)) s1 := by
    have e1' : F__law_take [.loc ls, .int ((t.length : Int) + 1)] s = .ok (.int a) s1 := by
      rw [show ((t.length : Int) + 1) = ((t.length + 1 : Nat) : Int) from by omega]
      exact y1
    generalize ((t.length : Nat) : Int) = z at hlen e1'
    simp [hlen, opAdd, e1']
  obtain ⟨d, w, s2, f1, f2, f3, f4, f5⟩ := take_len D1.strm (by omega) g1 D.pos (by have := D.len; omega) (ρ := P8 ls lc li t z4 z5 z6 z7 [z8, z9, z10, z11, z12, z13, z14, none, none]) (a := eV 0) (b := eV 1) rfl rfl
  have D2 : Dr st0 ls (n + 2) s2 := D1.step f3 f4 (by omega)
  have g2 : s2[lc]? = some (.lst (c.map .str)) := f4.get g1 (by simpa using hlc)
  have q2 : opIx (.loc lc) (.int (d : Int)) s2 = .ok (.str w) s2 := Sq.ix (.inl g2) (by rw [List.getElem?_map, f2]; rfl)
  refine ⟨a, w, s2, ?_, D2, g2, List.mem_of_getElem? f2⟩
  simp only [S__law_right_10, x_sPar, x_aCons (r := aCons (e2 opIx (eV 1) (eN F__law_take (aCons (eV 0) (aCons (eN cLen (aCons (eV 1) aNil)) aNil)))) aNil), q1, R.bind_ok]
  simp only [x_aCons (r := aNil), x_e2, x_eV (i := 1), List.getElem?_cons_zero, List.getElem?_cons_succ, R.bind_ok, f1, q2, x_aNil, R.toS_ok, setAll, List.set_cons_succ, List.set_cons_zero]
theorem right11 {t w : List Nat} {a : Nat} {z4 z5 z6 z7 z8 z9 z10 z11 z12 : Option W} (D : CodeD c) (hD : Dr st0 ls n s) (hn : n < 90000) (hc : s[lc]? = some (.lst (c.map .str))) (hlc : lc ≠ ls) (hw : TxS 60 w) :
    ∃ sg s', S__law_right_11 (P8 ls lc li t z4 z5 z6 z7 [z8, z9, z10, z11, z12, some (.int ((a : Nat) : Int)), some (.str w), none, none]) s = .nx (P8 ls lc li t z4 z5 z6 z7 [some (.str sg), z9, z10, z11, z12, some (.int ((a : Nat) : Int)), some (.str w), none, none]) s' ∧ Dr st0 ls (n + 1) s' ∧ s'[lc]? = some (.lst (c.map .str)) ∧ TxS 60 sg := by
  have hsl := opSl_ok hw (by omega) none (some (-1)) s
  have hcut := hw.cut none (some (-1))
  generalize cutW w none (some (-1)) = w1 at hsl hcut
  have D1 : Dr st0 ls n (s ++ [.lst [.str [48], .str [49], .str [50], .str [32], .str w1, .str w]]) := hD.app
  have g1 : (s ++ [Nd.lst [.str [48], .str [49], .str [50], .str [32], .str w1, .str w]])[s.length]? = some (.lst [.str [48], .str [49], .str [50], .str [32], .str w1, .str w]) := get_new
  have h1 : (s ++ [Nd.lst [.str [48], .str [49], .str [50], .str [32], .str w1, .str w]])[lc]? = some (.lst (c.map .str)) := get_app hc
  have hls := hD.old
  have hle := hD.len
  have q1 : (eLst (aCons (eC (.str [48])) (aCons (eC (.str [49])) (aCons (eC (.str [50])) (aCons (eC (.str [32])) (aCons (eSl (eV 14) oN (oS (e1 opNeg (eC (.int 1))))) (aCons (eV 14) aNil))))))) (P8 ls lc li t z4 z5 z6 z7 [z8, z9, z10, z11, z12, some (.int ((a : Nat) : Int)), some (.str w), none, none]) s = .ok (.loc s.length) (s ++ [.lst [.str [48], .str [49], .str [50], .str [32], .str w1, .str w]]) := by
    simp only [x_eLst, x_aCons, x_aNil, x_eC, x_eSl, x_oN, x_oS, x_e1, x_eV, List.getElem?_cons_zero, List.getElem?_cons_succ, R.bind_ok, opNeg, hsl]
    exact ev_lst (by simp [big])
  generalize hs1 : s ++ [Nd.lst [.str [48], .str [49], .str [50], .str [32], .str w1, .str w]] = s1 at D1 g1 h1 q1
  obtain ⟨d, s2, e1, e2, e3, e4, e5⟩ := take_const D1.strm (by omega) 6 (by omega) (by omega) (ρ := P8 ls lc li t z4 z5 z6 z7 [z8, z9, z10, z11, z12, some (.int ((a : Nat) : Int)), some (.str w), none, none]) (a := eV 0) rfl
  have e1 : eN F__law_take (aCons (eV 0) (aCons (eC (.int 6)) aNil)) (P8 ls lc li t z4 z5 z6 z7 [z8, z9, z10, z11, z12, some (.int ((a : Nat) : Int)), some (.str w), none, none]) s1 = .ok (.int d) s2 := e1
  have g2 := e4.get g1 (by simp; omega)
  obtain ⟨sg, q2, hsg⟩ := one_of (m := 60) g2 (by simpa using e2) (by
    intro x hx
    simp at hx
    rcases hx with rfl | rfl | rfl | rfl | rfl | rfl
    · exact ⟨_, rfl, by simp, by decide⟩
    · exact ⟨_, rfl, by simp, by decide⟩
    · exact ⟨_, rfl, by simp, by decide⟩
    · exact ⟨_, rfl, by simp, by decide⟩
    · exact ⟨_, rfl, hcut⟩
    · exact ⟨_, rfl, hw⟩)
  refine ⟨sg, s2, ?_, D1.step e3 e4 (by omega), e4.get h1 (by simpa using hlc), hsg⟩
  simp only [S__law_right_11, x_sSet, x_e2 (g := opIx), q1, R.bind_ok, e1, q2, R.toS_ok, List.set_cons_succ, List.set_cons_zero]
theorem right12 {t w sg : List Nat} {a : Nat} {z4 z5 z6 z7 z9 z10 z11 z12 : Option W} (D : CodeD c) (hD : Dr st0 ls n s) (hn : n < 90000) (hc : s[lc]? = some (.lst (c.map .str))) (hlc : lc ≠ ls) (ht : TxS 20000 t) (hsg : TxS 60 sg) :
    ∃ bent s', S__law_right_12 (P8 ls lc li t z4 z5 z6 z7 [some (.str sg), z9, z10, z11, z12, some (.int ((a : Nat) : Int)), some (.str w), none, none]) s = .nx (P8 ls lc li t z4 z5 z6 z7 [some (.str sg), some (.str bent), z10, z11, z12, some (.int ((a : Nat) : Int)), some (.str w), none, none]) s' ∧ Dr st0 ls (n + 1) s' ∧ s'[lc]? = some (.lst (c.map .str)) ∧ TxS 100000 bent := by
  generalize hz : ((a : Nat) : Int) = z
  have c1 := opSl_ok ht (by omega) none (some z)
  have c2 := opSl_ok ht (by omega) (some z) none
  have c3 := opSl_ok ht (by omega) (some (z + 1)) none
  have t1 := ht.cut none (some z)
  have t2 := ht.cut (some z) none
  have t3 := ht.cut (some (z + 1)) none
  generalize cutW t none (some z) = u1 at c1 t1
  generalize cutW t (some z) none = u2 at c2 t2
  generalize cutW t (some (z + 1)) none = u3 at c3 t3
  have a1 := opAdd_ok t1 hsg (by omega) (by omega)
  have b1 := t1.app hsg
  have a2 := opAdd_ok b1 t2 (by omega) (by omega)
  have b2 := b1.app t2
  have a3 := opAdd_ok t1 t3 (by omega) (by omega)
  have b3 := t1.app t3
  have a4 := opAdd_ok b1 t3 (by omega) (by omega)
  have b4 := b1.app t3
  have a5 := opAdd_ok ht hsg (by omega) (by omega)
  have b5 := ht.app hsg
  have D1 : Dr st0 ls n (s ++ [.lst [.str (u1 ++ sg ++ u2), .str (u1 ++ u3), .str (u1 ++ sg ++ u3), .str (t ++ sg)]]) := hD.app
  have g1 : (s ++ [Nd.lst [.str (u1 ++ sg ++ u2), .str (u1 ++ u3), .str (u1 ++ sg ++ u3), .str (t ++ sg)]])[s.length]? = some (.lst [.str (u1 ++ sg ++ u2), .str (u1 ++ u3), .str (u1 ++ sg ++ u3), .str (t ++ sg)]) := get_new
  have h1 : (s ++ [Nd.lst [.str (u1 ++ sg ++ u2), .str (u1 ++ u3), .str (u1 ++ sg ++ u3), .str (t ++ sg)]])[lc]? = some (.lst (c.map .str)) := get_app hc
  have hls := hD.old
  have hle := hD.len
  have q1 : (eLst (aCons (e2 opAdd (e2 opAdd (eSl (eV 3) oN (oS (eV 13))) (eV 8)) (eSl (eV 3) (oS (eV 13)) oN)) (aCons (e2 opAdd (eSl (eV 3) oN (oS (eV 13))) (eSl (eV 3) (oS (e2 opAdd (eV 13) (eC (.int 1)))) oN)) (aCons (e2 opAdd (e2 opAdd (eSl (eV 3) oN (oS (eV 13))) (eV 8)) (eSl (eV 3) (oS (e2 opAdd (eV 13) (eC (.int 1)))) oN)) (aCons (e2 opAdd (eV 3) (eV 8)) aNil))))) (P8 ls lc li t z4 z5 z6 z7 [some (.str sg), z9, z10, z11, z12, some (.int z), some (.str w), none, none]) s = .ok (.loc s.length) (s ++ [.lst [.str (u1 ++ sg ++ u2), .str (u1 ++ u3), .str (u1 ++ sg ++ u3), .str (t ++ sg)]]) := by
    have az : opAdd (.int z) (.int 1) s = .ok (.int (z + 1)) s := rfl
    simp only [x_eLst, x_aCons, x_aNil, x_eC, x_eSl, x_oN, x_oS, x_e2, x_eV, List.getElem?_cons_zero, List.getElem?_cons_succ, R.bind_ok, c1, c2, c3, az, a1, a2, a3, a4, a5]
    exact ev_lst (by simp [big])
  generalize hs1 : s ++ [Nd.lst [.str (u1 ++ sg ++ u2), .str (u1 ++ u3), .str (u1 ++ sg ++ u3), .str (t ++ sg)]] = s1 at D1 g1 h1 q1
  obtain ⟨d, s2, e1, e2, e3, e4, e5⟩ := take_const D1.strm (by omega) 4 (by omega) (by omega) (ρ := P8 ls lc li t z4 z5 z6 z7 [some (.str sg), z9, z10, z11, z12, some (.int z), some (.str w), none, none]) (a := eV 0) rfl
  have e1 : eN F__law_take (aCons (eV 0) (aCons (eC (.int 4)) aNil)) (P8 ls lc li t z4 z5 z6 z7 [some (.str sg), z9, z10, z11, z12, some (.int z), some (.str w), none, none]) s1 = .ok (.int d) s2 := e1
  have g2 := e4.get g1 (by simp; omega)
  obtain ⟨bent, q2, hbent⟩ := one_of (m := 100000) g2 (by simpa using e2) (by
    intro x hx
    simp only [List.mem_cons, List.not_mem_nil, or_false] at hx
    rcases hx with rfl | rfl | rfl | rfl
    · exact ⟨_, rfl, b2.mono (by omega)⟩
    · exact ⟨_, rfl, b3.mono (by omega)⟩
    · exact ⟨_, rfl, b4.mono (by omega)⟩
    · exact ⟨_, rfl, b5.mono (by omega)⟩)
  refine ⟨bent, s2, ?_, D1.step e3 e4 (by omega), e4.get h1 (by simpa using hlc), hbent⟩
  simp only [S__law_right_12, x_sSet, x_e2 (g := opIx), q1, R.bind_ok, e1, q2, R.toS_ok, List.set_cons_succ, List.set_cons_zero]
end
section
variable {st0 st s : Sto} {ls lc li n : Nat} {c : List (List Nat)}
def fBad : Y → Option W
  | .v (.str [c]) => if isBit c then none else some (.str [c])
  | _ => none
theorem notIn01 (c : Nat) (s : Sto) : opNotIn (.str [c]) (.str [48, 49]) s = .ok (.bl (!isBit c)) s := by
  have : opIn (.str [c]) (.str [48, 49]) s = .ok (.bl (isBit c)) s := by
    unfold opIn
    dsimp only
    rw [in01]
  unfold opNotIn notB
  rw [this]
  rfl
theorem bad_list (t : List Nat) : (t.map fun c => Y.v (.str [c])).filterMap fBad = ((t.filter fun c => !isBit c).map fun c => [c]).map W.str := by
  induction t with
  | nil => rfl
  | cons c t ih =>
    rw [List.map_cons, List.filterMap_cons, List.filter_cons]
    cases h : isBit c with
    | true => simp [fBad, h, ih]
    | false => simp [fBad, h, ih]
theorem bad_empty (t : List Nat) : (((t.filter fun c => !isBit c).map fun c => [c]).map W.str).isEmpty = bitsB t := by
  induction t with
  | nil => rfl
  | cons c t ih =>
    rw [List.filter_cons]
    cases h : isBit c with
    | true => simpa [bitsB, h] using ih
    | false => simp [bitsB, h]
theorem right15 {t : List Nat} {z4 z5 z6 z7 z8 z10 z11 z12 z13 z14 : Option W} {bent : List Nat} (hb : TxS 100000 bent) :
    ∃ s', S__law_right_15 (P8 ls lc li t z4 z5 z6 z7 [z8, some (.str bent), z10, z11, z12, z13, z14, none, none]) s = .nx (P8 ls lc li t z4 z5 z6 z7 [z8, some (.str bent), z10, some (.bl (bitsB bent)), z12, z13, z14, none, none]) s' ∧ Keep [] s s' := by
  have hbig : big = 16777216 := rfl
  have hbl := hb.len
  obtain ⟨st', h1, h2⟩ := elc_gr (own := [16]) (it := iStr (eV 9)) (g := .nm 16) (t := bB (e2 opNotIn (eV 16) (eC (.str [48, 49])))) (e := eV 16) (ρ0 := P8 ls lc li t z4 z5 z6 z7 [z8, some (.str bent), z10, z11, z12, z13, z14, none, none]) (st0 := s) (st1 := s) (ck := []) (ys := bent.map fun c => .v (.str [c])) (by simp [iStr]) (· = s) fBad (fun _ _ => rfl) rfl (by simp; omega) (by
    intro y hy s0 e0
    rw [e0]
    obtain ⟨c, hc, rfl⟩ := List.mem_map.mp hy
    refine ⟨_, rfl, ?_⟩
    cases h : isBit c with
    | true => exact .inr ⟨s, by simp [wipeL, notIn01, h], rfl, by simp [fBad, h]⟩
    | false => exact .inl ⟨s, .str [c], s, by simp [wipeL, notIn01, h], by simp [wipeL], rfl, by simp [fBad, h]⟩)
  subst h2
  rw [bad_list] at h1
  have q1 : L__law_right_14 (P8 ls lc li t z4 z5 z6 z7 [z8, some (.str bent), z10, z11, z12, z13, z14, none, none]) st' = .ok (.loc st'.length) (st' ++ [.lst (((bent.filter fun c => !isBit c).map fun c => [c]).map W.str)]) := h1
  have g1 : ((st' ++ [Nd.lst (((bent.filter fun c => !isBit c).map fun c => [c]).map W.str)]) ++ [Nd.lst []])[st'.length]? = some (.lst (((bent.filter fun c => !isBit c).map fun c => [c]).map W.str)) := get_app get_new
  have q2 := weq_nil (b := (st' ++ [Nd.lst (((bent.filter fun c => !isBit c).map fun c => [c]).map W.str)]).length) g1 get_new (data_strs _ 59 _ (by
    intro x hx
    obtain ⟨c, hc, rfl⟩ := List.mem_map.mp hx
    have := List.all_eq_true.mp hb.small c (List.mem_filter.mp hc).1
    simpa using this))
  rw [bad_empty] at q2
  refine ⟨(st' ++ [Nd.lst (((bent.filter fun c => !isBit c).map fun c => [c]).map W.str)]) ++ [Nd.lst []], ?_, Keep.app.trans Keep.app⟩
  generalize st' ++ [Nd.lst (((bent.filter fun c => !isBit c).map fun c => [c]).map W.str)] = s2 at q1 q2
  simp [S__law_right_15, q1, newL, big, opEq, q2]
/-- found is what is due -/
theorem right_check {t : List Nat} {z4 z5 z6 z7 z8 z10 z11 z12 z13 z14 : Option W} {bent : List Nat} (D : CodeD c) (hD : Dr st0 ls n s) (hc : s[lc]? = some (.lst (c.map .str))) (hb : TxS 100000 bent) :
    ∃ y10 y11 y12 s', (sSeq S__law_right_13 (sSeq S__law_right_15 (sSeq S__law_right_16 S__law_right_17))) (P8 ls lc li t z4 z5 z6 z7 [z8, some (.str bent), z10, z11, z12, z13, z14, none, none]) s = .nx (P8 ls lc li t z4 z5 z6 z7 [z8, some (.str bent), y10, y11, y12, z13, z14, none, none]) s' ∧ Dr st0 ls n s' ∧ s'[lc]? = some (.lst (c.map .str)) := by
  have hbig : big = 16777216 := rfl
  have r1 := read_ok hc D hb.len
  have hbs : ∀ x ∈ [wBits, bent], x.all (· < 1114112) = true := by
    intro x hx
    simp only [List.mem_cons, List.not_mem_nil, or_false] at hx
    rcases hx with rfl | rfl
    · decide
    · exact hb.small
  -- where nothing is read
  have none_case : readS c bent = none → ∃ y10 y11 y12 s', (sSeq S__law_right_13 (sSeq S__law_right_15 (sSeq S__law_right_16 S__law_right_17))) (P8 ls lc li t z4 z5 z6 z7 [z8, some (.str bent), z10, z11, z12, z13, z14, none, none]) s = .nx (P8 ls lc li t z4 z5 z6 z7 [z8, some (.str bent), y10, y11, y12, z13, z14, none, none]) s' ∧ Dr st0 ls n s' ∧ s'[lc]? = some (.lst (c.map .str)) := by
    intro hr
    rw [hr] at r1
    obtain ⟨l, s1, q1, g1, k1⟩ := r1
    have q2 := asked_read_1 q1 g1
    have gf : (s1 ++ [Nd.lst [.str wBits, .str bent]])[s1.length]? = some (.lst ([wBits, bent].map .str)) := get_new
    have k2 : Keep [] s (s1 ++ [Nd.lst [.str wBits, .str bent]]) := k1.trans Keep.app
    generalize s1 ++ [Nd.lst [.str wBits, .str bent]] = s2 at q2 gf k2
    have p13 : S__law_right_13 (P8 ls lc li t z4 z5 z6 z7 [z8, some (.str bent), z10, z11, z12, z13, z14, none, none]) s = .nx (P8 ls lc li t z4 z5 z6 z7 [z8, some (.str bent), some (.loc s1.length), z11, z12, z13, z14, none, none]) s2 := by
      simp [S__law_right_13, q2]
    obtain ⟨s3, p15, k3⟩ := right15 (s := s2) (ls := ls) (lc := lc) (li := li) (t := t) (z4 := z4) (z5 := z5) (z6 := z6) (z7 := z7) (z8 := z8) (z10 := some (.loc s1.length)) (z11 := z11) (z12 := z12) (z13 := z13) (z14 := z14) hb
    have hc3 := (k2.trans k3).nil_get hc
    have p16 : ∃ s4, S__law_right_16 (P8 ls lc li t z4 z5 z6 z7 [z8, some (.str bent), some (.loc s1.length), some (.bl (bitsB bent)), z12, z13, z14, none, none]) s3 = .nx (P8 ls lc li t z4 z5 z6 z7 [z8, some (.str bent), some (.loc s1.length), some (.bl (bitsB bent)), some .non, z13, z14, none, none]) s4 ∧ Keep [] s3 s4 := by
      cases hbit : bitsB bent with
      | false => exact ⟨s3, by simp [S__law_right_16], .refl⟩
      | true =>
        have r2 := law_read_ok hc3 D hb.len hbit
        rw [hr] at r2
        obtain ⟨s4, q4, k4⟩ := r2
        exact ⟨s4, by simp [S__law_right_16, q4], k4⟩
    obtain ⟨s4, p16, k4⟩ := p16
    have k24 := k3.trans k4
    have q5 := weq_strs (st := s4 ++ [Nd.lst ([wBits, bent].map .str)]) (a := s1.length) (b := s4.length) (get_app (k24.nil_get gf)) get_new hbs hbs
    rw [decide_eq_true rfl] at q5
    have k5 : Keep [] s (s4 ++ [Nd.lst ([wBits, bent].map .str)]) := (k2.trans k24).trans Keep.app
    have p17 : S__law_right_17 (P8 ls lc li t z4 z5 z6 z7 [z8, some (.str bent), some (.loc s1.length), some (.bl (bitsB bent)), some .non, z13, z14, none, none]) s4 = .nx (P8 ls lc li t z4 z5 z6 z7 [z8, some (.str bent), some (.loc s1.length), some (.bl (bitsB bent)), some .non, z13, z14, none, none]) (s4 ++ [Nd.lst ([wBits, bent].map .str)]) := by
      have e1 : newL [.str [98, 105, 116, 115], .str bent] s4 = .ok (.loc s4.length) (s4 ++ [Nd.lst ([wBits, bent].map .str)]) := ev_lst (by simp [big])
      have e2 : opNe (.loc s1.length) (.loc s4.length) (s4 ++ [Nd.lst ([wBits, bent].map .str)]) = .ok (.bl false) (s4 ++ [Nd.lst ([wBits, bent].map .str)]) := by
        unfold opNe
        rw [q5]
        rfl
      generalize s4 ++ [Nd.lst ([wBits, bent].map .str)] = s5 at e1 e2
      simp [S__law_right_17, opIsN, opNotN, e1, e2]
    refine ⟨some (.loc s1.length), some (.bl (bitsB bent)), some .non, s4 ++ [Nd.lst ([wBits, bent].map .str)], by simp only [x_sSeq, p13, RS.then_nx, p15, p16, p17], hD.grow k5, k5.nil_get hc⟩
  cases hr : readS c bent with
  | none => exact none_case hr
  | some is =>
    have hbit : bitsB bent = true := by
      unfold readS at hr
      cases hx : bitsB bent with
      | true => rfl
      | false =>
        rw [hx, if_pos rfl] at hr
        cases hr
    rw [hr] at r1
    obtain ⟨l, s1, q1, g1, k1, _⟩ := r1
    have q2 := asked_read_ok q1
    have gf : (s1 ++ [Nd.lst [.str wTold, .loc l]])[s1.length]? = some (.lst [.str wTold, .loc l]) := get_new
    have gl : IsAt (s1 ++ [Nd.lst [.str wTold, .loc l]]) l is := get_app g1
    have k2 : Keep [] s (s1 ++ [Nd.lst [.str wTold, .loc l]]) := k1.trans Keep.app
    generalize s1 ++ [Nd.lst [.str wTold, .loc l]] = s2 at q2 gf k2 gl
    have p13 : S__law_right_13 (P8 ls lc li t z4 z5 z6 z7 [z8, some (.str bent), z10, z11, z12, z13, z14, none, none]) s = .nx (P8 ls lc li t z4 z5 z6 z7 [z8, some (.str bent), some (.loc s1.length), z11, z12, z13, z14, none, none]) s2 := by
      simp [S__law_right_13, q2]
    obtain ⟨s3, p15, k3⟩ := right15 (s := s2) (ls := ls) (lc := lc) (li := li) (t := t) (z4 := z4) (z5 := z5) (z6 := z6) (z7 := z7) (z8 := z8) (z10 := some (.loc s1.length)) (z11 := z11) (z12 := z12) (z13 := z13) (z14 := z14) hb
    have hc3 := (k2.trans k3).nil_get hc
    have r2 := law_read_ok hc3 D hb.len hbit
    rw [hr] at r2
    obtain ⟨l2, s4, q4, g4, k4, _⟩ := r2
    rw [hbit] at p15
    have p16 : S__law_right_16 (P8 ls lc li t z4 z5 z6 z7 [z8, some (.str bent), some (.loc s1.length), some (.bl true), z12, z13, z14, none, none]) s3 = .nx (P8 ls lc li t z4 z5 z6 z7 [z8, some (.str bent), some (.loc s1.length), some (.bl true), some (.loc l2), z13, z14, none, none]) s4 := by
      simp [S__law_right_16, q4]
    have k24 := k3.trans k4
    have isl : is.length ≤ 100000 := by
      have h0 : is.length ≤ bent.length := by
        have key : ∀ (n : Nat) (t : List Nat) (is : List Nat), (∀ w ∈ c, w ≠ []) → dec c n t = some is → is.length ≤ t.length := by
          intro n
          induction n with
          | zero =>
            intro t is _ h
            unfold dec at h
            split at h
            · cases h
              simp
            · cases h
          | succ n ih =>
            intro t is hne h
            unfold dec at h
            split at h
            · cases h
              simp
            · cases hi : item c t with
              | none =>
                rw [hi] at h
                cases h
              | some i =>
                rw [hi] at h
                dsimp only at h
                cases hd : dec c n (t.drop (c.getD i []).length) with
                | none =>
                  rw [hd] at h
                  cases h
                | some js =>
                  rw [hd] at h
                  cases h
                  have h1 := ih _ _ hne hd
                  have h2 := item_len hi
                  have h3 : 0 < (c.getD i []).length := List.length_pos_iff.mpr (hne _ (word_in (item_mem hi).1))
                  rw [List.length_drop] at h1
                  rw [List.length_cons]
                  omega
        unfold readS at hr
        rw [hbit, if_neg (by decide)] at hr
        by_cases h0 : c = [[]]
        · rw [if_pos h0] at hr
          split at hr
          · cases hr
            simp
          · cases hr
        · rw [if_neg h0] at hr
          exact key _ _ _ (D.emp.resolve_left h0) hr
      have := hb.len
      omega
    have gd : (s4 ++ [Nd.lst [.str wTold, .loc l2]])[s4.length]? = some (.lst [.str wTold, .loc l2]) := get_new
    have same : SameN (s4 ++ [Nd.lst [.str wTold, .loc l2]]) 2 (.loc s1.length) (.loc s4.length) := by
      refine .inr ⟨_, _, _, _, rfl, rfl, get_app (k24.nil_get gf), gd, rfl, by simp, fun i x y h1 h2 => ?_⟩
      match i, h1, h2 with
      | 0, h1, h2 =>
        cases h1
        cases h2
        exact .inl ⟨rfl, .inl ⟨_, rfl⟩⟩
      | 1, h1, h2 =>
        cases h1
        cases h2
        refine .inr ⟨l, l2, _, _, rfl, rfl, get_app (k24.nil_get gl), get_app g4, rfl, by simpa using isl, fun i x y h1 h2 => ?_⟩
        rw [h1] at h2
        cases h2
        rw [List.getElem?_map] at h1
        cases hx : is[i]? with
        | none =>
          rw [hx] at h1
          cases h1
        | some k =>
          rw [hx] at h1
          cases h1
          exact ⟨rfl, .inr ⟨_, rfl⟩⟩
      | i + 2, h1, h2 => simp at h1
    obtain ⟨s6, q6, k6⟩ := law_isN (by omega) same
    have k5 : Keep [] s s6 := ((k2.trans k24).trans Keep.app).trans k6
    have p17 : S__law_right_17 (P8 ls lc li t z4 z5 z6 z7 [z8, some (.str bent), some (.loc s1.length), some (.bl true), some (.loc l2), z13, z14, none, none]) s4 = .nx (P8 ls lc li t z4 z5 z6 z7 [z8, some (.str bent), some (.loc s1.length), some (.bl true), some (.loc l2), z13, z14, none, none]) s6 := by
      have e1 : newL [.str [116, 111, 108, 100], .loc l2] s4 = .ok (.loc s4.length) (s4 ++ [Nd.lst [.str wTold, .loc l2]]) := ev_lst (by simp [big])
      generalize s4 ++ [Nd.lst [.str wTold, .loc l2]] = s5 at e1 q6
      simp [S__law_right_17, opIsN, opNotN, e1, q6]
    refine ⟨some (.loc s1.length), some (.bl true), some (.loc l2), s6, by simp only [x_sSeq, p13, RS.then_nx, p15, p16, p17], hD.grow k5, k5.nil_get hc⟩
end
section
variable {st0 st s : Sto} {ls lc li n : Nat} {c : List (List Nat)} {is : List Nat}
theorem right_bents {t : List Nat} {z4 z5 z6 z7 : Option W} (D : CodeD c) (hD : Dr st0 ls n s) (hn : n < 80000) (hc : s[lc]? = some (.lst (c.map .str))) (hlc : lc ≠ ls) (ht : TxS 20000 t) :
    ∃ ρ s', S__law_right_18 (P8 ls lc li t z4 z5 z6 z7 N9) s = .nx ρ s' ∧ Dr st0 ls (n + 32) s' := by
  have hit : iRng1 (eC (.int 8)) (P8 ls lc li t z4 z5 z6 z7 N9) s = .ok (rng 0 8, []) s := iRng1_ok rfl (by omega) (by omega)
  have main := for_in (ck := []) (g := .nm 6) (b := sSeq S__law_right_10 (sSeq S__law_right_11 (sSeq S__law_right_12 (sSeq S__law_right_13 (sSeq S__law_right_15 (sSeq S__law_right_16 S__law_right_17))))))
    (fun ys ρ s2 => (∃ z6 z8 z9 z10 z11 z12 z13 z14, ρ = P8 ls lc li t z4 z5 z6 z7 [z8, z9, z10, z11, z12, z13, z14, none, none]) ∧ (∃ m, Dr st0 ls m s2 ∧ m + 4 * ys.length ≤ n + 32) ∧ s2[lc]? = some (.lst (c.map .str)) ∧ ∀ y ∈ ys, ∃ w, y = .v w)
    (fun r => ∃ ρ s', r = .nx ρ s' ∧ Dr st0 ls (n + 32) s') (by
      rintro ys ρ s2 ⟨⟨z6, z8, z9, z10, z11, z12, z13, z14, rfl⟩, ⟨m, k, hm⟩, hc2, hy⟩
      refine ⟨rfl, ?_⟩
      cases ys with
      | nil => exact ⟨_, s2, rfl, k.mono (by simpa using hm)⟩
      | cons y ys =>
        obtain ⟨w, rfl⟩ := hy _ List.mem_cons_self
        rw [List.length_cons] at hm
        obtain ⟨a, w1, s3, t1, k1, h1, hw⟩ := right10 (li := li) (z4 := z4) (z5 := z5) (z6 := some w) (z7 := z7) (z8 := z8) (z9 := z9) (z10 := z10) (z11 := z11) (z12 := z12) (z13 := z13) (z14 := z14) D k (by omega) hc2 hlc (ht.mono (by omega))
        obtain ⟨sg, s4, t2, k2, h2, hsg⟩ := right11 (li := li) (t := t) (a := a) (z4 := z4) (z5 := z5) (z6 := some w) (z7 := z7) (z8 := z8) (z9 := z9) (z10 := z10) (z11 := z11) (z12 := z12) D k1 (by omega) h1 hlc (D.tx hw)
        obtain ⟨bent, s5, t3, k3, h3, hb⟩ := right12 (li := li) (w := w1) (a := a) (z4 := z4) (z5 := z5) (z6 := some w) (z7 := z7) (z9 := z9) (z10 := z10) (z11 := z11) (z12 := z12) D k2 (by omega) h2 hlc ht hsg
        obtain ⟨y10, y11, y12, s6, t4, k4, h4⟩ := right_check (li := li) (t := t) (z4 := z4) (z5 := z5) (z6 := some w) (z7 := z7) (z8 := some (.str sg)) (z10 := z10) (z11 := z11) (z12 := z12) (z13 := some (.int (a : Int))) (z14 := some (.str w1)) D k3 h3 hb
        refine ⟨_, rfl, .inl ⟨P8 ls lc li t z4 z5 (some w) z7 [some (.str sg), some (.str bent), y10, y11, y12, some (.int (a : Int)), some (.str w1), none, none], s6, .inl ?_, ⟨_, _, _, _, _, _, _, _, rfl⟩, ⟨m + 4, k4, by omega⟩, h4, fun y hy' => hy y (List.mem_cons_of_mem _ hy')⟩⟩
        simp only [x_sSeq] at t4
        simp only [x_sSeq, List.set_cons_succ, List.set_cons_zero, t1, RS.then_nx, t2, t3]
        exact t4)
    (intsY 8) (P8 ls lc li t z4 z5 z6 z7 N9) s ⟨⟨_, _, _, _, _, _, _, _, rfl⟩, ⟨n, hD, by simp [intsY]⟩, hc, fun y hy => by
      obtain ⟨i, _, rfl⟩ := List.mem_map.mp hy
      exact ⟨_, rfl⟩⟩
  unfold S__law_right_18 sFor
  rw [hit, R.toS_ok]
  exact main
/-- the first half of the law -/
theorem right_ok (D : CodeD c) (hs : Strm s ls n) (hn : n < 80000) (hc : s[lc]? = some (.lst (c.map .str))) (hlc : lc ≠ ls) (h : IsAt s li is) (hi : ∀ i ∈ is, i < c.length) (hl : is.length ≤ 100) :
    ∃ s', F__law_right [.loc ls, .loc lc, .loc li] s = .ok (.bl true) s' ∧ Dr s ls (n + 32) s' := by
  have hls : ls < s.length := by
    obtain ⟨_, _, _, h1, _⟩ := hs
    exact lt_of_get h1
  have D0 : Dr s ls n s := ⟨hs, .refl, Nat.le_refl _, hls⟩
  obtain ⟨s1, p1, k1⟩ := right_text (ls := ls) (.inl hc) (.inl h) hi (by omega) D.words
  obtain ⟨s2, z4, p2, k2⟩ := right_handed (ls := ls) D (k1.nil_get hc) (k1.nil_get h) hi (by omega)
  obtain ⟨ld, s3, p3, k3, hd⟩ := right_due (ls := ls) (z := z4) D ((k1.trans k2).nil_get hc) ((k1.trans k2).nil_get h)
  have k13 := (k1.trans k2).trans k3
  obtain ⟨z6, z7, s4, p4, D4, hc4⟩ := right_twice (li := li) (z4 := z4) D (D0.grow k13) (k13.nil_get hc) hd hi (by omega)
  have htl := text_len D.words is
  obtain ⟨ρ, s5, p5, D5⟩ := right_bents (li := li) (z4 := z4) (z5 := some (.loc ld)) (z6 := z6) (z7 := z7) D D4 hn hc4 hlc ⟨show (textOf c is).length ≤ 20000 by omega, bits_small (text_bits D is)⟩
  refine ⟨s5, ?_, D5⟩
  have e0 : (List.map some [W.loc ls, W.loc lc, W.loc li] ++ List.replicate (17 - 3) none) = some (.loc ls) :: some (.loc lc) :: some (.loc li) :: none :: none :: N12 := rfl
  unfold F__law_right dfn
  rw [if_pos (show [W.loc ls, W.loc lc, W.loc li].length = 3 from rfl), e0]
  simp only [B__law_right, x_sSeq, p1, RS.then_nx, p2, p3, p4, p5, x_sRet, x_eC, R.toS_ok, RS.fin_rt]
end
/-! ### the law's own is_code -/
section
variable {st0 st s : Sto} {l : Nat} {xs : List W}
def hasPre (c : List (List Nat)) (k : Nat) : Bool := (List.range c.length).any fun m => m != k && isPre (c.getD k []) (c.getD m [])
theorem any_pairs (c : List (List Nat)) : (pairs c).any id = (List.range c.length).any (hasPre c) := by
  unfold pairs hasPre
  rw [List.any_flatMap]
  congr 1
  funext i
  rw [List.any_map]
  induction List.range c.length with
  | nil => rfl
  | cons j js ih =>
    rw [List.filter_cons, List.any_cons, ← ih]
    by_cases h : i = j
    · subst h
      simp
    · have h1 : (i != j) = true := by simpa using h
      have h2 : (j != i) = true := by simpa using Ne.symm h
      rw [if_pos h1, h2, List.any_cons]
      rfl
def fNo : Y → Option W
  | .v w => if wordB w then none else some w
  | _ => none
theorem no_words (xs : List W) : (xs.map Y.v).filterMap fNo = xs.filter fun w => !wordB w := by
  induction xs with
  | nil => rfl
  | cons x xs ih =>
    rw [List.map_cons, List.filterMap_cons, List.filter_cons]
    cases h : wordB x with
    | true => simp [fNo, h, ih]
    | false => simp [fNo, h, ih]
theorem no_empty (xs : List W) : (xs.filter fun w => !wordB w).isEmpty = xs.all wordB := by
  induction xs with
  | nil => rfl
  | cons x xs ih =>
    rw [List.filter_cons]
    cases h : wordB x with
    | true => simpa [h] using ih
    | false => simp [h]
/-- what is not a word here: a small text or None -/
def WordS : W → Prop
  | .str s => TxS 100000 s
  | .non => True
  | _ => False
theorem L_lic2 {z : List Nat} {a1 : Option W} (h : TxS 100000 z) : L__law_is_code_2 [some (.loc l), a1, some (.str z), none, none] s = .ok (.loc s.length) (s ++ [.lst (((z.filter fun c => !isBit c).map fun c => [c]).map W.str)]) := by
  have hbig : big = 16777216 := rfl
  have hl := h.len
  obtain ⟨st', h1, h2⟩ := elc_gr (own := [4]) (it := iStr (eV 2)) (g := .nm 4) (t := bB (e2 opNotIn (eV 4) (eC (.str [48, 49])))) (e := eV 4) (ρ0 := [some (.loc l), a1, some (.str z), none, none]) (st0 := s) (st1 := s) (ck := []) (ys := z.map fun c => .v (.str [c])) (by simp [iStr]) (· = s) fBad (fun _ _ => rfl) rfl (by simp; omega) (by
    intro y hy s0 e0
    rw [e0]
    obtain ⟨c, hc, rfl⟩ := List.mem_map.mp hy
    refine ⟨_, rfl, ?_⟩
    cases h : isBit c with
    | true => exact .inr ⟨s, by simp [wipeL, notIn01, h], rfl, by simp [fBad, h]⟩
    | false => exact .inl ⟨s, .str [c], s, by simp [wipeL, notIn01, h], by simp [wipeL], rfl, by simp [fBad, h]⟩)
  subst h2
  rw [bad_list] at h1
  exact h1
theorem L_lic3 (h : s[l]? = some (.lst xs)) (hw : ∀ x ∈ xs, WordS x) (hl : xs.length ≤ 1000) : ∃ s', L__law_is_code_3 [some (.loc l), none, none, none, none] s = .ok (.loc s'.length) (s' ++ [.lst (xs.filter fun w => !wordB w)]) ∧ Keep [] s s' := by
  have hbig : big = 16777216 := rfl
  obtain ⟨ck, hit, hck⟩ := Sq.seq (.inl h) (a := eV 0) (ρ := [some (.loc l), none, none, none, none]) rfl
  obtain ⟨st', h1, h2⟩ := elc_gr (own := [2]) (g := .nm 2) (t := bOr (bNot (bT (eIsi (eV 2) [.str]))) (bOr (bB (e2 opGt (eN cLen (aCons (eV 2) aNil)) (eC (.int 60)))) (bB (e2 opNe L__law_is_code_2 (eLst aNil))))) (e := eV 2) hit (Keep [] s) fNo hck .refl (by simpa using (show xs.length ≤ big by omega)) (by
    intro y hy s1 k1
    obtain ⟨x, hx, rfl⟩ := List.mem_map.mp hy
    refine ⟨_, rfl, ?_⟩
    have hxw := hw x hx
    cases x with
    | str z =>
      have hz : TxS 100000 z := hxw
      have hzl := hz.len
      have e1 : isAny s1 [Ty.str] (.str z) = some true := rfl
      have hcl : cLen [.str z] s1 = .ok (.int z.length) s1 := if_pos (by omega)
      by_cases h60 : z.length ≤ 60
      · have hgt : opGt (.int (z.length : Int)) (.int 60) s1 = .ok (.bl false) s1 := by
          unfold opGt cmpI
          dsimp only
          rw [decide_eq_false (by omega : ¬ (60 : Int) < (z.length : Int))]
        have q1 := L_lic2 (s := s1) (l := l) (a1 := none) hz
        have g1 : ((s1 ++ [Nd.lst (((z.filter fun c => !isBit c).map fun c => [c]).map W.str)]) ++ [Nd.lst []])[s1.length]? = some (.lst (((z.filter fun c => !isBit c).map fun c => [c]).map W.str)) := get_app get_new
        have q2 := weq_nil (b := (s1 ++ [Nd.lst (((z.filter fun c => !isBit c).map fun c => [c]).map W.str)]).length) g1 get_new (data_strs _ 59 _ (by
          intro x hx
          obtain ⟨c, hc, rfl⟩ := List.mem_map.mp hx
          have := List.all_eq_true.mp hz.small c (List.mem_filter.mp hc).1
          simpa using this))
        rw [bad_empty] at q2
        have k2 : Keep [] s ((s1 ++ [Nd.lst (((z.filter fun c => !isBit c).map fun c => [c]).map W.str)]) ++ [Nd.lst []]) := (k1.trans Keep.app).trans Keep.app
        generalize s1 ++ [Nd.lst (((z.filter fun c => !isBit c).map fun c => [c]).map W.str)] = s2 at q1 q2 k2
        have hwb : wordB (.str z) = bitsB z := by simp [wordB, h60]
        have tst : (bOr (bNot (bT (eIsi (eV 2) [.str]))) (bOr (bB (e2 opGt (eN cLen (aCons (eV 2) aNil)) (eC (.int 60)))) (bB (e2 opNe L__law_is_code_2 (eLst aNil))))) [some (.loc l), none, some (.str z), none, none] s1 = .ok (!bitsB z) (s2 ++ [.lst []]) := by
          generalize ((z.length : Nat) : Int) = zl at hcl hgt
          simp [e1, hcl, hgt, q1, newL, big, opNe, q2]
        cases hbit : bitsB z with
        | true =>
          rw [hbit] at tst
          exact .inr ⟨_, tst, k2, by simp [fNo, hwb, hbit]⟩
        | false =>
          rw [hbit] at tst
          exact .inl ⟨_, .str z, _, tst, rfl, k2, by simp [fNo, hwb, hbit]⟩
      · have hgt : opGt (.int (z.length : Int)) (.int 60) s1 = .ok (.bl true) s1 := by
          unfold opGt cmpI
          dsimp only
          rw [decide_eq_true (by omega : (60 : Int) < (z.length : Int))]
        have hwb : wordB (.str z) = false := by simp [wordB]; omega
        refine .inl ⟨s1, .str z, s1, ?_, rfl, k1, by simp [fNo, hwb]⟩
        generalize ((z.length : Nat) : Int) = zl at hcl hgt
        simp [wipeL, e1, hcl, hgt]
    | non =>
      have e1 : isAny s1 [Ty.str] .non = some false := rfl
      exact .inl ⟨s1, .non, s1, by simp [wipeL, e1], rfl, k1, by simp [fNo, wordB]⟩
    | _ => exact hxw.elim)
  rw [no_words] at h1
  exact ⟨st', h1, h2⟩
def fPre (c : List (List Nat)) (k : Nat) : Y → Option W
  | .v (.int m) => if (m.toNat != k && isPre (c.getD k []) (c.getD m.toNat [])) then some (.int m) else none
  | _ => none
theorem pre_list (c : List (List Nat)) (k : Nat) : (intsY c.length).filterMap (fPre c k) = ((List.range c.length).filter fun m => m != k && isPre (c.getD k []) (c.getD m [])).map fun m : Nat => W.int m := by
  unfold intsY
  rw [List.filterMap_map]
  induction List.range c.length with
  | nil => rfl
  | cons m ms ih =>
    rw [List.filterMap_cons, List.filter_cons]
    cases h : (m != k && isPre (c.getD k []) (c.getD m [])) with
    | true =>
      rw [if_pos rfl, List.map_cons, ← ih]
      simp only [Function.comp, fPre, Int.toNat_natCast, h, if_true]
    | false =>
      rw [if_neg (by decide), ← ih]
      simp only [Function.comp, fPre, Int.toNat_natCast, h, Bool.false_eq_true, if_false]
theorem pre_empty (c : List (List Nat)) (k : Nat) : (((List.range c.length).filter fun m => m != k && isPre (c.getD k []) (c.getD m [])).map fun m : Nat => W.int m).isEmpty = !hasPre c k := by
  unfold hasPre
  induction List.range c.length with
  | nil => rfl
  | cons m ms ih =>
    rw [List.filter_cons, List.any_cons]
    cases h : (m != k && isPre (c.getD k []) (c.getD m [])) with
    | true => simp
    | false => simpa using ih
theorem L_lic5 {c : List (List Nat)} {k : Nat} (h : s[l]? = some (.lst (c.map .str))) (hc : ∀ w ∈ c, w.length ≤ 60) (hl : c.length ≤ 40) (hk : k < c.length) :
    L__law_is_code_5 [some (.loc l), some (.int k), some (.str (c.getD k [])), none, none] s = .ok (.loc s.length) (s ++ [.lst (((List.range c.length).filter fun m => m != k && isPre (c.getD k []) (c.getD m [])).map fun m : Nat => W.int m)]) := by
  have hbig : big = 16777216 := rfl
  have hlen : cLen [.loc l] s = .ok (.int c.length) s := by
    have := Sq.len (.inl h)
    rwa [List.length_map] at this
  have hit : iRng1 (eN cLen (aCons (eV 0) aNil)) [some (.loc l), some (.int k), some (.str (c.getD k [])), none, none] s = .ok (rng 0 (c.length : Int), []) s := iRng1_ok (by
    generalize ((c.length : Nat) : Int) = z at hlen
    simp [hlen]) (by omega) (by omega)
  rw [rng_ints] at hit
  have hwl := hc _ (word_in hk)
  have hcw : cLen [.str (c.getD k [])] s = .ok (.int (c.getD k []).length) s := if_pos (by omega)
  obtain ⟨st', h1, h2⟩ := elc_gr (own := [3]) (g := .nm 3) (t := bAnd (bB (e2 opNe (eV 3) (eV 1))) (bB (e2 opEq (eSl (e2 opIx (eV 0) (eV 3)) oN (oS (eN cLen (aCons (eV 2) aNil)))) (eV 2)))) (e := eV 3) hit (· = s) (fPre c k) (fun _ _ => rfl) rfl (by simp [intsY]; omega) (by
    intro y hy s0 e0
    rw [e0]
    obtain ⟨m, hm, rfl⟩ := List.mem_map.mp hy
    have hm' : m < c.length := List.mem_range.mp hm
    refine ⟨_, rfl, ?_⟩
    have hix := item_ix h hm'
    have hsl : opSl (.str (c.getD m [])) none (some ((c.getD k []).length : Int)) s = .ok (.str ((c.getD m []).take (c.getD k []).length)) s := by
      have := hc _ (word_in hm')
      unfold opSl
      dsimp only
      rw [if_pos (by omega), cut_to]
    have hne : opNe (.int (m : Int)) (.int (k : Int)) s = .ok (.bl (m != k)) s := by
      by_cases e : m = k
      · subst e
        simp [opNe, weq, scalW]
      · have : (m : Int) ≠ k := by omega
        simp [opNe, weq, scalW, this, e]
    have heq : opEq (.str ((c.getD m []).take (c.getD k []).length)) (.str (c.getD k [])) s = .ok (.bl (isPre (c.getD k []) (c.getD m []))) s := by
      unfold isPre
      by_cases e : (c.getD m []).take (c.getD k []).length = c.getD k []
      · simp only [opEq, weq, scalW, if_true, e, decide_true, beq_self_eq_true]
      · have e2 : ¬ W.str ((c.getD m []).take (c.getD k []).length) = W.str (c.getD k []) := fun z => e (W.str.inj z)
        simp only [opEq, weq, scalW, if_true, decide_eq_false e2, beq_eq_false_iff_ne.mpr e]
    have tst : (bAnd (bB (e2 opNe (eV 3) (eV 1))) (bB (e2 opEq (eSl (e2 opIx (eV 0) (eV 3)) oN (oS (eN cLen (aCons (eV 2) aNil)))) (eV 2)))) [some (.loc l), some (.int k), some (.str (c.getD k [])), some (.int m), none] s = .ok (m != k && isPre (c.getD k []) (c.getD m [])) s := by
      generalize ((c.getD k []).length : Int) = z at hcw hsl
      cases hmk : (m != k) with
      | false =>
        rw [hmk] at hne
        simp only [x_bAnd, x_bB, x_e2, x_eV, List.getElem?_cons_zero, List.getElem?_cons_succ, R.bind_ok, hne, Bool.false_eq_true, if_false, Bool.false_and]
      | true =>
        rw [hmk] at hne
        simp only [x_bAnd, x_bB, x_e2, x_eSl, x_oN, x_oS, x_eN, x_aCons, x_aNil, x_eV, List.getElem?_cons_zero, List.getElem?_cons_succ, R.bind_ok, hne, if_true, Bool.true_and, hix, hcw, hsl, heq]
    cases hb : (m != k && isPre (c.getD k []) (c.getD m [])) with
    | true =>
      rw [hb] at tst
      exact .inl ⟨s, .int m, s, tst, rfl, rfl, by simp only [fPre, Int.toNat_natCast, hb, if_true]⟩
    | false =>
      rw [hb] at tst
      exact .inr ⟨s, tst, rfl, by simp only [fPre, Int.toNat_natCast, hb, Bool.false_eq_true, if_false]⟩)
  subst h2
  rw [pre_list] at h1
  exact h1
end
section
variable {st0 st s : Sto} {l : Nat} {xs : List W}
theorem lic_for {c : List (List Nat)} (h : s[l]? = some (.lst (c.map .str))) (hc : ∀ w ∈ c, w.length ≤ 60) (hl : c.length ≤ 40) :
    ∃ s', Keep [] s s' ∧ ((List.range c.length).any (hasPre c) = true ∧ S__law_is_code_7 [some (.loc l), none, none, none, none] s = .rt (.bl false) s' ∨ (List.range c.length).any (hasPre c) = false ∧ ∃ ρ, S__law_is_code_7 [some (.loc l), none, none, none, none] s = .nx ρ s') := by
  have hbig : big = 16777216 := rfl
  have hit := enum_it h (a := eV 0) (ρ := [some (.loc l), none, none, none, none]) rfl
  have main := for_in (ck := [(l, .lst (c.map .str))]) (g := .tp [1, 2]) (b := S__law_is_code_6) (fun ys ρ s2 => ∃ i, ys = (enumY c).drop i ∧ i ≤ c.length ∧ (∀ k, k < i → hasPre c k = false) ∧ (∃ a b, ρ = [some (.loc l), a, b, none, none]) ∧ Keep [] s s2)
    (fun r => ∃ s', Keep [] s s' ∧ ((List.range c.length).any (hasPre c) = true ∧ r = .rt (.bl false) s' ∨ (List.range c.length).any (hasPre c) = false ∧ ∃ ρ, r = .nx ρ s')) (by
      rintro ys ρ s2 ⟨i, rfl, hi, hno, ⟨a, b, rfl⟩, k⟩
      refine ⟨ck1 (k.nil_get h), ?_⟩
      have hlenY : (enumY c).length = c.length := by simp [enumY]
      by_cases hlt : i < c.length
      · have e1 : (enumY c).drop i = .t [.int (i : Int), .str (c.getD i [])] :: (enumY c).drop (i + 1) := by
          rw [List.drop_eq_getElem_cons (by rw [hlenY]; exact hlt)]
          congr 1
          have : (enumY c)[i]? = some (.t [.int (i : Int), .str (c.getD i [])]) := by
            rw [enum_eq, List.getElem?_map, List.getElem?_zipIdx, List.getElem?_eq_getElem hlt]
            simp [List.getD, hlt]
          rw [List.getElem?_eq_getElem (by rw [hlenY]; exact hlt)] at this
          exact Option.some.inj this
        rw [e1]
        refine ⟨[some (.loc l), some (.int (i : Int)), some (.str (c.getD i [])), none, none], rfl, ?_⟩
        have q1 := L_lic5 (k.nil_get h) hc hl hlt
        have g1 : ((s2 ++ [Nd.lst (((List.range c.length).filter fun m => m != i && isPre (c.getD i []) (c.getD m [])).map fun m : Nat => W.int m)]) ++ [Nd.lst []])[s2.length]? = some (.lst (((List.range c.length).filter fun m => m != i && isPre (c.getD i []) (c.getD m [])).map fun m : Nat => W.int m)) := get_app get_new
        have q2 := weq_nil (b := (s2 ++ [Nd.lst (((List.range c.length).filter fun m => m != i && isPre (c.getD i []) (c.getD m [])).map fun m : Nat => W.int m)]).length) g1 get_new (data_ints _ 59 _)
        rw [pre_empty] at q2
        have k2 : Keep [] s ((s2 ++ [Nd.lst (((List.range c.length).filter fun m => m != i && isPre (c.getD i []) (c.getD m [])).map fun m : Nat => W.int m)]) ++ [Nd.lst []]) := (k.trans Keep.app).trans Keep.app
        generalize s2 ++ [Nd.lst (((List.range c.length).filter fun m => m != i && isPre (c.getD i []) (c.getD m [])).map fun m : Nat => W.int m)] = s3 at q1 q2 k2
        have hne : opNe (.loc s2.length) (.loc s3.length) (s3 ++ [.lst []]) = .ok (.bl (hasPre c i)) (s3 ++ [.lst []]) := by
          unfold opNe
          rw [q2]
          simp
        cases hp : hasPre c i with
        | true =>
          rw [hp] at hne
          refine .inr (.inl ⟨.bl false, s3 ++ [.lst []], ?_, s3 ++ [.lst []], k2, .inl ⟨?_, rfl⟩⟩)
          · generalize ((i : Nat) : Int) = z at q1
            simp [S__law_is_code_6, q1, newL, big, hne, -List.getD_eq_getElem?_getD]
          · rw [List.any_eq_true]
            exact ⟨i, List.mem_range.mpr hlt, hp⟩
        | false =>
          rw [hp] at hne
          refine .inl ⟨[some (.loc l), some (.int (i : Int)), some (.str (c.getD i [])), none, none], s3 ++ [.lst []], .inl ?_, i + 1, rfl, hlt, fun k hk => ?_, ⟨_, _, rfl⟩, k2⟩
          · generalize ((i : Nat) : Int) = z at q1 ⊢
            simp [S__law_is_code_6, q1, newL, big, hne, -List.getD_eq_getElem?_getD]
          · by_cases e : k = i
            · rw [e]
              exact hp
            · exact hno k (by omega)
      · have e1 : (enumY c).drop i = [] := List.drop_eq_nil_of_le (by rw [hlenY]; omega)
        rw [e1]
        refine ⟨s2, k, .inr ⟨?_, _, rfl⟩⟩
        rw [List.any_eq_false]
        intro k hk
        have := hno k (by have := List.mem_range.mp hk; omega)
        simp [this])
    (enumY c) [some (.loc l), none, none, none, none] s ⟨0, rfl, Nat.zero_le _, fun k hk => by omega, ⟨_, _, rfl⟩, .refl⟩
  unfold S__law_is_code_7 sFor
  rw [hit, R.toS_ok]
  exact main
theorem data_words {s : Sto} : ∀ {xs : List W}, (∀ x ∈ xs, WordS x) → ∃ ds, mapO (dataOf s 59) xs = some ds := fun {xs} h => by
  obtain ⟨ds, h1, _⟩ := mapO_some (f := dataOf s 59) (p := fun _ => True) (xs := xs) fun x hx => by
    have := h x hx
    cases x with
    | str z => exact ⟨_, flat_str (TxS.small this) s 59, trivial⟩
    | non => exact ⟨.non, rfl, trivial⟩
    | _ => exact this.elim
  exact ⟨ds, h1⟩
theorem lic_ok (h : s[l]? = some (.lst xs)) (hw : ∀ x ∈ xs, WordS x) (hl : xs.length ≤ 1000) : ∃ s', F__law_is_code [.loc l] s = .ok (.bl (codeB xs)) s' ∧ Keep [] s s' := by
  have hbig : big = 16777216 := rfl
  have ha : isAny s [.list, .tuple] (.loc l) = some true := Sq.isAny (.inl h)
  have hn : cLen [.loc l] s = .ok (.int xs.length) s := Sq.len (.inl h)
  by_cases h1 : 1 ≤ xs.length ∧ xs.length ≤ 40
  · have p1 : S__law_is_code_1 [some (.loc l), none, none, none, none] s = .nx [some (.loc l), none, none, none, none] s := by
      have c1 : opLe (.int 1) (.int (xs.length : Int)) s = .ok (.bl true) s := by
        unfold opLe cmpI
        dsimp only
        rw [decide_eq_true (by omega : (1 : Int) ≤ (xs.length : Int))]
      have c2 : opLe (.int (xs.length : Int)) (.int 40) s = .ok (.bl true) s := by
        unfold opLe cmpI
        dsimp only
        rw [decide_eq_true (by omega : (xs.length : Int) ≤ 40)]
      generalize ((xs.length : Nat) : Int) = z at hn c1 c2
      simp [S__law_is_code_1, ha, hn, c1, c2]
    obtain ⟨s1, q1, k1⟩ := L_lic3 h hw hl
    have g1 : ((s1 ++ [Nd.lst (xs.filter fun w => !wordB w)]) ++ [Nd.lst []])[s1.length]? = some (.lst (xs.filter fun w => !wordB w)) := get_app get_new
    obtain ⟨ds, hds⟩ := data_words (s := (s1 ++ [Nd.lst (xs.filter fun w => !wordB w)]) ++ [Nd.lst []]) (xs := xs.filter fun w => !wordB w) fun x hx => hw x (List.mem_filter.mp hx).1
    have q2 := weq_nil (b := (s1 ++ [Nd.lst (xs.filter fun w => !wordB w)]).length) g1 get_new hds
    rw [no_empty] at q2
    have k2 : Keep [] s ((s1 ++ [Nd.lst (xs.filter fun w => !wordB w)]) ++ [Nd.lst []]) := (k1.trans Keep.app).trans Keep.app
    clear hds g1
    generalize s1 ++ [Nd.lst (xs.filter fun w => !wordB w)] = s2 at q1 q2 k2
    have hne : opNe (.loc s1.length) (.loc s2.length) (s2 ++ [.lst []]) = .ok (.bl (!xs.all wordB)) (s2 ++ [.lst []]) := by
      unfold opNe
      rw [q2]
    cases hb : xs.all wordB with
    | false =>
      rw [hb] at hne
      refine ⟨s2 ++ [.lst []], ?_, k2⟩
      simp [F__law_is_code, dfn, B__law_is_code, p1, S__law_is_code_4, q1, newL, big, hne, codeB, hb]
    | true =>
      rw [hb] at hne
      have p4 : S__law_is_code_4 [some (.loc l), none, none, none, none] s = .nx [some (.loc l), none, none, none, none] (s2 ++ [.lst []]) := by
        simp [S__law_is_code_4, q1, newL, big, hne]
      obtain ⟨c, rfl⟩ : ∃ c : List (List Nat), xs = c.map .str := by
        refine ⟨xs.map strOf, ?_⟩
        rw [List.map_map]
        conv => lhs; rw [← List.map_id xs]
        refine List.map_congr_left fun x hx => ?_
        have := List.all_eq_true.mp hb x hx
        cases x <;> simp [wordB, strOf] at this ⊢
      have hcw : ∀ w ∈ c, w.length ≤ 60 := fun w hw' => by
        have := List.all_eq_true.mp hb (.str w) (List.mem_map.mpr ⟨w, hw', rfl⟩)
        simp only [wordB, Bool.and_eq_true, decide_eq_true_eq] at this
        exact this.2
      have hcb : codeB (c.map .str) = !((List.range c.length).any (hasPre c)) := by
        unfold codeB
        rw [decide_eq_true h1, hb, List.map_map, show (strOf ∘ W.str) = id from rfl, List.map_id, any_pairs]
        rfl
      obtain ⟨s5, k5, h5 | ⟨h5, ρ, h6⟩⟩ := lic_for (k2.nil_get h) hcw (by simpa using h1.2)
      · refine ⟨s5, ?_, k2.trans k5⟩
        rw [hcb, h5.1]
        simp [F__law_is_code, dfn, B__law_is_code, p1, p4, h5.2]
      · refine ⟨s5, ?_, k2.trans k5⟩
        rw [hcb, h5]
        simp [F__law_is_code, dfn, B__law_is_code, p1, p4, h6]
  · refine ⟨s, ?_, .refl⟩
    have hcb : codeB xs = false := by simp [codeB, h1]
    rw [hcb]
    by_cases h2 : 1 ≤ xs.length
    · have c1 : opLe (.int 1) (.int (xs.length : Int)) s = .ok (.bl true) s := by
        unfold opLe cmpI
        dsimp only
        rw [decide_eq_true (by omega : (1 : Int) ≤ (xs.length : Int))]
      have c2 : opLe (.int (xs.length : Int)) (.int 40) s = .ok (.bl false) s := by
        unfold opLe cmpI
        dsimp only
        rw [decide_eq_false (by omega : ¬ (xs.length : Int) ≤ 40)]
      generalize ((xs.length : Nat) : Int) = z at hn c1 c2
      simp [F__law_is_code, dfn, B__law_is_code, S__law_is_code_1, ha, hn, c1, c2]
    · have c1 : opLe (.int 1) (.int (xs.length : Int)) s = .ok (.bl false) s := by
        unfold opLe cmpI
        dsimp only
        rw [decide_eq_false (by omega : ¬ (1 : Int) ≤ (xs.length : Int))]
      generalize ((xs.length : Nat) : Int) = z at hn c1
      simp [F__law_is_code, dfn, B__law_is_code, S__law_is_code_1, ha, hn, c1]
theorem lic_no {w : W} (h1 : isA s .list w = some false) (h2 : isA s .tuple w = some false) : F__law_is_code [w] s = .ok (.bl false) s := by
  have e1 : isAny s [Ty.list, Ty.tuple] w = some false := by simp [isAny, h1, h2]
  simp [F__law_is_code, dfn, B__law_is_code, S__law_is_code_1, e1]
end
/-! ### the law: refusals -/
section
variable {st0 st s : Sto} {ls lc li n : Nat} {c : List (List Nat)} {is : List Nat}
/-- so it is in each store that keeps these nodes -/
def Stab (ls : Nat) (s : Sto) (P : Sto → Prop) : Prop := ∀ s', Keep [ls] s s' → P s'
theorem Stab.keep {P : Sto → Prop} {s s' : Sto} (h : Stab ls s P) (k : Keep [ls] s s') : Stab ls s' P := fun s2 k2 => h s2 (k.trans k2)
theorem Stab.now {P : Sto → Prop} (h : Stab ls s P) : P s := h s .refl
def Very (w : W) (s : Sto) : Prop := F__law_very [w, w] s = .ok (.bl true) s
/-- no code -/
def BadC (w : W) (s : Sto) : Prop := Very w s ∧ (∃ s', F_is_code [w] s = .ok (.bl false) s' ∧ Keep [] s s') ∧ ∃ s', F__law_is_code [w] s = .ok (.bl false) s' ∧ Keep [] s s'
/-- no text of bits -/
def BadT (w : W) (s : Sto) : Prop := Very w s ∧ ∃ s', F_is_bits [w] s = .ok (.bl false) s' ∧ Keep [] s s'
/-- no items of n words -/
def BadI (n : Nat) (w : W) (s : Sto) : Prop := Very w s ∧ ((isA s .list w = some false ∧ isA s .tuple w = some false) ∨ ∃ l xs, w = .loc l ∧ s[l]? = some (.lst xs) ∧ (∀ x ∈ xs, ItemW s x) ∧ xs.length ≤ 1000 ∧ xs.all (itemB n) = false)
theorem py_flat {s : Sto} {n : Nat} : (∀ b, pyOf s n (.bl b) = some (.bool b)) ∧ (∀ i, pyOf s n (.int i) = some (.int i)) ∧ (∀ z, pyOf s n (.str z) = some (.str (S z))) ∧ pyOf s n .non = some .none := by
  cases n <;> exact ⟨fun _ => rfl, fun _ => rfl, fun _ => rfl, rfl⟩
theorem very_non : Very .non s := very_flat rfl rfl (flat_repr (d := .none) (py_flat (n := 12)).2.2.2 small_non)
theorem very_bl (b : Bool) : Very (.bl b) s := very_flat rfl rfl (flat_repr ((py_flat (n := 12)).1 b) (small_bool b))
theorem very_int {i : Int} (h : i.natAbs < 1000000) : Very (.int i) s := very_flat rfl rfl (flat_repr ((py_flat (n := 12)).2.1 i) (small_int h))
theorem very_str {z : List Nat} (h : TxS 1000 z) : Very (.str z) s := very_flat rfl rfl (flat_repr ((py_flat (n := 12)).2.2.1 z) (small_str h.len h.small))
/-- flat things that are shown small -/
def FlatS : W → Prop
  | .non => True
  | .bl _ => True
  | .int i => i.natAbs < 1000000
  | .str z => TxS 1000 z
  | _ => False
theorem FlatS.py {w : W} (h : FlatS w) (s : Sto) (n : Nat) : ∃ d, pyOf s n w = some d ∧ SmallD d := by
  cases w with
  | non => exact ⟨_, py_flat.2.2.2, small_non⟩
  | bl b => exact ⟨_, py_flat.1 b, small_bool b⟩
  | int i => exact ⟨_, py_flat.2.1 i, small_int h⟩
  | str z => exact ⟨_, py_flat.2.2.1 z, small_str (TxS.len h) (TxS.small h)⟩
  | _ => exact h.elim
theorem very_lstF {l : Nat} {xs : List W} (h : s[l]? = some (.lst xs)) (hx : ∀ x ∈ xs, FlatS x) (hl : xs.length ≤ 150) : Very (.loc l) s := by
  refine very_list h (by omega) (list_repr (set_get h) (fun x hx' => ?_) (by simp; omega))
  rcases List.mem_append.mp hx' with h1 | h1
  · exact (hx x h1).py _ _
  · have : x = .str [109, 111, 114, 101] := by simpa using h1
    rw [this]
    exact FlatS.py (w := .str [109, 111, 114, 101]) ⟨by decide, by decide⟩ _ _
theorem very_lstL {l k : Nat} (h : s[l]? = some (.lst [.loc k])) (hk : s[k]? = some (.lst [.int 0])) (ne : l ≠ k) : Very (.loc l) s := by
  refine very_list h (by simp) (list_repr (set_get h) (fun x hx' => ?_) (by simp))
  have hk2 : (s.set l (.lst ([W.loc k] ++ [.str [109, 111, 114, 101]])))[k]? = some (.lst [.int 0]) := set_ne hk ne
  simp only [List.cons_append, List.nil_append, List.mem_cons, List.not_mem_nil, or_false] at hx'
  rcases hx' with rfl | rfl
  · refine ⟨.list [.int 0], ?_, by decide +kernel, by decide +kernel⟩
    show pyOf _ (10 + 1) (.loc k) = _
    unfold pyOf
    simp only [hk2]
    rfl
  · exact FlatS.py (w := .str [109, 111, 114, 101]) ⟨by decide, by decide⟩ _ _
theorem very_tup {l : Nat} (h : s[l]? = some (.tup [.str [48]])) : Very (.loc l) s := by
  refine very_flat (by simp [isA, h]) (by simp [isA, h]) (flat_repr (d := .tuple [.str (S [48])]) ?_ ⟨by decide +kernel, by decide +kernel⟩)
  show pyOf _ (11 + 1) (.loc l) = _
  unfold pyOf
  simp only [h]
  rfl
end
section
variable {st0 st s : Sto} {ls lc li n : Nat} {c : List (List Nat)} {is : List Nat}
theorem stab_dic {k : Nat} (h : s[k]? = some (.dic [])) (hk : k ≠ ls) : Stab ls s fun s => Very (.loc k) s ∧ isA s .list (.loc k) = some false ∧ isA s .tuple (.loc k) = some false ∧ isA s .str (.loc k) = some false := fun s' k' => by
  have h' := k'.get h (by simpa using hk)
  exact ⟨very_dict h', by simp [isA, h'], by simp [isA, h'], by simp [isA, h']⟩
theorem bad_items {k m : Nat} {xs : List W} (h : s[k]? = some (.lst xs)) (hk : k ≠ ls) (hx : ∀ x ∈ xs, FlatS x) (hi : ∀ x ∈ xs, ∀ s, ItemW s x) (hl : xs.length ≤ 150) (hb : xs.all (itemB m) = false) : Stab ls s (BadI m (.loc k)) := fun s' k' => by
  have h' := k'.get h (by simpa using hk)
  exact ⟨very_lstF h' hx hl, .inr ⟨k, xs, rfl, h', fun x hx' => hi x hx' s', by omega, hb⟩⟩
theorem bad_code {k : Nat} {xs : List W} (h : s[k]? = some (.lst xs)) (hk : k ≠ ls) (hx : ∀ x ∈ xs, FlatS x) (hw : ∀ x ∈ xs, WordW x ∧ WordS x) (hl : xs.length ≤ 150) (hb : codeB xs = false) : Stab ls s (BadC (.loc k)) := fun s' k' => by
  have h' := k'.get h (by simpa using hk)
  have r1 := is_code_ok (.inl h') (fun x hx' => (hw x hx').1) (by omega)
  have r2 := lic_ok h' (fun x hx' => (hw x hx').2) (by omega)
  rw [hb] at r1 r2
  exact ⟨very_lstF h' hx hl, r1, r2⟩
theorem noCode {w : W} {s : Sto} (hv : Very w s) (h1 : isA s .list w = some false) (h2 : isA s .tuple w = some false) : BadC w s := ⟨hv, ⟨s, is_code_no h1 h2, .refl⟩, ⟨s, lic_no h1 h2, .refl⟩⟩
/-- [..] + [x] -/
theorem plus_one {xs : List W} {x : W} (h : s[li]? = some (.lst xs)) (hl : xs.length ≤ 1000) {ρ : Mi.Loc} {a e : ES} (ha : a ρ s = .ok (.loc li) s) (he : e ρ s = .ok x s) : ∃ k s', e2 opAdd a (eLst (aCons e aNil)) ρ s = .ok (.loc k) s' ∧ Keep [] s s' ∧ s.length ≤ k ∧ s'[k]? = some (.lst (xs ++ [x])) := by
  have hbig : big = 16777216 := rfl
  have g1 : (s ++ [Nd.lst [x]])[li]? = some (.lst xs) := get_app h
  have g2 : (s ++ [Nd.lst [x]])[s.length]? = some (.lst [x]) := get_new
  have q : opAdd (.loc li) (.loc s.length) (s ++ [Nd.lst [x]]) = .ok (.loc (s ++ [Nd.lst [x]]).length) ((s ++ [Nd.lst [x]]) ++ [.lst (xs ++ [x])]) := by
    unfold opAdd
    dsimp only
    rw [g1, g2]
    dsimp only
    rw [if_pos (by simp; omega)]
    rfl
  refine ⟨(s ++ [Nd.lst [x]]).length, (s ++ [Nd.lst [x]]) ++ [.lst (xs ++ [x])], ?_, Keep.app.trans Keep.app, by simp, get_new⟩
  rw [x_e2, ha, R.bind_ok, x_eLst, x_aCons, he, R.bind_ok, x_aNil, R.bind_ok, R.bind_ok, ev_lst (show [x].length ≤ big from by simp [big]), R.bind_ok]
  exact q
theorem pick {P : W → Sto → Prop} {k m d : Nat} {L : List W} (g : s[k]? = some (.lst L)) (hd : d < m) (hm : L.length = m) (hL : ∀ x ∈ L, Stab ls s (P x)) : ∃ w, opIx (.loc k) (.int (d : Int)) s = .ok w s ∧ Stab ls s (P w) := by
  have hd' : d < L.length := by omega
  exact ⟨L[d], Sq.ix (.inl g) (List.getElem?_eq_getElem hd'), hL _ (List.getElem_mem hd')⟩
theorem nil_ok {ρ : Mi.Loc} {s : Sto} : aNil ρ s = .ok [] s := rfl
theorem cons_ok {a : ES} {r : AS} {ρ : Mi.Loc} {s s1 s2 : Sto} {x : W} {xs : List W} (h : a ρ s = .ok x s1) (k : r ρ s1 = .ok xs s2) : aCons a r ρ s = .ok (x :: xs) s2 := by
  rw [x_aCons, h, R.bind_ok, k, R.bind_ok]
theorem lst_ok {r : AS} {ρ : Mi.Loc} {s s1 s2 : Sto} {w : W} {xs : List W} (h : r ρ s = .ok xs s1) (k : newL xs s1 = .ok w s2) : eLst r ρ s = .ok w s2 := by
  rw [x_eLst, h, R.bind_ok, k]
abbrev E13 (ls lc li : Nat) (a b d e : Option W) : Mi.Loc := [some (.loc ls), some (.loc lc), some (.loc li), a, b, d, e, none, none, none, none, none, none]
theorem refused1 (hD : Dr st0 ls n s) (hn : n < 90000) (hc : s[lc]? = some (.lst (c.map .str))) (h : IsAt s li is) (hcl : c.length ≤ 40) (hi : ∀ i ∈ is, i < c.length) (hl : is.length ≤ 100) (hst : st0.length ≤ s.length) :
    ∃ odd s', S__law_refused_right_1 (E13 ls lc li none none none none) s = .nx (E13 ls lc li (some odd) none none none) s' ∧ Dr st0 ls (n + 1) s' ∧ Keep [ls] s s' ∧ Stab ls s' (BadI c.length odd) := by
  have hbig : big = 16777216 := rfl
  have old := hD.old
  have hlen : ∀ {s' : Sto}, Keep [] s s' → cLen [.loc lc] s' = .ok (.int c.length) s' := fun {s'} k => by
    have := Sq.len (.inl (k.nil_get hc))
    rwa [List.length_map] at this
  -- the things
  have g3 : (s ++ [Nd.dic []])[s.length]? = some (.dic []) := get_new
  have k3 : Keep [] s (s ++ [Nd.dic []]) := Keep.app
  generalize hs3 : s ++ [Nd.dic []] = s3 at g3 k3
  have l3 := k3.len
  have isl : (is.map fun i : Nat => W.int i).length ≤ 1000 := by simp; omega
  obtain ⟨p5, s5, q5, k5, n5, g5⟩ := plus_one (k3.nil_get h) isl (ρ := E13 ls lc li none none none none) (a := eV 2) (e := eN cLen (aCons (eV 1) aNil)) (x := .int c.length) rfl (by
    have := hlen k3
    generalize ((c.length : Nat) : Int) = z at this
    simp [this])
  have k35 := k3.trans k5
  obtain ⟨p6, s6, q6, k6, n6, g6⟩ := plus_one (k35.nil_get h) isl (ρ := E13 ls lc li none none none none) (a := eV 2) (e := e1 opNeg (eC (.int 1))) (x := .int (-1)) rfl rfl
  have k36 := k35.trans k6
  obtain ⟨p7, s7, q7, k7, n7, g7⟩ := plus_one (k36.nil_get h) isl (ρ := E13 ls lc li none none none none) (a := eV 2) (e := eC (.bl true)) (x := .bl true) rfl rfl
  have k37 := k36.trans k7
  obtain ⟨p8, s8, q8, k8, n8, g8⟩ := plus_one (k37.nil_get h) isl (ρ := E13 ls lc li none none none none) (a := eV 2) (e := eC .non) (x := .non) rfl rfl
  have k38 := k37.trans k8
  have g9a : (s8 ++ [Nd.lst [.int 0]])[s8.length]? = some (.lst [.int 0]) := get_new
  have k9a : Keep [] s8 (s8 ++ [Nd.lst [.int 0]]) := Keep.app
  have g9b : ((s8 ++ [Nd.lst [.int 0]]) ++ [Nd.lst [.loc s8.length]])[(s8 ++ [Nd.lst [.int 0]]).length]? = some (.lst [.loc s8.length]) := get_new
  have k9b : Keep [] (s8 ++ [Nd.lst [.int 0]]) ((s8 ++ [Nd.lst [.int 0]]) ++ [Nd.lst [.loc s8.length]]) := Keep.app
  have q9 : (eLst (aCons (eLst (aCons (eC (.int 0)) aNil)) aNil)) (E13 ls lc li none none none none) s8 = .ok (.loc (s8 ++ [Nd.lst [.int 0]]).length) ((s8 ++ [Nd.lst [.int 0]]) ++ [Nd.lst [.loc s8.length]]) := by
    rw [x_eLst, x_aCons, x_eLst, x_aCons, x_eC, R.bind_ok, x_aNil, R.bind_ok, R.bind_ok, ev_lst (show [W.int 0].length ≤ big from by simp [big]), R.bind_ok, x_aNil, R.bind_ok, R.bind_ok, ev_lst (show [W.loc s8.length].length ≤ big from by simp [big])]
  have hl9 : (s8 ++ [Nd.lst [.int 0]]).length = s8.length + 1 := by simp
  generalize hp9 : (s8 ++ [Nd.lst [.int 0]]).length = p9 at q9 g9b hl9
  generalize hs9a : s8 ++ [Nd.lst [.int 0]] = s9a at q9 g9a g9b k9a k9b
  generalize hs9 : s9a ++ [Nd.lst [.loc s8.length]] = s9 at q9 g9b k9b
  have k89 := k9a.trans k9b
  have k39 := k38.trans k89
  have ll5 := k5.len
  have ll6 := k6.len
  have ll7 := k7.len
  have ll8 := k8.len
  have k10 : Keep [] s9 (s9 ++ [Nd.lst [.non, .int 7, .loc s.length, .str [48], .loc p5, .loc p6, .loc p7, .loc p8, .loc p9]]) := Keep.app
  have g10 : (s9 ++ [Nd.lst [.non, .int 7, .loc s.length, .str [48], .loc p5, .loc p6, .loc p7, .loc p8, .loc p9]])[s9.length]? = some (.lst [.non, .int 7, .loc s.length, .str [48], .loc p5, .loc p6, .loc p7, .loc p8, .loc p9]) := get_new
  have e10 : newL [.non, .int 7, .loc s.length, .str [48], .loc p5, .loc p6, .loc p7, .loc p8, .loc p9] s9 = .ok (.loc s9.length) (s9 ++ [Nd.lst [.non, .int 7, .loc s.length, .str [48], .loc p5, .loc p6, .loc p7, .loc p8, .loc p9]]) := ev_lst (by simp [big])
  generalize hs10 : s9 ++ [Nd.lst [.non, .int 7, .loc s.length, .str [48], .loc p5, .loc p6, .loc p7, .loc p8, .loc p9]] = s10 at k10 g10 e10
  have kA := k39.trans k10
  have D10 : Dr st0 ls n s10 := hD.grow kA
  obtain ⟨d, s11, y1, y2, y3, y4, y5⟩ := take_const D10.strm (by omega) 9 (by omega) (by omega) (ρ := E13 ls lc li none none none none) (a := eV 0) rfl
  have y1 : eN F__law_take (aCons (eV 0) (aCons (eC (.int 9)) aNil)) (E13 ls lc li none none none none) s10 = .ok (.int d) s11 := y1
  have D11 : Dr st0 ls (n + 1) s11 := D10.step y3 y4 (by omega)
  have g11 := y4.get g10 (by have := k39.len; simp; omega)
  have fint : ∀ i ∈ is, FlatS (.int (i : Int)) := fun i hi' => by
    have := hi i hi'
    show (i : Int).natAbs < 1000000
    omega
  have flat : ∀ x, FlatS x → ∀ y ∈ (is.map fun i : Nat => W.int i) ++ [x], FlatS y := fun x hx y hy => by
    rcases List.mem_append.mp hy with h1 | h1
    · obtain ⟨i, hi', rfl⟩ := List.mem_map.mp h1
      exact fint i hi'
    · rw [List.mem_singleton.mp h1]
      exact hx
  have itm : ∀ x, (∀ s, ItemW s x) → ∀ y ∈ (is.map fun i : Nat => W.int i) ++ [x], ∀ s, ItemW s y := fun x hx y hy s => by
    rcases List.mem_append.mp hy with h1 | h1
    · obtain ⟨i, hi', rfl⟩ := List.mem_map.mp h1
      trivial
    · rw [List.mem_singleton.mp h1]
      exact hx s
  have nob : ∀ x, itemB c.length x = false → ((is.map fun i : Nat => W.int i) ++ [x]).all (itemB c.length) = false := fun x hx => by
    rw [List.all_append]
    simp [hx]
  have pl : ∀ x, ((is.map fun i : Nat => W.int i) ++ [x]).length ≤ 150 := fun x => by simp; omega
  have K5 : Keep [] s5 s10 := (((k6.trans k7).trans k8).trans k89).trans k10
  have K6 : Keep [] s6 s10 := ((k7.trans k8).trans k89).trans k10
  have K7 : Keep [] s7 s10 := (k8.trans k89).trans k10
  have K8 : Keep [] s8 s10 := k89.trans k10
  obtain ⟨odd, w1, w2⟩ := pick (P := BadI c.length) (ls := ls) g11 y2 rfl (by
    intro x hx
    simp only [List.mem_cons, List.not_mem_nil, or_false] at hx
    refine Stab.keep (s := s10) ?_ y4
    rcases hx with rfl | rfl | rfl | rfl | rfl | rfl | rfl | rfl | rfl
    · exact fun s' _ => ⟨very_non, .inl ⟨rfl, rfl⟩⟩
    · exact fun s' _ => ⟨very_int (by decide), .inl ⟨rfl, rfl⟩⟩
    · intro s' k'
      have := stab_dic (ls := ls) ((((k5.trans k6).trans k7).trans k8).trans (k89.trans k10) |>.nil_get g3) (by omega) s' k'
      exact ⟨this.1, .inl ⟨this.2.1, this.2.2.1⟩⟩
    · exact fun s' _ => ⟨very_str ⟨by decide, by decide⟩, .inl ⟨rfl, rfl⟩⟩
    · exact bad_items (K5.nil_get g5) (by omega) (flat _ (by show (c.length : Int).natAbs < 1000000; omega)) (itm _ fun _ => trivial) (pl _) (nob _ (by simp [itemB]))
    · exact bad_items (K6.nil_get g6) (by omega) (flat _ (by show (-1 : Int).natAbs < 1000000; decide)) (itm _ fun _ => trivial) (pl _) (nob _ (by simp [itemB]))
    · exact bad_items (K7.nil_get g7) (by omega) (flat _ trivial) (itm _ fun _ => trivial) (pl _) (nob _ rfl)
    · exact bad_items (K8.nil_get g8) (by omega) (flat _ trivial) (itm _ fun _ => trivial) (pl _) (nob _ rfl)
    · intro s' k'
      have h1 := k'.get (k10.nil_get g9b) (by simp; omega)
      have h2 := k'.get ((k9b.trans k10).nil_get g9a) (by simp; omega)
      refine ⟨very_lstL h1 h2 (by omega), .inr ⟨p9, [.loc s8.length], rfl, h1, fun x hx => ?_, by simp, rfl⟩⟩
      rw [List.mem_singleton.mp hx]
      exact ⟨_, h2⟩)
  refine ⟨odd, s11, ?_, D11, (kA.of_nil).trans y4, w2⟩
  have q3 : eDict0 (E13 ls lc li none none none none) s = .ok (.loc s.length) s3 := by rw [x_eDict0, hs3]
  have qL := lst_ok (cons_ok (a := eC .non) rfl (cons_ok (a := eC (.int 7)) rfl (cons_ok q3 (cons_ok (a := eC (.str [48])) rfl (cons_ok q5 (cons_ok q6 (cons_ok q7 (cons_ok q8 (cons_ok q9 nil_ok))))))))) e10
  simp only [S__law_refused_right_1, x_sSet, x_e2 (g := opIx), qL, R.bind_ok, y1, w1, R.toS_ok, List.set_cons_succ, List.set_cons_zero]
end
section
variable {st0 st s : Sto} {ls lc li n : Nat} {c : List (List Nat)} {is : List Nat}
theorem lst1 {x : W} {e : ES} {ρ : Mi.Loc} {s : Sto} (h : e ρ s = .ok x s) : eLst (aCons e aNil) ρ s = .ok (.loc s.length) (s ++ [.lst [x]]) := lst_ok (cons_ok h nil_ok) (ev_lst (by simp [big]))
theorem code_dup (D : CodeD c) : codeB (c.map W.str ++ [W.str (c.getD 0 [])]) = false := by
  have hp := D.pos
  unfold codeB
  have e : (c.map W.str ++ [W.str (c.getD 0 [])]).map strOf = c ++ [c.getD 0 []] := by
    rw [List.map_append, List.map_map, show (strOf ∘ W.str) = id from rfl, List.map_id]
    rfl
  have : (pairs ((c.map W.str ++ [W.str (c.getD 0 [])]).map strOf)).any id = true := by
    rw [e, any_pairs, List.any_eq_true]
    refine ⟨0, List.mem_range.mpr (by simp), ?_⟩
    unfold hasPre
    rw [List.any_eq_true]
    refine ⟨c.length, List.mem_range.mpr (by simp), ?_⟩
    have e1 : (c ++ [c.getD 0 []]).getD 0 [] = c.getD 0 [] := by
      rw [List.getD_eq_getElem?_getD, List.getElem?_append_left hp, ← List.getD_eq_getElem?_getD]
    have e2 : (c ++ [c.getD 0 []]).getD c.length [] = c.getD 0 [] := by
      rw [List.getD_eq_getElem?_getD, List.getElem?_append_right (Nat.le_refl _), Nat.sub_self]
      rfl
    rw [e1, e2]
    have e3 : isPre (c.getD 0 []) (c.getD 0 []) = true := (isPre_iff _ _).mpr (List.prefix_refl _)
    rw [e3, Bool.and_true]
    exact bne_iff_ne.mpr (by omega)
  rw [this]
  simp
theorem refused2 {z3 : Option W} (D : CodeD c) (hD : Dr st0 ls n s) (hn : n < 90000) (hc : s[lc]? = some (.lst (c.map .str))) :
    ∃ bad s', S__law_refused_right_2 (E13 ls lc li z3 none none none) s = .nx (E13 ls lc li z3 (some bad) none none) s' ∧ Dr st0 ls (n + 1) s' ∧ Keep [ls] s s' ∧ Stab ls s' (BadC bad) := by
  have hbig : big = 16777216 := rfl
  have old := hD.old
  have hst := hD.len
  have hcl := D.len
  have g3 : (s ++ [Nd.dic []])[s.length]? = some (.dic []) := get_new
  have k3 : Keep [] s (s ++ [Nd.dic []]) := Keep.app
  have q3 : eDict0 (E13 ls lc li z3 none none none) s = .ok (.loc s.length) (s ++ [Nd.dic []]) := rfl
  generalize hs3 : s ++ [Nd.dic []] = s3 at g3 k3 q3
  have l3 := k3.len
  have g4 : (s3 ++ [Nd.lst []])[s3.length]? = some (.lst []) := get_new
  have k4 : Keep [] s3 (s3 ++ [Nd.lst []]) := Keep.app
  have q4 : eLst aNil (E13 ls lc li z3 none none none) s3 = .ok (.loc s3.length) (s3 ++ [Nd.lst []]) := lst_ok nil_ok (ev_lst (by simp))
  generalize hs4 : s3 ++ [Nd.lst []] = s4 at g4 k4 q4
  have k34 := k3.trans k4
  have isl : (c.map W.str).length ≤ 1000 := by simp; omega
  obtain ⟨p5, s5, q5, k5, n5, g5⟩ := plus_one (k34.nil_get hc) isl (ρ := E13 ls lc li z3 none none none) (a := eV 1) (e := e2 opIx (eV 1) (eC (.int 0))) (x := .str (c.getD 0 [])) rfl (by
    have := item_ix (k34.nil_get hc) D.pos
    exact this)
  have k35 := k34.trans k5
  obtain ⟨p6, s6, q6, k6, n6, g6⟩ := plus_one (k35.nil_get hc) isl (ρ := E13 ls lc li z3 none none none) (a := eV 1) (e := eC .non) (x := .non) rfl rfl
  have k36 := k35.trans k6
  have g7 : (s6 ++ [Nd.lst [.str [50]]])[s6.length]? = some (.lst [.str [50]]) := get_new
  have k7 : Keep [] s6 (s6 ++ [Nd.lst [.str [50]]]) := Keep.app
  have q7 : eLst (aCons (eC (.str [50])) aNil) (E13 ls lc li z3 none none none) s6 = .ok (.loc s6.length) (s6 ++ [Nd.lst [.str [50]]]) := lst1 rfl
  generalize hs7 : s6 ++ [Nd.lst [.str [50]]] = s7 at g7 k7 q7
  have g8 : (s7 ++ [Nd.lst [.str [48], .str [48, 49]]])[s7.length]? = some (.lst [.str [48], .str [48, 49]]) := get_new
  have k8 : Keep [] s7 (s7 ++ [Nd.lst [.str [48], .str [48, 49]]]) := Keep.app
  have q8 : eLst (aCons (eC (.str [48])) (aCons (eC (.str [48, 49])) aNil)) (E13 ls lc li z3 none none none) s7 = .ok (.loc s7.length) (s7 ++ [Nd.lst [.str [48], .str [48, 49]]]) := lst_ok (cons_ok (a := eC _) rfl (cons_ok (a := eC _) rfl nil_ok)) (ev_lst (by simp [big]))
  generalize hs8 : s7 ++ [Nd.lst [.str [48], .str [48, 49]]] = s8 at g8 k8 q8
  have g9 : (s8 ++ [Nd.lst [.str [], .str [48]]])[s8.length]? = some (.lst [.str [], .str [48]]) := get_new
  have k9 : Keep [] s8 (s8 ++ [Nd.lst [.str [], .str [48]]]) := Keep.app
  have q9 : eLst (aCons (eC (.str [])) (aCons (eC (.str [48])) aNil)) (E13 ls lc li z3 none none none) s8 = .ok (.loc s8.length) (s8 ++ [Nd.lst [.str [], .str [48]]]) := lst_ok (cons_ok (a := eC _) rfl (cons_ok (a := eC _) rfl nil_ok)) (ev_lst (by simp [big]))
  generalize hs9 : s8 ++ [Nd.lst [.str [], .str [48]]] = s9 at g9 k9 q9
  have ll4 := k4.len
  have ll5 := k5.len
  have ll6 := k6.len
  have ll7 := k7.len
  have ll8 := k8.len
  have ll9 := k9.len
  have K8 : Keep [] s8 s9 := k9
  have K7 : Keep [] s7 s9 := k8.trans K8
  have K6 : Keep [] s6 s9 := k7.trans K7
  have K5 : Keep [] s5 s9 := k6.trans K6
  have K4 : Keep [] s4 s9 := k5.trans K5
  have K3 : Keep [] s3 s9 := k4.trans K4
  have k10 : Keep [] s9 (s9 ++ [Nd.lst [.non, .int 7, .loc s.length, .str [48, 49], .loc s3.length, .loc p5, .loc p6, .loc s6.length, .loc s7.length, .loc s8.length]]) := Keep.app
  have g10 : (s9 ++ [Nd.lst [.non, .int 7, .loc s.length, .str [48, 49], .loc s3.length, .loc p5, .loc p6, .loc s6.length, .loc s7.length, .loc s8.length]])[s9.length]? = some (.lst [.non, .int 7, .loc s.length, .str [48, 49], .loc s3.length, .loc p5, .loc p6, .loc s6.length, .loc s7.length, .loc s8.length]) := get_new
  have e10 : newL [.non, .int 7, .loc s.length, .str [48, 49], .loc s3.length, .loc p5, .loc p6, .loc s6.length, .loc s7.length, .loc s8.length] s9 = .ok (.loc s9.length) (s9 ++ [Nd.lst [.non, .int 7, .loc s.length, .str [48, 49], .loc s3.length, .loc p5, .loc p6, .loc s6.length, .loc s7.length, .loc s8.length]]) := ev_lst (by simp [big])
  generalize hs10 : s9 ++ [Nd.lst [.non, .int 7, .loc s.length, .str [48, 49], .loc s3.length, .loc p5, .loc p6, .loc s6.length, .loc s7.length, .loc s8.length]] = s10 at k10 g10 e10
  have kA := (k3.trans K3).trans k10
  have D10 : Dr st0 ls n s10 := hD.grow kA
  obtain ⟨d, s11, y1, y2, y3, y4, y5⟩ := take_const D10.strm (by omega) 10 (by omega) (by omega) (ρ := E13 ls lc li z3 none none none) (a := eV 0) rfl
  have y1 : eN F__law_take (aCons (eV 0) (aCons (eC (.int 10)) aNil)) (E13 ls lc li z3 none none none) s10 = .ok (.int d) s11 := y1
  have D11 : Dr st0 ls (n + 1) s11 := D10.step y3 y4 (by omega)
  have g11 := y4.get g10 (by simp; omega)
  have cw : ∀ x ∈ c.map W.str, FlatS x ∧ WordW x ∧ WordS x := fun x hx => by
    obtain ⟨w, hw, rfl⟩ := List.mem_map.mp hx
    have h1 := D.words w hw
    exact ⟨⟨by omega, D.small w hw⟩, by show w.length ≤ 100000; omega, ⟨by omega, D.small w hw⟩⟩
  have more : ∀ y : W, FlatS y ∧ WordW y ∧ WordS y → ∀ x ∈ c.map W.str ++ [y], FlatS x ∧ WordW x ∧ WordS x := fun y hy x hx => by
    rcases List.mem_append.mp hx with h | h
    · exact cw x h
    · rw [List.mem_singleton.mp h]
      exact hy
  have sm : ∀ z : List Nat, TxS 100 z → FlatS (.str z) ∧ WordW (.str z) ∧ WordS (.str z) := fun z hz => ⟨hz.mono (by omega), by have := hz.len; show z.length ≤ 100000; omega, hz.mono (by omega)⟩
  have bc : ∀ {k : Nat} {xs : List W}, s9[k]? = some (.lst xs) → k ≠ ls → (∀ x ∈ xs, FlatS x ∧ WordW x ∧ WordS x) → xs.length ≤ 150 → codeB xs = false → Stab ls s10 (BadC (.loc k)) := fun h hk hx hl hb => bad_code (k10.nil_get h) hk (fun x h' => (hx x h').1) (fun x h' => (hx x h').2) hl hb
  obtain ⟨bad, w1, w2⟩ := pick (P := BadC) (ls := ls) g11 y2 rfl (by
    intro x hx
    simp only [List.mem_cons, List.not_mem_nil, or_false] at hx
    refine Stab.keep (s := s10) ?_ y4
    rcases hx with rfl | rfl | rfl | rfl | rfl | rfl | rfl | rfl | rfl | rfl
    · exact fun s' _ => noCode very_non rfl rfl
    · exact fun s' _ => noCode (very_int (by decide)) rfl rfl
    · intro s' k'
      have := stab_dic (ls := ls) ((K3.trans k10).nil_get g3) (by omega) s' k'
      exact noCode this.1 this.2.1 this.2.2.1
    · exact fun s' _ => noCode (very_str ⟨by decide, by decide⟩) rfl rfl
    · exact bc (K4.nil_get g4) (by omega) (by simp) (by simp) (by decide)
    · exact bc (K5.nil_get g5) (by omega) (more _ (sm _ ⟨by have := D.words _ (word_in D.pos); omega, D.small _ (word_in D.pos)⟩)) (by simp; omega) (code_dup D)
    · refine bc (K6.nil_get g6) (by omega) (more _ ⟨trivial, trivial, trivial⟩) (by simp; omega) ?_
      unfold codeB
      rw [List.all_append]
      simp [wordB]
    · exact bc (K7.nil_get g7) (by omega) (fun x hx => by rw [List.mem_singleton.mp hx]; exact sm _ ⟨by decide, by decide⟩) (by simp) (by decide)
    · refine bc (K8.nil_get g8) (by omega) (fun x hx => ?_) (by simp) (by decide)
      simp only [List.mem_cons, List.not_mem_nil, or_false] at hx
      rcases hx with rfl | rfl
      · exact sm _ ⟨by decide, by decide⟩
      · exact sm _ ⟨by decide, by decide⟩
    · refine bc g9 (by omega) (fun x hx => ?_) (by simp) (by decide)
      simp only [List.mem_cons, List.not_mem_nil, or_false] at hx
      rcases hx with rfl | rfl
      · exact sm _ ⟨by decide, by decide⟩
      · exact sm _ ⟨by decide, by decide⟩)
  have qL := lst_ok (cons_ok (a := eC .non) rfl (cons_ok (a := eC (.int 7)) rfl (cons_ok q3 (cons_ok (a := eC (.str [48, 49])) rfl (cons_ok q4 (cons_ok q5 (cons_ok q6 (cons_ok q7 (cons_ok q8 (cons_ok q9 nil_ok)))))))))) e10
  refine ⟨bad, s11, ?_, D11, (kA.of_nil).trans y4, w2⟩
  simp only [S__law_refused_right_2, x_sSet, x_e2 (g := opIx), qL, R.bind_ok, y1, w1, R.toS_ok, List.set_cons_succ, List.set_cons_zero]
end
section
variable {st0 st s : Sto} {ls lc li n : Nat} {c : List (List Nat)} {is : List Nat}
theorem odd_text (hD : Dr st0 ls n s) (hn : n < 90000) : ∃ t s', F__law_odd_text [.loc ls] s = .ok (.str t) s' ∧ Dr st0 ls (n + 1) s' ∧ Keep [ls] s s' ∧ s.length ≤ s'.length ∧ TxS 100 t ∧ bitsB t = false := by
  have hbig : big = 16777216 := rfl
  have old := hD.old
  have hst := hD.len
  have g1 : (s ++ [Nd.lst [.str [97], .str [48, 32, 49], .str [48, 49, 120], .str [48, 10]]])[s.length]? = some (.lst [.str [97], .str [48, 32, 49], .str [48, 49, 120], .str [48, 10]]) := get_new
  have k1 : Keep [] s (s ++ [Nd.lst [.str [97], .str [48, 32, 49], .str [48, 49, 120], .str [48, 10]]]) := Keep.app
  have qL : eLst (aCons (eC (.str [97])) (aCons (eC (.str [48, 32, 49])) (aCons (eC (.str [48, 49, 120])) (aCons (eC (.str [48, 10])) aNil)))) [some (.loc ls)] s = .ok (.loc s.length) (s ++ [Nd.lst [.str [97], .str [48, 32, 49], .str [48, 49, 120], .str [48, 10]]]) :=
    lst_ok (cons_ok (a := eC _) rfl (cons_ok (a := eC _) rfl (cons_ok (a := eC _) rfl (cons_ok (a := eC _) rfl nil_ok)))) (ev_lst (by simp [big]))
  generalize hs1 : s ++ [Nd.lst [.str [97], .str [48, 32, 49], .str [48, 49, 120], .str [48, 10]]] = s1 at g1 k1 qL
  obtain ⟨d, s2, y1, y2, y3, y4, y5⟩ := take_const (hD.grow k1).strm (by omega) 4 (by omega) (by omega) (ρ := [some (.loc ls)]) (a := eV 0) rfl
  have y1 : eN F__law_take (aCons (eV 0) (aCons (eC (.int 4)) aNil)) [some (.loc ls)] s1 = .ok (.int d) s2 := y1
  have g2 := y4.get g1 (by simp; omega)
  have hl := k1.len
  obtain ⟨w, w1, w2⟩ := pick (P := fun w _ => ∃ t, w = .str t ∧ TxS 100 t ∧ bitsB t = false) (ls := ls) g2 y2 rfl (by
    intro x hx
    simp only [List.mem_cons, List.not_mem_nil, or_false] at hx
    rcases hx with rfl | rfl | rfl | rfl
    · exact fun s' _ => ⟨_, rfl, ⟨by decide, by decide⟩, by decide⟩
    · exact fun s' _ => ⟨_, rfl, ⟨by decide, by decide⟩, by decide⟩
    · exact fun s' _ => ⟨_, rfl, ⟨by decide, by decide⟩, by decide⟩
    · exact fun s' _ => ⟨_, rfl, ⟨by decide, by decide⟩, by decide⟩)
  obtain ⟨t, rfl, h1, h2⟩ := w2.now
  refine ⟨t, s2, ?_, (hD.grow k1).step y3 y4 (by omega), k1.of_nil.trans y4, by omega, h1, h2⟩
  unfold F__law_odd_text dfn
  rw [if_pos (show [W.loc ls].length = 1 from rfl), show (List.map some [W.loc ls] ++ List.replicate (1 - 1) none) = [some (W.loc ls)] from rfl]
  simp only [B__law_odd_text, x_sRet, x_e2 (g := opIx), qL, R.bind_ok, y1, w1, R.toS_ok, RS.fin_rt]
theorem noBits {w : W} {s : Sto} (hv : Very w s) (h : isA s .str w = some false) : BadT w s := ⟨hv, s, is_bits_no h, .refl⟩
theorem refused3 {z3 z4 : Option W} (hD : Dr st0 ls n s) (hn : n < 90000) :
    ∃ wrong s', S__law_refused_right_3 (E13 ls lc li z3 z4 none none) s = .nx (E13 ls lc li z3 z4 (some wrong) none) s' ∧ Dr st0 ls (n + 2) s' ∧ Keep [ls] s s' ∧ Stab ls s' (BadT wrong) := by
  have hbig : big = 16777216 := rfl
  have old := hD.old
  have hst := hD.len
  have g3 : (s ++ [Nd.dic []])[s.length]? = some (.dic []) := get_new
  have k3 : Keep [] s (s ++ [Nd.dic []]) := Keep.app
  have q3 : eDict0 (E13 ls lc li z3 z4 none none) s = .ok (.loc s.length) (s ++ [Nd.dic []]) := rfl
  generalize hs3 : s ++ [Nd.dic []] = s3 at g3 k3 q3
  have g4 : (s3 ++ [Nd.lst [.str [48]]])[s3.length]? = some (.lst [.str [48]]) := get_new
  have k4 : Keep [] s3 (s3 ++ [Nd.lst [.str [48]]]) := Keep.app
  have q4 : eLst (aCons (eC (.str [48])) aNil) (E13 ls lc li z3 z4 none none) s3 = .ok (.loc s3.length) (s3 ++ [Nd.lst [.str [48]]]) := lst1 rfl
  generalize hs4 : s3 ++ [Nd.lst [.str [48]]] = s4 at g4 k4 q4
  have l3 := k3.len
  have l4 := k4.len
  obtain ⟨t, s5, o1, D5, k5, l5, ht, hb⟩ := odd_text (hD.grow (k3.trans k4)) (by omega)
  have q5 : eN F__law_odd_text (aCons (eV 0) aNil) (E13 ls lc li z3 z4 none none) s4 = .ok (.str t) s5 := o1
  have g6 : (s5 ++ [Nd.tup [.str [48]]])[s5.length]? = some (.tup [.str [48]]) := get_new
  have k6 : Keep [] s5 (s5 ++ [Nd.tup [.str [48]]]) := Keep.app
  have q6 : eTup (aCons (eC (.str [48])) aNil) (E13 ls lc li z3 z4 none none) s5 = .ok (.loc s5.length) (s5 ++ [Nd.tup [.str [48]]]) := ev_tup (show [W.str [48]].length ≤ big from by simp [big])
  generalize hs6 : s5 ++ [Nd.tup [.str [48]]] = s6 at g6 k6 q6
  have l6 := k6.len
  have k10 : Keep [] s6 (s6 ++ [Nd.lst [.non, .int 7, .loc s.length, .loc s3.length, .str t, .bl true, .loc s5.length]]) := Keep.app
  have g10 : (s6 ++ [Nd.lst [.non, .int 7, .loc s.length, .loc s3.length, .str t, .bl true, .loc s5.length]])[s6.length]? = some (.lst [.non, .int 7, .loc s.length, .loc s3.length, .str t, .bl true, .loc s5.length]) := get_new
  have e10 : newL [.non, .int 7, .loc s.length, .loc s3.length, .str t, .bl true, .loc s5.length] s6 = .ok (.loc s6.length) (s6 ++ [Nd.lst [.non, .int 7, .loc s.length, .loc s3.length, .str t, .bl true, .loc s5.length]]) := ev_lst (by simp [big])
  generalize hs10 : s6 ++ [Nd.lst [.non, .int 7, .loc s.length, .loc s3.length, .str t, .bl true, .loc s5.length]] = s10 at k10 g10 e10
  have D10 : Dr st0 ls (n + 1) s10 := (D5.grow k6).grow k10
  obtain ⟨d, s11, y1, y2, y3, y4, y5⟩ := take_const D10.strm (by omega) 7 (by omega) (by omega) (ρ := E13 ls lc li z3 z4 none none) (a := eV 0) rfl
  have y1 : eN F__law_take (aCons (eV 0) (aCons (eC (.int 7)) aNil)) (E13 ls lc li z3 z4 none none) s10 = .ok (.int d) s11 := y1
  have D11 : Dr st0 ls (n + 2) s11 := D10.step y3 y4 (by omega)
  have g11 := y4.get g10 (by simp; omega)
  have K4 : Keep [ls] s4 s10 := k5.trans (k6.trans k10).of_nil
  have K3 : Keep [ls] s3 s10 := k4.of_nil.trans K4
  obtain ⟨wrong, w1, w2⟩ := pick (P := BadT) (ls := ls) g11 y2 rfl (by
    intro x hx
    simp only [List.mem_cons, List.not_mem_nil, or_false] at hx
    refine Stab.keep (s := s10) ?_ y4
    rcases hx with rfl | rfl | rfl | rfl | rfl | rfl | rfl
    · exact fun s' _ => noBits very_non rfl
    · exact fun s' _ => noBits (very_int (by decide)) rfl
    · intro s' k'
      have := stab_dic (ls := ls) (K3.get g3 (by simp; omega)) (by omega) s' k'
      exact noBits this.1 this.2.2.2
    · intro s' k'
      have h := k'.get (K4.get g4 (by simp; omega)) (by simp; omega)
      exact noBits (very_lstF h (fun x hx => by rw [List.mem_singleton.mp hx]; exact ⟨by decide, by decide⟩) (by simp)) (by simp [isA, h])
    · intro s' _
      obtain ⟨s2, e1, e2⟩ := is_bits_str (st := s') (s := t) (by have := ht.len; omega)
      rw [hb] at e1
      exact ⟨very_str (ht.mono (by omega)), s2, e1, e2⟩
    · exact fun s' _ => noBits (very_bl true) rfl
    · intro s' k'
      have h := k'.get (k10.nil_get g6) (by simp; omega)
      exact noBits (very_tup h) (by simp [isA, h]))
  have qL := lst_ok (cons_ok (a := eC .non) rfl (cons_ok (a := eC (.int 7)) rfl (cons_ok q3 (cons_ok q4 (cons_ok q5 (cons_ok (a := eC (.bl true)) rfl (cons_ok q6 nil_ok))))))) e10
  refine ⟨wrong, s11, ?_, D11, ((k3.trans k4).of_nil).trans (K4.trans y4), w2⟩
  simp only [S__law_refused_right_3, x_sSet, x_e2 (g := opIx), qL, R.bind_ok, y1, w1, R.toS_ok, List.set_cons_succ, List.set_cons_zero]
end
section
variable {st0 st s : Sto} {ls lc li n : Nat} {c : List (List Nat)} {is : List Nat}
/-- what is asked for gives the word and the thing -/
def Asks (way : Int) (one thing : W) (word : List Nat) (given : W) (s : Sto) : Prop := ∃ s1, F__law_asked [.int way, one, thing] s = .ok (.loc s1.length) (s1 ++ [.lst [.str word, given]]) ∧ Keep [] s s1
theorem asks1 {bad thing : W} (h : BadC bad s) : Asks 0 bad thing wCode bad s := by
  obtain ⟨_, ⟨s1, h1, k1⟩, _⟩ := h
  exact ⟨_, asked_bits_0 (bits_bad_code h1) get_new, k1.trans Keep.app⟩
theorem asks2 {bad thing : W} (h : BadC bad s) : Asks 1 bad thing wCode bad s := by
  obtain ⟨_, ⟨s1, h1, k1⟩, _⟩ := h
  exact ⟨_, asked_read_0 (read_bad_code h1) get_new, k1.trans Keep.app⟩
theorem asks3 {odd : W} (D : CodeD c) (hc : s[lc]? = some (.lst (c.map .str))) (h : Stab ls s (BadI c.length odd)) : Asks 0 (.loc lc) odd wBits odd s := by
  obtain ⟨s1, h1, k1⟩ := D.code (.inl hc)
  obtain ⟨_, ⟨h2, h3⟩ | ⟨l, xs, rfl, g, hx, hl, hb⟩⟩ := h s1 k1.of_nil
  · exact ⟨_, asked_bits_1 (bits_bad_no h1 h2 h3) get_new, k1.trans Keep.app⟩
  · have hbig : big = 16777216 := rfl
    obtain ⟨s2, h4, k2⟩ := bits_bad_items h1 (.inl (k1.nil_get hc)) (.inl g) hx (by omega) (by rw [List.length_map]; exact hb)
    exact ⟨_, asked_bits_1 h4 get_new, (k1.trans k2).trans Keep.app⟩
theorem asks4 {wrong : W} (D : CodeD c) (hc : s[lc]? = some (.lst (c.map .str))) (h : Stab ls s (BadT wrong)) : Asks 1 (.loc lc) wrong wBits wrong s := by
  obtain ⟨s1, h1, k1⟩ := D.code (.inl hc)
  obtain ⟨_, s2, h2, k2⟩ := h s1 k1.of_nil
  exact ⟨_, asked_read_1 (read_bad_bits h1 h2) get_new, (k1.trans k2).trans Keep.app⟩
theorem refused_body {a0 a1 a2 a3 a4 a5 a6 : Option W} {way : Int} {one thing given : W} {word : List Nat} {z : Option W} (h : Asks way one thing word given s) (hv : ∀ s', Keep [] s s' → Very given s') :
    ∃ y s', (sSeq S__law_refused_right_5 S__law_refused_right_6) [a0, a1, a2, a3, a4, a5, a6, some (.int way), some one, some thing, some (.str word), some given, z] s = .nx [a0, a1, a2, a3, a4, a5, a6, some (.int way), some one, some thing, some (.str word), some given, y] s' ∧ Keep [] s s' := by
  obtain ⟨s1, q1, k1⟩ := h
  have g : (s1 ++ [Nd.lst [.str word, given]])[s1.length]? = some (.lst [.str word, given]) := get_new
  have k2 : Keep [] s (s1 ++ [Nd.lst [.str word, given]]) := k1.trans Keep.app
  have o1 : opIx (.loc s1.length) (.int 0) (s1 ++ [Nd.lst [.str word, given]]) = .ok (.str word) (s1 ++ [Nd.lst [.str word, given]]) := Sq.ix (i := 0) (.inl g) rfl
  have o2 : opIx (.loc s1.length) (.int 1) (s1 ++ [Nd.lst [.str word, given]]) = .ok given (s1 ++ [Nd.lst [.str word, given]]) := Sq.ix (i := 1) (.inl g) rfl
  have o3 : F__law_very [given, given] (s1 ++ [Nd.lst [.str word, given]]) = .ok (.bl true) (s1 ++ [Nd.lst [.str word, given]]) := hv _ k2
  generalize s1 ++ [Nd.lst [.str word, given]] = s2 at q1 k2 o1 o2 o3
  refine ⟨some (.loc s1.length), s2, ?_, k2⟩
  have o4 : opNe (.str word) (.str word) s2 = .ok (.bl false) s2 := by simp [opNe, weq, scalW]
  simp only [x_sSeq, S__law_refused_right_5, x_sSet, x_eN, x_aCons, x_aNil, x_eV, List.getElem?_cons_zero, List.getElem?_cons_succ, R.bind_ok, q1, R.toS_ok, List.set_cons_succ, List.set_cons_zero, RS.then_nx, S__law_refused_right_6, x_sIf, x_bOr, x_bB, x_bNot, x_bT, x_e2, x_eC, o1, o2, o3, o4, Bool.false_eq_true, if_false, x_tru_bl, Bool.not_true, x_sNop]
def caseY (odd bad wrong : W) (lc : Nat) : List (Int × W × W × List Nat × W) := [(0, bad, odd, wCode, bad), (1, bad, wrong, wCode, bad), (0, .loc lc, odd, wBits, odd), (1, .loc lc, wrong, wBits, wrong)]
def tupOf (p : Int × W × W × List Nat × W) : List W := [.int p.1, p.2.1, p.2.2.1, .str p.2.2.2.1, p.2.2.2.2]
theorem refused_loop {odd bad wrong : W} {lk b : Nat} (D : CodeD c) (hD : Dr st0 ls n s) (hc : s[lc]? = some (.lst (c.map .str))) (g : s[lk]? = some (.lst [.loc b, .loc (b + 1), .loc (b + 2), .loc (b + 3)]))
    (ht : ∀ i p, (caseY odd bad wrong lc)[i]? = some p → s[b + i]? = some (.tup (tupOf p))) (h1 : Stab ls s (BadI c.length odd)) (h2 : Stab ls s (BadC bad)) (h3 : Stab ls s (BadT wrong)) :
    ∃ ρ s', S__law_refused_right_7 (E13 ls lc li (some odd) (some bad) (some wrong) (some (.loc lk))) s = .nx ρ s' ∧ Keep [] s s' ∧ ρ[1]? = some (some (.loc lc)) ∧ ρ[4]? = some (some bad) := by
  have hit : iSeq (eV 6) (E13 ls lc li (some odd) (some bad) (some wrong) (some (.loc lk))) s = .ok ((List.range 4).map fun i => .v (.loc (b + i)), [(lk, .lst [.loc b, .loc (b + 1), .loc (b + 2), .loc (b + 3)])]) s := by
    unfold iSeq
    simp only [x_eV, List.getElem?_cons_zero, List.getElem?_cons_succ, R.bind_ok, g]
    rfl
  have main := for_in (ck := [(lk, .lst [.loc b, .loc (b + 1), .loc (b + 2), .loc (b + 3)])]) (g := .tp [7, 8, 9, 10, 11]) (b := sSeq S__law_refused_right_5 S__law_refused_right_6)
    (fun ys ρ s2 => (∃ a7 a8 a9 a10 a11 a12, ρ = [some (.loc ls), some (.loc lc), some (.loc li), some odd, some bad, some wrong, some (.loc lk), a7, a8, a9, a10, a11, a12]) ∧ Keep [] s s2 ∧ ∀ y ∈ ys, ∃ i, i < 4 ∧ y = .v (.loc (b + i)))
    (fun r => ∃ ρ s', r = .nx ρ s' ∧ Keep [] s s' ∧ ρ[1]? = some (some (.loc lc)) ∧ ρ[4]? = some (some bad)) (by
      rintro ys ρ s2 ⟨⟨a7, a8, a9, a10, a11, a12, rfl⟩, k, hy⟩
      refine ⟨ck1 (k.nil_get g), ?_⟩
      cases ys with
      | nil => exact ⟨_, s2, rfl, k, rfl, rfl⟩
      | cons y ys =>
        obtain ⟨i, hi, rfl⟩ := hy _ List.mem_cons_self
        obtain ⟨p, hp⟩ : ∃ p, (caseY odd bad wrong lc)[i]? = some p := ⟨_, List.getElem?_eq_getElem hi⟩
        have gt := k.nil_get (ht i p hp)
        have ok : Asks p.1 p.2.1 p.2.2.1 p.2.2.2.1 p.2.2.2.2 s2 ∧ ∀ s', Keep [] s2 s' → Very p.2.2.2.2 s' := by
          match i, hi, hp with
          | 0, _, hp => cases hp; exact ⟨asks1 (h2 _ k.of_nil), fun s' k' => (h2 _ (k.trans k').of_nil).1⟩
          | 1, _, hp => cases hp; exact ⟨asks2 (h2 _ k.of_nil), fun s' k' => (h2 _ (k.trans k').of_nil).1⟩
          | 2, _, hp => cases hp; exact ⟨asks3 D (k.nil_get hc) (h1.keep k.of_nil), fun s' k' => (h1 _ (k.trans k').of_nil).1⟩
          | 3, _, hp => cases hp; exact ⟨asks4 D (k.nil_get hc) (h3.keep k.of_nil), fun s' k' => (h3 _ (k.trans k').of_nil).1⟩
        obtain ⟨y12, s3, t1, t2⟩ := refused_body (a0 := some (.loc ls)) (a1 := some (.loc lc)) (a2 := some (.loc li)) (a3 := some odd) (a4 := some bad) (a5 := some wrong) (a6 := some (.loc lk)) (z := a12) ok.1 ok.2
        refine ⟨[some (.loc ls), some (.loc lc), some (.loc li), some odd, some bad, some wrong, some (.loc lk), some (.int p.1), some p.2.1, some p.2.2.1, some (.str p.2.2.2.1), some p.2.2.2.2, a12], ?_, .inl ⟨_, s3, .inl t1, ⟨_, _, _, _, _, _, rfl⟩, k.trans t2, fun y hy' => hy y (List.mem_cons_of_mem _ hy')⟩⟩
        simp only [asg, tupAt, nodeAt, gt, tupOf, setAll, List.set_cons_succ, List.set_cons_zero])
    ((List.range 4).map fun i => .v (.loc (b + i))) (E13 ls lc li (some odd) (some bad) (some wrong) (some (.loc lk))) s ⟨⟨_, _, _, _, _, _, rfl⟩, .refl, fun y hy => by
      obtain ⟨i, hi, rfl⟩ := List.mem_map.mp hy
      exact ⟨i, List.mem_range.mp hi, rfl⟩⟩
  unfold S__law_refused_right_7 sFor
  rw [hit, R.toS_ok]
  exact main
end
section
variable {st0 st s : Sto} {ls lc li n : Nat} {c : List (List Nat)} {is : List Nat}
theorem five {a b d : W} {w : List Nat} {i : Int} {ρ : Mi.Loc} {s : Sto} {ea eb ed : ES} (h1 : ea ρ s = .ok a s) (h2 : eb ρ s = .ok b s) (h3 : ed ρ s = .ok d s) : eTup (aCons (eC (.int i)) (aCons ea (aCons eb (aCons (eC (.str w)) (aCons ed aNil))))) ρ s = .ok (.loc s.length) (s ++ [.tup [.int i, a, b, .str w, d]]) := by
  have : aCons (eC (.int i)) (aCons ea (aCons eb (aCons (eC (.str w)) (aCons ed aNil)))) ρ s = .ok [.int i, a, b, .str w, d] s := cons_ok rfl (cons_ok h1 (cons_ok h2 (cons_ok rfl (cons_ok h3 nil_ok))))
  rw [x_eTup, this, R.bind_ok]
  exact ev_tup (by simp [big])
theorem refused_ok (D : CodeD c) (hs : Strm s ls n) (hn : n < 80000) (hc : s[lc]? = some (.lst (c.map .str))) (h : IsAt s li is) (hi : ∀ i ∈ is, i < c.length) (hl : is.length ≤ 100) (hlc : lc ≠ ls) (hli : li ≠ ls) :
    ∃ s', F__law_refused_right [.loc ls, .loc lc, .loc li] s = .ok (.bl true) s' ∧ Keep [ls] s s' := by
  have hls : ls < s.length := by
    obtain ⟨_, _, _, h1, _⟩ := hs
    exact lt_of_get h1
  have D0 : Dr s ls n s := ⟨hs, .refl, Nat.le_refl _, hls⟩
  obtain ⟨odd, s1, p1, D1, k1, b1⟩ := refused1 D0 (by omega) hc h D.len hi hl (Nat.le_refl _)
  obtain ⟨bad, s2, p2, D2, k2, b2⟩ := refused2 (li := li) (z3 := some odd) D D1 (by omega) (k1.get hc (by simpa using hlc))
  obtain ⟨wrong, s3, p3, D3, k3, b3⟩ := refused3 (lc := lc) (li := li) (z3 := some odd) (z4 := some bad) D2 (by omega)
  have k13 := (k1.trans k2).trans k3
  have hc3 := k13.get hc (by simpa using hlc)
  have b1' := b1.keep (k2.trans k3)
  have b2' := b2.keep k3
  have q1 := five (i := 0) (w := wCode) (ρ := E13 ls lc li (some odd) (some bad) (some wrong) none) (s := s3) (ea := eV 4) (eb := eV 3) (ed := eV 4) rfl rfl rfl
  have q2 := five (i := 1) (w := wCode) (ρ := E13 ls lc li (some odd) (some bad) (some wrong) none) (s := s3 ++ [.tup [.int 0, bad, odd, .str wCode, bad]]) (ea := eV 4) (eb := eV 5) (ed := eV 4) rfl rfl rfl
  have q3 := five (i := 0) (w := wBits) (ρ := E13 ls lc li (some odd) (some bad) (some wrong) none) (s := s3 ++ [.tup [.int 0, bad, odd, .str wCode, bad]] ++ [.tup [.int 1, bad, wrong, .str wCode, bad]]) (ea := eV 1) (eb := eV 3) (ed := eV 3) rfl rfl rfl
  have q4 := five (i := 1) (w := wBits) (ρ := E13 ls lc li (some odd) (some bad) (some wrong) none) (s := s3 ++ [.tup [.int 0, bad, odd, .str wCode, bad]] ++ [.tup [.int 1, bad, wrong, .str wCode, bad]] ++ [.tup [.int 0, .loc lc, odd, .str wBits, odd]]) (ea := eV 1) (eb := eV 5) (ed := eV 5) rfl rfl rfl
  have g1 : ((s3 ++ [.tup [.int 0, bad, odd, .str wCode, bad]] ++ [.tup [.int 1, bad, wrong, .str wCode, bad]] ++ [.tup [.int 0, .loc lc, odd, .str wBits, odd]] ++ [.tup [.int 1, .loc lc, wrong, .str wBits, wrong]]) : Sto) = s3 ++ (caseY odd bad wrong lc).map fun p => .tup (tupOf p) := by
    simp [caseY, tupOf]
  have e10 := ev_lst (xs := [.loc s3.length, .loc (s3.length + 1), .loc (s3.length + 2), .loc (s3.length + 3)]) (st := s3 ++ (caseY odd bad wrong lc).map fun p => Nd.tup (tupOf p)) (by simp [big])
  have qL := lst_ok (cons_ok q1 (cons_ok q2 (cons_ok q3 (cons_ok q4 nil_ok)))) (by
    rw [g1]
    simp only [List.length_append, List.length_singleton]
    exact e10)
  have p4 : S__law_refused_right_4 (E13 ls lc li (some odd) (some bad) (some wrong) none) s3 = .nx (E13 ls lc li (some odd) (some bad) (some wrong) (some (.loc (s3 ++ (caseY odd bad wrong lc).map fun p => Nd.tup (tupOf p)).length))) (s3 ++ ((caseY odd bad wrong lc).map fun p => Nd.tup (tupOf p)) ++ [.lst [.loc s3.length, .loc (s3.length + 1), .loc (s3.length + 2), .loc (s3.length + 3)]]) := by
    unfold S__law_refused_right_4
    rw [x_sSet]
    erw [qL]
    rfl
  have kT : Keep [] s3 (s3 ++ ((caseY odd bad wrong lc).map fun p => Nd.tup (tupOf p)) ++ [.lst [.loc s3.length, .loc (s3.length + 1), .loc (s3.length + 2), .loc (s3.length + 3)]]) := Keep.app.trans Keep.app
  have gT : ∀ i p, (caseY odd bad wrong lc)[i]? = some p → (s3 ++ ((caseY odd bad wrong lc).map fun p => Nd.tup (tupOf p)) ++ [.lst [.loc s3.length, .loc (s3.length + 1), .loc (s3.length + 2), .loc (s3.length + 3)]])[s3.length + i]? = some (.tup (tupOf p)) := fun i p hp => by
    refine get_app ?_
    rw [List.getElem?_append_right (by omega), Nat.add_sub_cancel_left, List.getElem?_map, hp]
    rfl
  obtain ⟨ρ, s5, p5, k5, e1, e4⟩ := refused_loop (li := li) D (D3.grow kT) (kT.nil_get hc3) get_new gT (b1'.keep kT.of_nil) (b2'.keep kT.of_nil) (b3.keep kT.of_nil)
  obtain ⟨s6, r6, k6⟩ := lic_ok (k5.nil_get (kT.nil_get hc3)) (fun x hx => by
    obtain ⟨w, hw, rfl⟩ := List.mem_map.mp hx
    have := D.words w hw
    exact ⟨by omega, D.small w hw⟩) (by have := D.len; simp; omega)
  rw [D.isc] at r6
  obtain ⟨_, _, s7, r7, k7⟩ := b2' s6 ((kT.trans k5).trans k6).of_nil
  refine ⟨s7, ?_, k13.trans (((kT.trans k5).trans k6).trans k7).of_nil⟩
  unfold F__law_refused_right dfn
  rw [if_pos (show [W.loc ls, W.loc lc, W.loc li].length = 3 from rfl), show (List.map some [W.loc ls, W.loc lc, W.loc li] ++ List.replicate (13 - 3) none) = E13 ls lc li none none none none from rfl]
  simp only [B__law_refused_right, x_sSeq, p1, RS.then_nx, p2, p3, p4, p5, x_sRet, x_eAnd, x_eNot, x_eN, x_aCons, x_aNil, x_eV, e1, e4, R.bind_ok, r6, r7, x_tru_bl, Bool.not_false, R.toS_ok, RS.fin_rt]
end
/-! ### the law -/
section
variable {s : Sto} {ns : List Int}
theorem cell_ok (h : s[0]? = some (.rol (ns.map .int))) (hb : ∀ z ∈ ns, Builtin.Int.intBits z ≤ 1048576) {k : Nat} (hk : k ≤ 1000) (hn : ns.length ≤ 63) : ∃ z, F__law_cell [.loc 0, .int (k : Int)] s = .ok (.int z) s ∧ Builtin.Int.intBits z ≤ 1048576 := by
  have hl : cLen [.loc 0] s = .ok (.int ns.length) s := by simp [cLen, h]
  by_cases hlt : k < ns.length
  · have e1 : opLt (.int (k : Int)) (.int (ns.length : Int)) s = .ok (.bl true) s := by
      unfold opLt cmpI
      dsimp only
      rw [decide_eq_true (by omega : (k : Int) < (ns.length : Int))]
    have e2 : opIx (.loc 0) (.int (k : Int)) s = .ok (.int ns[k]) s := by
      have : ixW (ns.map W.int) (k : Int) = some (.int ns[k]) := by
        unfold ixW L2.atI L2.ixN
        simp [hlt]
      simp only [opIx, h, this, lift1]
    refine ⟨ns[k], ?_, hb _ (List.getElem_mem hlt)⟩
    generalize ((k : Nat) : Int) = kk at e1 e2 ⊢
    generalize ((ns.length : Nat) : Int) = z at hl e1
    simp [F__law_cell, dfn, B__law_cell, S__law_cell_1, hl, e1, e2]
  · have e1 : opLt (.int (k : Int)) (.int (ns.length : Int)) s = .ok (.bl false) s := by
      unfold opLt cmpI
      dsimp only
      rw [decide_eq_false (by omega : ¬ (k : Int) < (ns.length : Int))]
    have b1 : Builtin.Int.intBits 49979723 ≤ 64 := by decide
    have b2 : Builtin.Int.intBits (k : Int) ≤ 64 := bits_le (by
      have : ((k : Int)).natAbs = k := by simp
      have : (2 : Nat) ^ 64 = 18446744073709551616 := by decide
      omega) (by omega)
    have e2 : opMul (.int 49979723) (.int (k : Int)) s = .ok (.int (49979723 * (k : Int))) s := by
      unfold opMul
      dsimp only
      rw [if_pos (by omega)]
    refine ⟨49979723 * (k : Int) + 187, ?_, ?_⟩
    · generalize ((k : Nat) : Int) = kk at e1 e2 ⊢
      generalize ((ns.length : Nat) : Int) = z at hl e1
      simp [F__law_cell, dfn, B__law_cell, S__law_cell_1, hl, e1, e2, opAdd]
    · refine Nat.le_trans (bits_le (n := 64) ?_ (by omega)) (by omega)
      have : (2 : Nat) ^ 64 = 18446744073709551616 := by decide
      omega
end
section
variable {st0 s : Sto} {ls lc n : Nat} {c : List (List Nat)} {ns : List Int}
abbrev E6 (ls lc : Nat) (a b d : Option W) : Mi.Loc := [some (.loc 0), a, some (.loc ls), some (.loc lc), b, d]
theorem items_drawn {z1 z4 z5 : Option W} (D : CodeD c) (hD : Dr st0 ls n s) (hn : n < 60000) (hc : s[lc]? = some (.lst (c.map .str))) (hlc : lc ≠ ls) :
    ∃ is li s', L_law_3 (E6 ls lc z1 z4 z5) s = .ok (.loc li) s' ∧ Dr st0 ls (n + 80) s' ∧ s'[lc]? = some (.lst (c.map .str)) ∧ IsAt s' li is ∧ (∀ i ∈ is, i < c.length) ∧ is.length ≤ 100 ∧ st0.length ≤ li := by
  have hbig : big = 16777216 := rfl
  have old := hD.old
  have hst := hD.len
  obtain ⟨a, s1, a1, a2, a3, a4, a5⟩ := take_const hD.strm (by omega) 9 (by omega) (by omega) (ρ := E6 ls lc z1 z4 z5) (a := eV 2) rfl
  have D1 : Dr st0 ls (n + 1) s1 := hD.step a3 a4 (by omega)
  obtain ⟨b, s2, b1, b2, b3, b4, b5⟩ := take_const D1.strm (by omega) 61 (by omega) (by omega) (ρ := E6 ls lc z1 z4 z5) (a := eV 2) rfl
  have D2 : Dr st0 ls (n + 2) s2 := D1.step b3 b4 (by omega)
  have qL := lst_ok (cons_ok a1 (cons_ok b1 nil_ok)) (ev_lst (xs := [.int (a : Int), .int (b : Int)]) (st := s2) (by simp [big]))
  have g2 : (s2 ++ [Nd.lst [.int (a : Int), .int (b : Int)]])[s2.length]? = some (.lst [.int (a : Int), .int (b : Int)]) := get_new
  have k2 : Keep [] s2 (s2 ++ [Nd.lst [.int (a : Int), .int (b : Int)]]) := Keep.app
  generalize s2 ++ [Nd.lst [.int (a : Int), .int (b : Int)]] = s3 at qL g2 k2
  have l2 := k2.len
  obtain ⟨d, s4, d1, d2, d3, d4, d5⟩ := take_const (D2.grow k2).strm (by omega) 2 (by omega) (by omega) (ρ := E6 ls lc z1 z4 z5) (a := eV 2) rfl
  have D4 : Dr st0 ls (n + 3) s4 := (D2.grow k2).step d3 d4 (by omega)
  have g4 := d4.get g2 (by simp; omega)
  have hc4 : s4[lc]? = some (.lst (c.map .str)) := d4.get (k2.nil_get (b4.get (a4.get hc (by simpa using hlc)) (by simpa using hlc))) (by simpa using hlc)
  obtain ⟨w, w1, w2⟩ := pick (P := fun w _ => ∃ m : Nat, w = .int (m : Int) ∧ m ≤ 61) (ls := ls) g4 d2 rfl (by
    intro x hx
    simp only [List.mem_cons, List.not_mem_nil, or_false] at hx
    rcases hx with rfl | rfl
    · exact fun s' _ => ⟨a, rfl, by omega⟩
    · exact fun s' _ => ⟨b, rfl, by omega⟩)
  obtain ⟨m, rfl, hm⟩ := w2.now
  have hit := iRng1_ok (a := e2 opIx (eLst (aCons (eN F__law_take (aCons (eV 2) (aCons (eC (.int 9)) aNil))) (aCons (eN F__law_take (aCons (eV 2) (aCons (eC (.int 61)) aNil))) aNil))) (eN F__law_take (aCons (eV 2) (aCons (eC (.int 2)) aNil)))) (ρ := E6 ls lc z1 z4 z5) (st := s) (st' := s4) (j := (m : Int)) (by
    rw [x_e2]
    erw [qL]
    rw [R.bind_ok]
    erw [d1]
    rw [R.bind_ok]
    exact w1) (by omega) (by omega)
  rw [rng_ints] at hit
  obtain ⟨acc, s5, h1, ⟨is, rfl, hi, ⟨m5, D5, hm5⟩, hc5⟩, hl5⟩ := elc_in (own := [5]) (g := .nm 5) (t := bYes) (e := eN F__law_take (aCons (eV 2) (aCons (eN cLen (aCons (eV 3) aNil)) aNil))) hit
    (fun acc s => ∃ is : List Nat, acc = is.map (fun i : Nat => W.int i) ∧ (∀ i ∈ is, i < c.length) ∧ (∃ m5, Dr st0 ls m5 s ∧ m5 ≤ n + 3 + is.length) ∧ s[lc]? = some (.lst (c.map .str))) (fun _ _ _ => rfl) ⟨[], rfl, by simp, ⟨n + 3, D4, by simp⟩, hc4⟩ (by simp [intsY]; omega) (by
    rintro y hy acc s5 ⟨is, rfl, hi, ⟨m5, D5, hm5⟩, hc5⟩ hlt
    obtain ⟨i, _, rfl⟩ := List.mem_map.mp hy
    refine ⟨_, rfl, .inl ?_⟩
    have big5 : m5 < 90000 := by
      simp [intsY] at hlt
      omega
    obtain ⟨d, w, s6, e1, e2, e3, e4, e5⟩ := take_len D5.strm (by omega) hc5 D.pos (by have := D.len; omega) (ρ := [some (.loc 0), z1, some (.loc ls), some (.loc lc), z4, some (.int (i : Int))]) (a := eV 2) (b := eV 3) rfl rfl
    have hd := (List.getElem?_eq_some_iff.mp e2).1
    refine ⟨s5, .int d, s6, rfl, e1, is ++ [d], by simp, fun j hj => ?_, ⟨m5 + 1, D5.step e3 e4 (by omega), by simp; omega⟩, e4.get hc5 (by simpa using hlc)⟩
    rcases List.mem_append.mp hj with h | h
    · exact hi j h
    · rw [List.mem_singleton.mp h]
      exact hd)
  refine ⟨is, s5.length, _, h1, (D5.app).mono ?_, get_app hc5, get_new, hi, ?_, ?_⟩
  · simp [intsY] at hl5
    omega
  · simp [intsY] at hl5
    omega
  · exact D5.len
end
section
variable {s : Sto} {ns : List Int}
theorem law_turn {k : Nat} {z2 z3 z4 : Option W} (h : s[0]? = some (.rol (ns.map .int))) (hb : ∀ z ∈ ns, Builtin.Int.intBits z ≤ 1048576) (hk : k ≤ 1000) (hn : ns.length ≤ 63) :
    ∃ a b d s', (sSeq S_law_1 (sSeq S_law_2 (sSeq S_law_4 S_law_5))) [some (.loc 0), some (.int (k : Int)), z2, z3, z4, none] s = .nx [some (.loc 0), some (.int (k : Int)), a, b, d, none] s' ∧ s'[0]? = some (.rol (ns.map .int)) := by
  obtain ⟨z, c1, hz⟩ := cell_ok h hb hk hn
  obtain ⟨s1, q1, S1, k1, l1⟩ := stream_ok (st := s) hz
  have q1' : F__law_stream [.int z] s = .ok (.loc s.length) s1 := q1
  have h0 := lt_of_get h
  obtain ⟨c, lc, s2, q2, D2, g2, D, _, _, n2⟩ := drawn_ok S1 (by omega)
  have hlc : lc ≠ s.length := by omega
  obtain ⟨is, li, s3, q3, D3, g3, h3, hi, hl, n3⟩ := items_drawn (z1 := some (.int (k : Int))) (z4 := z4) (z5 := none) D D2 (by omega) g2 hlc
  obtain ⟨s4, q4, D4⟩ := right_ok D D3.strm (by omega) g3 hlc h3 hi hl
  have hli : li ≠ s.length := by omega
  obtain ⟨s5, q5, k5⟩ := refused_ok D D4.strm (by omega) (D4.keep.get g3 (by simpa using hlc)) (D4.keep.get h3 (by simpa using hli)) hi hl hlc hli
  refine ⟨some (.loc s.length), some (.loc lc), some (.loc li), s5, ?_, k5.get (D4.keep.get (D3.keep.get (k1.nil_get h) (by simp; omega)) (by simp; omega)) (by simp; omega)⟩
  generalize ((k : Nat) : Int) = kk at c1 q3 ⊢
  have q3' : L_law_3 [some (.loc 0), some (.int kk), some (.loc s.length), some (.loc lc), z4, none] s2 = .ok (.loc li) s3 := q3
  simp only [x_sSeq, S_law_1, S_law_2, S_law_4, S_law_5, x_sSet, x_eN, x_aCons, x_aNil, x_eV, List.getElem?_cons_zero, List.getElem?_cons_succ, R.bind_ok, c1, q1', q2, q3', q4, q5, R.toS_ok, List.set_cons_succ, List.set_cons_zero, RS.then_nx, x_sIf, x_bOr, x_bNot, x_bT, x_tru_bl, Bool.not_true, Bool.false_eq_true, if_false, x_sNop]
theorem holds : ∀ ns : List Int, ns.length ≤ 63 → (∀ z ∈ ns, Builtin.Int.intBits z ≤ 1048576) → ∃ st', F_law [.loc 0] [.rol (ns.map .int)] = .ok (.bl true) st' := by
  intro ns hn hb
  have hs0 : ([.rol (ns.map .int)] : Sto)[0]? = some (.rol (ns.map .int)) := rfl
  generalize ([.rol (ns.map .int)] : Sto) = s at hs0
  have hl : cLen [.loc 0] s = .ok (.int ns.length) s := by simp [cLen, hs0]
  obtain ⟨m, hm, hm2⟩ : ∃ m : Nat, (eN cMax2 (aCons (eC (.int 2)) (aCons (eN cMin2 (aCons (eC (.int 8)) (aCons (eN cLen (aCons (eV 0) aNil)) aNil))) aNil))) [some (.loc 0), none, none, none, none, none] s = .ok (.int (m : Int)) s ∧ m ≤ 100 := by
    have e1 : cMin2 [.int 8, .int (ns.length : Int)] s = .ok (.int (if (ns.length : Int) < 8 then (ns.length : Int) else 8)) s := rfl
    obtain ⟨j, hj, hj2⟩ : ∃ j : Nat, (if (ns.length : Int) < 8 then (ns.length : Int) else 8) = (j : Int) ∧ j ≤ 63 := by
      split
      · exact ⟨ns.length, rfl, hn⟩
      · exact ⟨8, rfl, by omega⟩
    rw [hj] at e1
    have e2 : cMax2 [.int 2, .int (j : Int)] s = .ok (.int (if (j : Int) > 2 then (j : Int) else 2)) s := rfl
    obtain ⟨m, hm, hm2⟩ : ∃ m : Nat, (if (j : Int) > 2 then (j : Int) else 2) = (m : Int) ∧ m ≤ 100 := by
      split
      · exact ⟨j, rfl, by omega⟩
      · exact ⟨2, rfl, by omega⟩
    rw [hm] at e2
    refine ⟨m, ?_, hm2⟩
    generalize ((ns.length : Nat) : Int) = z at hl e1
    simp only [x_eN, x_aCons, x_aNil, x_eC, x_eV, List.getElem?_cons_zero, R.bind_ok, hl, e1, e2]
  have hit := iRng1_ok hm (by omega) (by omega)
  rw [rng_ints] at hit
  have main := for_in (ck := []) (g := .nm 1) (b := sSeq S_law_1 (sSeq S_law_2 (sSeq S_law_4 S_law_5))) (fun ys ρ s2 => (∃ a1 a2 a3 a4, ρ = [some (.loc 0), a1, a2, a3, a4, none]) ∧ s2[0]? = some (.rol (ns.map .int)) ∧ ∀ y ∈ ys, ∃ k : Nat, k ≤ 1000 ∧ y = .v (.int k))
    (fun r => ∃ ρ s', r = .nx ρ s') (by
      rintro ys ρ s2 ⟨⟨a1, a2, a3, a4, rfl⟩, h2, hy⟩
      refine ⟨rfl, ?_⟩
      cases ys with
      | nil => exact ⟨_, s2, rfl⟩
      | cons y ys =>
        obtain ⟨k, hk, rfl⟩ := hy _ List.mem_cons_self
        obtain ⟨a, b, d, s3, t1, t2⟩ := law_turn (k := k) (z2 := a2) (z3 := a3) (z4 := a4) h2 hb hk hn
        exact ⟨_, rfl, .inl ⟨_, s3, .inl t1, ⟨_, _, _, _, rfl⟩, t2, fun y hy' => hy y (List.mem_cons_of_mem _ hy')⟩⟩)
    (intsY m) [some (.loc 0), none, none, none, none, none] s ⟨⟨_, _, _, _, rfl⟩, hs0, fun y hy => by
      obtain ⟨i, hi, rfl⟩ := List.mem_map.mp hy
      exact ⟨i, by have := List.mem_range.mp hi; omega, rfl⟩⟩
  obtain ⟨ρ, s', hfor⟩ := main
  refine ⟨s', ?_⟩
  have p : S_law_6 [some (.loc 0), none, none, none, none, none] s = .nx ρ s' := by
    unfold S_law_6 sFor
    rw [hit, R.toS_ok]
    exact hfor
  unfold F_law dfn
  rw [if_pos (show [W.loc 0].length = 1 from rfl), show (List.map some [W.loc 0] ++ List.replicate (6 - 1) none) = [some (W.loc 0), none, none, none, none, none] from rfl]
  simp only [B_law, x_sSeq, p, RS.then_nx, x_sRet, x_eC, R.toS_ok, RS.fin_rt]
end
end k82

set_option Elab.async false
set_option linter.all false
set_option maxRecDepth 100000
set_option maxHeartbeats 0
/-! law_k82_items_as_bits: the head and the end. Printed by gen.py. -/
namespace k82
open PySem L2 Mi
set_option autoImplicit false
def fx : List Fx := [sysB, faB (.free "all"), faB (.free "any"), faB (.free "bool"), faB (.free "dict"), faB (.free "enumerate"), faB (.free "int"), faB (.free "isinstance"), faB (.free "len"), faB (.free "list"), faB (.free "max"), faB (.free "min"), faB (.free "range"), faB (.free "repr"), faB (.free "str"), faB (.free "tuple"), faB (.int "MOST_ITEMS" 40), faB (.int "MOST_LENGTH" 60), faB (.glo "is_whole"), faB (.glo "is_bits"), faB (.glo "is_code"), faB (.glo "need_code"), faB (.glo "bits_of"), faB (.glo "item_at"), faB (.glo "read_items"), faB (.glo "_law_cell"), faB (.glo "_law_stream"), faB (.glo "_law_take"), faB (.glo "_law_is"), faB (.glo "_law_very"), faB (.glo "_law_is_code"), faB (.glo "_law_drawn"), faB (.glo "_law_read"), faB (.glo "_law_asked"), faB (.glo "_law_right"), faB (.glo "_law_odd_text"), faB (.glo "_law_refused_right"), faB (.glo "law"), bafB "RowsError", exfB "NoCode" "given", exfB "NoBits" "given", faB (.glo "NoBits"), exmB "NoCode" "NoBits" false, exmB "NoBits" "NoBits" true, faB (.glo "NoCode"), exmB "NoCode" "NoCode" true, exmB "NoBits" "NoCode" false, faB (.glo "RowsError"), exmB "NoCode" "RowsError" true, exmB "NoBits" "RowsError" true]
def fn : List He.DefD := [⟨("is_whole", none), "is_whole", "is_whole", defArgs (top 5), defBody (top 5), defScope (top 5), [], []⟩,
  ⟨("is_bits", none), "is_bits", "is_bits", defArgs (top 9), defBody (top 9), defScope (top 9), [], []⟩,
  ⟨("is_code", none), "is_code", "is_code", defArgs (top 10), defBody (top 10), defScope (top 10), [], []⟩,
  ⟨("need_code", none), "need_code", "need_code", defArgs (top 11), defBody (top 11), defScope (top 11), [], []⟩,
  ⟨("bits_of", none), "bits_of", "bits_of", defArgs (top 12), defBody (top 12), defScope (top 12), [], []⟩,
  ⟨("item_at", none), "item_at", "item_at", defArgs (top 13), defBody (top 13), defScope (top 13), [], []⟩,
  ⟨("read_items", none), "read_items", "read_items", defArgs (top 14), defBody (top 14), defScope (top 14), [], []⟩,
  ⟨("_law_cell", none), "_law_cell", "_law_cell", defArgs (top 16), defBody (top 16), defScope (top 16), [], []⟩,
  ⟨("_law_stream", none), "_law_stream", "_law_stream", defArgs (top 17), defBody (top 17), defScope (top 17), [], []⟩,
  ⟨("_law_take", none), "_law_take", "_law_take", defArgs (top 18), defBody (top 18), defScope (top 18), [], []⟩,
  ⟨("_law_is", none), "_law_is", "_law_is", defArgs (top 19), defBody (top 19), defScope (top 19), [], []⟩,
  ⟨("_law_very", none), "_law_very", "_law_very", defArgs (top 20), defBody (top 20), defScope (top 20), [], []⟩,
  ⟨("_law_is_code", none), "_law_is_code", "_law_is_code", defArgs (top 21), defBody (top 21), defScope (top 21), [], []⟩,
  ⟨("_law_drawn", none), "_law_drawn", "_law_drawn", defArgs (top 22), defBody (top 22), defScope (top 22), [], []⟩,
  ⟨("_law_read", none), "_law_read", "_law_read", defArgs (top 23), defBody (top 23), defScope (top 23), [], []⟩,
  ⟨("_law_asked", none), "_law_asked", "_law_asked", defArgs (top 24), defBody (top 24), defScope (top 24), [], []⟩,
  ⟨("_law_right", none), "_law_right", "_law_right", defArgs (top 25), defBody (top 25), defScope (top 25), [], []⟩,
  ⟨("_law_odd_text", none), "_law_odd_text", "_law_odd_text", defArgs (top 27), defBody (top 27), defScope (top 27), [], []⟩,
  ⟨("_law_refused_right", none), "_law_refused_right", "_law_refused_right", defArgs (top 26), defBody (top 26), defScope (top 26), [], []⟩,
  ⟨("law", none), "law", "law", defArgs (top 28), defBody (top 28), defScope (top 28), [], []⟩,
  ⟨("NoCode", some "__init__"), "__init__", "NoCode.__init__", defArgs (inC (top 2) 0), defBody (inC (top 2) 0), defScope (inC (top 2) 0), [], []⟩,
  ⟨("NoBits", some "__init__"), "__init__", "NoBits.__init__", defArgs (inC (top 3) 0), defBody (inC (top 3) 0), defScope (inC (top 3) 0), [], []⟩]
abbrev RW : PySem.W.OpenRow := PySem.W.OpenLaw.row PySem.Challenge.rw_rowsjoined_k82_items_as_bits
abbrev hk : PySem.W.Hook := hookM 5 fx fn
def ob (s : PySem.W.SharedT) : He.AlD := obsM fx fn (frM 5 (HandSHeadRun.getT s))
theorem ob_eq (s : PySem.W.SharedT) : ob s = hk.obs s.abs := hookM_eq (HandSHeadRun.getT_eq s)
def loose : List PySem.Str := ["RowsError", "NoCode", "NoBits", "is_whole", "MOST_ITEMS", "MOST_LENGTH", "is_bits", "is_code", "need_code", "bits_of", "item_at", "read_items", "_law_cell", "_law_stream", "_law_take", "_law_is", "_law_very", "_law_is_code", "_law_drawn", "_law_read", "_law_asked", "_law_right", "_law_refused_right", "_law_odd_text"]
theorem run (w : World) : HandSHeadRun.RunEq RW (PySem.W.view RW.prog [28]) hk ob 4000 loose w := by
  intro os
  kernel_rfl
def caOf (K : PySem.W.Frag) : Ca := ⟨fun i => ([He.ga K "NoCode", He.ga K "NoBits"] : List Addr)[i]?, []⟩
theorem en_of {P : Program} {w : World} {K : PySem.W.Frag} {mg : Str → Option Value} {base h : Heap} (X : K.In h) (G : h.Ns mainGlobals mg) (c : SaysM fx fn K) : En P w K mg base (caOf K) where
  sys := c.fact 0 (f := sysB) rfl
  b_all := He.free_ok X G (c.fact 1 (f := faB (.free "all")) rfl)
  b_any := He.free_ok X G (c.fact 2 (f := faB (.free "any")) rfl)
  b_bool := He.free_ok X G (c.fact 3 (f := faB (.free "bool")) rfl)
  b_dict := He.free_ok X G (c.fact 4 (f := faB (.free "dict")) rfl)
  b_enumerate := He.free_ok X G (c.fact 5 (f := faB (.free "enumerate")) rfl)
  b_int := He.free_ok X G (c.fact 6 (f := faB (.free "int")) rfl)
  b_isinstance := He.free_ok X G (c.fact 7 (f := faB (.free "isinstance")) rfl)
  b_len := He.free_ok X G (c.fact 8 (f := faB (.free "len")) rfl)
  b_list := He.free_ok X G (c.fact 9 (f := faB (.free "list")) rfl)
  b_max := He.free_ok X G (c.fact 10 (f := faB (.free "max")) rfl)
  b_min := He.free_ok X G (c.fact 11 (f := faB (.free "min")) rfl)
  b_range := He.free_ok X G (c.fact 12 (f := faB (.free "range")) rfl)
  b_repr := He.free_ok X G (c.fact 13 (f := faB (.free "repr")) rfl)
  b_str := He.free_ok X G (c.fact 14 (f := faB (.free "str")) rfl)
  b_tuple := He.free_ok X G (c.fact 15 (f := faB (.free "tuple")) rfl)
  c_MOST_ITEMS := He.int_ok X G (c.fact 16 (f := faB (.int "MOST_ITEMS" 40)) rfl)
  c_MOST_LENGTH := He.int_ok X G (c.fact 17 (f := faB (.int "MOST_LENGTH" 60)) rfl)
  f_is_whole := by
    obtain ⟨fd, F⟩ := c.def_ 0 (d := ⟨("is_whole", none), "is_whole", "is_whole", defArgs (top 5), defBody (top 5), defScope (top 5), [], []⟩) rfl
    exact ⟨_, fd, He.glo_ok X G (c.fact 18 (f := faB (.glo "is_whole")) rfl), F⟩
  f_is_bits := by
    obtain ⟨fd, F⟩ := c.def_ 1 (d := ⟨("is_bits", none), "is_bits", "is_bits", defArgs (top 9), defBody (top 9), defScope (top 9), [], []⟩) rfl
    exact ⟨_, fd, He.glo_ok X G (c.fact 19 (f := faB (.glo "is_bits")) rfl), F⟩
  f_is_code := by
    obtain ⟨fd, F⟩ := c.def_ 2 (d := ⟨("is_code", none), "is_code", "is_code", defArgs (top 10), defBody (top 10), defScope (top 10), [], []⟩) rfl
    exact ⟨_, fd, He.glo_ok X G (c.fact 20 (f := faB (.glo "is_code")) rfl), F⟩
  f_need_code := by
    obtain ⟨fd, F⟩ := c.def_ 3 (d := ⟨("need_code", none), "need_code", "need_code", defArgs (top 11), defBody (top 11), defScope (top 11), [], []⟩) rfl
    exact ⟨_, fd, He.glo_ok X G (c.fact 21 (f := faB (.glo "need_code")) rfl), F⟩
  f_bits_of := by
    obtain ⟨fd, F⟩ := c.def_ 4 (d := ⟨("bits_of", none), "bits_of", "bits_of", defArgs (top 12), defBody (top 12), defScope (top 12), [], []⟩) rfl
    exact ⟨_, fd, He.glo_ok X G (c.fact 22 (f := faB (.glo "bits_of")) rfl), F⟩
  f_item_at := by
    obtain ⟨fd, F⟩ := c.def_ 5 (d := ⟨("item_at", none), "item_at", "item_at", defArgs (top 13), defBody (top 13), defScope (top 13), [], []⟩) rfl
    exact ⟨_, fd, He.glo_ok X G (c.fact 23 (f := faB (.glo "item_at")) rfl), F⟩
  f_read_items := by
    obtain ⟨fd, F⟩ := c.def_ 6 (d := ⟨("read_items", none), "read_items", "read_items", defArgs (top 14), defBody (top 14), defScope (top 14), [], []⟩) rfl
    exact ⟨_, fd, He.glo_ok X G (c.fact 24 (f := faB (.glo "read_items")) rfl), F⟩
  f__law_cell := by
    obtain ⟨fd, F⟩ := c.def_ 7 (d := ⟨("_law_cell", none), "_law_cell", "_law_cell", defArgs (top 16), defBody (top 16), defScope (top 16), [], []⟩) rfl
    exact ⟨_, fd, He.glo_ok X G (c.fact 25 (f := faB (.glo "_law_cell")) rfl), F⟩
  f__law_stream := by
    obtain ⟨fd, F⟩ := c.def_ 8 (d := ⟨("_law_stream", none), "_law_stream", "_law_stream", defArgs (top 17), defBody (top 17), defScope (top 17), [], []⟩) rfl
    exact ⟨_, fd, He.glo_ok X G (c.fact 26 (f := faB (.glo "_law_stream")) rfl), F⟩
  f__law_take := by
    obtain ⟨fd, F⟩ := c.def_ 9 (d := ⟨("_law_take", none), "_law_take", "_law_take", defArgs (top 18), defBody (top 18), defScope (top 18), [], []⟩) rfl
    exact ⟨_, fd, He.glo_ok X G (c.fact 27 (f := faB (.glo "_law_take")) rfl), F⟩
  f__law_is := by
    obtain ⟨fd, F⟩ := c.def_ 10 (d := ⟨("_law_is", none), "_law_is", "_law_is", defArgs (top 19), defBody (top 19), defScope (top 19), [], []⟩) rfl
    exact ⟨_, fd, He.glo_ok X G (c.fact 28 (f := faB (.glo "_law_is")) rfl), F⟩
  f__law_very := by
    obtain ⟨fd, F⟩ := c.def_ 11 (d := ⟨("_law_very", none), "_law_very", "_law_very", defArgs (top 20), defBody (top 20), defScope (top 20), [], []⟩) rfl
    exact ⟨_, fd, He.glo_ok X G (c.fact 29 (f := faB (.glo "_law_very")) rfl), F⟩
  f__law_is_code := by
    obtain ⟨fd, F⟩ := c.def_ 12 (d := ⟨("_law_is_code", none), "_law_is_code", "_law_is_code", defArgs (top 21), defBody (top 21), defScope (top 21), [], []⟩) rfl
    exact ⟨_, fd, He.glo_ok X G (c.fact 30 (f := faB (.glo "_law_is_code")) rfl), F⟩
  f__law_drawn := by
    obtain ⟨fd, F⟩ := c.def_ 13 (d := ⟨("_law_drawn", none), "_law_drawn", "_law_drawn", defArgs (top 22), defBody (top 22), defScope (top 22), [], []⟩) rfl
    exact ⟨_, fd, He.glo_ok X G (c.fact 31 (f := faB (.glo "_law_drawn")) rfl), F⟩
  f__law_read := by
    obtain ⟨fd, F⟩ := c.def_ 14 (d := ⟨("_law_read", none), "_law_read", "_law_read", defArgs (top 23), defBody (top 23), defScope (top 23), [], []⟩) rfl
    exact ⟨_, fd, He.glo_ok X G (c.fact 32 (f := faB (.glo "_law_read")) rfl), F⟩
  f__law_asked := by
    obtain ⟨fd, F⟩ := c.def_ 15 (d := ⟨("_law_asked", none), "_law_asked", "_law_asked", defArgs (top 24), defBody (top 24), defScope (top 24), [], []⟩) rfl
    exact ⟨_, fd, He.glo_ok X G (c.fact 33 (f := faB (.glo "_law_asked")) rfl), F⟩
  f__law_right := by
    obtain ⟨fd, F⟩ := c.def_ 16 (d := ⟨("_law_right", none), "_law_right", "_law_right", defArgs (top 25), defBody (top 25), defScope (top 25), [], []⟩) rfl
    exact ⟨_, fd, He.glo_ok X G (c.fact 34 (f := faB (.glo "_law_right")) rfl), F⟩
  f__law_odd_text := by
    obtain ⟨fd, F⟩ := c.def_ 17 (d := ⟨("_law_odd_text", none), "_law_odd_text", "_law_odd_text", defArgs (top 27), defBody (top 27), defScope (top 27), [], []⟩) rfl
    exact ⟨_, fd, He.glo_ok X G (c.fact 35 (f := faB (.glo "_law_odd_text")) rfl), F⟩
  f__law_refused_right := by
    obtain ⟨fd, F⟩ := c.def_ 18 (d := ⟨("_law_refused_right", none), "_law_refused_right", "_law_refused_right", defArgs (top 26), defBody (top 26), defScope (top 26), [], []⟩) rfl
    exact ⟨_, fd, He.glo_ok X G (c.fact 36 (f := faB (.glo "_law_refused_right")) rfl), F⟩
  f_law := by
    obtain ⟨fd, F⟩ := c.def_ 19 (d := ⟨("law", none), "law", "law", defArgs (top 28), defBody (top 28), defScope (top 28), [], []⟩) rfl
    exact ⟨_, fd, He.glo_ok X G (c.fact 37 (f := faB (.glo "law")) rfl), F⟩
  x_NoCode := by
    obtain ⟨fd, F⟩ := c.def_ 20 (d := ⟨("NoCode", some "__init__"), "__init__", "NoCode.__init__", defArgs (inC (top 2) 0), defBody (inC (top 2) 0), defScope (inC (top 2) 0), [], []⟩) rfl
    have T := exfB_ok X G (c.fact 39 (f := exfB "NoCode" "given") rfl)
    have TB := bafB_ok X G (c.fact 38 (f := bafB "RowsError") rfl)
    exact ⟨_, _, fd, T, rfl, ex_init T TB F ⟨rfl, rfl, rfl, by decide +kernel, rfl, by decide +kernel, by decide +kernel⟩ rfl (fun X ta hg T ha => pe_bainit hg T ha) (by decide) (by decide), F.bindsN fun _ _ _ _ _ _ us hl => match us, hl with | [_, _], _ => rfl⟩
  x_NoBits := by
    obtain ⟨fd, F⟩ := c.def_ 21 (d := ⟨("NoBits", some "__init__"), "__init__", "NoBits.__init__", defArgs (inC (top 3) 0), defBody (inC (top 3) 0), defScope (inC (top 3) 0), [], []⟩) rfl
    have T := exfB_ok X G (c.fact 40 (f := exfB "NoBits" "given") rfl)
    have TB := bafB_ok X G (c.fact 38 (f := bafB "RowsError") rfl)
    exact ⟨_, _, fd, T, rfl, ex_init T TB F ⟨rfl, rfl, rfl, by decide +kernel, rfl, by decide +kernel, by decide +kernel⟩ rfl (fun X ta hg T ha => pe_bainit hg T ha) (by decide) (by decide), F.bindsN fun _ _ _ _ _ _ us hl => match us, hl with | [_, _], _ => rfl⟩
  y_NoBits := by
    refine ⟨_, He.glo_ok X G (c.fact 41 (f := faB (.glo "NoBits")) rfl), fun i C h => ?_⟩
    match i, h with
    | 0, h =>
      cases h
      exact of_decide_eq_true (c.fact 42 (f := exmB "NoCode" "NoBits" false) rfl)
    | 1, h =>
      cases h
      exact of_decide_eq_true (c.fact 43 (f := exmB "NoBits" "NoBits" true) rfl)
    | i + 2, h => cases h
  y_NoCode := by
    refine ⟨_, He.glo_ok X G (c.fact 44 (f := faB (.glo "NoCode")) rfl), fun i C h => ?_⟩
    match i, h with
    | 0, h =>
      cases h
      exact of_decide_eq_true (c.fact 45 (f := exmB "NoCode" "NoCode" true) rfl)
    | 1, h =>
      cases h
      exact of_decide_eq_true (c.fact 46 (f := exmB "NoBits" "NoCode" false) rfl)
    | i + 2, h => cases h
  y_RowsError := by
    refine ⟨_, He.glo_ok X G (c.fact 47 (f := faB (.glo "RowsError")) rfl), fun i C h => ?_⟩
    match i, h with
    | 0, h =>
      cases h
      exact of_decide_eq_true (c.fact 48 (f := exmB "NoCode" "RowsError" true) rfl)
    | 1, h =>
      cases h
      exact of_decide_eq_true (c.fact 49 (f := exmB "NoBits" "RowsError" true) rfl)
    | i + 2, h => cases h
end k82
open PySem PySem.W PySem.Calls PyProof.Rows
theorem PySem.Challenge.cw_rowsjoined_k82_items_as_bits_holds : PySem.Challenge.rw_rowsjoined_k82_items_as_bits.Holds := by
  w_on; o_law
  refine HandSHeadRun.head_any (r := OpenLaw.row PySem.Challenge.rw_rowsjoined_k82_items_as_bits) (q := view (OpenLaw.row PySem.Challenge.rw_rowsjoined_k82_items_as_bits).prog [28]) (H := k82.hk) (ob := k82.ob) (M := 4000) (loose := k82.loose) (d := HandSHeadRun.topDef (OpenLaw.row PySem.Challenge.rw_rowsjoined_k82_items_as_bits).prog 28) (kwd := []) k82.ob_eq
    (by kernel_rfl) (fun s => by kernel_rfl) k82.run (by kernel_rfl) (by kernel_rfl) (by kernel_rfl) (by rfl) (by first | assumption | decide +kernel) (by decide +kernel) ⟨rfl, rfl, rfl, rfl, rfl, by decide +kernel⟩ ?hw ?hc
  case hw => w_witness2
  case hc =>
    refine Mi.walk_M (l := PySem.Challenge.rw_rowsjoined_k82_items_as_bits) (n := 63) (k := 43) (x := "script") (F := k82.F_law) rfl (by decide) (by kernel_rfl) ⟨rfl, by decide, by decide⟩ k82.holds ?F
    intro w mg fa h Y G hmg0
    obtain ⟨K, KX, nl, c⟩ := Y
    exact ⟨K, k82.caOf K, k82.d_law, KX, nl, rfl, rfl, by kernel_rfl, (fun _ _ _ _ _ _ us hl => match us, hl with | [_], _ => rfl), fun base _ _ => k82.ok_law (k82.en_of KX G c)⟩

