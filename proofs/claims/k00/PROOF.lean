import PyProof.Rows.All
import HandS.ForMost
import HandS.AnyAll
import HandS.TupMul
import HandS.TupAny
import HandS.Deep
import HandS.Style
import HandS.IsInst
import HandS.Flow
import HandS.Rev
import HandS.NoneIn
import HandS.Defaults
import HandS.Iter
import KE.GoesEnum
import KE.GoesZip
import HandS.Comp
import HandS.GenList
import PyProof.TupleOfGen
import PyProof.WalkInts
import KE.KStateDown
import HandS.Head0
import HandS.Head1
import HandS.Head2
import HandS.HeadEnd
import HandS.HeadHook1
import HandS.HeadHook2
import HandS.HeadHook3
import HandS.HeadHook4
import HandS.HeadWalk
import PySem.Challenge.RW_playsense_k00_kinds_and_their_places
set_option Elab.async false
set_option linter.all false
set_option maxRecDepth 100000
namespace G
open PySem

/-- pure data: what has no identity -/
inductive D where
  | non | bl (b : Bool) | int (i : Int) | str (s : Str) | tup (ds : List D) | lst (ds : List D) | dic (kvs : List (D × D))
  deriving Inhabited
/-- what a field may hold -/
inductive At where
  | d (x : D) | l (xs : List D) | m (kvs : List (D × D))
  deriving Inhabited
/-- what a slot may hold: a datum, an owned list, an owned dict, an instance -/
inductive Vl where
  | a (x : At) | o (C : Nat) (fs : List (Str × At))
  deriving Inhabited
abbrev Vl.d (x : D) : Vl := .a (.d x)
abbrev Vl.l (xs : List D) : Vl := .a (.l xs)
abbrev Vl.m (kvs : List (D × D)) : Vl := .a (.m kvs)
abbrev Loc := List (Option Vl)

inductive Res (α : Type) where
  | ok (a : α) | exc (C : Nat) (as : List D) | no
def Res.bind {α β : Type} : Res α → (α → Res β) → Res β
  | .ok a, f => f a
  | .exc C as, _ => .exc C as
  | .no, _ => .no
instance : Monad Res where
  pure := .ok
  bind := Res.bind
def Res.map' {α β : Type} (f : α → β) (r : Res α) : Res β := r.bind fun a => .ok (f a)

/-- operands: a value, a slot, a field of the instance in a slot -/
inductive Opd where
  | v (x : Vl) | p (i : Nat) | q (i : Nat) (f : Str)
def At.frz : At → D
  | .d x => x
  | .l xs => .lst xs
  | .m kvs => .dic kvs
def putA (f : Str) (x : At) : List (Str × At) → List (Str × At)
  | [] => [(f, x)]
  | (g, y) :: r => if g = f then (g, x) :: r else (g, y) :: putA f x r
def gets (c : Loc) (i : Nat) : Res Vl := match c[i]? with
  | some (some v) => .ok v
  | _ => .no
def getF (c : Loc) (i : Nat) (f : Str) : Res At := match c[i]? with
  | some (some (.o _ fs)) => (match fs.lookup f with | some a => .ok a | none => .no)
  | _ => .no
def setF (c : Loc) (i : Nat) (f : Str) (x : At) : Res Loc := match c[i]? with
  | some (some (.o C fs)) => if fs.length < 900 then .ok (c.set i (some (.o C (putA f x fs)))) else .no
  | _ => .no
def evLoc (i : Nat) (c : Loc) : Res (Opd × Loc) := match c[i]? with
  | some (some (.a (.d x))) => .ok (.v (.d x), c)
  | some (some _) => .ok (.p i, c)
  | _ => .no
def evFld (i : Nat) (f : Str) (c : Loc) : Res (Opd × Loc) := match getF c i f with
  | .ok (.d x) => .ok (.v (.d x), c)
  | .ok _ => .ok (.q i f, c)
  | _ => .no
/-- the content of an operand -/
def rdO (o : Opd) (c : Loc) : Res Vl := match o with
  | .v x => .ok x
  | .p i => gets c i
  | .q i f => (match getF c i f with | .ok a => .ok (.a a) | _ => .no)
def rdA (o : Opd) (c : Loc) : Res At := match rdO o c with
  | .ok (.a x) => .ok x
  | _ => .no
/-- an operand as a datum: what is owned is frozen -/
def toD (o : Opd) (c : Loc) : Res (D × Loc) := match o with
  | .v (.a x) => .ok (x.frz, c)
  | .v (.o _ _) => .no
  | .p i => (match gets c i with | .ok (.a x) => .ok (x.frz, c.set i (some (.d x.frz))) | _ => .no)
  | .q i f => (match getF c i f with | .ok x => (match setF c i f (.d x.frz) with | .ok c' => .ok (x.frz, c') | _ => .no) | _ => .no)
/-- an owned list changed -/
def putO (o : Opd) (xs : List D) (c : Loc) : Res Loc := match o with
  | .p i => .ok (c.set i (some (.l xs)))
  | .q i f => setF c i f (.l xs)
  | .v _ => .no
def toDs : List Opd → Loc → Res (List D × Loc)
  | [], c => .ok ([], c)
  | o :: os, c => (toD o c).bind fun (x, c1) => (toDs os c1).bind fun (xs, c2) => .ok (x :: xs, c2)
/-- a temporary keeps what it owns, a place is frozen -/
def toV (o : Opd) (c : Loc) : Res (Vl × Loc) := match o with
  | .v x => .ok (x, c)
  | o => (toD o c).bind fun (x, c1) => .ok (.d x, c1)

/-! ### operations on values -/
inductive BOp where
  | add | sub | mul | fdiv | mod | pow
inductive COp where
  | eq | ne | lt | le | gt | ge | isin | notin
inductive Blt where
  | len | int | str | isI | isB | isT | isS | isL | max2 | tup | lst | sum | sorted | dict | all | any | set | maxs | trev
inductive Mut where
  | append | extend | pop | remove | setdefault
inductive Mrd where
  | index | count | get
inductive GK where
  | tup | all | any | sum | max | sorted | lst

def isOk {α : Type} (o : Option α) : Res α := match o with
  | some a => .ok a
  | none => .no
def gd (b : Bool) : Res Unit := if b then .ok () else .no
mutual
def D.py : D → PyData
  | .non => .none
  | .bl b => .bool b
  | .int i => .int i
  | .str s => .str s
  | .tup ds => .tuple (D.pys ds)
  | .lst ds => .list (D.pys ds)
  | .dic _ => .dict []
def D.pys : List D → List PyData
  | [] => []
  | d :: ds => d.py :: D.pys ds
end
def D.ok (d : D) : Bool := SeqAt.shaped d.py
def At.seq? : At → Option (List D)
  | .d (.lst xs) => some xs
  | .d (.tup xs) => some xs
  | .l xs => some xs
  | _ => none
mutual
def D.beq : D → D → Bool
  | .non, .non => true
  | .bl a, .bl b => a == b
  | .int a, .int b => a == b
  | .str a, .str b => decide (a = b)
  | .tup a, .tup b => D.beqs a b
  | .lst a, .lst b => D.beqs a b
  | _, _ => false
def D.beqs : List D → List D → Bool
  | [], [] => true
  | a :: as, b :: bs => a.beq b && D.beqs as bs
  | _, _ => false
end
mutual
theorem D.beq_eq : ∀ {a b : D}, a.beq b = true → a = b
  | .non, .non, _ => rfl
  | .bl a, .bl b, h => by unfold D.beq at h; simp at h; rw [h]
  | .int a, .int b, h => by unfold D.beq at h; simp at h; rw [h]
  | .str a, .str b, h => by unfold D.beq at h; simp at h; rw [h]
  | .tup a, .tup b, h => by unfold D.beq at h; rw [D.beqs_eq h]
  | .lst a, .lst b, h => by unfold D.beq at h; rw [D.beqs_eq h]
  | .dic _, b, h => by cases b <;> simp [D.beq] at h
  | .non, .bl _, h => by simp [D.beq] at h
  | .non, .int _, h => by simp [D.beq] at h
  | .non, .str _, h => by simp [D.beq] at h
  | .non, .tup _, h => by simp [D.beq] at h
  | .non, .lst _, h => by simp [D.beq] at h
  | .non, .dic _, h => by simp [D.beq] at h
  | .bl _, .non, h => by simp [D.beq] at h
  | .bl _, .int _, h => by simp [D.beq] at h
  | .bl _, .str _, h => by simp [D.beq] at h
  | .bl _, .tup _, h => by simp [D.beq] at h
  | .bl _, .lst _, h => by simp [D.beq] at h
  | .bl _, .dic _, h => by simp [D.beq] at h
  | .int _, .non, h => by simp [D.beq] at h
  | .int _, .bl _, h => by simp [D.beq] at h
  | .int _, .str _, h => by simp [D.beq] at h
  | .int _, .tup _, h => by simp [D.beq] at h
  | .int _, .lst _, h => by simp [D.beq] at h
  | .int _, .dic _, h => by simp [D.beq] at h
  | .str _, .non, h => by simp [D.beq] at h
  | .str _, .bl _, h => by simp [D.beq] at h
  | .str _, .int _, h => by simp [D.beq] at h
  | .str _, .tup _, h => by simp [D.beq] at h
  | .str _, .lst _, h => by simp [D.beq] at h
  | .str _, .dic _, h => by simp [D.beq] at h
  | .tup _, .non, h => by simp [D.beq] at h
  | .tup _, .bl _, h => by simp [D.beq] at h
  | .tup _, .int _, h => by simp [D.beq] at h
  | .tup _, .str _, h => by simp [D.beq] at h
  | .tup _, .lst _, h => by simp [D.beq] at h
  | .tup _, .dic _, h => by simp [D.beq] at h
  | .lst _, .non, h => by simp [D.beq] at h
  | .lst _, .bl _, h => by simp [D.beq] at h
  | .lst _, .int _, h => by simp [D.beq] at h
  | .lst _, .str _, h => by simp [D.beq] at h
  | .lst _, .tup _, h => by simp [D.beq] at h
  | .lst _, .dic _, h => by simp [D.beq] at h
theorem D.beqs_eq : ∀ {a b : List D}, D.beqs a b = true → a = b
  | [], [], _ => rfl
  | a :: as, b :: bs, h => by
    unfold D.beqs at h
    rw [Bool.and_eq_true] at h
    rw [D.beq_eq h.1, D.beqs_eq h.2]
  | [], _ :: _, h => by simp [D.beqs] at h
  | _ :: _, [], h => by simp [D.beqs] at h
end
/-! no dict in it -/
mutual
def D.nd : D → Bool
  | .dic _ => false
  | .tup a => D.nds a
  | .lst a => D.nds a
  | _ => true
def D.nds : List D → Bool
  | [] => true
  | a :: as => a.nd && D.nds as
end
mutual
theorem D.beq_refl : ∀ {a : D}, a.nd = true → a.beq a = true
  | .non, _ => by simp [D.beq]
  | .bl _, _ => by simp [D.beq]
  | .int _, _ => by simp [D.beq]
  | .str _, _ => by simp [D.beq]
  | .tup a, h => by unfold D.nd at h; unfold D.beq; exact D.beqs_refl h
  | .lst a, h => by unfold D.nd at h; unfold D.beq; exact D.beqs_refl h
  | .dic _, h => by simp [D.nd] at h
theorem D.beqs_refl : ∀ {a : List D}, D.nds a = true → D.beqs a a = true
  | [], _ => by simp [D.beqs]
  | a :: as, h => by
    unfold D.nds at h
    rw [Bool.and_eq_true] at h
    unfold D.beqs
    rw [Bool.and_eq_true]
    exact ⟨D.beq_refl h.1, D.beqs_refl h.2⟩
end
def smallI : Int → Bool
  | .ofNat n => Nat.ble (n + 1) 18446744073709551616
  | .negSucc n => Nat.ble (n + 2) 18446744073709551616
theorem smallI_ok : ∀ {i : Int}, smallI i = true → -(2 ^ 64) < i ∧ i < 2 ^ 64
  | .ofNat n, h => by
    have h := Nat.le_of_ble_eq_true h
    simp only [Int.ofNat_eq_natCast]
    omega
  | .negSucc n, h => by
    have h := Nat.le_of_ble_eq_true h
    omega
def fits (n : Nat) : Bool := decide (n ≤ 16777216)
def bop : BOp → At → At → Res At
  | .add, .d (.int i), .d (.int j) => .ok (.d (.int (i + j)))
  | .add, .d (.str x), .d (.str y) => (gd (fits (x.length + y.length))).bind fun _ => .ok (.d (.str (x ++ y)))
  | .add, .d (.tup xs), .d (.tup ys) => (gd (fits (xs.length + ys.length))).bind fun _ => .ok (.d (.tup (xs ++ ys)))
  | .add, .l xs, .l ys => (gd (fits (xs.length + ys.length))).bind fun _ => .ok (.l (xs ++ ys))
  | .add, .d (.lst xs), .l ys => (gd (fits (xs.length + ys.length))).bind fun _ => .ok (.l (xs ++ ys))
  | .add, .l xs, .d (.lst ys) => (gd (fits (xs.length + ys.length))).bind fun _ => .ok (.l (xs ++ ys))
  | .add, .d (.lst xs), .d (.lst ys) => (gd (fits (xs.length + ys.length))).bind fun _ => .ok (.l (xs ++ ys))
  | .sub, .d (.int i), .d (.int j) => .ok (.d (.int (i - j)))
  | .mul, .d (.int i), .d (.int j) => (gd (smallI i || smallI j)).bind fun _ => .ok (.d (.int (i * j)))
  | .mul, .d (.tup xs), .d (.int j) => (gd (decide (2 ≤ j) && decide (j ≤ 1000) && decide (xs.length ≤ 1000))).bind fun _ => .ok (.d (.tup (List.replicate j.toNat xs).flatten))
  | .mul, .l xs, .d (.int j) => (gd (decide (0 ≤ j) && decide (j ≤ 1000) && decide (xs.length ≤ 1000))).bind fun _ => .ok (.l (List.replicate j.toNat xs).flatten)
  | .fdiv, .d (.int i), .d (.int j) => (gd (decide (0 < j) && decide (j < 1073741824))).bind fun _ => .ok (.d (.int (i / j)))
  | .mod, .d (.int i), .d (.int j) => (gd (decide (0 < j))).bind fun _ => .ok (.d (.int (i % j)))
  | .pow, .d (.int i), .d (.int j) => (gd (decide (0 ≤ j) && decide (j ≤ 1000) && decide (i.natAbs < 2 ^ 64))).bind fun _ => .ok (.d (.int (i ^ j.toNat)))
  | _, _, _ => .no
def lexI : List Int → List Int → Bool := HT.lexLt
def D.int? : D → Option Int
  | .int i => some i
  | _ => none
/-- x in xs, for scalar x and scalar items or data -/
def memD (x : D) (xs : List D) : Bool := xs.any fun y => PyData.eqv y.py x.py
def cop : COp → At → At → Res Bool
  | .eq, x, y => (gd (x.frz.ok && y.frz.ok)).bind fun _ => .ok (PyData.eqv x.frz.py y.frz.py)
  | .ne, x, y => (gd (x.frz.ok && y.frz.ok)).bind fun _ => .ok (!PyData.eqv x.frz.py y.frz.py)
  | .lt, .d (.int i), .d (.int j) => .ok (decide (i < j))
  | .le, .d (.int i), .d (.int j) => .ok (decide (i ≤ j))
  | .gt, .d (.int i), .d (.int j) => .ok (decide (j < i))
  | .ge, .d (.int i), .d (.int j) => .ok (decide (j ≤ i))
  | .isin, .d x, y => (isOk y.seq?).bind fun ys => (gd (x.ok && y.frz.ok)).bind fun _ => .ok (memD x ys)
  | .notin, .d x, y => (isOk y.seq?).bind fun ys => (gd (x.ok && y.frz.ok)).bind fun _ => .ok (!memD x ys)
  | _, _, _ => .no
/-- a value's truth -/
def truth : Vl → Res Bool
  | .a (.d .non) => .ok false
  | .a (.d (.bl b)) => .ok b
  | .a (.d (.int i)) => .ok (i != 0)
  | .a (.d (.str x)) => (gd (fits x.length)).bind fun _ => .ok ((x.length : Int) != 0)
  | .a x => (isOk x.seq?).bind fun xs => .ok (!xs.isEmpty)
  | _ => .no
def Vl.isNon : Vl → Bool
  | .a (.d .non) => true
  | _ => false
/-- xs[i] -/
def idx : At → At → Res D
  | x, .d (.int i) => (match x with
    | .d (.str z) => (gd (fits z.length)).bind fun _ => (isOk (L2.atI z.cps.toList i)).bind fun ch => .ok (.str ⟨#[ch]⟩)
    | x => (isOk x.seq?).bind fun xs => isOk (L2.atI xs i))
  | _, _ => .no
def cutD (xs : List D) (lo hi : Option Int) : List D := (xs.drop (HT.sIx xs.length 0 lo)).take (HT.sIx xs.length xs.length hi - HT.sIx xs.length 0 lo)
def slc (x : At) (lo hi : Option Int) : Res At := match x with
  | .d (.tup xs) => .ok (.d (.tup (cutD xs lo hi)))
  | .d (.lst xs) => .ok (.l (cutD xs lo hi))
  | .l xs => .ok (.l (cutD xs lo hi))
  | _ => .no
def At.isList : At → Bool
  | .l _ => true | .d (.lst _) => true | _ => false
def At.own : At → Bool
  | .l _ => true | _ => false
def allI : List D → Option (List Int)
  | [] => some []
  | .int i :: r => (allI r).map (i :: ·)
  | _ => none
/-- the greatest, the first of these -/
def maxI : List Int → Option Int
  | [] => none
  | n :: r => some (r.foldl (fun m x => if m < x then x else m) n)
/-- what a consumer makes of all that came -/
def outT (ys : List D) : Res D := (gd (fits ys.length)).bind fun _ => .ok (.tup ys)
def outM (ys : List D) : Res D := (isOk (allI ys)).bind fun ns => (isOk (maxI ns)).bind fun m => .ok (.int m)
def allB : List D → Option (List Bool)
  | [] => some []
  | .bl i :: r => (allB r).map (i :: ·)
  | _ => none
def lenA : At → Res At
  | .d (.str z) => (gd (fits z.length)).bind fun _ => .ok (.d (.int z.length))
  | x => (isOk x.seq?).bind fun xs => .ok (.d (.int xs.length))
def blt1 : Blt → At → Res At
  | .len, x => lenA x
  | .int, .d (.int i) => .ok (.d (.int i))
  | .int, .d (.bl b) => .ok (.d (.int (if b then 1 else 0)))
  | .str, .d (.int i) => (gd (decide (i.natAbs < 1000000))).bind fun _ => .ok (.d (.str (toString i)))
  | .isI, .d (.int _) => .ok (.d (.bl true))
  | .isI, .d (.bl _) => .ok (.d (.bl true))
  | .isB, .d (.bl _) => .ok (.d (.bl true))
  | .isT, .d (.tup _) => .ok (.d (.bl true))
  | .isS, .d (.str _) => .ok (.d (.bl true))
  | .isL, .d (.lst _) => .ok (.d (.bl true))
  | .isL, .l _ => .ok (.d (.bl true))
  | .isI, .m _ => .no | .isB, .m _ => .no | .isT, .m _ => .no | .isS, .m _ => .no | .isL, .m _ => .no
  | .isI, .d (.dic _) => .no | .isB, .d (.dic _) => .no | .isT, .d (.dic _) => .no | .isS, .d (.dic _) => .no | .isL, .d (.dic _) => .no
  | .isI, _ => .ok (.d (.bl false)) | .isB, _ => .ok (.d (.bl false)) | .isT, _ => .ok (.d (.bl false)) | .isS, _ => .ok (.d (.bl false)) | .isL, _ => .ok (.d (.bl false))
  | .tup, x => (isOk x.seq?).bind fun xs => .ok (.d (.tup xs))
  | .lst, x => (isOk x.seq?).bind fun xs => .ok (.l xs)
  | .sum, x => (gd x.isList).bind fun _ => (isOk x.seq?).bind fun xs => (isOk (allI xs)).bind fun ns => .ok (.d (.int ns.sum))
  | .maxs, x => (gd x.isList).bind fun _ => (isOk x.seq?).bind fun xs => (isOk (allI xs)).bind fun ns => (isOk ns.max?).bind fun m => .ok (.d (.int m))
  | .trev, x => (gd x.isList).bind fun _ => (isOk x.seq?).bind fun xs => .ok (.d (.tup xs.reverse))
  | _, _ => .no
def blt2 : Blt → At → At → Res At
  | .max2, .d (.int i), .d (.int j) => .ok (.d (.int (if j > i then j else i)))
  | _, _, _ => .no
def blt (b : Blt) (xs : List At) : Res At := match xs with
  | [x] => blt1 b x
  | [x, y] => blt2 b x y
  | _ => .no
/-- a changed list, and the answer -/
def mutL : Mut → List D → List D → Res (D × List D)
  | .append, xs, [y] => (gd (fits (xs.length + 1))).bind fun _ => .ok (.non, xs ++ [y])
  | .extend, xs, [y] => (isOk (At.d y).seq?).bind fun ys => (gd (fits (xs.length + ys.length))).bind fun _ => .ok (.non, xs ++ ys)
  | .pop, xs, [] => (isOk xs[xs.length - 1]?).bind fun y => .ok (y, xs.dropLast)
  | _, _, _ => .no
def mrd : Mrd → At → List D → Res D
  | _, _, _ => .no
/-- the items of something that is walked (no range) -/
def items : At → Res (List D)
  | .d (.str z) => (gd (fits z.length)).bind fun _ => .ok (z.cps.toList.map fun ch => .str ⟨#[ch]⟩)
  | x => isOk x.seq?
def rngI (lo hi : Int) : List D := (List.range (hi - lo).toNat).map fun k => .int (lo + (k : Nat))
def okR : Int → Bool
  | .ofNat n => Nat.ble (n + 1) 4611686018427387904
  | .negSucc n => Nat.ble (n + 1) 4611686018427387904
theorem okR_ok : ∀ {i : Int}, okR i = true → -(2 ^ 62) ≤ i ∧ i < 2 ^ 62
  | .ofNat n, h => by
    have h := Nat.le_of_ble_eq_true h
    simp only [Int.ofNat_eq_natCast]
    omega
  | .negSucc n, h => by
    have h := Nat.le_of_ble_eq_true h
    omega
theorem okR_nat {n : Nat} (h : n < 4611686018427387904) : okR (n : Int) = true := Nat.ble_eq_true_of_le h
def rng : List At → Res (List D)
  | [.d (.int j)] => (gd (okR j)).bind fun _ => .ok (rngI 0 j)
  | [.d (.int i), .d (.int j)] => (gd (okR i && okR j)).bind fun _ => .ok (rngI i j)
  | _ => .no
def enumD (k : Int) : List D → List D
  | [] => []
  | x :: r => .tup [.int k, x] :: enumD (k + 1) r
def zipD : List D → List D → List D
  | x :: r, y :: s => .tup [x, y] :: zipD r s
  | _, _ => []

/-! ### the program -/
inductive Tg where
  | nm (i : Nat) | tp (ts : List Tg)
mutual
inductive Ex where
  | loc (i : Nat) | gcon (x : Str) (d : D) | cst (d : D)
  | tup (es : Exs) | lst (es : Exs) | dic
  | bin (o : BOp) (a b : Ex) | neg (a : Ex)
  | not (a : Ex) | and (a b : Ex) | or (a b : Ex) | ite (c a b : Ex)
  | cmp (o : COp) (a b : Ex) | chn (o o' : COp) (a b c : Ex) | isN (neg : Bool) (a : Ex) | isC (neg : Bool) (b : Bool) (a : Ex)
  | call (f : Nat) (es : Exs) | mk (C : Nat) (es : Exs) | meth (i : Nat) (m : Str) (es : Exs)
  | fld (i : Nat) (f : Str) | ix (a b : Ex) | sl (a : Ex) (lo hi : Option Ex) | rsl (a : Ex)
  | blt (b : Blt) (es : Exs) | mut (m : Mut) (o : Ex) (es : Exs) | mrd (m : Mrd) (o : Ex) (es : Exs)
  | lc (own : List Nat) (e : Ex) (t : Tg) (s : Sr) (ifs : Exs) | gen (k : GK) (own : List Nat) (e : Ex) (t : Tg) (s : Sr) (ifs : Exs)
  | never
inductive Exs where
  | nil | cons (e : Ex) (es : Exs)
inductive Sr where
  | seq (a : Ex) | rng (es : Exs) | enum (a : Ex) | zip (a b : Ex) | rev (a : Ex)
end
mutual
inductive St where
  | asg (t : Tg) (e : Ex) | par (i j : Nat) (a b : Ex) | setI (o : Ex) (i e : Ex) | setF (i : Nat) (f : Str) (e : Ex)
  | aug (i : Nat) (o : BOp) (e : Ex) | augF (i : Nat) (f : Str) (o : BOp) (e : Ex)
  | ex (e : Ex) | ret (e : Ex) | retN | iff (c : Ex) (a b : Sts) | whl (c : Ex) (b : Sts) | fr (t : Tg) (s : Sr) (b : Sts)
  | brk | cnt | pass | never
inductive Sts where
  | nil | cons (s : St) (r : Sts)
end
structure FnI where
  name : Str
  np : Nat
  N : List Str
  body : Sts
structure ClsI where
  name : Str
  init : Nat
  meths : List (Str × Nat)
structure Prg where
  fns : List FnI
  cls : List ClsI

/-- a call's result: the value (or: it is the parameter j itself), and the parameters behind it -/
inductive Rv where
  | v (x : Vl) | par (j : Nat)
structure CR where
  r : Rv
  outs : List (Option Vl)
abbrev Cf := Nat → Nat → List Vl → Res CR

/-! no call of the program's own, no change of an object -/
mutual
def Ex.quiet : Ex → Bool
  | .loc _ => true | .gcon _ _ => true | .cst _ => true
  | .tup es => es.quiet | .lst es => es.quiet | .dic => true
  | .bin _ a b => a.quiet && b.quiet | .neg a => a.quiet
  | .not a => a.quiet | .and a b => a.quiet && b.quiet | .or a b => a.quiet && b.quiet | .ite c a b => c.quiet && a.quiet && b.quiet
  | .cmp _ a b => a.quiet && b.quiet | .chn _ _ a b c => a.quiet && b.quiet && c.quiet | .isN _ a => a.quiet | .isC _ _ a => a.quiet
  | .fld _ _ => true | .ix a b => a.quiet && b.quiet | .blt _ es => es.quiet
  | _ => false
def Exs.quiet : Exs → Bool
  | .nil => true
  | .cons e es => e.quiet && es.quiet
end
/-- a field that is read late must not be changed meanwhile -/
def lateO (o : Opd) (q : Bool) : Bool := match o with
  | .q _ _ => q
  | _ => true
/-! ### targets -/
mutual
def asgT : Tg → D → Loc → Res Loc
  | .nm i, x, c => if i < c.length then .ok (c.set i (some (.d x))) else .no
  | .tp ts, .tup xs, c => asgTs ts xs c
  | .tp ts, .lst xs, c => asgTs ts xs c
  | _, _, _ => .no
def asgTs : List Tg → List D → Loc → Res Loc
  | [], [], c => .ok c
  | t :: ts, x :: xs, c => (asgT t x c).bind fun c1 => asgTs ts xs c1
  | _, _, _ => .no
end
mutual
def Tg.slots : Tg → List Nat
  | .nm i => [i]
  | .tp ts => Tg.slotsL ts
def Tg.slotsL : List Tg → List Nat
  | [] => []
  | t :: ts => t.slots ++ Tg.slotsL ts
end
/-! ### comprehensions: own slots wiped, then as they were -/
def wipeO (c : Loc) : List Nat → Res Loc
  | [] => .ok c
  | i :: r => (match c[i]? with
    | some none => Res.ok (c.set i none)
    | some (some (.a (.d _))) => Res.ok (c.set i none)
    | _ => Res.no).bind fun c1 => wipeO c1 r
def backO (c0 c : Loc) : List Nat → Loc
  | [] => c
  | i :: r => backO c0 (c.set i (c0.getD i none)) r
/-- what is walked: its items, and the place that must stay as it is -/
structure Wk where
  its : List D
  lk : List (Opd × At)
def lkOf (x : Opd) (u : At) : List (Opd × At) := match x, u with
  | .v _, _ => []
  | x, .l ys => [(x, .l ys)]
  | _, _ => []
def sameA : At → At → Res Unit
  | .l xs, .l ys => gd (D.beqs xs ys)
  | _, _ => Res.no
def stillL : List (Opd × At) → Loc → Res Unit
  | [], _ => .ok ()
  | (o, x) :: r, c => (rdA o c).bind fun y => (sameA x y).bind fun _ => stillL r c
def Wk.still (w : Wk) (c : Loc) : Res Unit := stillL w.lk c
/-- the places that are locked are none of these; a field only where the body is quiet -/
def Wk.free (w : Wk) (qb : Bool) (as : List Nat) : Bool := w.lk.all fun p => match p.1 with
  | .p i => decide (i ∉ as)
  | .q i _ => qb && decide (i ∉ as)
  | .v _ => false
def compL (f : Loc → Res (Option D × Loc)) (tg : D → Loc → Res Loc) : List D → Loc → Res (List D × Loc)
  | [], c => .ok ([], c)
  | x :: r, c => (tg x c).bind fun c1 => (f c1).bind fun (y, c2) => (compL f tg r c2).bind fun (ys, c3) =>
    .ok (match y with | some y => y :: ys | none => ys, c3)
/-- all, any: stops at stop -/
def compS (stop : Bool) (f : Loc → Res (Option D × Loc)) (tg : D → Loc → Res Loc) : List D → Loc → Res (Bool × Loc)
  | [], c => .ok (!stop, c)
  | x :: r, c => (tg x c).bind fun c1 => (f c1).bind fun (y, c2) => match y with
    | some (.bl b) => if b = stop then .ok (stop, c2) else compS stop f tg r c2
    | some _ => .no
    | none => compS stop f tg r c2
inductive Fl where
  | nx (c : Loc) | rt (r : Rv) (c : Loc) | bk (c : Loc) | ct (c : Loc) | exc (C : Nat) (as : List D) (c : Loc) | no
def forL (body : Loc → Fl) (tg : D → Loc → Res Loc) : List D → Loc → Fl
  | [], c => .nx c
  | x :: r, c => match tg x c with
    | .ok c1 => (match body c1 with
      | .nx c2 => forL body tg r c2
      | .ct c2 => forL body tg r c2
      | .bk c2 => .nx c2
      | f => f)
    | _ => .no
def whileL (test : Loc → Res (Bool × Loc)) (body : Loc → Fl) : Nat → Loc → Fl
  | 0, _ => .no
  | n + 1, c => match test c with
    | .ok (true, c1) => (match body c1 with
      | .nx c2 => whileL test body n c2
      | .ct c2 => whileL test body n c2
      | .bk c2 => .nx c2
      | f => f)
    | .ok (false, c1) => .nx c1
    | .exc C as => .exc C as c
    | .no => .no
/-- the arguments of a call -/
def ownP : List Opd → List Nat
  | [] => []
  | .p i :: r => i :: ownP r
  | .q i _ :: r => i :: ownP r
  | .v _ :: r => ownP r
def noQ : List Opd → Bool
  | [] => true
  | .q _ _ :: _ => false
  | _ :: r => noQ r
def rdOs : List Opd → Loc → Res (List Vl)
  | [], _ => .ok []
  | o :: r, c => (rdO o c).bind fun x => (rdOs r c).bind fun xs => .ok (x :: xs)
def backP : List Opd → List (Option Vl) → Loc → Res Loc
  | [], _, c => .ok c
  | .p i :: r, y :: ys, c => backP r ys (c.set i y)
  | .v _ :: r, _ :: ys, c => backP r ys c
  | _, _, _ => .no
def callO (cf : List Vl → Res CR) (os : List Opd) (c : Loc) : Res (Opd × Loc) :=
  (gd (noQ os && decide (ownP os).Nodup)).bind fun _ => (rdOs os c).bind fun vs => (cf vs).bind fun cr => (backP os cr.outs c).bind fun c1 =>
    match cr.r with
    | .v x => Res.ok (Opd.v x, c1)
    | .par j => (match os[j]?, cr.outs[j]? with
      | some (.v _), some (some y) => Res.ok (Opd.v y, c1)
      | some (.p i), _ => Res.ok (Opd.p i, c1)
      | _, _ => Res.no)

/-- one turn of a comprehension, the target set: the element, if it is one; the own slots wiped again -/
def turnF (wk : Wk) (own : List Nat) (ft : Loc → Res (Bool × Loc)) (fe : Loc → Res (Opd × Loc)) (c : Loc) : Res (Option D × Loc) :=
  (ft c).bind fun (b, c') => if b then (fe c').bind fun (o, c'') => (toD o c'').bind fun (y, c3) => (wipeO c3 own).bind fun c4 => (wk.still c4).bind fun _ => .ok (some y, c4)
    else (wipeO c' own).bind fun c4 => (wk.still c4).bind fun _ => .ok (none, c4)
section
variable (P : Prg) (C : Cf) (w : Nat)
mutual
def evO (k : Nat) : Ex → Loc → Res (Opd × Loc)
  | .loc i, c => evLoc i c
  | .gcon _ d, c => .ok (.v (.d d), c)
  | .cst d, c => .ok (.v (.d d), c)
  | .tup es, c => (evOs k es c).bind fun (os, c1) => (toDs os c1).bind fun (xs, c2) => (gd (fits xs.length)).bind fun _ => .ok (.v (.d (.tup xs)), c2)
  | .lst es, c => (evOs k es c).bind fun (os, c1) => (toDs os c1).bind fun (xs, c2) => (gd (fits xs.length)).bind fun _ => .ok (.v (.l xs), c2)
  | .dic, c => .ok (.v (.m []), c)
  | .bin o a b, c => (evO k a c).bind fun (x, c1) => (gd (lateO x b.quiet)).bind fun _ => (evO k b c1).bind fun (y, c2) => (rdA x c2).bind fun u => (rdA y c2).bind fun v => (bop o u v).bind fun z => .ok (.v (.a z), c2)
  | .neg a, c => (evO k a c).bind fun (x, c1) => match x with
    | .v (.a (.d (.int i))) => .ok (.v (.d (.int (-i))), c1)
    | _ => .no
  | .not a, c => (evO k a c).bind fun (x, c1) => (rdO x c1).bind fun u => (truth u).bind fun b => .ok (.v (.d (.bl (!b))), c1)
  | .and a b, c => (evO k a c).bind fun (x, c1) => match x with
    | .v (.a (.d (.bl true))) => evO k b c1
    | .v (.a (.d (.bl false))) => .ok (.v (.d (.bl false)), c1)
    | _ => .no
  | .or a b, c => (evO k a c).bind fun (x, c1) => match x with
    | .v (.a (.d (.bl true))) => .ok (.v (.d (.bl true)), c1)
    | .v (.a (.d (.bl false))) => evO k b c1
    | _ => .no
  | .ite q a b, c => (evT k q c (evO k q c)).bind fun (t, c1) => if t then evO k a c1 else evO k b c1
  | .cmp o a b, c => (evO k a c).bind fun (x, c1) => (gd (lateO x b.quiet)).bind fun _ => (evO k b c1).bind fun (y, c2) => (rdA x c2).bind fun u => (rdA y c2).bind fun v => (cop o u v).bind fun z => .ok (.v (.d (.bl z)), c2)
  | .chn o o' a b q, c => (evO k a c).bind fun (x, c1) => (gd (lateO x b.quiet)).bind fun _ => (evO k b c1).bind fun (y, c2) => (gd (lateO y q.quiet)).bind fun _ => (rdA x c2).bind fun u => (rdA y c2).bind fun v => (cop o u v).bind fun z =>
    if z then (evO k q c2).bind fun (y', c3) => (rdA y c3).bind fun v' => (rdA y' c3).bind fun v2 => (cop o' v' v2).bind fun z' => .ok (.v (.d (.bl z')), c3) else .ok (.v (.d (.bl false)), c2)
  | .isN n a, c => (evO k a c).bind fun (x, c1) => (rdO x c1).bind fun u => .ok (.v (.d (.bl (if n then !u.isNon else u.isNon))), c1)
  | .isC n b a, c => (evO k a c).bind fun (x, c1) => (rdO x c1).bind fun u => match u with
    | .a (.d (.bl b')) => .ok (.v (.d (.bl (n != decide (b' = b)))), c1)
    | _ => .no
  | .call f es, c => (evOs k es c).bind fun (os, c1) => callO (C k f) os c1
  | .mk cl es, c => match P.cls[cl]? with
    | some ci => (evOs k es c).bind fun (os, c1) => callO (fun vs => (C (k - 1) ci.init (.o cl [] :: vs)).bind fun cr => match cr.r, cr.outs with
        | .v (.a (.d .non)), some x :: outs => .ok ⟨.v x, outs⟩
        | _, _ => .no) os c1
    | none => .no
  | .meth i m es, c => (evOs k es c).bind fun (os, c1) => match c1[i]? with
    | some (some (.o cl fs)) => (match P.cls[cl]?, fs.lookup m with
      | some ci, none => (match ci.meths.lookup m with
        | some f => callO (C k f) (.p i :: os) c1
        | none => .no)
      | _, _ => .no)
    | _ => .no
  | .fld i f, c => evFld i f c
  | .ix a b, c => (evO k a c).bind fun (x, c1) => (gd (lateO x b.quiet)).bind fun _ => (evO k b c1).bind fun (y, c2) => (rdA x c2).bind fun u => (rdA y c2).bind fun v => (idx u v).bind fun z => .ok (.v (.d z), c2)
  | .sl a lo hi, c => (evO k a c).bind fun (x, c1) => (gd (lateO x false)).bind fun _ => (evPt k lo c1).bind fun (l, c2) => (evPt k hi c2).bind fun (h, c3) => (rdA x c3).bind fun u => (slc u l h).bind fun z => .ok (.v (.a z), c3)
  | .rsl a, c => (evO k a c).bind fun (x, c1) => (rdA x c1).bind fun u => (match u with
    | .l xs => Res.ok (Opd.v (.l xs.reverse), c1)
    | .d (.lst xs) => Res.ok (Opd.v (.l xs.reverse), c1)
    | _ => Res.no)
  | .blt b es, c => (evOs k es c).bind fun (os, c1) => (rdOs os c1).bind fun vs => match vs.mapM fun | .a x => some x | _ => none with
    | some xs => (blt b xs).bind fun z => .ok (.v (.a z), c1)
    | none => .no
  | .mut m o es, c => (evO k o c).bind fun (x, c0) => (gd (lateO x es.quiet)).bind fun _ => (rdA x c0).bind fun u0 => (gd u0.own).bind fun _ => (evOs k es c0).bind fun (os, c1) => (toDs os c1).bind fun (ys, c2) => (rdA x c2).bind fun u => match u with
    | .l xs => (mutL m xs ys).bind fun (z, xs') => (putO x xs' c2).bind fun c3 => .ok (.v (.d z), c3)
    | _ => .no
  | .mrd m o es, c => (evO k o c).bind fun (x, c0) => (gd (lateO x es.quiet)).bind fun _ => (evOs k es c0).bind fun (os, c1) => (toDs os c1).bind fun (ys, c2) => (rdA x c2).bind fun u => (mrd m u ys).bind fun z => .ok (.v (.d z), c2)
  | .lc own e t s ifs, c => (evSr k s c).bind fun (wk, c1) => (gd (wk.free (ifs.quiet && e.quiet) own)).bind fun _ => (wipeO c1 own).bind fun c2 => (wk.still c2).bind fun _ =>
    (compL (turnF wk own (evIf k ifs) (evO k e)) (asgT t) wk.its c2).bind fun (ys, c3) =>
      (gd (fits ys.length)).bind fun _ => .ok (.v (.l ys), backO c1 c3 own)
  | .gen g own e t s ifs, c => (gd (decide (4 ≤ k))).bind fun _ => (evSr k s c).bind fun (wk, c1) => (gd (wk.free (ifs.quiet && e.quiet) own)).bind fun _ => (wipeO c1 own).bind fun c2 => (wk.still c2).bind fun _ =>
    match g with
    | .all => (compS false (turnF wk own (evIf (k - 4) ifs) (evO (k - 4) e)) (asgT t) wk.its c2).bind fun (b, c3) => (Res.ok (D.bl b)).bind fun d => .ok (.v (.d d), backO c1 c3 own)
    | .any => (compS true (turnF wk own (evIf (k - 4) ifs) (evO (k - 4) e)) (asgT t) wk.its c2).bind fun (b, c3) => (Res.ok (D.bl b)).bind fun d => .ok (.v (.d d), backO c1 c3 own)
    | .tup => (compL (turnF wk own (evIf (k - 4) ifs) (evO (k - 4) e)) (asgT t) wk.its c2).bind fun (ys, c3) => (outT ys).bind fun d => .ok (.v (.d d), backO c1 c3 own)
    | .max => (compL (turnF wk own (evIf (k - 4) ifs) (evO (k - 4) e)) (asgT t) wk.its c2).bind fun (ys, c3) => (outM ys).bind fun d => .ok (.v (.d d), backO c1 c3 own)
    | _ => .no
  | .never, _ => .no
def evOs (k : Nat) : Exs → Loc → Res (List Opd × Loc)
  | .nil, c => .ok ([], c)
  | .cons e es, c => (evO k e c).bind fun (o, c1) => (gd (lateO o es.quiet)).bind fun _ => (evOs k es c1).bind fun (os, c2) => .ok (o :: os, c2)
def evPt (k : Nat) : Option Ex → Loc → Res (Option Int × Loc)
  | none, c => .ok (none, c)
  | some e, c => (evO k e c).bind fun (x, c1) => match x with
    | .v (.a (.d (.int i))) => .ok (some i, c1)
    | _ => .no
/-- as a test; wh: the expression as a value -/
def evT (k : Nat) : Ex → Loc → Res (Opd × Loc) → Res (Bool × Loc)
  | .not a, c, _ => (evT k a c (evO k a c)).bind fun (b, c1) => .ok (!b, c1)
  | .and a b, c, _ => (evT k a c (evO k a c)).bind fun (t, c1) => if t then evT k b c1 (evO k b c1) else .ok (false, c1)
  | .or a b, c, _ => (evT k a c (evO k a c)).bind fun (t, c1) => if t then .ok (true, c1) else evT k b c1 (evO k b c1)
  | _, _, wh => wh.bind fun (x, c1) => (rdO x c1).bind fun u => (truth u).bind fun b => .ok (b, c1)
def evIf (k : Nat) : Exs → Loc → Res (Bool × Loc)
  | .nil, c => .ok (true, c)
  | .cons e es, c => (evT k e c (evO k e c)).bind fun (b, c1) => if b then evIf k es c1 else .ok (false, c1)
def evSr (k : Nat) : Sr → Loc → Res (Wk × Loc)
  | .seq a, c => (evO k a c).bind fun (x, c1) => (rdA x c1).bind fun u => (items u).bind fun its => .ok (⟨its, lkOf x u⟩, c1)
  | .rng es, c => (evOs k es c).bind fun (os, c1) => (rdOs os c1).bind fun vs => match vs.mapM fun | .a x => some x | _ => none with
    | some xs => (rng xs).bind fun its => .ok (⟨its, []⟩, c1)
    | none => .no
  | .enum a, c => (evO k a c).bind fun (x, c1) => (rdA x c1).bind fun u => (isOk u.seq?).bind fun its => .ok (⟨enumD 0 its, lkOf x u⟩, c1)
  | .zip a b, c => (evO k a c).bind fun (x, c1) => (gd (lateO x b.quiet)).bind fun _ => (evO k b c1).bind fun (y, c2) => (rdA x c2).bind fun u => (rdA y c2).bind fun v => (isOk u.seq?).bind fun xs => (isOk v.seq?).bind fun ys => .ok (⟨zipD xs ys, lkOf x u ++ lkOf y v⟩, c2)
  | .rev a, c => (evO k a c).bind fun (x, c1) => (rdA x c1).bind fun u => (isOk u.seq?).bind fun its => .ok (⟨its.reverse, lkOf x u⟩, c1)
end
end

mutual
def St.asgd : St → List Nat
  | .asg t _ => t.slots
  | .par i j _ _ => [i, j]
  | .aug i _ _ => [i]
  | .iff _ a b => a.asgd ++ b.asgd
  | .whl _ b => b.asgd
  | .fr t _ b => t.slots ++ b.asgd
  | _ => []
def Sts.asgd : Sts → List Nat
  | .nil => []
  | .cons s r => s.asgd ++ r.asgd
end
/-! ### statements -/
def stillF (wk : Wk) (f : Fl) : Fl := match f with
  | .nx c => (match wk.still c with | .ok _ => .nx c | _ => .no)
  | .ct c => (match wk.still c with | .ok _ => .ct c | _ => .no)
  | f => f
def doNx (r : Res Loc) (c : Loc) : Fl := match r with
  | .ok c1 => .nx c1
  | .exc C as => .exc C as c
  | .no => .no
def augV : BOp → D → At → Res D
  | .add, .int i, .d (.int j) => .ok (.int (i + j))
  | .sub, .int i, .d (.int j) => .ok (.int (i - j))
  | _, _, _ => .no
def setIt (o : Opd) (i : At) (x : D) (c : Loc) : Res Loc := (rdA o c).bind fun u => match u, i with
  | .l xs, .d (.int j) => (isOk (L2.ixN xs.length j)).bind fun n => putO o (xs.set n x) c
  | _, _ => Res.no
section
variable (P : Prg) (C : Cf) (w : Nat)
mutual
def exS (k np : Nat) : St → Loc → Fl
  | .asg (.nm i) e, c => doNx ((evO P C k e c).bind fun (x, c1) => (toV x c1).bind fun (v, c2) => if i < c2.length then .ok (c2.set i (some v)) else .no) c
  | .asg t e, c => doNx ((evO P C k e c).bind fun (x, c1) => (toD x c1).bind fun (v, c2) => asgT t v c2) c
  | .par i j a b, c => doNx ((evO P C k a c).bind fun (x, c1) => (evO P C k b c1).bind fun (y, c2) => (toD x c2).bind fun (u, c3) => (toD y c3).bind fun (v, c4) => .ok ((c4.set i (some (.d u))).set j (some (.d v)))) c
  | .setI o i e, c => doNx ((evO P C k e c).bind fun (x, c1) => (toD x c1).bind fun (v, c2) => (evO P C k o c2).bind fun (oo, c3) => (gd (lateO oo i.quiet)).bind fun _ => (evO P C k i c3).bind fun (ii, c4) => (rdA ii c4).bind fun j => setIt oo j v c4) c
  | .setF i f e, c => doNx ((evO P C k e c).bind fun (x, c1) => (toV x c1).bind fun (v, c2) => match v with
    | .a y => setF c2 i f y
    | _ => .no) c
  | .aug i o e, c => doNx ((evO P C k e c).bind fun (y, c1) => (gets c i).bind fun u => (rdA y c1).bind fun v => match u with
    | .a (.d x) => (augV o x v).bind fun z => .ok (c1.set i (some (.d z)))
    | _ => .no) c
  | .augF i f o e, c => doNx ((getF c i f).bind fun u => (evO P C k e c).bind fun (y, c1) => (rdA y c1).bind fun v => match u with
    | .d x => (augV o x v).bind fun z => setF c1 i f (.d z)
    | _ => .no) c
  | .ex e, c => doNx ((evO P C k e c).bind fun (_, c1) => .ok c1) c
  | .ret e, c => match evO P C k e c with
    | .ok (.v x, c1) => .rt (.v x) c1
    | .ok (.p i, c1) => if i < np then .rt (.par i) c1 else (match gets c1 i with | .ok y => .rt (.v y) (c1.set i none) | _ => .no)
    | .ok (.q i f, c1) => (match toD (.q i f) c1 with | .ok (y, c2) => .rt (.v (.d y)) c2 | _ => .no)
    | .exc cl as => .exc cl as c
    | .no => .no
  | .retN, c => .rt (.v (.d .non)) c
  | .iff q a b, c => match evT P C k q c (evO P C k q c) with
    | .ok (t, c1) => if t then exSs k np a c1 else exSs k np b c1
    | .exc cl as => .exc cl as c
    | .no => .no
  | .whl q b, c => whileL (fun c => evT P C k q c (evO P C k q c)) (fun c => exSs k np b c) w c
  | .fr t s b, c => match evSr P C k s c with
    | .ok (wk, c1) => if wk.free false (t.slots ++ b.asgd) then forL (fun c => stillF wk (exSs k np b c)) (asgT t) wk.its c1 else .no
    | .exc cl as => .exc cl as c
    | .no => .no
  | .brk, c => .bk c
  | .cnt, c => .ct c
  | .pass, c => .nx c
  | .never, _ => .no
def exSs (k np : Nat) : Sts → Loc → Fl
  | .nil, c => .nx c
  | .cons s r, c => match exS k np s c with
    | .nx c1 => exSs k np r c1
    | f => f
end
end
def outsF (np : Nat) (as : List Nat) (c : Loc) : List (Option Vl) := (List.range np).map fun j => if j ∈ as then none else c.getD j none
def outR (np : Nat) (as : List Nat) (r : Rv) (c : Loc) : Res CR := if np ≤ c.length then (match r with
  | .v x => .ok ⟨.v x, outsF np as c⟩
  | .par j => if j < np ∧ j ∉ as then .ok ⟨.par j, outsF np as c⟩ else .no) else .no
def runF (P : Prg) (w : Nat) (C : Cf) (k f : Nat) (args : List Vl) : Res CR := match P.fns[f]? with
  | none => .no
  | some fi => if args.length = fi.np then
      match exSs P C w k fi.np fi.body (args.map some ++ List.replicate (fi.N.length - fi.np) none) with
      | .rt r c => outR fi.np fi.body.asgd r c
      | .nx c => outR fi.np fi.body.asgd (.v (.d .non)) c
      | .exc cl as _ => .exc cl as
      | _ => .no
    else .no
/-- the calls of levels up to n -/
def callN (P : Prg) (w : Nat) : Nat → Cf
  | 0 => fun _ _ _ => .no
  | n + 1 => fun j f args => if j ≤ n then callN P w n j f args else if j = n + 1 then runF P w (callN P w n) n f args else .no
def run (P : Prg) (w k f : Nat) (args : List Vl) : Res CR := callN P w k k f args
theorem callN_le {P : Prg} {w : Nat} : ∀ {n j : Nat}, j ≤ n → callN P w n j = run P w j
  | 0, j, h => by
    have e : j = 0 := by omega
    subst e; rfl
  | n + 1, j, h => by
    by_cases hj : j ≤ n
    · rw [← callN_le hj]
      funext f args
      show (if j ≤ n then _ else _) = _
      rw [if_pos hj]
    · have e : j = n + 1 := by omega
      subst e; rfl
theorem run_succ {P : Prg} {w k f : Nat} {args : List Vl} : run P w (k + 1) f args = runF P w (callN P w k) k f args := by
  show (if k + 1 ≤ k then _ else if k + 1 = k + 1 then _ else _) = _
  rw [if_neg (by omega), if_pos rfl]
end G
set_option maxHeartbeats 4000000
/-! () * int: the same tuple again -/
namespace G
open PySem PySem.Spec PyProof.Rows L2
theorem tuple_mul0 (l : Addr) (n : Nat) (dd : Option Addr) (sl : Array (Option Value)) (x : Int) (u : Tok) (c0 : (decide (x < -(2 ^ 63)) || decide (x ≥ 2 ^ 63)) = false) :
    Meets (Builtin.«tuple.__mul__» ⟨[.ref l, .int x u], []⟩) (fun _ R s => s.heap.get? l = some { cls := .type "tuple", dict := dd, data := .seq #[] n, slots := sl } ∧
      R (.ok (.ret (Value.ref l))) s) :=
  .of_wp fun prog w A R s h => by
    obtain ⟨hp, g, d, tk, os⟩ := s
    obtain ⟨hl, h⟩ := h
    have f1 := AutoSeq1.idx_int
    wp_walk using wpAny_loadPart' hl
    repeat (first
      | (refine wpAny_ite_false (decide_eq_false (by rw [c0]; exact Bool.false_ne_true)) ?_; wp_walk using wpAny_loadPart' hl)
      | (refine wpAny_ite_true (decide_eq_true (by rfl)) ?_; wp_walk using wpAny_loadPart' hl))
    exact ⟨_, rfl, h⟩
def rRepT0 (K : PySem.W.Frag) : R2 := fun x y H Q => ∃ l k, x = .ref l ∧ y = .int k ∧ SqT K H l [] ∧ 2 ≤ k ∧ k ≤ 1000 ∧ Q (.ref l) H
section
variable {X : Cx}
theorem op_repT0 : OpR X (binaryOp .Mult) (rRepT0 X.K) := by
  intro pins s σ H x y v u Q I rx ry h
  obtain ⟨l, k, rfl, rfl, hT, h1, h2, q⟩ := h
  cases rx
  obtain ⟨t, rfl⟩ := ry
  obtain ⟨its, r, ⟨⟨cls, dd, data, sl⟩, ho, hc, n, hd⟩, hs⟩ := I.tuple hT
  simp only at hc hd
  subst hc hd
  have hn : its = [] := List.eq_nil_of_length_eq_zero r.length.symm
  subst hn
  have c0 : (decide (k < -(2 ^ 63)) || decide (k ≥ 2 ^ 63)) = false := by
    rw [decide_eq_false (by omega), decide_eq_false (by omega)] <;> rfl
  refine wpAny_binaryOp_repeat_ref (T := "tuple") (U := "int") (by decide) ⟨_, ho, rfl⟩ (fun s' => typeIs_int s' k t) noFill_tuple_mul F.fills_int_mul F.slot_int_rmul repeat_tuple F.slot_int_index.lookup
    (call_meets F.slot_int_rmul (typeIs_int s k t) F.entry_int_rmul (F.args_int_rmul_2 _ _) (int_rmul_tuple k t l [].toArray n dd sl)
      ⟨ho, rfl, ⟨_, ho, rfl⟩, call_meets F.slot_tuple_mul ⟨_, ho, rfl⟩ F.entry_tuple_mul (F.args_tuple_mul_2 _ _) (tuple_mul0 l n dd sl k t c0) ⟨ho, ?_⟩⟩)
  exact ⟨.ref l, _, I, rfl, q⟩
end
end G
namespace G
open PySem L2

abbrev Sg := List (Option V)
/-- a list of the written part -/
def KLst (K : PySem.W.Frag) (a : Addr) (vs : List V) : Prop := ∃ (o : Obj) (its : Array Value) (n : Nat), K.lookup a = some o ∧ o.cls = .type "list" ∧ o.dict = none ∧ o.data = .seq its n ∧ its.size ≤ sizeLine ∧ Vals vs its.toList
/-- a list that nobody changes -/
def FzL (K : PySem.W.Frag) (H : Hp) (Z : Addr → Prop) (a : Addr) (vs : List V) : Prop := (Z a ∧ Rd H a (.lst vs)) ∨ KLst K a vs
theorem FzL.sq {K H Z} {a : Addr} {vs : List V} (h : FzL K H Z a vs) : SqL K H a vs := h.imp (·.2) id
/-! ### data and values -/
section
variable (K : PySem.W.Frag) (H : Hp) (Z : Addr → Prop)
mutual
def RD : D → V → Prop
  | .non, v => v = .non
  | .bl b, v => v = .bl b
  | .int i, v => v = .int i
  | .str s, v => v = .str s
  | .tup ds, v => ∃ a vs, v = .ref a ∧ SqT K H a vs ∧ RDs ds vs
  | .lst ds, v => ∃ a vs, v = .ref a ∧ FzL K H Z a vs ∧ RDs ds vs
  | .dic _, _ => False
def RDs : List D → List V → Prop
  | [], vs => vs = []
  | d :: ds, vs => ∃ v r, vs = v :: r ∧ RD d v ∧ RDs ds r
end
def RA : At → V → List Addr → Prop
  | .d x, v, L => L = [] ∧ RD K H Z x v
  | .l xs, v, L => ∃ a vs, v = .ref a ∧ L = [a] ∧ H a = some (.lst vs) ∧ RDs K H Z xs vs
  | .m _, _, _ => False
def RFs : List (Str × At) → List (Str × V) → List Addr → Prop
  | [], fs, L => fs = [] ∧ L = []
  | (f, x) :: r, fs, L => ∃ v fs' L1 L2, fs = (f, v) :: fs' ∧ L = L1 ++ L2 ∧ RA K H Z x v L1 ∧ RFs r fs' L2
variable (ca : Nat → Option Addr)
def RV : Vl → V → List Addr → Prop
  | .a x, v, L => RA K H Z x v L
  | .o C fs, v, L => ∃ a A dx fv L1, v = .ref a ∧ L = a :: L1 ∧ ca C = some A ∧ H a = some (.ins A dx fv) ∧ RFs K H Z fs fv L1
def RSl (s : Option Vl) (o : Option V) (L : List Addr) : Prop := match s with
  | none => L = []
  | some x => ∃ v, o = some v ∧ RV K H Z ca x v L
def RS : Loc → Sg → List Addr → Prop
  | [], σ, L => σ = [] ∧ L = []
  | s :: c, σ, L => ∃ o σ' L1 L2, σ = o :: σ' ∧ L = L1 ++ L2 ∧ RSl K H Z ca s o L1 ∧ RS c σ' L2
end
theorem RDs.nil {K H Z} {vs : List V} : RDs K H Z [] vs ↔ vs = [] := by unfold RDs; exact Iff.rfl
theorem RDs.cons {K H Z} {d : D} {ds : List D} {vs : List V} : RDs K H Z (d :: ds) vs ↔ ∃ v r, vs = v :: r ∧ RD K H Z d v ∧ RDs K H Z ds r := by
  constructor
  · intro h; unfold RDs at h; exact h
  · intro h; unfold RDs; exact h
theorem RD.tupI {K H Z} {ds : List D} {v : V} : RD K H Z (.tup ds) v ↔ ∃ a vs, v = .ref a ∧ SqT K H a vs ∧ RDs K H Z ds vs := by
  constructor
  · intro h; unfold RD at h; exact h
  · intro h; unfold RD; exact h
theorem RD.lstI {K H Z} {ds : List D} {v : V} : RD K H Z (.lst ds) v ↔ ∃ a vs, v = .ref a ∧ FzL K H Z a vs ∧ RDs K H Z ds vs := by
  constructor
  · intro h; unfold RD at h; exact h
  · intro h; unfold RD; exact h

/-! ### steps of the abstract heap -/
def imm : HO → Bool
  | .tup _ => true
  | .frz _ _ => true
  | _ => false
def isTbl : HO → Bool
  | .tbl _ => true
  | _ => false
/-- W: what may have been written; L: what may have been frozen -/
structure Stp (W L : List Addr) (H : Hp) (Z : Addr → Prop) (H' : Hp) (Z' : Addr → Prop) : Prop where
  keep : ∀ b o, H b = some o → b ∉ W → isTbl o = false → H' b = some o
  im : ∀ b o, H b = some o → imm o = true → H' b = some o
  dom : ∀ b, H b ≠ none → H' b ≠ none
  zup : ∀ b, Z b → Z' b
  znew : ∀ b, Z' b → Z b ∨ b ∈ L ∨ H b = none
def Sub (L : List Addr) (H : Hp) (L' : List Addr) : Prop := ∀ b ∈ L', b ∈ L ∨ H b = none
def wr (q : Bool) (L : List Addr) : List Addr := if q then [] else L
theorem wr_sub {q : Bool} {L : List Addr} {b : Addr} (h : b ∈ wr q L) : b ∈ L := by
  cases q
  · exact h
  · exact absurd h (by simp [wr])
theorem Stp.refl {W L : List Addr} {H : Hp} {Z : Addr → Prop} : Stp W L H Z H Z := ⟨fun _ _ e _ _ => e, fun _ _ e _ => e, fun _ e => e, fun _ e => e, fun _ e => .inl e⟩
theorem Sub.refl {L : List Addr} {H : Hp} : Sub L H L := fun _ h => .inl h
theorem Sub.trans {L L1 L2 : List Addr} {H H1 : Hp} (a : Sub L H L1) (d : ∀ b, H b ≠ none → H1 b ≠ none) (b : Sub L1 H1 L2) : Sub L H L2 := fun x hx => by
  rcases b x hx with h | h
  · exact a x h
  · right
    by_cases e : H x = none
    · exact e
    · exact absurd h (d x e)
theorem Stp.trans {q1 q2 : Bool} {L L1 : List Addr} {H H1 H2 : Hp} {Z Z1 Z2 : Addr → Prop} (a : Stp (wr q1 L) L H Z H1 Z1) (s : Sub L H L1) (b : Stp (wr q2 L1) L1 H1 Z1 H2 Z2) :
    Stp (wr (q1 && q2) L) L H Z H2 Z2 where
  keep := fun x o e hx ht => by
    refine b.keep x o (a.keep x o e (fun z => hx ?_) ht) (fun z => hx ?_) ht
    · cases q1
      · exact z
      · exact absurd z (by simp [wr])
    · cases q2
      · have z' : x ∈ L1 := z
        have : x ∈ L := by
          rcases s x z' with h | h
          · exact h
          · rw [e] at h; cases h
        cases q1 <;> exact this
      · exact absurd z (by simp [wr])
  im := fun x o e h => b.im x o (a.im x o e h) h
  dom := fun x e => b.dom x (a.dom x e)
  zup := fun x e => b.zup x (a.zup x e)
  znew := fun x e => by
    rcases b.znew x e with h | h | h
    · exact a.znew x h
    · rcases s x h with h | h
      · exact .inr (.inl h)
      · exact .inr (.inr h)
    · right; right
      by_cases z : H x = none
      · exact z
      · exact absurd h (a.dom x z)
theorem Stp.weak {W W' L L' : List Addr} {H H' : Hp} {Z Z' : Addr → Prop} (a : Stp W L H Z H' Z') (hw : ∀ b ∈ W, b ∈ W') (hl : ∀ b ∈ L, b ∈ L') : Stp W' L' H Z H' Z' :=
  ⟨fun b o e h t => a.keep b o e (fun z => h (hw b z)) t, a.im, a.dom, a.zup, fun b e => (a.znew b e).imp id (Or.imp (hl b) id)⟩
theorem Stp.toL {q : Bool} {L : List Addr} {H H' : Hp} {Z Z' : Addr → Prop} (a : Stp (wr q L) L H Z H' Z') : Stp L L H Z H' Z' := a.weak (fun _ => wr_sub) fun _ h => h

section
variable {K : PySem.W.Frag} {H H' : Hp} {Z Z' : Addr → Prop} {ca : Nat → Option Addr} {W L : List Addr}
theorem SqT.stp (s : Stp W L H Z H' Z') {a : Addr} {vs : List V} (h : SqT K H a vs) : SqT K H' a vs := by
  rcases h with (e | ⟨o, e⟩) | h
  · exact .inl (.inl (s.im _ _ e rfl))
  · exact .inl (.inr ⟨o, s.im _ _ e rfl⟩)
  · exact .inr h
theorem RdL.stp (s : Stp W L H Z H' Z') {a : Addr} {vs : List V} (h : Rd H a (.lst vs)) (hw : a ∉ W) : Rd H' a (.lst vs) := by
  rcases h with e | ⟨o, e⟩
  · exact .inl (s.keep _ _ e hw rfl)
  · exact .inr ⟨o, s.im _ _ e rfl⟩
theorem FzL.stp (s : Stp W L H Z H' Z') {a : Addr} {vs : List V} (hw : ∀ b, Z b → b ∉ W) (h : FzL K H Z a vs) : FzL K H' Z' a vs := h.imp (fun ⟨z, q⟩ => ⟨s.zup a z, RdL.stp s q (hw a z)⟩) id
mutual
theorem RD.stp (s : Stp W L H Z H' Z') (hw : ∀ b, Z b → b ∉ W) : ∀ (d : D) (v : V), RD K H Z d v → RD K H' Z' d v
  | .non, v, h => by unfold RD at h ⊢; exact h
  | .bl b, v, h => by unfold RD at h ⊢; exact h
  | .int i, v, h => by unfold RD at h ⊢; exact h
  | .str x, v, h => by unfold RD at h ⊢; exact h
  | .tup ds, v, h => by
    obtain ⟨a, vs, e, q, r⟩ := RD.tupI.mp h
    exact RD.tupI.mpr ⟨a, vs, e, SqT.stp s q, RDs.stp s hw ds vs r⟩
  | .lst ds, v, h => by
    obtain ⟨a, vs, e, z, r⟩ := RD.lstI.mp h
    exact RD.lstI.mpr ⟨a, vs, e, FzL.stp s hw z, RDs.stp s hw ds vs r⟩
  | .dic _, v, h => by unfold RD at h; exact h.elim
theorem RDs.stp (s : Stp W L H Z H' Z') (hw : ∀ b, Z b → b ∉ W) : ∀ (ds : List D) (vs : List V), RDs K H Z ds vs → RDs K H' Z' ds vs
  | [], vs, h => RDs.nil.mpr (RDs.nil.mp h)
  | d :: ds, vs, h => by
    obtain ⟨v, r, e, h1, h2⟩ := RDs.cons.mp h
    exact RDs.cons.mpr ⟨v, r, e, RD.stp s hw d v h1, RDs.stp s hw ds r h2⟩
end
theorem RA.stp (s : Stp W L H Z H' Z') (hw : ∀ b, Z b → b ∉ W) {x : At} {v : V} {M : List Addr} (hm : ∀ b ∈ M, b ∉ W) (h : RA K H Z x v M) : RA K H' Z' x v M := by
  cases x with
  | d x => exact ⟨h.1, RD.stp s hw _ _ h.2⟩
  | l xs =>
    obtain ⟨a, vs, e, hL, q, r⟩ := h
    exact ⟨a, vs, e, hL, s.keep _ _ q (hm a (by rw [hL]; simp)) rfl, RDs.stp s hw _ _ r⟩
  | m kvs => exact h.elim
theorem RFs.stp (s : Stp W L H Z H' Z') (hw : ∀ b, Z b → b ∉ W) : ∀ {fs : List (Str × At)} {fv : List (Str × V)} {M : List Addr}, (∀ b ∈ M, b ∉ W) → RFs K H Z fs fv M → RFs K H' Z' fs fv M
  | [], _, _, _, h => h
  | (f, x) :: r, _, _, hm, ⟨v, fs', L1, L2, e, hL, h1, h2⟩ =>
    ⟨v, fs', L1, L2, e, hL, RA.stp s hw (fun b hb => hm b (by rw [hL]; exact List.mem_append_left _ hb)) h1, RFs.stp s hw (fun b hb => hm b (by rw [hL]; exact List.mem_append_right _ hb)) h2⟩
theorem RV.stp (s : Stp W L H Z H' Z') (hw : ∀ b, Z b → b ∉ W) {x : Vl} {v : V} {M : List Addr} (hm : ∀ b ∈ M, b ∉ W) (h : RV K H Z ca x v M) : RV K H' Z' ca x v M := by
  cases x with
  | a x => exact RA.stp s hw hm h
  | o C fs =>
    obtain ⟨a, A, dx, fv, L1, e, hL, hA, q, r⟩ := h
    exact ⟨a, A, dx, fv, L1, e, hL, hA, s.keep _ _ q (hm a (by rw [hL]; simp)) rfl, RFs.stp s hw (fun b hb => hm b (by rw [hL]; exact List.mem_cons_of_mem _ hb)) r⟩
theorem RSl.stp (s : Stp W L H Z H' Z') (hw : ∀ b, Z b → b ∉ W) {x : Option Vl} {o : Option V} {M : List Addr} (hm : ∀ b ∈ M, b ∉ W) (h : RSl K H Z ca x o M) : RSl K H' Z' ca x o M := by
  cases x with
  | none => exact h
  | some x =>
    obtain ⟨v, e, r⟩ := h
    exact ⟨v, e, RV.stp s hw hm r⟩
theorem RS.stp (s : Stp W L H Z H' Z') (hw : ∀ b, Z b → b ∉ W) : ∀ {c : Loc} {σ : Sg} {M : List Addr}, (∀ b ∈ M, b ∉ W) → RS K H Z ca c σ M → RS K H' Z' ca c σ M
  | [], _, _, _, h => h
  | x :: c, _, _, hm, ⟨o, σ', L1, L2, e, hL, h1, h2⟩ =>
    ⟨o, σ', L1, L2, e, hL, RSl.stp s hw (fun b hb => hm b (by rw [hL]; exact List.mem_append_left _ hb)) h1, RS.stp s hw (fun b hb => hm b (by rw [hL]; exact List.mem_append_right _ hb)) h2⟩
end

/-! ### slots -/
section
variable {K : PySem.W.Frag} {H : Hp} {Z : Addr → Prop} {ca : Nat → Option Addr}
theorem RS.len : ∀ {c : Loc} {σ : Sg} {L : List Addr}, RS K H Z ca c σ L → c.length = σ.length
  | [], _, _, ⟨e, _⟩ => by rw [e]; rfl
  | _ :: c, _, _, ⟨o, σ', L1, L2, e, _, _, h2⟩ => by
    have ih := RS.len h2
    rw [e]; simp [ih]
/-- the i-th slot taken out: what it holds, what the others hold, and how another content is put back -/
theorem RS.split : ∀ {c : Loc} {σ : Sg} {L : List Addr} {i : Nat} {s : Option Vl}, RS K H Z ca c σ L → c[i]? = some s →
    ∃ o Li Lo, σ[i]? = some o ∧ RSl K H Z ca s o Li ∧ (L.Perm (Li ++ Lo)) ∧
      ∀ (H' : Hp) (Z' : Addr → Prop) (s' : Option Vl) (o' : Option V) (Li' : List Addr), (∀ x oo M, (∀ b ∈ M, b ∈ Lo) → RSl K H Z ca x oo M → RSl K H' Z' ca x oo M) → RSl K H' Z' ca s' o' Li' →
        ∃ L', RS K H' Z' ca (c.set i s') (σ.set i o') L' ∧ L'.Perm (Li' ++ Lo)
  | [], _, _, _, _, _, e => by simp at e
  | x :: c, _, _, 0, s, ⟨o, σ', L1, L2, e, hL, h1, h2⟩, hi => by
    simp at hi
    subst hi
    refine ⟨o, L1, L2, by rw [e]; rfl, h1, by rw [hL], fun H' Z' s' o' Li' fr hs => ⟨Li' ++ L2, ?_, .refl _⟩⟩
    rw [e]
    refine ⟨o', σ', Li', L2, rfl, rfl, hs, ?_⟩
    clear hL h1 e
    have all : ∀ {c : Loc} {σ : Sg} {M : List Addr}, (∀ b ∈ M, b ∈ L2) → RS K H Z ca c σ M → RS K H' Z' ca c σ M := by
      intro c
      induction c with
      | nil => intro σ M _ h; exact h
      | cons y c ih =>
        rintro σ M hm ⟨oo, σ2, M1, M2, e, hM, g1, g2⟩
        exact ⟨oo, σ2, M1, M2, e, hM, fr _ _ _ (fun b hb => hm b (by rw [hM]; exact List.mem_append_left _ hb)) g1, ih (fun b hb => hm b (by rw [hM]; exact List.mem_append_right _ hb)) g2⟩
    exact all (fun b hb => hb) h2
  | x :: c, _, _, i + 1, s, ⟨o, σ', L1, L2, e, hL, h1, h2⟩, hi => by
    simp at hi
    obtain ⟨oi, Li, Lo, ei, hs, hp, back⟩ := RS.split h2 hi
    refine ⟨oi, Li, L1 ++ Lo, by rw [e]; simpa using ei, hs, ?_, fun H' Z' s' o' Li' fr hs' => ?_⟩
    · rw [hL]
      refine (List.Perm.append_left L1 hp).trans ?_
      rw [← List.append_assoc, ← List.append_assoc]
      exact List.Perm.append_right Lo List.perm_append_comm
    · obtain ⟨L', r', p'⟩ := back H' Z' s' o' Li' (fun x oo M hm r => fr x oo M (fun b hb => List.mem_append_right _ (hm b hb)) r) hs'
      refine ⟨L1 ++ L', ⟨o, σ'.set i o', L1, L', by rw [e]; rfl, rfl, fr _ _ _ (fun b hb => List.mem_append_left _ hb) h1, r'⟩, ?_⟩
      refine (List.Perm.append_left L1 p').trans ?_
      rw [← List.append_assoc, ← List.append_assoc]
      exact List.Perm.append_right Lo List.perm_append_comm
end

/-! ### the state -/
/-- what stands fast for a program: the fragment, the classes' addresses, the code tables -/
structure Ev where
  K : PySem.W.Frag
  ca : Nat → Option Addr
  tabs : List Addr
structure SR (E : Ev) (c : Loc) (σ : Sg) (H : Hp) (Z : Addr → Prop) (L : List Addr) : Prop where
  rs : RS E.K H Z E.ca c σ L
  nd : L.Nodup
  nz : ∀ a ∈ L, ¬ Z a
  zd : ∀ a, Z a → H a ≠ none
  ld : ∀ a ∈ L, H a ≠ none
  tb : ∀ P ∈ E.tabs, GxR.TabG H P
/-- what else is held: a temporary -/
structure Tmp (Lr L' L : List Addr) (H : Hp) (Z' : Addr → Prop) (H' : Hp) : Prop where
  nd : Lr.Nodup
  dj : ∀ a ∈ Lr, a ∉ L'
  nz : ∀ a ∈ Lr, ¬ Z' a
  ld : ∀ a ∈ Lr, H' a ≠ none
  sub : Sub L H Lr
theorem Tmp.nil {L' L : List Addr} {H : Hp} {Z' : Addr → Prop} {H' : Hp} : Tmp [] L' L H Z' H' := ⟨.nil, fun _ h => absurd h (by simp), fun _ h => absurd h (by simp), fun _ h => absurd h (by simp), fun _ h => absurd h (by simp)⟩
/-- an operand -/
def RO (E : Ev) (H : Hp) (Z : Addr → Prop) (c : Loc) (σ : Sg) (o : Opd) (v : V) (Lr : List Addr) : Prop := match o with
  | .v x => RV E.K H Z E.ca x v Lr
  | .p i => Lr = [] ∧ σ[i]? = some (some v)
  | .q i f => Lr = [] ∧ ∃ a A dx fv, σ[i]? = some (some (.ref a)) ∧ H a = some (.ins A dx fv) ∧ fv.lookup f = some v
end G
namespace G
open PySem L2

theorem Res.bind_ok {α β : Type} {r : Res α} {f : α → Res β} {b : β} (h : r.bind f = .ok b) : ∃ a, r = .ok a ∧ f a = .ok b := by
  cases r with
  | ok a => exact ⟨a, rfl, h⟩
  | exc C as => exact nomatch h
  | no => exact nomatch h
theorem gd_ok {b : Bool} {u : Unit} (h : gd b = .ok u) : b = true := by
  cases b
  · exact nomatch h
  · rfl
theorem isOk_ok {α : Type} {o : Option α} {a : α} (h : isOk o = .ok a) : o = some a := by
  cases o
  · exact nomatch h
  · cases h; rfl
theorem fits_le {n : Nat} (h : fits n = true) : n ≤ sizeLine := of_decide_eq_true h

/-! ### lengths, items -/
section
variable {K : PySem.W.Frag} {H : Hp} {Z : Addr → Prop}
theorem RDs.len : ∀ {ds : List D} {vs : List V}, RDs K H Z ds vs → ds.length = vs.length
  | [], vs, h => by rw [RDs.nil.mp h]; rfl
  | d :: ds, vs, h => by
    obtain ⟨v, r, rfl, _, h2⟩ := RDs.cons.mp h
    simp [RDs.len h2]
theorem RDs.get : ∀ {ds : List D} {vs : List V} {i : Nat} {d : D}, RDs K H Z ds vs → ds[i]? = some d → ∃ v, vs[i]? = some v ∧ RD K H Z d v
  | [], vs, i, d, h, e => by simp at e
  | d' :: ds, vs, 0, d, h, e => by
    obtain ⟨v, r, rfl, h1, _⟩ := RDs.cons.mp h
    simp at e; subst e
    exact ⟨v, rfl, h1⟩
  | d' :: ds, vs, i + 1, d, h, e => by
    obtain ⟨v, r, rfl, _, h2⟩ := RDs.cons.mp h
    obtain ⟨w, h3, h4⟩ := RDs.get (i := i) (d := d) h2 (by simpa using e)
    exact ⟨w, by simpa using h3, h4⟩
theorem RDs.append : ∀ {ds es : List D} {vs ws : List V}, RDs K H Z ds vs → RDs K H Z es ws → RDs K H Z (ds ++ es) (vs ++ ws)
  | [], es, vs, ws, h, g => by rw [RDs.nil.mp h]; exact g
  | d :: ds, es, vs, ws, h, g => by
    obtain ⟨v, r, rfl, h1, h2⟩ := RDs.cons.mp h
    exact RDs.cons.mpr ⟨v, r ++ ws, rfl, h1, h2.append g⟩
theorem RDs.take : ∀ {ds : List D} {vs : List V} (n : Nat), RDs K H Z ds vs → RDs K H Z (ds.take n) (vs.take n)
  | _, _, 0, _ => by simp [RDs.nil]
  | [], vs, n + 1, h => by rw [RDs.nil.mp h]; simp [RDs.nil]
  | d :: ds, vs, n + 1, h => by
    obtain ⟨v, r, rfl, h1, h2⟩ := RDs.cons.mp h
    exact RDs.cons.mpr ⟨v, r.take n, rfl, h1, h2.take n⟩
theorem RDs.drop : ∀ {ds : List D} {vs : List V} (n : Nat), RDs K H Z ds vs → RDs K H Z (ds.drop n) (vs.drop n)
  | _, _, 0, h => h
  | [], vs, n + 1, h => by rw [RDs.nil.mp h]; simp [RDs.nil]
  | d :: ds, vs, n + 1, h => by
    obtain ⟨v, r, rfl, h1, h2⟩ := RDs.cons.mp h
    exact RDs.drop n h2
theorem RDs.set {d : D} {v : V} (hd : RD K H Z d v) : ∀ {ds : List D} {vs : List V} (n : Nat), RDs K H Z ds vs → RDs K H Z (ds.set n d) (vs.set n v)
  | [], vs, n, h => by rw [RDs.nil.mp h]; simp [RDs.nil]
  | _ :: ds, vs, 0, h => by
    obtain ⟨v', r, rfl, h1, h2⟩ := RDs.cons.mp h
    exact RDs.cons.mpr ⟨v, r, rfl, hd, h2⟩
  | _ :: ds, vs, n + 1, h => by
    obtain ⟨v', r, rfl, h1, h2⟩ := RDs.cons.mp h
    exact RDs.cons.mpr ⟨v', r.set n v, rfl, h1, h2.set hd n⟩
theorem RDs.rev : ∀ {ds : List D} {vs : List V}, RDs K H Z ds vs → RDs K H Z ds.reverse vs.reverse
  | [], vs, h => by rw [RDs.nil.mp h]; simp [RDs.nil]
  | d :: ds, vs, h => by
    obtain ⟨v, r, rfl, h1, h2⟩ := RDs.cons.mp h
    rw [List.reverse_cons, List.reverse_cons]
    exact (RDs.rev h2).append (RDs.cons.mpr ⟨v, [], rfl, h1, RDs.nil.mpr rfl⟩)
theorem RDs.rep {ds : List D} {vs : List V} (h : RDs K H Z ds vs) : ∀ n : Nat, RDs K H Z (List.replicate n ds).flatten (List.replicate n vs).flatten
  | 0 => by simp [RDs.nil]
  | n + 1 => by
    rw [List.replicate_succ, List.replicate_succ, List.flatten_cons, List.flatten_cons]
    exact h.append (RDs.rep h n)
theorem RDs.cut {ds : List D} {vs : List V} (lo hi : Option Int) (h : RDs K H Z ds vs) : RDs K H Z (cutD ds lo hi) (cutV vs lo hi) := by
  unfold cutD cutV
  rw [h.len]
  exact (h.drop _).take _
theorem RDs.ints : ∀ {ds : List D} {vs : List V} {ns : List Int}, RDs K H Z ds vs → allI ds = some ns → vs = ns.map V.int
  | [], vs, ns, h, e => by
    rw [RDs.nil.mp h]
    simp [allI] at e; subst e; rfl
  | .int i :: ds, vs, ns, h, e => by
    obtain ⟨v, r, rfl, h1, h2⟩ := RDs.cons.mp h
    simp [allI] at e
    obtain ⟨ms, e1, rfl⟩ := e
    have h1' : v = .int i := by unfold RD at h1; exact h1
    rw [h1', RDs.ints h2 e1]; rfl
  | .non :: _, _, _, _, e => by simp [allI] at e
  | .bl _ :: _, _, _, _, e => by simp [allI] at e
  | .str _ :: _, _, _, _, e => by simp [allI] at e
  | .tup _ :: _, _, _, _, e => by simp [allI] at e
  | .lst _ :: _, _, _, _, e => by simp [allI] at e
  | .dic _ :: _, _, _, _, e => by simp [allI] at e
mutual
theorem RD.dp : ∀ {d : D} {v : V}, RD K H Z d v → Dp K H v d.py
  | .non, v, h => by unfold RD at h; subst h; exact .non
  | .bl b, v, h => by unfold RD at h; subst h; exact .bl b
  | .int i, v, h => by unfold RD at h; subst h; exact .int i
  | .str x, v, h => by unfold RD at h; subst h; exact .str x
  | .tup ds, v, h => by
    obtain ⟨a, vs, rfl, q, r⟩ := RD.tupI.mp h
    unfold D.py
    exact .tup q (RDs.dp r)
  | .lst ds, v, h => by
    obtain ⟨a, vs, rfl, q, r⟩ := RD.lstI.mp h
    unfold D.py
    exact .lst q.sq (RDs.dp r)
  | .dic _, v, h => by unfold RD at h; exact h.elim
theorem RDs.dp : ∀ {ds : List D} {vs : List V}, RDs K H Z ds vs → DpAll K H vs (D.pys ds)
  | [], vs, h => by rw [RDs.nil.mp h]; unfold D.pys; exact .nil
  | d :: ds, vs, h => by
    obtain ⟨v, r, rfl, h1, h2⟩ := RDs.cons.mp h
    unfold D.pys
    exact .cons (RD.dp h1) (RDs.dp h2)
end
theorem RA.dp {x : At} {v : V} {L : List Addr} (h : RA K H Z x v L) : Dp K H v x.frz.py := by
  cases x with
  | d x => exact RD.dp h.2
  | l xs =>
    obtain ⟨a, vs, rfl, _, q, r⟩ := h
    show Dp K H _ (D.lst xs).py
    unfold D.py
    exact .lst (SqL.of q) (RDs.dp r)
  | m kvs => exact h.elim
/-- a list or a tuple that is read -/
theorem RA.seq {x : At} {v : V} {L : List Addr} {xs : List D} (h : RA K H Z x v L) (e : x.seq? = some xs) : ∃ a vs, v = .ref a ∧ (SqL K H a vs ∨ SqT K H a vs) ∧ RDs K H Z xs vs := by
  cases x with
  | d x =>
    cases x with
    | lst ys =>
      obtain ⟨a, vs, rfl, q, r⟩ := RD.lstI.mp h.2
      cases e
      exact ⟨a, vs, rfl, .inl q.sq, r⟩
    | tup ys =>
      obtain ⟨a, vs, rfl, q, r⟩ := RD.tupI.mp h.2
      cases e
      exact ⟨a, vs, rfl, .inr q, r⟩
    | _ => cases e
  | l ys =>
    obtain ⟨a, vs, rfl, _, q, r⟩ := h
    cases e
    exact ⟨a, vs, rfl, .inl (SqL.of q), r⟩
  | m kvs => exact h.elim
end

/-! ### what an operation makes: at most new objects -/
structure Fr (H H' : Hp) (Lz : List Addr) : Prop where
  kp : ∀ b o, H b = some o → H' b = some o
  nw : ∀ b ∈ Lz, H b = none ∧ H' b ≠ none
  nd : Lz.Nodup
theorem Fr.refl {H : Hp} : Fr H H [] := ⟨fun _ _ e => e, fun _ h => absurd h (by simp), .nil⟩
theorem Fr.new {H : Hp} {p : Addr} {o : HO} (h : H p = none) : Fr H (upd H p o) [p] :=
  ⟨fun b u e => by rw [upd_ne (ne_of_none e h)]; exact e, fun b hb => by simp at hb; subst hb; exact ⟨h, by rw [upd_same]; simp⟩, by simp⟩
theorem Fr.new0 {H : Hp} {p : Addr} {o : HO} (h : H p = none) : Fr H (upd H p o) [] :=
  ⟨fun b u e => by rw [upd_ne (ne_of_none e h)]; exact e, fun b hb => absurd hb (by simp), .nil⟩
theorem Fr.stp {H H' : Hp} {Lz : List Addr} (f : Fr H H' Lz) {W L : List Addr} {Z : Addr → Prop} : Stp W L H Z H' Z :=
  ⟨fun b o e _ _ => f.kp b o e, fun b o e _ => f.kp b o e, fun b e => by
    cases q : H b with
    | none => exact absurd q e
    | some o => rw [f.kp b o q]; simp, fun _ h => h, fun _ h => .inl h⟩
section
variable {K : PySem.W.Frag} {H H' : Hp} {Z : Addr → Prop} {Lz : List Addr}
theorem Fr.rd (f : Fr H H' Lz) {d : D} {v : V} (h : RD K H Z d v) : RD K H' Z d v := RD.stp (W := []) (L := []) f.stp (fun _ _ => by simp) _ _ h
theorem Fr.rds (f : Fr H H' Lz) {d : List D} {v : List V} (h : RDs K H Z d v) : RDs K H' Z d v := RDs.stp (W := []) (L := []) f.stp (fun _ _ => by simp) _ _ h
end

/-- an operation on two contents -/
def rG (K : PySem.W.Frag) (g : At → At → Res At) : R2 := fun x y H Q => ∃ Z u v L1 L2 z, RA K H Z u x L1 ∧ RA K H Z v y L2 ∧ g u v = .ok z ∧ ∀ r H' Lz, Fr H H' Lz → RA K H' Z z r Lz → Q r H'
def rGb (K : PySem.W.Frag) (g : At → At → Res Bool) : R2 := fun x y H Q => ∃ Z u v L1 L2 z, RA K H Z u x L1 ∧ RA K H Z v y L2 ∧ g u v = .ok z ∧ Q (.bl z) H
section
variable {X : Cx}
theorem tupQ {K : PySem.W.Frag} {H : Hp} {Z : Addr → Prop} {xs : List D} {vs : List V} {p : Addr} (h : H p = none) (r : RDs K H Z xs vs) {Q : VK} (q : ∀ r H' Lz, Fr H H' Lz → RA K H' Z (.d (.tup xs)) r Lz → Q r H') : Q (.ref p) (upd H p (.tup vs)) :=
  q _ _ [] (Fr.new0 h) ⟨rfl, RD.tupI.mpr ⟨p, vs, rfl, SqT.of upd_same, (Fr.new0 h).rds r⟩⟩
theorem lstQ {K : PySem.W.Frag} {H : Hp} {Z : Addr → Prop} {xs : List D} {vs : List V} {p : Addr} (h : H p = none) (r : RDs K H Z xs vs) {Q : VK} (q : ∀ r H' Lz, Fr H H' Lz → RA K H' Z (.l xs) r Lz → Q r H') : Q (.ref p) (upd H p (.lst vs)) :=
  q _ _ [p] (Fr.new h) ⟨p, vs, rfl, rfl, upd_same, (Fr.new h).rds r⟩
theorem intE {K : PySem.W.Frag} {H : Hp} {Z : Addr → Prop} {i : Int} {v : V} {L : List Addr} (h : RA K H Z (.d (.int i)) v L) : v = .int i := by have := h.2; unfold RD at this; exact this
theorem strE {K : PySem.W.Frag} {H : Hp} {Z : Addr → Prop} {i : Str} {v : V} {L : List Addr} (h : RA K H Z (.d (.str i)) v L) : v = .str i := by have := h.2; unfold RD at this; exact this
theorem blE {K : PySem.W.Frag} {H : Hp} {Z : Addr → Prop} {i : Bool} {v : V} {L : List Addr} (h : RA K H Z (.d (.bl i)) v L) : v = .bl i := by have := h.2; unfold RD at this; exact this
theorem noE {K : PySem.W.Frag} {H : Hp} {Z : Addr → Prop} {v : V} {L : List Addr} (h : RA K H Z (.d .non) v L) : v = .non := by have := h.2; unfold RD at this; exact this
theorem RA.int {K : PySem.W.Frag} {H : Hp} {Z : Addr → Prop} {i : Int} : RA K H Z (.d (.int i)) (.int i) [] := ⟨rfl, by unfold RD; rfl⟩
theorem RA.str {K : PySem.W.Frag} {H : Hp} {Z : Addr → Prop} {i : Str} : RA K H Z (.d (.str i)) (.str i) [] := ⟨rfl, by unfold RD; rfl⟩
theorem RA.bl {K : PySem.W.Frag} {H : Hp} {Z : Addr → Prop} {i : Bool} : RA K H Z (.d (.bl i)) (.bl i) [] := ⟨rfl, by unfold RD; rfl⟩
theorem RA.non {K : PySem.W.Frag} {H : Hp} {Z : Addr → Prop} : RA K H Z (.d .non) .non [] := ⟨rfl, by unfold RD; rfl⟩
theorem tupE {K : PySem.W.Frag} {H : Hp} {Z : Addr → Prop} {xs : List D} {v : V} {L : List Addr} (h : RA K H Z (.d (.tup xs)) v L) : ∃ a vs, v = .ref a ∧ SqT K H a vs ∧ RDs K H Z xs vs := RD.tupI.mp h.2
/-- list + list, whatever is read -/
def rCatL (K : PySem.W.Frag) : R2 := fun x y H Q => ∃ l b xs zs, x = .ref l ∧ y = .ref b ∧ SqL K H l xs ∧ SqL K H b zs ∧ xs.length + zs.length ≤ sizeLine ∧ ∀ p, H p = none → Q (.ref p) (upd H p (.lst (xs ++ zs)))
theorem _root_.L2.Inv.lstR {X : Cx} {pins : List (Addr × Obj)} {σ : L2.St} {H : Hp} {s : Shared} {l : Addr} {xs : List V} (I : Inv X pins σ H s) (hH : Rd H l (.lst xs)) :
    xs.length ≤ sizeLine ∧ ∃ (its : List Value) (n : Nat), Vals xs its ∧ xs.length = its.length ∧ s.heap.get? l = some { cls := .type "list", data := .seq its.toArray n } := by
  obtain ⟨z, its, n, r, e⟩ := hH.ok I.hok
  exact ⟨z, its, n, r, r.length, e⟩
theorem op_catL : OpR X (binaryOp .Add) (rCatL X.K) := by
  intro pins s σ H x y v u Q I rx ry h
  obtain ⟨l, b, xs, zs, rfl, rfl, hH, hB, hz, q⟩ := h
  cases rx
  cases ry
  obtain ⟨its, r, p, z⟩ := I.list hH
  obtain ⟨its2, r2, p2, z2⟩ := I.list hB
  have hl := r.length
  have hl2 := r2.length
  obtain ⟨⟨cls, dd, data, sl⟩, ho, hc, n, hd⟩ := p.isList
  obtain ⟨⟨cls2, dd2, data2, sl2⟩, ho2, hc2, n2, hd2⟩ := p2.isList
  simp only at hc hd hc2 hd2
  subst hc hd hc2 hd2
  refine concat_meets ⟨_, ho, rfl⟩ ⟨_, ho2, rfl⟩ noFill_list_add seq_list_add PySem.F.slot_list_add PySem.F.entry_list_add (PySem.F.args_list_add_2 _ _) (PyProof.Rows.list_addW l b its.toArray its2.toArray n n2 dd dd2 sl sl2 (by rw [List.size_toArray, List.size_toArray]; omega)) ⟨ho, ho2, ?_⟩
  have ea : its.toArray ++ its2.toArray = (its ++ its2).toArray := by simp
  rw [ea]
  exact ⟨.ref _, _, I.lnew (t' := s.toks) (r.append r2) (by rw [List.length_append]; omega), rfl, q _ I.fresh⟩
theorem RA.lst {K : PySem.W.Frag} {H : Hp} {Z : Addr → Prop} {x : At} {v : V} {L : List Addr} {xs : List D} (h : RA K H Z x v L) (e : x = .l xs ∨ x = .d (.lst xs)) : ∃ a vs, v = .ref a ∧ SqL K H a vs ∧ RDs K H Z xs vs := by
  rcases e with rfl | rfl
  · obtain ⟨a, vs, e, _, q, r⟩ := h
    exact ⟨a, vs, e, .inl (.inl q), r⟩
  · obtain ⟨a, vs, e, q, r⟩ := RD.lstI.mp h.2
    exact ⟨a, vs, e, q.sq, r⟩

theorem catLs {xs ys : List D} {u v : At} {pins : List (Addr × Obj)} {s : Shared} {σ : L2.St} {H : Hp} {x y : V} {vv uu : Value} {Q : VK} {Z : Addr → Prop} {L1 L2 : List Addr} (I : Inv X pins σ H s) (rx : RelV x vv) (ry : RelV y uu) (h1 : RA X.K H Z u x L1) (h2 : RA X.K H Z v y L2)
    (e1 : u = .l xs ∨ u = .d (.lst xs)) (e2 : v = .l ys ∨ v = .d (.lst ys)) (hz : xs.length + ys.length ≤ sizeLine) (q : ∀ r H' Lz, Fr H H' Lz → RA X.K H' Z (.l (xs ++ ys)) r Lz → Q r H') :
    wpAny (model X.prog X.w) X.A (binaryOp .Add vv uu) (EP X pins σ Q) X.xe s := by
  obtain ⟨a, vs, rfl, q1, r1⟩ := h1.lst e1
  obtain ⟨b, ws, rfl, q2, r2⟩ := h2.lst e2
  exact op_catL pins s σ H _ _ _ _ _ I rx ry ⟨a, b, vs, ws, rfl, rfl, q1, q2, by rw [← r1.len, ← r2.len]; exact hz, fun p hp => lstQ hp (r1.append r2) q⟩
theorem repTup {j : Nat} : 0 < j → True := fun _ => trivial
def opOf : BOp → Operator
  | .add => .Add | .sub => .Sub | .mul => .Mult | .fdiv => .FloorDiv | .mod => .Mod | .pow => .Pow
theorem flat_nil {α : Type} : ∀ {n : Nat}, (List.replicate n ([] : List α)).flatten = []
  | 0 => rfl
  | n + 1 => flat_nil (n := n)
theorem bop_ok (o : BOp) : OpR X (binaryOp (opOf o)) (rG X.K (bop o)) := by
  intro pins s σ H x y vv uu Q I rx ry h
  obtain ⟨Z, u, v, L1, L2, z, h1, h2, e, q⟩ := h
  unfold bop at e
  split at e
  · cases e
    exact op_add pins s σ H _ _ _ _ _ I rx ry ⟨_, _, intE h1, intE h2, q _ _ _ Fr.refl RA.int⟩
  · obtain ⟨_, g, e⟩ := Res.bind_ok e
    cases e
    exact op_add_str pins s σ H _ _ _ _ _ I rx ry ⟨_, _, strE h1, strE h2, fits_le (gd_ok g), q _ _ _ Fr.refl RA.str⟩
  · obtain ⟨_, g, e⟩ := Res.bind_ok e
    cases e
    obtain ⟨a, vs, rfl, q1, r1⟩ := tupE h1
    obtain ⟨b, ws, rfl, q2, r2⟩ := tupE h2
    refine op_catA pins s σ H _ _ _ _ _ I rx ry ⟨a, b, vs, ws, rfl, rfl, q1, q2, by rw [← r1.len, ← r2.len]; exact fits_le (gd_ok g), fun z => ?_, fun _ z => ?_, fun _ _ p hp => tupQ hp (r1.append r2) q⟩
    · refine q _ _ [] Fr.refl ⟨rfl, RD.tupI.mpr ⟨b, ws, rfl, q2, ?_⟩⟩
      have := r1.append r2
      rw [z] at this; exact this
    · refine q _ _ [] Fr.refl ⟨rfl, RD.tupI.mpr ⟨a, vs, rfl, q1, ?_⟩⟩
      have := r1.append r2
      rw [z, List.append_nil] at this; exact this
  · obtain ⟨_, g, e⟩ := Res.bind_ok e
    cases e
    exact catLs I rx ry h1 h2 (.inl rfl) (.inl rfl) (fits_le (gd_ok g)) q
  · obtain ⟨_, g, e⟩ := Res.bind_ok e
    cases e
    exact catLs I rx ry h1 h2 (.inr rfl) (.inl rfl) (fits_le (gd_ok g)) q
  · obtain ⟨_, g, e⟩ := Res.bind_ok e
    cases e
    exact catLs I rx ry h1 h2 (.inl rfl) (.inr rfl) (fits_le (gd_ok g)) q
  · obtain ⟨_, g, e⟩ := Res.bind_ok e
    cases e
    exact catLs I rx ry h1 h2 (.inr rfl) (.inr rfl) (fits_le (gd_ok g)) q
  · cases e
    exact op_sub pins s σ H _ _ _ _ _ I rx ry ⟨_, _, intE h1, intE h2, q _ _ _ Fr.refl RA.int⟩
  · obtain ⟨_, g, e⟩ := Res.bind_ok e
    cases e
    refine op_mul pins s σ H _ _ _ _ _ I rx ry ⟨_, _, intE h1, intE h2, ?_, q _ _ _ Fr.refl RA.int⟩
    have g := gd_ok g
    rw [Bool.or_eq_true] at g
    exact g.imp smallI_ok smallI_ok
  · obtain ⟨_, g, e⟩ := Res.bind_ok e
    cases e
    have g := gd_ok g
    simp only [Bool.and_eq_true, decide_eq_true_eq] at g
    obtain ⟨a, vs, rfl, q1, r1⟩ := tupE h1
    cases vs with
    | nil =>
      have := List.eq_nil_of_length_eq_zero r1.len
      subst this
      refine op_repT0 pins s σ H _ _ _ _ _ I rx ry ⟨a, _, rfl, intE h2, q1, g.1.1, g.1.2, q _ _ [] Fr.refl ?_⟩
      rw [flat_nil]
      exact ⟨rfl, RD.tupI.mpr ⟨a, [], rfl, q1, r1⟩⟩
    | cons v vs => exact op_repT pins s σ H _ _ _ _ _ I rx ry ⟨a, _, v :: vs, rfl, intE h2, q1, List.cons_ne_nil _ _, g.1.1, g.1.2, by rw [← r1.len]; exact g.2, fun p hp => tupQ hp (r1.rep _) q⟩
  · obtain ⟨_, g, e⟩ := Res.bind_ok e
    cases e
    have g := gd_ok g
    simp only [Bool.and_eq_true, decide_eq_true_eq] at g
    obtain ⟨a, vs, rfl, hl, q1, r1⟩ := h1
    refine op_rep pins s σ H _ _ _ _ _ I rx ry ⟨a, _, vs, rfl, intE h2, q1, by omega, by omega, ?_, fun p hp => lstQ hp (r1.rep _) q⟩
    have h3 := r1.len
    exact Nat.le_trans (Nat.mul_le_mul (show vs.length ≤ 1000 by omega) (Int.toNat_le.mpr g.1.2)) (by decide)
  · obtain ⟨_, g, e⟩ := Res.bind_ok e
    cases e
    have g := gd_ok g
    simp only [Bool.and_eq_true, decide_eq_true_eq] at g
    exact op_fdiv pins s σ H _ _ _ _ _ I rx ry ⟨_, _, intE h1, intE h2, g, q _ _ _ Fr.refl RA.int⟩
  · obtain ⟨_, g, e⟩ := Res.bind_ok e
    cases e
    exact op_mod pins s σ H _ _ _ _ _ I rx ry ⟨_, _, intE h1, intE h2, of_decide_eq_true (gd_ok g), q _ _ _ Fr.refl RA.int⟩
  · obtain ⟨_, g, e⟩ := Res.bind_ok e
    cases e
    have g := gd_ok g
    simp only [Bool.and_eq_true, decide_eq_true_eq] at g
    exact op_pow pins s σ H _ _ _ _ _ I rx ry ⟨_, _, intE h1, intE h2, ⟨g.1.1, by omega, g.2⟩, q _ _ _ Fr.refl RA.int⟩
  · cases e
end
end G
namespace G
open PySem L2
section
variable {X : Cx}
def copOf : COp → CmpOp
  | .eq => .Eq | .ne => .NotEq | .lt => .Lt | .le => .LtE | .gt => .Gt | .ge => .GtE | .isin => .In | .notin => .NotIn
theorem shp_list {ys : List D} (h : ys.all D.ok = true) (hd : (ys.map fun y => (y.py).depth).all (fun n => decide (n ≤ 63)) = true) : True := trivial
theorem seq_dp {K : PySem.W.Frag} {H : Hp} {Z : Addr → Prop} {x : At} {v : V} {L : List Addr} {xs : List D} (h : RA K H Z x v L) (e : x.seq? = some xs) : Dp K H v (.list (D.pys xs)) ∨ Dp K H v (.tuple (D.pys xs)) := by
  obtain ⟨a, vs, rfl, q | q, r⟩ := h.seq e
  · exact .inl (.lst q (RDs.dp r))
  · exact .inr (.tup q (RDs.dp r))
theorem any_pys (x : D) : ∀ xs : List D, ((D.pys xs).any fun z => PyData.eqv z x.py) = memD x xs
  | [] => by unfold D.pys memD; rfl
  | d :: ds => by
    unfold D.pys memD
    rw [List.any_cons, List.any_cons, any_pys x ds]
    rfl

theorem shaped_py {d : D} (h : d.ok = true) : SeqAt.shaped d.py = true := h
theorem in_ok (hu : X.A.units + 65 < cLine) {neg : Bool} {pins : List (Addr × Obj)} {s : Shared} {σ : L2.St} {H : Hp} {x y : V} {vv uu : Value} {Q : VK} {Z : Addr → Prop} {L1 L2 : List Addr} {d : D} {v : At} {ys : List D} (I : Inv X pins σ H s)
    (rx : RelV x vv) (ry : RelV y uu) (h1 : RA X.K H Z (.d d) x L1) (h2 : RA X.K H Z v y L2) (e : v.seq? = some ys) (o1 : d.ok = true) (o2 : v.frz.ok = true) (q : Q (.bl (if neg then !memD d ys else memD d ys)) H) :
    wpAny (model X.prog X.w) X.A (compareOp (if neg then .NotIn else .In) vv uu) (EP X pins σ Q) X.xe s := by
  obtain ⟨as, r1⟩ := Dp.reads I d.py x vv (RD.dp h1.2) rx
  have hv : v.frz.py = .list (D.pys ys) ∨ v.frz.py = .tuple (D.pys ys) := by
    cases v with
    | d z =>
      cases z with
      | lst zs => cases e; left; show (D.lst _).py = _; unfold D.py; rfl
      | tup zs => cases e; right; show (D.tup _).py = _; unfold D.py; rfl
      | _ => cases e
    | l zs => cases e; left; show (D.lst _).py = _; unfold D.py; rfl
    | m _ => exact h2.elim
  have hd := h2.dp
  have hs := shaped_py o2
  rw [← any_pys] at q
  rcases hv with hv | hv
  · rw [hv] at hd hs
    obtain ⟨bs, r2⟩ := Dp.reads I _ y uu hd ry
    cases neg
    · exact SeqAt.in_list_reads r2 r1 (SeqAt.canLay_of_shaped hs) (SeqAt.canLay_of_shaped o1) (PyProof.Rows.room_in_shaped o1 hu) ⟨.bl _, H, I, rfl, q⟩
    · exact SeqAt.notIn_list_reads r2 r1 (SeqAt.canLay_of_shaped hs) (SeqAt.canLay_of_shaped o1) (PyProof.Rows.room_in_shaped o1 hu) ⟨.bl _, H, I, rfl, q⟩
  · rw [hv] at hd hs
    obtain ⟨bs, r2⟩ := Dp.reads I _ y uu hd ry
    cases neg
    · exact SeqAt.in_tuple_reads r2 r1 (SeqAt.canLay_of_shaped hs) (SeqAt.canLay_of_shaped o1) (PyProof.Rows.room_in_shaped o1 hu) ⟨.bl _, H, I, rfl, q⟩
    · exact SeqAt.notIn_tuple_reads r2 r1 (SeqAt.canLay_of_shaped hs) (SeqAt.canLay_of_shaped o1) (PyProof.Rows.room_in_shaped o1 hu) ⟨.bl _, H, I, rfl, q⟩
theorem cop_ok (hu : X.A.units + 65 < cLine) (o : COp) : OpR X (compareOp (copOf o)) (rGb X.K (cop o)) := by
  intro pins s σ H x y vv uu Q I rx ry h
  obtain ⟨Z, u, v, L1, L2, z, h1, h2, e, q⟩ := h
  unfold cop at e
  split at e
  · obtain ⟨_, g, e⟩ := Res.bind_ok e
    cases e
    have g := gd_ok g
    rw [Bool.and_eq_true] at g
    exact op_eqD (by omega) pins s σ H _ _ _ _ _ I rx ry ⟨_, _, h1.dp, h2.dp, g.1, g.2, q⟩
  · obtain ⟨_, g, e⟩ := Res.bind_ok e
    cases e
    have g := gd_ok g
    rw [Bool.and_eq_true] at g
    exact op_neD (by omega) pins s σ H _ _ _ _ _ I rx ry ⟨_, _, h1.dp, h2.dp, g.1, g.2, q⟩
  · cases e
    exact op_lt pins s σ H _ _ _ _ _ I rx ry ⟨_, _, intE h1, intE h2, q⟩
  · cases e
    exact op_le pins s σ H _ _ _ _ _ I rx ry ⟨_, _, intE h1, intE h2, q⟩
  · cases e
    exact op_gt pins s σ H _ _ _ _ _ I rx ry ⟨_, _, intE h1, intE h2, q⟩
  · cases e
    exact op_ge pins s σ H _ _ _ _ _ I rx ry ⟨_, _, intE h1, intE h2, q⟩
  · obtain ⟨ys, e1, e⟩ := Res.bind_ok e
    obtain ⟨_, g, e⟩ := Res.bind_ok e
    cases e
    have g := gd_ok g
    rw [Bool.and_eq_true] at g
    exact in_ok hu (neg := false) I rx ry h1 h2 (isOk_ok e1) g.1 g.2 q
  · obtain ⟨ys, e1, e⟩ := Res.bind_ok e
    obtain ⟨_, g, e⟩ := Res.bind_ok e
    cases e
    have g := gd_ok g
    rw [Bool.and_eq_true] at g
    exact in_ok hu (neg := true) I rx ry h1 h2 (isOk_ok e1) g.1 g.2 q
  · cases e

/-! ### truth -/
theorem isEmpty_len {α β : Type} {xs : List α} {ys : List β} (h : xs.length = ys.length) : xs.isEmpty = ys.isEmpty := by
  cases xs <;> cases ys <;> first | rfl | (simp at h)
theorem truth_V {K : PySem.W.Frag} {ca : Nat → Option Addr} {H : Hp} {Z : Addr → Prop} {x : Vl} {v : V} {L : List Addr} {b : Bool} (h : RV K H Z ca x v L) (e : truth x = .ok b) : TruV K v H b := by
  cases x with
  | o C fs => exact nomatch e
  | a x =>
    have h : RA K H Z x v L := h
    have seqc : ∀ xs, x.seq? = some xs → b = !xs.isEmpty → TruV K v H b := fun xs e1 e2 => by
      obtain ⟨a, vs, rfl, q | q, r⟩ := h.seq e1
      · exact .inl ⟨vs, q, by rw [e2, isEmpty_len r.len]⟩
      · exact .inr (.inl ⟨vs, q, by rw [e2, isEmpty_len r.len]⟩)
    cases x with
    | d d =>
      cases d with
      | non => cases e; rw [noE h]; rfl
      | bl c => cases e; rw [blE h]; rfl
      | int i => cases e; rw [intE h]; rfl
      | str s =>
        obtain ⟨_, g, e⟩ := Res.bind_ok (show (gd (fits s.length)).bind (fun _ => Res.ok ((s.length : Int) != 0)) = Res.ok b from e)
        cases e
        rw [strE h]
        exact ⟨fits_le (gd_ok g), rfl⟩
      | tup ds =>
        obtain ⟨xs, g, e⟩ := Res.bind_ok (show (isOk (At.d (.tup ds)).seq?).bind (fun xs => Res.ok (!xs.isEmpty)) = Res.ok b from e)
        cases e
        exact seqc _ (isOk_ok g) rfl
      | lst ds =>
        obtain ⟨xs, g, e⟩ := Res.bind_ok (show (isOk (At.d (.lst ds)).seq?).bind (fun xs => Res.ok (!xs.isEmpty)) = Res.ok b from e)
        cases e
        exact seqc _ (isOk_ok g) rfl
      | dic kvs => exact absurd h.2 (by unfold RD; exact id)
    | l ds =>
      obtain ⟨xs, g, e⟩ := Res.bind_ok (show (isOk (At.l ds).seq?).bind (fun xs => Res.ok (!xs.isEmpty)) = Res.ok b from e)
      cases e
      exact seqc _ (isOk_ok g) rfl
    | m kvs => exact h.elim

/-! ### items, slices -/
theorem atI_D {K : PySem.W.Frag} {H : Hp} {Z : Addr → Prop} {xs : List D} {vs : List V} {i : Int} {d : D} (r : RDs K H Z xs vs) (e : atI xs i = some d) : ∃ v, atI vs i = some v ∧ RD K H Z d v := by
  unfold atI at e ⊢
  rw [← r.len]
  cases q : ixN xs.length i with
  | none => rw [q] at e; cases e
  | some j =>
    rw [q] at e
    exact r.get e
def rGd (K : PySem.W.Frag) (g : At → At → Res D) : R2 := fun x y H Q => ∃ Z u v L1 L2 z, RA K H Z u x L1 ∧ RA K H Z v y L2 ∧ g u v = .ok z ∧ ∀ r, RD K H Z z r → Q r H
theorem rGd_ix {x y : V} {H : Hp} {Q : VK} {K : PySem.W.Frag} (h : rGd K idx x y H Q) : rIx K x y H Q := by
  obtain ⟨Z, u, v, L1, L2, z, h1, h2, e, q⟩ := h
  unfold idx at e
  split at e
  · rename_i i
    have hy := intE h2
    split at e
    · rename_i s
      obtain ⟨_, g, e⟩ := Res.bind_ok e
      obtain ⟨ch, g2, e⟩ := Res.bind_ok e
      cases e
      exact .inr (.inr ⟨s, i, ch, strE h1, hy, fits_le (gd_ok g), isOk_ok g2, q _ (by unfold RD; rfl)⟩)
    · obtain ⟨xs, g, e⟩ := Res.bind_ok e
      obtain ⟨a, vs, rfl, qq | qq, r⟩ := h1.seq (isOk_ok g)
      · obtain ⟨w', e1, e2⟩ := atI_D r (isOk_ok e)
        exact .inl ⟨a, vs, i, w', rfl, hy, qq, e1, q _ e2⟩
      · obtain ⟨w', e1, e2⟩ := atI_D r (isOk_ok e)
        exact .inr (.inl ⟨a, vs, i, w', rfl, hy, qq, e1, q _ e2⟩)
  · cases e
theorem cutD_whole {xs : List D} {lo hi : Option Int} (h : HT.sIx xs.length 0 lo = 0 ∧ HT.sIx xs.length xs.length hi = xs.length) : cutD xs lo hi = xs := by
  unfold cutD
  rw [h.1, h.2]
  simp
def rGs (K : PySem.W.Frag) : V → Option Int → Option Int → Hp → VK → Prop := fun x lo hi H Q => ∃ Z u L1 z, RA K H Z u x L1 ∧ slc u lo hi = .ok z ∧ ∀ r H' Lz, Fr H H' Lz → RA K H' Z z r Lz → Q r H'
theorem slc_ok : SlR X (rGs X.K) := by
  intro pins s σ H x v vl vu lo hi sl Q I rx hs pl pu h
  obtain ⟨Z, u, L1, z, h1, e, q⟩ := h
  unfold slc at e
  split at e
  · cases e
    obtain ⟨a, vs, rfl, q1, r1⟩ := tupE h1
    refine sl_tupA pins s σ H _ _ _ _ _ _ _ _ I rx hs pl pu ⟨a, vs, rfl, q1, fun w' => ?_, fun _ p hp => tupQ hp (r1.cut lo hi) q⟩
    rw [← r1.len] at w'
    exact q _ _ [] Fr.refl ⟨rfl, RD.tupI.mpr ⟨a, vs, rfl, q1, by rw [cutD_whole w']; exact r1⟩⟩
  · cases e
    obtain ⟨a, vs, rfl, q1, r1⟩ := h1.lst (.inr rfl)
    exact sl_list pins s σ H _ _ _ _ _ _ _ _ I rx hs pl pu ⟨a, vs, rfl, q1, fun p hp => lstQ hp (r1.cut lo hi) q⟩
  · cases e
    obtain ⟨a, vs, rfl, q1, r1⟩ := h1.lst (.inl rfl)
    exact sl_list pins s σ H _ _ _ _ _ _ _ _ I rx hs pl pu ⟨a, vs, rfl, q1, fun p hp => lstQ hp (r1.cut lo hi) q⟩
  · cases e
end
end G
namespace G
open PySem L2
/-! ### built-ins -/
def tyName : At → String
  | .d .non => "NoneType" | .d (.bl _) => "bool" | .d (.int _) => "int" | .d (.str _) => "str" | .d (.tup _) => "tuple" | .d (.lst _) => "list" | .l _ => "list" | .d (.dic _) => "dict" | .m _ => "dict"
theorem tyx {K : PySem.W.Frag} {H : Hp} {Z : Addr → Prop} {x : At} {v : V} {L : List Addr} (h : RA K H Z x v L) : TyX K H v (.type (tyName x)) := by
  cases x with
  | d d =>
    cases d with
    | non => rw [noE h]; exact .base .non
    | bl c => rw [blE h]; exact .base (.bl _)
    | int i => rw [intE h]; exact .base (.int _)
    | str s => rw [strE h]; exact .base (.str _)
    | tup ds =>
      obtain ⟨a, vs, rfl, (q | ⟨o, q⟩) | ⟨o, its, n, q, c, _⟩, r⟩ := tupE h
      · exact .base (.tup q)
      · exact .fTuple q
      · exact .kTuple q c
    | lst ds =>
      obtain ⟨a, vs, rfl, (q | ⟨o, q⟩) | ⟨o, its, n, q, c, _⟩, r⟩ := h.lst (.inr rfl)
      · exact .base (.lst q)
      · exact .base (.frz q)
      · exact .kList q c
    | dic kvs => exact absurd h.2 (by unfold RD; exact id)
  | l ds =>
    obtain ⟨a, vs, rfl, _, q, r⟩ := h
    exact .base (.lst q)
  | m kvs => exact h.elim
def isiN : Blt → Option String
  | .isI => some "int" | .isB => some "bool" | .isT => some "tuple" | .isS => some "str" | .isL => some "list" | _ => none
section
variable {X : Cx}
theorem isi_ok {b : Blt} {T : String} (hb : isiN b = some T) {K : PySem.W.Frag} {H : Hp} {Z : Addr → Prop} {x : At} {v : V} {L : List Addr} {z : At} {Q : VK} (h : RA K H Z x v L) (e : blt1 b x = .ok z) (q : ∀ r H' Lz, Fr H H' Lz → RA K H' Z z r Lz → Q r H') :
    rIsi K [v, .ty T] H Q := by
  have ty := tyx h
  have fin : ∀ c : Bool, z = .d (.bl c) → kitB (tyName x) T = some c → rIsi K [v, .ty T] H Q := fun c ez ek =>
    ⟨v, .ty T, _, _, c, rfl, .ty T, ty, kit_ty ek, q _ _ _ Fr.refl (by rw [ez]; exact RA.bl)⟩
  cases b <;> cases hb
  all_goals
    cases x with
    | d d => cases d <;> first | (cases e; exact fin _ rfl (by simp only [tyName]; decide +kernel)) | (cases e; done)
    | l xs => first | (cases e; exact fin _ rfl (by simp only [tyName]; decide +kernel)) | (cases e; done)
    | m kvs => exact h.elim

/-- the other built-ins, by name -/
def bltN : Blt → Option (String × Bool)
  | .len => some ("len", false) | .int => some ("int", true) | .str => some ("str", true) | .max2 => some ("max", false) | .tup => some ("tuple", true) | .lst => some ("list", true) | .sum => some ("sum", false) | .maxs => some ("max", false) | _ => none
def bltV (p : String × Bool) : Value := if p.2 then .type p.1 else .builtin p.1
def RAs (K : PySem.W.Frag) (H : Hp) (Z : Addr → Prop) : List At → List V → Prop
  | [], vs => vs = []
  | x :: xs, vs => ∃ v r L, vs = v :: r ∧ RA K H Z x v L ∧ RAs K H Z xs r
def rBl (K : PySem.W.Frag) (b : Blt) : List V → Hp → VK → Prop := fun vs H Q => ∃ Z us z, RAs K H Z us vs ∧ blt b us = .ok z ∧ ∀ r H' Lz, Fr H H' Lz → RA K H' Z z r Lz → Q r H'
theorem RDs.any_ints {K : PySem.W.Frag} {H : Hp} {Z : Addr → Prop} {x : At} {v : V} {L : List Addr} {xs : List D} {ns : List Int} (h : RA K H Z x v L) (e : x.seq? = some xs) (e2 : allI xs = some ns) : ∃ a, v = .ref a ∧ (SqL K H a (ns.map V.int) ∨ SqT K H a (ns.map V.int)) := by
  obtain ⟨a, vs, rfl, q, r⟩ := h.seq e
  rw [r.ints e2] at q
  exact ⟨a, rfl, q⟩
theorem isList_sq {K : PySem.W.Frag} {H : Hp} {Z : Addr → Prop} {x : At} {v : V} {L : List Addr} {xs : List D} (h : RA K H Z x v L) (e : x.seq? = some xs) (l : x.isList = true) : ∃ a vs, v = .ref a ∧ SqL K H a vs ∧ RDs K H Z xs vs := by
  have e1 : x = .l xs ∨ x = .d (.lst xs) := by
    cases x with
    | d d => cases d <;> first | (cases l; done) | (cases e; exact .inr rfl)
    | l ys => cases e; exact .inl rfl
    | m _ => cases l
  exact h.lst e1
theorem max_of {ns : List Int} {m k : Int} (h : ns.max? = some m) (hk : k ∈ ns) (hm : ∀ y, y ∈ ns → y ≤ k) : k = m := by
  rw [List.max?_eq_some_iff] at h
  have h1 := h.2 k hk
  have h2 := hm m h.1
  omega
theorem RAs.one {K : PySem.W.Frag} {H : Hp} {Z : Addr → Prop} {x : At} {xs : List V} (h : RAs K H Z [x] xs) : ∃ v L, xs = [v] ∧ RA K H Z x v L := by
  obtain ⟨v, r, L, e1, h1, h2⟩ := h
  have h2 : r = [] := h2
  exact ⟨v, L, by rw [e1, h2], h1⟩
theorem blt1_ok (hc : X.calm = true) {b : Blt} {p : String × Bool} (hb : bltN b = some p) {pins : List (Addr × Obj)} {s : Shared} {σ : L2.St} {H : Hp} {v : V} {us : List Value} {Q : VK} {Z : Addr → Prop} {x z : At} {L : List Addr} (I : Inv X pins σ H s) (rv : Vals [v] us) (h1 : RA X.K H Z x v L)
    (e : blt1 b x = .ok z) (q : ∀ r H' Lz, Fr H H' Lz → RA X.K H' Z z r Lz → Q r H') : wpAny (model X.prog X.w) X.A (PySem.call (bltV p) us) (EP X pins σ Q) X.xe s := by
  unfold blt1 at e
  split at e <;> first | (cases hb; done) | skip
  · cases hb
    refine call_len pins s σ H _ _ _ I rv ?_
    unfold lenA at e
    split at e
    · obtain ⟨_, g, e⟩ := Res.bind_ok e
      cases e
      obtain rfl := strE h1
      exact ⟨_, _, rfl, ⟨fits_le (gd_ok g), rfl⟩, q _ _ _ Fr.refl RA.int⟩
    · obtain ⟨ys, g, e⟩ := Res.bind_ok e
      cases e
      obtain ⟨a, vs, rfl, qq, r⟩ := h1.seq (isOk_ok g)
      refine ⟨_, vs.length, rfl, ?_, by rw [← r.len]; exact q _ _ _ Fr.refl RA.int⟩
      rcases qq with qq | qq
      · exact .inl ⟨vs, qq, rfl⟩
      · exact .inr ⟨vs, qq, rfl⟩
  · cases hb; cases e
    obtain rfl := intE h1
    exact call_int1 pins s σ H _ _ _ I rv (.inl ⟨_, rfl, q _ _ _ Fr.refl RA.int⟩)
  · cases hb; cases e
    obtain rfl := blE h1
    exact call_int1 pins s σ H _ _ _ I rv (.inr ⟨_, rfl, q _ _ _ Fr.refl RA.int⟩)
  · rename_i i
    cases hb
    obtain ⟨_, g, e⟩ := Res.bind_ok e
    cases e
    obtain rfl := intE h1
    refine call_str_int pins s σ H _ _ _ I rv ⟨i, rfl, ?_, q _ _ _ Fr.refl RA.str⟩
    have g := of_decide_eq_true (gd_ok g)
    by_cases h0 : i.natAbs = 0
    · rw [h0]; decide
    · have h2 := (Nat.log2_lt h0 (k := 20)).mpr (Nat.lt_trans g (by decide))
      omega
  · cases hb
    obtain ⟨ys, g, e⟩ := Res.bind_ok e
    cases e
    obtain ⟨a, vs, rfl, qq, r⟩ := h1.seq (isOk_ok g)
    refine call_tuple_of pins s σ H _ _ _ I rv ⟨a, vs, rfl, ?_⟩
    rcases qq with qq | qq
    · exact .inl ⟨qq, fun p hp => tupQ hp r q⟩
    · exact .inr ⟨qq, q _ _ [] Fr.refl ⟨rfl, RD.tupI.mpr ⟨a, vs, rfl, qq, r⟩⟩⟩
  · cases hb
    obtain ⟨ys, g, e⟩ := Res.bind_ok e
    cases e
    obtain ⟨a, vs, rfl, qq, r⟩ := h1.seq (isOk_ok g)
    exact call_list_of pins s σ H _ _ _ I rv ⟨a, vs, rfl, qq, fun p hp => lstQ hp r q⟩
  · cases hb
    obtain ⟨_, gl, e⟩ := Res.bind_ok e
    obtain ⟨ys, g, e⟩ := Res.bind_ok e
    obtain ⟨ns, g2, e⟩ := Res.bind_ok e
    cases e
    obtain ⟨a, vs, rfl, qq, r⟩ := isList_sq h1 (isOk_ok g) (gd_ok gl)
    rw [r.ints (isOk_ok g2)] at qq
    exact cr_sum hc pins s σ H _ _ _ I rv ⟨a, ns, rfl, qq, q _ _ _ Fr.refl RA.int⟩
  · cases hb
    obtain ⟨_, gl, e⟩ := Res.bind_ok e
    obtain ⟨ys, g, e⟩ := Res.bind_ok e
    obtain ⟨ns, g2, e⟩ := Res.bind_ok e
    obtain ⟨m, g3, e⟩ := Res.bind_ok e
    cases e
    obtain ⟨a, vs, rfl, qq, r⟩ := isList_sq h1 (isOk_ok g) (gd_ok gl)
    rw [r.ints (isOk_ok g2)] at qq
    have hp : 0 < ns.length := by
      cases ns with
      | nil => cases (isOk_ok g3)
      | cons _ _ => simp
    refine cr_max hc pins s σ H _ _ _ I rv ⟨a, ns, rfl, qq, hp, fun k hk hm => ?_⟩
    rw [max_of (isOk_ok g3) hk hm]
    exact q _ _ _ Fr.refl RA.int
  all_goals cases e
theorem blt_ok (hc : X.calm = true) {b : Blt} {p : String × Bool} (hb : bltN b = some p) : CallR X (bltV p) (rBl X.K b) := by
  intro pins s σ H xs us Q I rv h
  obtain ⟨Z, as, z, ra, e, q⟩ := h
  unfold blt at e
  split at e
  · obtain ⟨v, L, rfl, h1⟩ := ra.one
    exact blt1_ok hc hb I rv h1 e q
  · unfold blt2 at e
    split at e
    · cases hb; cases e
      obtain ⟨v, r, L, rfl, h1, v2, r2, L2, rfl, h3, h4⟩ := ra
      obtain rfl : r2 = [] := h4
      obtain rfl := intE h1
      obtain rfl := intE h3
      exact call_max2 hc pins s σ H _ _ _ I rv ⟨_, _, rfl, q _ _ _ Fr.refl RA.int⟩
    · cases e
  · cases e
end
end G
namespace G
open PySem L2
/-! ### readings -/
structure Aft (E : Ev) (q : Bool) (L : List Addr) (H : Hp) (Z : Addr → Prop) (σ : Sg) (c' : Loc) (H' : Hp) (Z' : Addr → Prop) (L' : List Addr) : Prop where
  st : Stp (wr q L) L H Z H' Z'
  sr : SR E c' σ H' Z' L'
  sub : Sub L H L'
section
variable {E : Ev} {q q1 q2 : Bool} {L L1 L2 Lr : List Addr} {H H1 H2 : Hp} {Z Z1 Z2 : Addr → Prop} {σ : Sg} {c c1 c2 : Loc}
theorem Aft.refl (h : SR E c σ H Z L) : Aft E q L H Z σ c H Z L := ⟨.refl, h, .refl⟩
theorem Aft.trans (a : Aft E q1 L H Z σ c1 H1 Z1 L1) (b : Aft E q2 L1 H1 Z1 σ c2 H2 Z2 L2) : Aft E (q1 && q2) L H Z σ c2 H2 Z2 L2 :=
  ⟨a.st.trans a.sub b.st, b.sr, a.sub.trans a.st.dom b.sub⟩
theorem Aft.loud (a : Aft E q L H Z σ c1 H1 Z1 L1) : Aft E false L H Z σ c1 H1 Z1 L1 := ⟨a.st.weak (fun _ h => wr_sub h) fun _ h => h, a.sr, a.sub⟩
theorem wr_dj (sr : SR E c σ H Z L) : ∀ b, Z b → b ∉ wr q L := fun b z h => sr.nz b (wr_sub h) z
/-- behind a further step: what a temporary owns stands -/
theorem Tmp.aft (t : Tmp Lr L1 L H Z1 H1) (b : Aft E q L1 H1 Z1 σ c2 H2 Z2 L2) : Tmp Lr L2 L H Z2 H2 where
  nd := t.nd
  dj := fun a ha h => by
    rcases b.sub a h with z | z
    · exact t.dj a ha z
    · exact t.ld a ha z
  nz := fun a ha h => by
    rcases b.st.znew a h with z | z | z
    · exact t.nz a ha z
    · exact t.dj a ha z
    · exact t.ld a ha z
  ld := fun a ha => b.st.dom a (t.ld a ha)
  sub := t.sub
theorem RO.aft {o : Opd} {v : V} (r : RO E H1 Z1 c1 σ o v Lr) (sr : SR E c1 σ H1 Z1 L1) (t : ∀ a ∈ Lr, a ∉ L1) (b : Aft E q L1 H1 Z1 σ c2 H2 Z2 L2) (l : lateO o q = true) : RO E H2 Z2 c2 σ o v Lr := by
  cases o with
  | v x => exact RV.stp b.st (wr_dj sr) (fun a ha h => t a ha (wr_sub h)) r
  | p i => exact r
  | q i f =>
    obtain ⟨e, a, C, dx, fv, h1, h2, h3⟩ := r
    have l : q = true := l
    subst l
    exact ⟨e, a, C, dx, fv, h1, b.st.keep _ _ h2 (by simp [wr]) rfl, h3⟩
end
def ROs (E : Ev) (H : Hp) (Z : Addr → Prop) (c : Loc) (σ : Sg) : List Opd → List V → List Addr → Prop
  | [], vs, Lr => vs = [] ∧ Lr = []
  | o :: os, vs, Lr => ∃ v r La Lb, vs = v :: r ∧ Lr = La ++ Lb ∧ RO E H Z c σ o v La ∧ ROs E H Z c σ os r Lb
def OkO (E : Ev) (q : Bool) (L : List Addr) (H : Hp) (Z : Addr → Prop) (σ : Sg) (o : Opd) (c' : Loc) (Q : VK) : Prop :=
  ∀ v H' Z' L' Lr, Aft E q L H Z σ c' H' Z' L' → Tmp Lr L' L H Z' H' → RO E H' Z' c' σ o v Lr → Q v H'
def OkA (E : Ev) (q : Bool) (L : List Addr) (H : Hp) (Z : Addr → Prop) (σ : Sg) (os : List Opd) (c' : Loc) (Q : List V → Hp → Prop) : Prop :=
  ∀ vs H' Z' L' Lr, Aft E q L H Z σ c' H' Z' L' → Tmp Lr L' L H Z' H' → ROs E H' Z' c' σ os vs Lr → Q vs H'
def OkT (E : Ev) (q : Bool) (L : List Addr) (H : Hp) (Z : Addr → Prop) (σ : Sg) (c' : Loc) (Q : Hp → Prop) : Prop :=
  ∀ H' Z' L', Aft E q L H Z σ c' H' Z' L' → Q H'
/-- the readings: f is what the evaluator does -/
def rdE (E : Ev) (q : Bool) (f : Loc → Res (Opd × Loc)) : TE := fun σ H Q => ∃ c Z L o c', SR E c σ H Z L ∧ f c = .ok (o, c') ∧ OkO E q L H Z σ o c' Q
def rdAs (E : Ev) (q : Bool) (f : Loc → Res (List Opd × Loc)) : TA := fun σ H Q => ∃ c Z L os c', SR E c σ H Z L ∧ f c = .ok (os, c') ∧ OkA E q L H Z σ os c' Q
def rdT (E : Ev) (q : Bool) (f : Loc → Res (Bool × Loc)) : TT := fun σ H Q => ∃ c Z L b c', SR E c σ H Z L ∧ f c = .ok (b, c') ∧ OkT E q L H Z σ c' (Q b)
theorem _root_.L2.PE.weak {X : Cx} {e : Expr} {t t' : TE} (h : PE X e t) (w : ∀ σ H Q, t' σ H Q → t σ H Q) : PE X e t' := ⟨fun pins s σ H Q I q => h.run pins s σ H Q I (w σ H Q q)⟩
theorem _root_.L2.PT.weak {X : Cx} {e : Expr} {t t' : TT} (h : PT X e t) (w : ∀ σ H Q, t' σ H Q → t σ H Q) : PT X e t' := ⟨fun pins s σ H Q I q => h.run pins s σ H Q I (w σ H Q q)⟩
theorem _root_.L2.PW.weak {X : Cx} {e : Expr} {t t' : TT} (h : PW X e t) (w : ∀ σ H Q, t' σ H Q → t σ H Q) : PW X e t' := ⟨fun wh pins s σ H Q I q => h.run wh pins s σ H Q I (w σ H Q q)⟩
theorem _root_.L2.PA.weak {X : Cx} {e : List Expr} {t t' : TA} (h : PA X e t) (w : ∀ σ H Q, t' σ H Q → t σ H Q) : PA X e t' := ⟨fun pos pins s σ H Q I q => h.run pos pins s σ H Q I (w σ H Q q)⟩
theorem _root_.L2.PS.weak {X : Cx} {e : Stmt} {t t' : TS} (h : PS X e t) (w : ∀ D σ H, t' D σ H → t D σ H) : PS X e t' := ⟨fun pins s σ H D I q => h.run pins s σ H D I (w D σ H q)⟩
theorem _root_.L2.PSs.weak {X : Cx} {e : List Stmt} {t t' : TS} (h : PSs X e t) (w : ∀ D σ H, t' D σ H → t D σ H) : PSs X e t' := ⟨fun pins s σ H D I q => h.run pins s σ H D I (w D σ H q)⟩

/-! ### ends: a value that an operation made -/
section
variable {E : Ev} {q : Bool} {L L1 Lr : List Addr} {H H1 : Hp} {Z Z1 : Addr → Prop} {σ : Sg} {c c1 : Loc} {Q : VK}
theorem TabG.fr {Lz : List Addr} {H H' : Hp} (f : Fr H H' Lz) {P : Addr} (t : GxR.TabG H P) : GxR.TabG H' P := by
  obtain ⟨ps, e, h⟩ := t
  exact ⟨ps, f.kp _ _ e, h⟩
theorem SR.fr {Lz : List Addr} {H' : Hp} (f : Fr H H' Lz) (sr : SR E c σ H Z L) : SR E c σ H' Z L :=
  ⟨RS.stp (W := []) (L := []) f.stp (fun _ _ => by simp) (fun _ _ => by simp) sr.rs, sr.nd, sr.nz, fun a z => f.stp.dom (W := []) (L := []) (Z := Z) a (sr.zd a z), fun a z => f.stp.dom (W := []) (L := []) (Z := Z) a (sr.ld a z), fun P h => TabG.fr f (sr.tb P h)⟩
/-- new objects behind a step -/
theorem Aft.fr {Lz : List Addr} {H' : Hp} (a : Aft E q L H Z σ c1 H1 Z1 L1) (f : Fr H1 H' Lz) : Aft E q L H Z σ c1 H' Z1 L1 := by
  have b : Aft E true L1 H1 Z1 σ c1 H' Z1 L1 := ⟨f.stp, a.sr.fr f, .refl⟩
  have := a.trans b
  rw [Bool.and_true] at this
  exact this
theorem Tmp.fr {Lz : List Addr} {H' : Hp} (a : Aft E q L H Z σ c1 H1 Z1 L1) (f : Fr H1 H' Lz) : Tmp Lz L1 L H Z1 H' where
  nd := f.nd
  dj := fun b hb h => a.sr.ld b h (f.nw b hb).1
  nz := fun b hb h => a.sr.zd b h (f.nw b hb).1
  ld := fun b hb => (f.nw b hb).2
  sub := fun b hb => .inr (by
    by_cases e : H b = none
    · exact e
    · exact absurd (f.nw b hb).1 (a.st.dom b e))
/-- the end: a content with new objects alone -/
theorem OkO.fin {x : At} (ok : OkO E q L H Z σ (.v (.a x)) c1 Q) (a : Aft E q L H Z σ c1 H1 Z1 L1) : ∀ r H' Lz, Fr H1 H' Lz → RA E.K H' Z1 x r Lz → Q r H' := fun r H' Lz f h =>
  ok r H' Z1 L1 Lz (a.fr f) (Tmp.fr a f) h
theorem OkO.fin0 {x : D} (ok : OkO E q L H Z σ (.v (.d x)) c1 Q) (a : Aft E q L H Z σ c1 H1 Z1 L1) {r : V} (h : RD E.K H1 Z1 x r) : Q r H1 := ok r H1 Z1 L1 [] a .nil ⟨rfl, h⟩
/-- the content of an operand, as it stands at the end -/
theorem RO.rdO {o : Opd} {v : V} {x : Vl} (r : RO E H1 Z1 c1 σ o v Lr) (sr : SR E c1 σ H1 Z1 L1) (e : G.rdO o c1 = .ok x) : ∃ Lx, RV E.K H1 Z1 E.ca x v Lx := by
  cases o with
  | v y => cases e; exact ⟨Lr, r⟩
  | p i =>
    obtain ⟨_, h⟩ := r
    have e : gets c1 i = .ok x := e
    unfold gets at e
    split at e
    · rename_i y hy
      cases e
      obtain ⟨oo, Li, Lo, h1, h2, _⟩ := sr.rs.split hy
      obtain ⟨w, h3, h4⟩ := h2
      rw [h3] at h1
      rw [h] at h1
      cases h1
      exact ⟨Li, h4⟩
    · cases e
  | q i f =>
    obtain ⟨_, a, C, dx, fv, h1, h2, h3⟩ := r
    have e : (match getF c1 i f with | .ok a => Res.ok (Vl.a a) | _ => Res.no) = .ok x := e
    split at e
    · rename_i y hy
      cases e
      unfold getF at hy
      split at hy
      · rename_i C' fs hc
        split at hy
        · rename_i y' hl
          cases hy
          obtain ⟨oo, Li, Lo, g1, g2, _⟩ := sr.rs.split hc
          obtain ⟨w, g3, a', A', dx', fv', L1', g4, _, _, g5, g6⟩ := g2
          rw [g3, g4] at g1
          rw [h1] at g1
          cases g1
          rw [h2] at g5
          cases g5
          clear g4 h1 h2 hc
          have look : ∀ {fs : List (Str × At)} {fv : List (Str × V)} {M : List Addr}, RFs E.K H1 Z1 fs fv M → fs.lookup f = some y → fv.lookup f = some v → ∃ Lx, RA E.K H1 Z1 y v Lx := by
            intro fs
            induction fs with
            | nil => intro fv M _ h; cases h
            | cons p r ih =>
              obtain ⟨g, z⟩ := p
              rintro fv M ⟨u, fs', M1, M2, rfl, _, k1, k2⟩ hx hv
              rw [List.lookup_cons] at hx hv
              cases hb : f == g with
              | true =>
                simp only [hb] at hx hv
                cases hx; cases hv
                exact ⟨M1, k1⟩
              | false =>
                simp only [hb] at hx hv
                exact ih k2 hx hv
          obtain ⟨Lx, k⟩ := look g6 hl h3
          exact ⟨Lx, k⟩
        · cases hy
      · cases hy
    · cases e
theorem RO.rdA {o : Opd} {v : V} {x : At} (r : RO E H1 Z1 c1 σ o v Lr) (sr : SR E c1 σ H1 Z1 L1) (e : G.rdA o c1 = .ok x) : ∃ Lx, RA E.K H1 Z1 x v Lx := by
  unfold G.rdA at e
  split at e
  · rename_i y hy
    cases e
    exact r.rdO sr hy
  · cases e
end
end G
namespace G
open PySem L2
/-! ### freezing -/
theorem Stp.gh {L : List Addr} {H : Hp} {Z Z' : Addr → Prop} (h1 : ∀ a, Z a → Z' a) (h2 : ∀ a, Z' a → Z a ∨ a ∈ L ∨ H a = none) : Stp [] L H Z H Z' := ⟨fun _ _ e _ _ => e, fun _ _ e _ => e, fun _ e => e, h1, h2⟩
theorem putF_same (f : Str) (v : V) : ∀ fs : List (Str × V), fs.lookup f = some v → putF f v fs = fs
  | [], h => by cases h
  | (g, x) :: r, h => by
    rw [List.lookup_cons] at h
    cases hb : f == g with
    | true =>
      simp only [hb] at h
      cases h
      have e : g = f := (beq_iff_eq.mp hb).symm
      unfold putF
      rw [if_pos e]
    | false =>
      simp only [hb] at h
      have e : ¬ g = f := fun z => by rw [z] at hb; simp at hb
      unfold putF
      rw [if_neg e, putF_same f v r h]
section
variable {K : PySem.W.Frag} {H : Hp} {Z : Addr → Prop}
/-- a field taken out and put back -/
theorem RFs.put {f : Str} {x : At} : ∀ {fs : List (Str × At)} {fv : List (Str × V)} {M : List Addr}, RFs K H Z fs fv M → fs.lookup f = some x →
    ∃ v Lx Lo, fv.lookup f = some v ∧ RA K H Z x v Lx ∧ M.Perm (Lx ++ Lo) ∧
      ∀ (H' : Hp) (Z' : Addr → Prop) (y : At) (w : V) (Ly : List Addr), (∀ z u N, (∀ b ∈ N, b ∈ Lo) → RA K H Z z u N → RA K H' Z' z u N) → RA K H' Z' y w Ly → ∃ M', RFs K H' Z' (putA f y fs) (putF f w fv) M' ∧ M'.Perm (Ly ++ Lo)
  | [], _, _, _, h => by cases h
  | (g, z) :: r, fv, M, ⟨v, fs', L1, L2, e, hM, h1, h2⟩, hl => by
    subst e
    rw [List.lookup_cons] at hl
    cases hb : f == g with
    | true =>
      simp only [hb] at hl
      cases hl
      have eg : g = f := (beq_iff_eq.mp hb).symm
      refine ⟨v, L1, L2, by rw [List.lookup_cons]; simp only [hb], h1, by rw [hM], fun H' Z' y w Ly fr hy => ⟨Ly ++ L2, ?_, .refl _⟩⟩
      unfold putA putF
      rw [if_pos eg, if_pos eg]
      refine ⟨w, fs', Ly, L2, rfl, rfl, hy, ?_⟩
      clear hM h1
      have all : ∀ {fs : List (Str × At)} {fv : List (Str × V)} {N : List Addr}, (∀ b ∈ N, b ∈ L2) → RFs K H Z fs fv N → RFs K H' Z' fs fv N := by
        intro fs
        induction fs with
        | nil => intro fv N _ h; exact h
        | cons p c ih =>
          obtain ⟨g', z'⟩ := p
          rintro fv N hm ⟨v', fs2, M1, M2, e, hN, g1, g2⟩
          exact ⟨v', fs2, M1, M2, e, hN, fr _ _ _ (fun b hb => hm b (by rw [hN]; exact List.mem_append_left _ hb)) g1, ih (fun b hb => hm b (by rw [hN]; exact List.mem_append_right _ hb)) g2⟩
      exact all (fun b hb => hb) h2
    | false =>
      simp only [hb] at hl
      have eg : ¬ g = f := fun w => by rw [w] at hb; simp at hb
      obtain ⟨v', Lx, Lo, k1, k2, k3, back⟩ := RFs.put h2 hl
      refine ⟨v', Lx, L1 ++ Lo, by rw [List.lookup_cons]; simp only [hb]; exact k1, k2, ?_, fun H' Z' y w Ly fr hy => ?_⟩
      · rw [hM]
        refine (List.Perm.append_left L1 k3).trans ?_
        rw [← List.append_assoc, ← List.append_assoc]
        exact List.Perm.append_right Lo List.perm_append_comm
      · obtain ⟨M', r', p'⟩ := back H' Z' y w Ly (fun z u N hm hz => fr z u N (fun b hb => List.mem_append_right _ (hm b hb)) hz) hy
        unfold putA putF
        rw [if_neg eg, if_neg eg]
        refine ⟨L1 ++ M', ⟨v, _, L1, M', rfl, rfl, fr _ _ _ (fun b hb => List.mem_append_left _ hb) h1, r'⟩, ?_⟩
        refine (List.Perm.append_left L1 p').trans ?_
        rw [← List.append_assoc, ← List.append_assoc]
        exact List.Perm.append_right Lo List.perm_append_comm
/-- a content frozen: its own address is pure from now on -/
theorem RA.frz {Z' : Addr → Prop} {x : At} {v : V} {L M : List Addr} (h : RA K H Z x v L) (s : Stp [] M H Z H Z') (hz : ∀ a ∈ L, Z' a) : RD K H Z' x.frz v := by
  cases x with
  | d d => exact RD.stp s (fun _ _ => by simp) _ _ h.2
  | l xs =>
    obtain ⟨a, vs, e, hL, q, r⟩ := h
    exact RD.lstI.mpr ⟨a, vs, e, .inl ⟨hz a (by rw [hL]; simp), .inl q⟩, RDs.stp s (fun _ _ => by simp) _ _ r⟩
  | m _ => exact h.elim
end
/-- the state behind a freezing of what La holds (of the state's own or of a temporary) -/
structure Gh (E : Ev) (c2 : Loc) (σ : Sg) (H : Hp) (Z1 Z2 : Addr → Prop) (L1 Lr L2 : List Addr) : Prop where
  sr : SR E c2 σ H Z2 L2
  up : ∀ a, Z1 a → Z2 a
  nw : ∀ a, Z2 a → Z1 a ∨ a ∈ L1 ∨ a ∈ Lr
  sub : ∀ a ∈ L2, a ∈ L1
section
variable {E : Ev} {c1 c2 : Loc} {σ : Sg} {H : Hp} {Z1 Z2 : Addr → Prop} {L1 L2 Lr : List Addr}
theorem SR.perm {L' : List Addr} (sr : SR E c1 σ H Z1 L1) {M : List Addr} (p : L1.Perm M) : M.Nodup ∧ (∀ a ∈ M, ¬ Z1 a) ∧ (∀ a ∈ M, H a ≠ none) :=
  ⟨p.nodup_iff.mp sr.nd, fun a h => sr.nz a (p.mem_iff.mpr h), fun a h => sr.ld a (p.mem_iff.mpr h)⟩
/-- an operand as a datum -/
theorem toD_ok {o : Opd} {v : V} {x : D} (sr : SR E c1 σ H Z1 L1) (hz : ∀ a ∈ Lr, a ∉ L1) (hl : ∀ a ∈ Lr, H a ≠ none) (r : RO E H Z1 c1 σ o v Lr) (e : toD o c1 = .ok (x, c2)) :
    ∃ Z2 L2, Gh E c2 σ H Z1 Z2 L1 Lr L2 ∧ RD E.K H Z2 x v := by
  cases o with
  | v y =>
    cases y with
    | o C fs => cases e
    | a y =>
      cases e
      have s : Stp [] (L1 ++ Lr) H Z1 H (fun a => Z1 a ∨ a ∈ Lr) := .gh (fun a z => .inl z) fun a z => z.elim .inl fun z => .inr (.inl (List.mem_append_right _ z))
      refine ⟨fun a => Z1 a ∨ a ∈ Lr, L1, ⟨⟨RS.stp s (fun _ _ => by simp) (fun _ _ => by simp) sr.rs, sr.nd, fun a ha z => z.elim (sr.nz a ha) fun z => hz a z ha, fun a z => z.elim (sr.zd a) (hl a), sr.ld, sr.tb⟩, fun a z => .inl z, fun a z => z.elim .inl fun z => .inr (.inr z), fun a h => h⟩, ?_⟩
      exact RA.frz (show RA E.K H Z1 y v Lr from r) s fun a h => .inr h
  | p i =>
    have e : (match gets c1 i with | .ok (.a x) => Res.ok (x.frz, c1.set i (some (.d x.frz))) | _ => Res.no) = .ok (x, c2) := e
    split at e
    · rename_i y hy
      cases e
      unfold gets at hy
      split at hy
      · rename_i y' hc
        cases hy
        obtain ⟨_, hσ⟩ := r
        obtain ⟨oo, Li, Lo, g1, g2, g3, back⟩ := sr.rs.split hc
        obtain ⟨w, g4, g5⟩ := g2
        rw [g4] at g1
        rw [hσ] at g1
        cases g1
        obtain ⟨nd, nz, ld⟩ := sr.perm (L' := []) g3
        have s : Stp [] L1 H Z1 H (fun a => Z1 a ∨ a ∈ Li) := .gh (fun a z => .inl z) fun a z => z.elim .inl fun z => .inr (.inl (g3.mem_iff.mpr (List.mem_append_left _ z)))
        have hd : RD E.K H (fun a => Z1 a ∨ a ∈ Li) y.frz v := RA.frz (show RA E.K H Z1 y v Li from g5) s fun a h => .inr h
        obtain ⟨L', k1, k2⟩ := back H (fun a => Z1 a ∨ a ∈ Li) (some (.d y.frz)) (some v) [] (fun x oo M _ h => RSl.stp s (fun _ _ => by simp) (fun _ _ => by simp) h) ⟨v, rfl, rfl, hd⟩
        have es : σ.set i (some v) = σ := by
          apply List.ext_getElem?
          intro j
          rw [List.getElem?_set]
          by_cases hj : i = j
          · subst hj
            rw [hσ]
            have hlt : i < σ.length := (List.getElem?_eq_some_iff.mp hσ).1
            simp [hlt]
          · rw [if_neg hj]
        rw [es] at k1
        have mem : ∀ a ∈ L', a ∈ Lo := fun a h => by simpa using k2.mem_iff.mp h
        have nd2 := List.nodup_append.mp nd
        exact ⟨_, L', ⟨⟨k1, k2.nodup_iff.mpr (by simpa using nd2.2.1), fun a ha z => z.elim (nz a (List.mem_append_right _ (mem a ha))) fun z => nd2.2.2 a z a (mem a ha) rfl, fun a z => z.elim (sr.zd a) fun z => ld a (List.mem_append_left _ z),
          fun a ha => ld a (List.mem_append_right _ (mem a ha)), sr.tb⟩, fun a z => .inl z, fun a z => z.elim .inl fun z => .inr (.inl (g3.mem_iff.mpr (List.mem_append_left _ z))), fun a h => g3.mem_iff.mpr (List.mem_append_right _ (mem a h))⟩, hd⟩
      · cases hy
    · cases e
  | q i f =>
    have e : (match getF c1 i f with | .ok x => (match setF c1 i f (.d x.frz) with | .ok c' => Res.ok (x.frz, c') | _ => Res.no) | _ => Res.no) = .ok (x, c2) := e
    split at e
    · rename_i y hy
      split at e
      · rename_i c' hs
        cases e
        unfold getF at hy
        unfold setF at hs
        split at hs
        · rename_i C fs hc
          split at hs
          rotate_left
          · cases hs
          cases hs
          rw [hc] at hy
          simp only at hy
          split at hy
          · rename_i y' hlk
            cases hy
            obtain ⟨_, a, C', dx, fv, hσ, hH, hf⟩ := r
            obtain ⟨oo, Li, Lo, g1, g2, g3, back⟩ := sr.rs.split hc
            obtain ⟨w, g4, a', A', dx', fv', M, e1, e2, hA, g5, g6⟩ := g2
            rw [g4, e1] at g1
            rw [hσ] at g1
            cases g1
            rw [hH] at g5
            cases g5
            obtain ⟨v', Lx, Mo, k1, k2, k3, put⟩ := g6.put hlk
            rw [hf] at k1
            cases k1
            obtain ⟨nd, nz, ld⟩ := sr.perm (L' := []) g3
            have inL : ∀ b ∈ Lx, b ∈ L1 := fun b hb => g3.mem_iff.mpr (List.mem_append_left _ (by rw [e2]; exact List.mem_cons_of_mem _ (k3.mem_iff.mpr (List.mem_append_left _ hb))))
            have s : Stp [] L1 H Z1 H (fun a => Z1 a ∨ a ∈ Lx) := .gh (fun a z => .inl z) fun a z => z.elim .inl fun z => .inr (.inl (inL _ z))
            have hd : RD E.K H (fun a => Z1 a ∨ a ∈ Lx) y.frz v := RA.frz k2 s fun a h => .inr h
            obtain ⟨M', m1, m2⟩ := put H (fun a => Z1 a ∨ a ∈ Lx) (.d y.frz) v [] (fun z u N _ h => RA.stp s (fun _ _ => by simp) (fun _ _ => by simp) h) ⟨rfl, hd⟩
            rw [putF_same f v fv hf] at m1
            obtain ⟨L', b1, b2⟩ := back H (fun a => Z1 a ∨ a ∈ Lx) (some (.o C (putA f (.d y.frz) fs))) (some (.ref a)) (a :: M') (fun x oo M _ h => RSl.stp s (fun _ _ => by simp) (fun _ _ => by simp) h) ⟨_, rfl, a, _, dx, fv, M', rfl, rfl, hA, hH, m1⟩
            have es : σ.set i (some (.ref a)) = σ := by
              apply List.ext_getElem?
              intro j
              rw [List.getElem?_set]
              by_cases hj : i = j
              · subst hj
                rw [hσ]
                have hlt : i < σ.length := (List.getElem?_eq_some_iff.mp hσ).1
                simp [hlt]
              · rw [if_neg hj]
            rw [es] at b1
            have memM : ∀ b ∈ M', b ∈ Mo := fun b h => by simpa using m2.mem_iff.mp h
            have ndM : (Lx ++ Mo).Nodup := k3.nodup_iff.mp (by
              rw [e2] at nd
              exact (List.nodup_cons.mp (List.nodup_append.mp nd).1).2)
            have ndM' := List.nodup_append.mp ndM
            have mem : ∀ b ∈ L', b = a ∨ b ∈ Mo ∨ b ∈ Lo := fun b h => by
              have h := b2.mem_iff.mp h
              rcases List.mem_append.mp h with h | h
              · rcases List.mem_cons.mp h with h | h
                · exact .inl h
                · exact .inr (.inl (memM b h))
              · exact .inr (.inr h)
            have sub : ∀ b ∈ L', b ∈ L1 := fun b h => by
              rcases mem b h with h | h | h
              · subst h; exact g3.mem_iff.mpr (List.mem_append_left _ (by rw [e2]; exact List.mem_cons_self))
              · exact g3.mem_iff.mpr (List.mem_append_left _ (by rw [e2]; exact List.mem_cons_of_mem _ (k3.mem_iff.mpr (List.mem_append_right _ h))))
              · exact g3.mem_iff.mpr (List.mem_append_right _ h)
            have notx : ∀ b ∈ L', b ∉ Lx := fun b h hx => by
              rw [e2] at nd
              have n2 := List.nodup_append.mp nd
              have n3 := List.nodup_cons.mp n2.1
              have hxM : b ∈ M := k3.mem_iff.mpr (List.mem_append_left _ hx)
              rcases mem b h with h | h | h
              · subst h; exact n3.1 hxM
              · exact ndM'.2.2 b hx b h rfl
              · exact n2.2.2 b (List.mem_cons_of_mem _ hxM) b h rfl
            have ndL : L'.Nodup := b2.nodup_iff.mpr (by
              rw [e2] at nd
              have n2 := List.nodup_append.mp nd
              have n3 := List.nodup_cons.mp n2.1
              refine List.nodup_append.mpr ⟨List.nodup_cons.mpr ⟨fun h => n3.1 (k3.mem_iff.mpr (List.mem_append_right _ (memM _ h))), m2.nodup_iff.mpr (by simpa using ndM'.2.1)⟩, n2.2.1, fun b hb d hd e => ?_⟩
              subst e
              rcases List.mem_cons.mp hb with h | h
              · subst h; exact n2.2.2 b List.mem_cons_self b hd rfl
              · exact n2.2.2 b (List.mem_cons_of_mem _ (k3.mem_iff.mpr (List.mem_append_right _ (memM _ h)))) b hd rfl)
            exact ⟨_, L', ⟨⟨b1, ndL, fun b hb z => z.elim (sr.nz b (sub b hb)) (notx b hb), fun b z => z.elim (sr.zd b) fun z => sr.ld b (inL b z), fun b hb => sr.ld b (sub b hb), sr.tb⟩, fun b z => .inl z, fun b z => z.elim .inl fun z => .inr (.inl (inL b z)), sub⟩, hd⟩
          · cases hy
        · cases hs
      · cases e
    · cases e
end
end G
namespace G
open PySem L2
section
variable {E : Ev} {c1 c2 : Loc} {σ : Sg} {H : Hp} {Z1 Z2 : Addr → Prop} {L1 L2 Lr : List Addr}
theorem Gh.stp {M : List Addr} (g : Gh E c2 σ H Z1 Z2 L1 Lr L2) (hM : ∀ a, a ∈ L1 ∨ a ∈ Lr → a ∈ M ∨ H a = none) : Stp [] M H Z1 H Z2 := .gh g.up fun a z => by
  rcases g.nw a z with z | z | z
  · exact .inl z
  · exact .inr (hM a (.inl z))
  · exact .inr (hM a (.inr z))
theorem Gh.ros {os : List Opd} (g : Gh E c2 σ H Z1 Z2 L1 Lr L2) : ∀ {os : List Opd} {vs : List V} {M : List Addr}, ROs E H Z1 c1 σ os vs M → ROs E H Z2 c2 σ os vs M
  | [], _, _, h => h
  | o :: os, vs, M, ⟨v, r, La, Lb, e1, e2, h1, h2⟩ => ⟨v, r, La, Lb, e1, e2, by
    cases o with
    | v x => exact RV.stp (g.stp (M := L1 ++ Lr) fun a h => .inl (List.mem_append.mpr h)) (fun _ _ => by simp) (fun _ _ => by simp) h1
    | p i => exact h1
    | q i f => exact h1, g.ros (os := os) h2⟩
theorem toDs_ok : ∀ {os : List Opd} {vs : List V} {Lr : List Addr} {c1 : Loc} {Z1 : Addr → Prop} {L1 : List Addr} {xs : List D}, SR E c1 σ H Z1 L1 → Lr.Nodup → (∀ a ∈ Lr, a ∉ L1) → (∀ a ∈ Lr, H a ≠ none) → (∀ a ∈ Lr, ¬ Z1 a) → ROs E H Z1 c1 σ os vs Lr → toDs os c1 = .ok (xs, c2) →
    ∃ Z2 L2, Gh E c2 σ H Z1 Z2 L1 Lr L2 ∧ RDs E.K H Z2 xs vs
  | [], vs, Lr, c1, Z1, L1, xs, sr, _, _, _, _, r, e => by
    cases e
    exact ⟨Z1, L1, ⟨sr, fun _ h => h, fun _ h => .inl h, fun _ h => h⟩, RDs.nil.mpr r.1⟩
  | o :: os, vs, Lr, c1, Z1, L1, xs, sr, nd, dj, ld, nz, ⟨v, r, La, Lb, e1, e2, h1, h2⟩, e => by
    subst e1
    obtain ⟨⟨x, ca⟩, ea, e⟩ := Res.bind_ok (show (toD o c1).bind (fun (x, c1) => (toDs os c1).bind fun (xs, c2) => Res.ok (x :: xs, c2)) = _ from e)
    obtain ⟨⟨xs', cb⟩, eb, e⟩ := Res.bind_ok e
    cases e
    subst e2
    have nd2 := List.nodup_append.mp nd
    obtain ⟨Za, La', ga, ra⟩ := toD_ok sr (fun a h => dj a (List.mem_append_left _ h)) (fun a h => ld a (List.mem_append_left _ h)) h1 ea
    obtain ⟨Zb, Lb', gb, rb⟩ := toDs_ok ga.sr nd2.2.1 (fun a h z => dj a (List.mem_append_right _ h) (ga.sub a z)) (fun a h => ld a (List.mem_append_right _ h))
      (fun a h z => by
        rcases ga.nw a z with z | z | z
        · exact nz a (List.mem_append_right _ h) z
        · exact dj a (List.mem_append_right _ h) z
        · exact nd2.2.2 a z a h rfl) (ga.ros (os := os) h2) eb
    refine ⟨Zb, Lb', ⟨gb.sr, fun a z => gb.up a (ga.up a z), fun a z => ?_, fun a h => ga.sub a (gb.sub a h)⟩, RDs.cons.mpr ⟨v, r, rfl, ?_, rb⟩⟩
    · rcases gb.nw a z with z | z | z
      · rcases ga.nw a z with z | z | z
        · exact .inl z
        · exact .inr (.inl z)
        · exact .inr (.inr (List.mem_append_left _ z))
      · exact .inr (.inl (ga.sub a z))
      · exact .inr (.inr (List.mem_append_right _ z))
    · exact RD.stp (gb.stp (M := La' ++ Lb) fun a h => .inl (List.mem_append.mpr h)) (fun _ _ => by simp) _ _ ra
end
section
variable {E : Ev} {q : Bool} {L L1 L2 Lr : List Addr} {H H1 : Hp} {Z Z1 Z2 : Addr → Prop} {σ : Sg} {c c1 c2 : Loc}
/-- a step, then a freezing -/
theorem Aft.gh (a : Aft E q L H Z σ c1 H1 Z1 L1) (t : Sub L H Lr) (g : Gh E c2 σ H1 Z1 Z2 L1 Lr L2) : Aft E q L H Z σ c2 H1 Z2 L2 where
  st := ⟨a.st.keep, a.st.im, a.st.dom, fun b z => g.up b (a.st.zup b z), fun b z => by
    rcases g.nw b z with z | z | z
    · exact a.st.znew b z
    · exact .inr (a.sub b z)
    · exact .inr (t b z)⟩
  sr := g.sr
  sub := fun b h => a.sub b (g.sub b h)
end
/-! ### expressions -/
section
variable {X : Cx} {E : Ev} {q q1 q2 q3 : Bool} {e ea eb ec : Expr} {es : List Expr} {pos : Pos} {f fa fb fc : Loc → Res (Opd × Loc)} {fs : Loc → Res (List Opd × Loc)}
theorem s_loc (hK : X.K = E.K) {i : Nat} {x : Str} (h : PE X (.Name x pos) (tVar i)) : PE X (.Name x pos) (rdE E true (evLoc i)) := by
  refine h.weak fun σ H Q ⟨c, Z, L, o, c', sr, ev, ok⟩ => ?_
  unfold evLoc at ev
  split at ev
  · rename_i d hc
    cases ev
    obtain ⟨oo, Li, Lo, g1, g2, g3, _⟩ := sr.rs.split hc
    obtain ⟨v, g4, g5⟩ := g2
    rw [g4] at g1
    exact ⟨v, g1, ok v H Z L [] (.refl sr) .nil ⟨rfl, (show RA E.K H Z (.d d) v Li from g5).2⟩⟩
  · rename_i y _ hc
    cases ev
    obtain ⟨oo, Li, Lo, g1, g2, g3, _⟩ := sr.rs.split hc
    obtain ⟨v, g4, g5⟩ := g2
    rw [g4] at g1
    exact ⟨v, g1, ok v H Z L [] (.refl sr) .nil ⟨rfl, g1⟩⟩
  · cases ev
theorem s_const (hK : X.K = E.K) {d : D} {v : V} (h : PE X e (tC v)) (hd : ∀ H Z, RD E.K H Z d v) : PE X e (rdE E true fun c => .ok (.v (.d d), c)) := by
  refine h.weak fun σ H Q ⟨c, Z, L, o, c', sr, ev, ok⟩ => ?_
  cases ev
  exact ok v H Z L [] (.refl sr) .nil ⟨rfl, hd H Z⟩
theorem bopE (hK : X.K = E.K) (o : BOp) : OpR X (binaryOp (opOf o)) (rG E.K (bop o)) := hK ▸ bop_ok o
theorem copE (hK : X.K = E.K) (hu : X.A.units + 65 < cLine) (o : COp) : OpR X (compareOp (copOf o)) (rGb E.K (cop o)) := hK ▸ cop_ok hu o
/-- two operands -/
theorem two {σ : Sg} {H : Hp} {R : V → V → Hp → Prop} {c : Loc} {Z : Addr → Prop} {L : List Addr} {x y : Opd} {c1 c2 : Loc} (sr : SR E c σ H Z L) (e1 : fa c = .ok (x, c1)) (l : lateO x q2 = true) (e2 : fb c1 = .ok (y, c2))
    (h : ∀ v1 v2 H2 Z2 L2 La Lb, Aft E (q1 && q2) L H Z σ c2 H2 Z2 L2 → RO E H2 Z2 c2 σ x v1 La → RO E H2 Z2 c2 σ y v2 Lb → R v1 v2 H2) : rdE E q1 fa σ H fun v1 H1 => rdE E q2 fb σ H1 fun v2 H2 => R v1 v2 H2 :=
  ⟨c, Z, L, x, c1, sr, e1, fun v1 H1 Z1 L1 Lr1 a1 t1 r1 => ⟨c1, Z1, L1, y, c2, a1.sr, e2, fun v2 H2 Z2 L2 Lr2 a2 t2 r2 => h v1 v2 H2 Z2 L2 Lr1 Lr2 (a1.trans a2) (r1.aft a1.sr t1.dj a2 l) r2⟩⟩
theorem s_bin (hK : X.K = E.K) {o : BOp} (ha : PE X ea (rdE E q1 fa)) (hb : PE X eb (rdE E q2 fb)) :
    PE X (.BinOp ea (opOf o) eb pos) (rdE E (q1 && q2) fun c => (fa c).bind fun (x, c1) => (gd (lateO x q2)).bind fun _ => (fb c1).bind fun (y, c2) => (rdA x c2).bind fun u => (rdA y c2).bind fun v => (bop o u v).bind fun z => .ok (.v (.a z), c2)) := by
  refine (pe_op (bopE hK o) ha hb).weak fun σ H Q ⟨c, Z, L, o', c', sr, ev, ok⟩ => ?_
  obtain ⟨⟨x, c1⟩, e1, ev⟩ := Res.bind_ok ev
  obtain ⟨_, l, ev⟩ := Res.bind_ok ev
  obtain ⟨⟨y, c2⟩, e2, ev⟩ := Res.bind_ok ev
  obtain ⟨u, e3, ev⟩ := Res.bind_ok ev
  obtain ⟨v, e4, ev⟩ := Res.bind_ok ev
  obtain ⟨z, e5, ev⟩ := Res.bind_ok ev
  cases ev
  refine two (q1 := q1) sr e1 (gd_ok l) e2 fun v1 v2 H2 Z2 L2 La Lb a r1 r2 => ?_
  obtain ⟨_, k1⟩ := r1.rdA a.sr e3
  obtain ⟨_, k2⟩ := r2.rdA a.sr e4
  exact ⟨Z2, u, v, _, _, z, k1, k2, e5, ok.fin a⟩
theorem s_ix (hK : X.K = E.K) (hs : PlainIx eb) (ha : PE X ea (rdE E q1 fa)) (hb : PE X eb (rdE E q2 fb)) :
    PE X (.Subscript ea eb pos) (rdE E (q1 && q2) fun c => (fa c).bind fun (x, c1) => (gd (lateO x q2)).bind fun _ => (fb c1).bind fun (y, c2) => (rdA x c2).bind fun u => (rdA y c2).bind fun v => (idx u v).bind fun z => .ok (.v (.d z), c2)) := by
  refine (pe_ix ix_seq ha hb hs).weak fun σ H Q ⟨c, Z, L, o', c', sr, ev, ok⟩ => ?_
  obtain ⟨⟨x, c1⟩, e1, ev⟩ := Res.bind_ok ev
  obtain ⟨_, l, ev⟩ := Res.bind_ok ev
  obtain ⟨⟨y, c2⟩, e2, ev⟩ := Res.bind_ok ev
  obtain ⟨u, e3, ev⟩ := Res.bind_ok ev
  obtain ⟨v, e4, ev⟩ := Res.bind_ok ev
  obtain ⟨z, e5, ev⟩ := Res.bind_ok ev
  cases ev
  refine two (q1 := q1) sr e1 (gd_ok l) e2 fun v1 v2 H2 Z2 L2 La Lb a r1 r2 => ?_
  obtain ⟨_, k1⟩ := r1.rdA a.sr e3
  obtain ⟨_, k2⟩ := r2.rdA a.sr e4
  rw [hK]
  exact rGd_ix ⟨Z2, u, v, _, _, z, k1, k2, e5, fun r hr => ok.fin0 a hr⟩
/-- a comparison, as a value and as a test -/
theorem cmp_rd (hK : X.K = E.K) {o : COp} {σ : Sg} {H : Hp} {Q : VK} (h : rdE E (q1 && q2) (fun c => (fa c).bind fun (x, c1) => (gd (lateO x q2)).bind fun _ => (fb c1).bind fun (y, c2) => (rdA x c2).bind fun u => (rdA y c2).bind fun v => (cop o u v).bind fun z => .ok (.v (.d (.bl z)), c2)) σ H Q) :
    tOp (rGb E.K (cop o)) (rdE E q1 fa) (rdE E q2 fb) σ H Q := by
  obtain ⟨c, Z, L, o', c', sr, ev, ok⟩ := h
  obtain ⟨⟨x, c1⟩, e1, ev⟩ := Res.bind_ok ev
  obtain ⟨_, l, ev⟩ := Res.bind_ok ev
  obtain ⟨⟨y, c2⟩, e2, ev⟩ := Res.bind_ok ev
  obtain ⟨u, e3, ev⟩ := Res.bind_ok ev
  obtain ⟨v, e4, ev⟩ := Res.bind_ok ev
  obtain ⟨z, e5, ev⟩ := Res.bind_ok ev
  cases ev
  refine two (q1 := q1) sr e1 (gd_ok l) e2 fun v1 v2 H2 Z2 L2 La Lb a r1 r2 => ?_
  obtain ⟨_, k1⟩ := r1.rdA a.sr e3
  obtain ⟨_, k2⟩ := r2.rdA a.sr e4
  exact ⟨Z2, u, v, _, _, z, k1, k2, e5, ok.fin0 a (by unfold RD; rfl)⟩
theorem s_cmp (hK : X.K = E.K) (hu : X.A.units + 65 < cLine) {o : COp} (hm : behindInMarks (copOf o) eb = false) (ha : PE X ea (rdE E q1 fa)) (hb : PE X eb (rdE E q2 fb)) :
    PE X (.Compare ea [copOf o] [eb] pos) (rdE E (q1 && q2) fun c => (fa c).bind fun (x, c1) => (gd (lateO x q2)).bind fun _ => (fb c1).bind fun (y, c2) => (rdA x c2).bind fun u => (rdA y c2).bind fun v => (cop o u v).bind fun z => .ok (.v (.d (.bl z)), c2)) :=
  (pe_cmpR (copE hK hu o) ha hb hm).weak fun σ H Q h => cmp_rd hK h
/-- a value of the evaluator as a test: its truth is what it holds -/
theorem blT {f : Loc → Res (Opd × Loc)} {σ : Sg} {H : Hp} {Q : Bool → Hp → Prop} (hb : ∀ c o c', f c = .ok (o, c') → ∃ b, o = .v (.d (.bl b))) (h : rdT E q (fun c => (f c).bind fun (x, c1) => (rdO x c1).bind fun u => (truth u).bind fun b => .ok (b, c1)) σ H Q) :
    rdE E q f σ H fun x H1 => ∃ k, x = .bl k ∧ Q k H1 := by
  obtain ⟨c, Z, L, b, c', sr, ev, ok⟩ := h
  obtain ⟨⟨x, c1⟩, e1, ev⟩ := Res.bind_ok ev
  obtain ⟨u, e2, ev⟩ := Res.bind_ok ev
  obtain ⟨b', e3, ev⟩ := Res.bind_ok ev
  cases ev
  obtain ⟨k, rfl⟩ := hb _ _ _ e1
  cases e2
  have ek : b = k := by cases e3; rfl
  subst ek
  refine ⟨c, Z, L, _, _, sr, e1, fun v H1 Z1 L1 Lr a t r => ⟨_, blE (show RA E.K H1 Z1 (.d (.bl _)) v Lr from r), ok H1 Z1 L1 a⟩⟩
theorem cmp_bl {o : COp} {c : Loc} {o' : Opd} {c' : Loc} (ev : ((fa c).bind fun (x, c1) => (gd (lateO x q2)).bind fun _ => (fb c1).bind fun (y, c2) => (rdA x c2).bind fun u => (rdA y c2).bind fun v => (cop o u v).bind fun z => Res.ok (Opd.v (.d (.bl z)), c2)) = .ok (o', c')) : ∃ b, o' = .v (.d (.bl b)) := by
  obtain ⟨⟨x, c1⟩, e1, ev⟩ := Res.bind_ok ev
  obtain ⟨_, l, ev⟩ := Res.bind_ok ev
  obtain ⟨⟨y, c2⟩, e2, ev⟩ := Res.bind_ok ev
  obtain ⟨u, e3, ev⟩ := Res.bind_ok ev
  obtain ⟨v, e4, ev⟩ := Res.bind_ok ev
  obtain ⟨z, e5, ev⟩ := Res.bind_ok ev
  cases ev
  exact ⟨z, rfl⟩
def asT (f : Loc → Res (Opd × Loc)) : Loc → Res (Bool × Loc) := fun c => (f c).bind fun (x, c1) => (rdO x c1).bind fun u => (truth u).bind fun b => .ok (b, c1)
theorem t_cmp (hK : X.K = E.K) (hu : X.A.units + 65 < cLine) {o : COp} (hm : behindInMarks (copOf o) eb = false) (ha : PE X ea (rdE E q1 fa)) (hb : PE X eb (rdE E q2 fb)) :
    PT X (.Compare ea [copOf o] [eb] pos) (rdT E (q1 && q2) (asT fun c => (fa c).bind fun (x, c1) => (gd (lateO x q2)).bind fun _ => (fb c1).bind fun (y, c2) => (rdA x c2).bind fun u => (rdA y c2).bind fun v => (cop o u v).bind fun z => .ok (.v (.d (.bl z)), c2))) :=
  (pt_cmpR (copE hK hu o) ha hb hm).weak fun σ H Q h => cmp_rd hK (blT (fun c o c' => cmp_bl) h)
/-- an expression of another form, as a test -/
theorem t_val (hK : X.K = E.K) (he : ∀ whole, isTrue e X.env whole = (do let v ← whole; standAt e.pos; holding [v] (truthy v))) (ha : PE X e (rdE E q f)) : PT X e (rdT E q (asT f)) := by
  refine (pt_truth ha he).weak fun σ H Q ⟨c, Z, L, b, c', sr, ev, ok⟩ => ?_
  obtain ⟨⟨x, c1⟩, e1, ev⟩ := Res.bind_ok ev
  obtain ⟨u, e2, ev⟩ := Res.bind_ok ev
  obtain ⟨b', e3, ev⟩ := Res.bind_ok ev
  cases ev
  refine ⟨c, Z, L, x, _, sr, e1, fun v H1 Z1 L1 Lr a t r => ?_⟩
  obtain ⟨_, k⟩ := r.rdO a.sr e2
  exact ⟨_, by rw [hK]; exact truth_V k e3, ok H1 Z1 L1 a⟩
end
end G
namespace G
open PySem L2
section
variable {X : Cx} {E : Ev} {q q1 q2 q3 : Bool} {e ea eb ec : Expr} {es : List Expr} {pos : Pos} {f fa fb fc : Loc → Res (Opd × Loc)} {fs : Loc → Res (List Opd × Loc)}
theorem Stp.sl {W L : List Addr} {H H' : Hp} {Z Z' : Addr → Prop} (s : Stp W L H Z H' Z') : ∀ b, H b ≠ none → H' b ≠ none := s.dom
/-! ### argument lists -/
theorem a_nil : PA X [] (rdAs E true fun c => .ok ([], c)) := by
  refine pa_nil.weak fun σ H Q ⟨c, Z, L, os, c', sr, ev, ok⟩ => ?_
  cases ev
  exact ok [] H Z L [] (.refl sr) .nil ⟨rfl, rfl⟩
theorem Tmp.app {La Lb L1 L2 L : List Addr} {H H1 H2 : Hp} {Z1 Z2 : Addr → Prop} {σ : Sg} {c2 : Loc} (a : Tmp La L1 L H Z1 H1) (st : ∀ b, H b ≠ none → H1 b ≠ none) (sub : Sub L H L1) (s : Aft E q L1 H1 Z1 σ c2 H2 Z2 L2) (b : Tmp Lb L2 L1 H1 Z2 H2) : Tmp (La ++ Lb) L2 L H Z2 H2 := by
  have a2 := a.aft s
  have dj : ∀ x ∈ La, ∀ y ∈ Lb, x ≠ y := fun x hx y hy e => by
    subst e
    rcases b.sub x hy with z | z
    · exact a.dj x hx z
    · exact a.ld x hx z
  exact ⟨List.nodup_append.mpr ⟨a.nd, b.nd, dj⟩, fun x hx => (List.mem_append.mp hx).elim (a2.dj x) (b.dj x), fun x hx => (List.mem_append.mp hx).elim (a2.nz x) (b.nz x), fun x hx => (List.mem_append.mp hx).elim (a2.ld x) (b.ld x),
    fun x hx => (List.mem_append.mp hx).elim (a.sub x) (fun h => (sub.trans st b.sub) x h)⟩
theorem a_cons (hs : starEach (e :: es) X.env = (false, eval e X.env) :: starEach es X.env) (ha : PE X e (rdE E q1 f)) (hr : PA X es (rdAs E q2 fs)) :
    PA X (e :: es) (rdAs E (q1 && q2) fun c => (f c).bind fun (o, c1) => (gd (lateO o q2)).bind fun _ => (fs c1).bind fun (os, c2) => .ok (o :: os, c2)) := by
  refine (pa_cons ha hr hs).weak fun σ H Q ⟨c, Z, L, os, c', sr, ev, ok⟩ => ?_
  obtain ⟨⟨x, c1⟩, e1, ev⟩ := Res.bind_ok ev
  obtain ⟨_, l, ev⟩ := Res.bind_ok ev
  obtain ⟨⟨ys, c2⟩, e2, ev⟩ := Res.bind_ok ev
  cases ev
  refine ⟨c, Z, L, x, c1, sr, e1, fun v1 H1 Z1 L1 Lr1 a1 t1 r1 => ⟨c1, Z1, L1, ys, _, a1.sr, e2, fun vs H2 Z2 L2 Lr2 a2 t2 r2 => ?_⟩⟩
  exact ok (v1 :: vs) H2 Z2 L2 (Lr1 ++ Lr2) (a1.trans a2) (t1.app a1.st.dom a1.sub a2 t2) ⟨v1, vs, Lr1, Lr2, rfl, rfl, r1.aft a1.sr t1.dj a2 (gd_ok l), r2⟩
theorem ROs.len {H : Hp} {Z : Addr → Prop} {c : Loc} {σ : Sg} : ∀ {os : List Opd} {vs : List V} {Lr : List Addr}, ROs E H Z c σ os vs Lr → os.length = vs.length
  | [], _, _, h => by rw [h.1]; rfl
  | _ :: os, _, _, ⟨v, r, La, Lb, e1, e2, h1, h2⟩ => by rw [e1]; simp [ROs.len h2]
/-- frozen arguments: behind a step -/
theorem frz_args {L L1 Lr : List Addr} {H H1 : Hp} {Z Z1 : Addr → Prop} {σ : Sg} {c1 c2 : Loc} {os : List Opd} {vs : List V} {xs : List D} (a : Aft E q L H Z σ c1 H1 Z1 L1) (t : Tmp Lr L1 L H Z1 H1) (r : ROs E H1 Z1 c1 σ os vs Lr) (ev : toDs os c1 = .ok (xs, c2)) :
    ∃ Z2 L2, Aft E q L H Z σ c2 H1 Z2 L2 ∧ RDs E.K H1 Z2 xs vs := by
  obtain ⟨Z2, L2, g, h⟩ := toDs_ok a.sr t.nd t.dj t.ld t.nz r ev
  exact ⟨Z2, L2, a.gh t.sub g, h⟩
theorem s_tup {x1} (hr : PA X es (rdAs E q fs)) : PE X (.Tuple es x1 pos) (rdE E q fun c => (fs c).bind fun (os, c1) => (toDs os c1).bind fun (xs, c2) => (gd (fits xs.length)).bind fun _ => .ok (.v (.d (.tup xs)), c2)) := by
  refine (pe_tup hr).weak fun σ H Q ⟨c, Z, L, o, c', sr, ev, ok⟩ => ?_
  obtain ⟨⟨os, c1⟩, e1, ev⟩ := Res.bind_ok ev
  obtain ⟨⟨xs, c2⟩, e2, ev⟩ := Res.bind_ok ev
  obtain ⟨_, l, ev⟩ := Res.bind_ok ev
  cases ev
  refine ⟨c, Z, L, os, c1, sr, e1, fun vs H1 Z1 L1 Lr a t r => ?_⟩
  obtain ⟨Z2, L2, a2, h⟩ := frz_args a t r e2
  exact ⟨by rw [← h.len]; exact fits_le (gd_ok l), fun p hp => tupQ hp h (ok.fin a2)⟩
theorem s_lst (hr : PA X es (rdAs E q fs)) : PE X (.List es pos) (rdE E q fun c => (fs c).bind fun (os, c1) => (toDs os c1).bind fun (xs, c2) => (gd (fits xs.length)).bind fun _ => .ok (.v (.l xs), c2)) := by
  refine (pe_lst hr).weak fun σ H Q ⟨c, Z, L, o, c', sr, ev, ok⟩ => ?_
  obtain ⟨⟨os, c1⟩, e1, ev⟩ := Res.bind_ok ev
  obtain ⟨⟨xs, c2⟩, e2, ev⟩ := Res.bind_ok ev
  obtain ⟨_, l, ev⟩ := Res.bind_ok ev
  cases ev
  refine ⟨c, Z, L, os, c1, sr, e1, fun vs H1 Z1 L1 Lr a t r => ?_⟩
  obtain ⟨Z2, L2, a2, h⟩ := frz_args a t r e2
  exact ⟨by rw [← h.len]; exact fits_le (gd_ok l), fun p hp => lstQ hp h (ok.fin a2)⟩
/-! ### not, and, or, if -/
theorem s_neg (ha : PE X ea (rdE E q fa)) : PE X (.UnaryOp .USub ea pos) (rdE E q fun c => (fa c).bind fun (x, c1) => match x with
    | .v (.a (.d (.int i))) => .ok (.v (.d (.int (-i))), c1)
    | _ => .no) := by
  refine (pe_un un_neg ha).weak fun σ H Q ⟨c, Z, L, o, c', sr, ev, ok⟩ => ?_
  obtain ⟨⟨x, c1⟩, e1, ev⟩ := Res.bind_ok ev
  simp only at ev
  split at ev
  · cases ev
    exact ⟨c, Z, L, _, _, sr, e1, fun v H1 Z1 L1 Lr a t r => ⟨_, intE r, ok.fin0 a (by unfold RD; rfl)⟩⟩
  · cases ev
theorem s_not (hK : X.K = E.K) (ha : PE X ea (rdE E q fa)) : PE X (.UnaryOp .Not ea pos) (rdE E q fun c => (fa c).bind fun (x, c1) => (rdO x c1).bind fun u => (truth u).bind fun b => .ok (.v (.d (.bl (!b))), c1)) := by
  refine (pe_notT ha).weak fun σ H Q ⟨c, Z, L, o, c', sr, ev, ok⟩ => ?_
  obtain ⟨⟨x, c1⟩, e1, ev⟩ := Res.bind_ok ev
  obtain ⟨u, e2, ev⟩ := Res.bind_ok ev
  obtain ⟨b, e3, ev⟩ := Res.bind_ok ev
  cases ev
  refine ⟨c, Z, L, x, _, sr, e1, fun v H1 Z1 L1 Lr a t r => ?_⟩
  obtain ⟨_, k⟩ := r.rdO a.sr e2
  exact ⟨b, by rw [hK]; exact truth_V k e3, ok.fin0 a (by unfold RD; rfl)⟩
theorem t_not {ft : Loc → Res (Bool × Loc)} (ha : PT X ea (rdT E q ft)) : PT X (.UnaryOp .Not ea pos) (rdT E q fun c => (ft c).bind fun (b, c1) => .ok (!b, c1)) := by
  refine (pt_not ha).weak fun σ H Q ⟨c, Z, L, b, c', sr, ev, ok⟩ => ?_
  obtain ⟨⟨b, c1⟩, e1, ev⟩ := Res.bind_ok ev
  cases ev
  exact ⟨c, Z, L, b, _, sr, e1, fun H1 Z1 L1 a => ok H1 Z1 L1 a⟩
theorem OkO.sub {L L1 : List Addr} {H H1 : Hp} {Z Z1 : Addr → Prop} {σ : Sg} {o : Opd} {c1 c' : Loc} {Q : VK} (ok : OkO E (q1 && q2) L H Z σ o c' Q) (a : Aft E q1 L H Z σ c1 H1 Z1 L1) : OkO E q2 L1 H1 Z1 σ o c' Q := fun v H2 Z2 L2 Lr a2 t r =>
  ok v H2 Z2 L2 Lr (a.trans a2) ⟨t.nd, t.dj, t.nz, t.ld, a.sub.trans a.st.dom t.sub⟩ r
theorem OkT.sub {L L1 : List Addr} {H H1 : Hp} {Z Z1 : Addr → Prop} {σ : Sg} {c1 c' : Loc} {Q : Hp → Prop} (ok : OkT E (q1 && q2) L H Z σ c' Q) (a : Aft E q1 L H Z σ c1 H1 Z1 L1) : OkT E q2 L1 H1 Z1 σ c' Q := fun H2 Z2 L2 a2 => ok H2 Z2 L2 (a.trans a2)
theorem Aft.andT {L L1 : List Addr} {H H1 : Hp} {Z Z1 : Addr → Prop} {σ : Sg} {c1 : Loc} (a : Aft E q1 L H Z σ c1 H1 Z1 L1) : Aft E (q1 && q2) L H Z σ c1 H1 Z1 L1 := by
  cases q2
  · rw [Bool.and_false]; exact a.loud
  · rw [Bool.and_true]; exact a
theorem s_and {rest : List Expr} (ha : PE X ea (rdE E q1 fa)) (hb : PE X (.BoolOp .And (eb :: rest) pos) (rdE E q2 fb)) : PE X (.BoolOp .And (ea :: eb :: rest) pos) (rdE E (q1 && q2) fun c => (fa c).bind fun (x, c1) => match x with
    | .v (.a (.d (.bl true))) => fb c1
    | .v (.a (.d (.bl false))) => .ok (.v (.d (.bl false)), c1)
    | _ => .no) := by
  refine (pe_and ha hb).weak fun σ H Q ⟨c, Z, L, o, c', sr, ev, ok⟩ => ?_
  obtain ⟨⟨x, c1⟩, e1, ev⟩ := Res.bind_ok ev
  simp only at ev
  split at ev
  · refine ⟨c, Z, L, _, _, sr, e1, fun v H1 Z1 L1 Lr a t r => ⟨true, blE r, ?_⟩⟩
    rw [if_pos rfl]
    exact ⟨_, Z1, L1, o, c', a.sr, ev, ok.sub a⟩
  · cases ev
    refine ⟨c, Z, L, _, _, sr, e1, fun v H1 Z1 L1 Lr a t r => ⟨false, blE r, ?_⟩⟩
    rw [if_neg Bool.false_ne_true]
    exact ok.fin0 a.andT (by unfold RD; rfl)
  · cases ev
theorem s_or {rest : List Expr} (ha : PE X ea (rdE E q1 fa)) (hb : PE X (.BoolOp .Or (eb :: rest) pos) (rdE E q2 fb)) : PE X (.BoolOp .Or (ea :: eb :: rest) pos) (rdE E (q1 && q2) fun c => (fa c).bind fun (x, c1) => match x with
    | .v (.a (.d (.bl true))) => .ok (.v (.d (.bl true)), c1)
    | .v (.a (.d (.bl false))) => fb c1
    | _ => .no) := by
  refine (pe_or ha hb).weak fun σ H Q ⟨c, Z, L, o, c', sr, ev, ok⟩ => ?_
  obtain ⟨⟨x, c1⟩, e1, ev⟩ := Res.bind_ok ev
  simp only at ev
  split at ev
  · cases ev
    refine ⟨c, Z, L, _, _, sr, e1, fun v H1 Z1 L1 Lr a t r => ⟨true, blE r, ?_⟩⟩
    rw [if_pos rfl]
    exact ok.fin0 a.andT (by unfold RD; rfl)
  · refine ⟨c, Z, L, _, _, sr, e1, fun v H1 Z1 L1 Lr a t r => ⟨false, blE r, ?_⟩⟩
    rw [if_neg Bool.false_ne_true]
    exact ⟨_, Z1, L1, o, c', a.sr, ev, ok.sub a⟩
  · cases ev
theorem w_and {ta tb : Loc → Res (Bool × Loc)} {rest : List Expr} (ha : PT X ea (rdT E q1 ta)) (hb : PW X (.BoolOp .And (eb :: rest) pos) (rdT E q2 tb)) : PW X (.BoolOp .And (ea :: eb :: rest) pos) (rdT E (q1 && q2) fun c => (ta c).bind fun (t, c1) => if t then tb c1 else .ok (false, c1)) := by
  refine (pw_and ha hb).weak fun σ H Q ⟨c, Z, L, b, c', sr, ev, ok⟩ => ?_
  obtain ⟨⟨t, c1⟩, e1, ev⟩ := Res.bind_ok ev
  refine ⟨c, Z, L, t, c1, sr, e1, fun H1 Z1 L1 a => ?_⟩
  cases t
  · cases ev
    rw [if_neg Bool.false_ne_true]
    exact ok H1 Z1 L1 a.andT
  · rw [if_pos rfl]
    exact ⟨c1, Z1, L1, b, c', a.sr, ev, ok.sub a⟩
theorem w_or {ta tb : Loc → Res (Bool × Loc)} {rest : List Expr} (ha : PT X ea (rdT E q1 ta)) (hb : PW X (.BoolOp .Or (eb :: rest) pos) (rdT E q2 tb)) : PW X (.BoolOp .Or (ea :: eb :: rest) pos) (rdT E (q1 && q2) fun c => (ta c).bind fun (t, c1) => if t then .ok (true, c1) else tb c1) := by
  refine (pw_or ha hb).weak fun σ H Q ⟨c, Z, L, b, c', sr, ev, ok⟩ => ?_
  obtain ⟨⟨t, c1⟩, e1, ev⟩ := Res.bind_ok ev
  refine ⟨c, Z, L, t, c1, sr, e1, fun H1 Z1 L1 a => ?_⟩
  cases t
  · rw [if_neg Bool.false_ne_true]
    exact ⟨c1, Z1, L1, b, c', a.sr, ev, ok.sub a⟩
  · cases ev
    rw [if_pos rfl]
    exact ok H1 Z1 L1 a.andT
theorem s_ite {tc : Loc → Res (Bool × Loc)} (hc : PT X ec (rdT E q1 tc)) (ha : PE X ea (rdE E q2 fa)) (hb : PE X eb (rdE E q3 fb)) : PE X (.IfExp ec ea eb pos) (rdE E (q1 && q2 && q3) fun c => (tc c).bind fun (t, c1) => if t then fa c1 else fb c1) := by
  refine (pe_ifExp hc ha hb).weak fun σ H Q ⟨c, Z, L, o, c', sr, ev, ok⟩ => ?_
  obtain ⟨⟨t, c1⟩, e1, ev⟩ := Res.bind_ok ev
  refine ⟨c, Z, L, t, c1, sr, e1, fun H1 Z1 L1 a => ?_⟩
  cases t
  · rw [if_neg Bool.false_ne_true]
    refine ⟨c1, Z1, L1, o, c', a.sr, ev, OkO.sub (q1 := q1 && q2) ok a.andT⟩
  · rw [if_pos rfl]
    refine ⟨c1, Z1, L1, o, c', a.sr, ev, fun v H2 Z2 L2 Lr a2 t r => OkO.sub (q1 := q1) (q2 := q2 && q3) (by rw [← Bool.and_assoc]; exact ok) a v H2 Z2 L2 Lr a2.andT t r⟩
/-! ### is None, is True -/
theorem RV.isN {K : PySem.W.Frag} {ca : Nat → Option Addr} {H : Hp} {Z : Addr → Prop} {x : Vl} {v : V} {L : List Addr} (h : RV K H Z ca x v L) : decide (v = .non) = x.isNon := by
  have ref : ∀ a, v = .ref a → decide (v = .non) = false := fun a e => by rw [e]; exact decide_eq_false (fun z => nomatch z)
  cases x with
  | o C fs =>
    obtain ⟨a, _, _, _, _, e, _⟩ := h
    exact ref a e
  | a x =>
    have h : RA K H Z x v L := h
    cases x with
    | d d =>
      cases d with
      | non => rw [noE h]; rfl
      | bl b => rw [blE h]; exact decide_eq_false (fun z => nomatch z)
      | int i => rw [intE h]; exact decide_eq_false (fun z => nomatch z)
      | str s => rw [strE h]; exact decide_eq_false (fun z => nomatch z)
      | tup ds => obtain ⟨a, _, e, _⟩ := tupE h; exact ref a e
      | lst ds => obtain ⟨a, _, e, _⟩ := h.lst (.inr rfl); exact ref a e
      | dic _ => exact absurd h.2 (by unfold RD; exact id)
    | l ds => obtain ⟨a, _, e, _⟩ := h.lst (.inl rfl); exact ref a e
    | m _ => exact h.elim
def isNf (n : Bool) (f : Loc → Res (Opd × Loc)) : Loc → Res (Opd × Loc) := fun c => (f c).bind fun (x, c1) => (rdO x c1).bind fun u => .ok (.v (.d (.bl (if n then !u.isNon else u.isNon))), c1)
theorem isNf_ok {n : Bool} {c c' : Loc} {o : Opd} (ev : isNf n fa c = .ok (o, c')) : ∃ x u, fa c = .ok (x, c') ∧ rdO x c' = .ok u ∧ o = .v (.d (.bl (if n then !u.isNon else u.isNon))) := by
  obtain ⟨⟨x, c1⟩, e1, ev⟩ := Res.bind_ok ev
  obtain ⟨u, e2, ev⟩ := Res.bind_ok ev
  cases ev
  exact ⟨x, u, e1, e2, rfl⟩
theorem isN_rd {n : Bool} {σ : Sg} {H : Hp} {Q : VK} (h : rdE E q (isNf n fa) σ H Q) : (if n then tNotN (rdE E q fa) else tIsN (rdE E q fa)) σ H Q := by
  obtain ⟨c, Z, L, o, c', sr, ev, ok⟩ := h
  obtain ⟨x, u, e1, e2, rfl⟩ := isNf_ok ev
  cases n
  · refine ⟨c, Z, L, x, c', sr, e1, fun v H1 Z1 L1 Lr a t r => ?_⟩
    obtain ⟨_, k⟩ := r.rdO a.sr e2
    rw [k.isN]
    exact ok.fin0 a (by unfold RD; rfl)
  · refine ⟨c, Z, L, x, c', sr, e1, fun v H1 Z1 L1 Lr a t r => ?_⟩
    obtain ⟨_, k⟩ := r.rdO a.sr e2
    rw [k.isN]
    exact ok.fin0 a (by unfold RD; rfl)
theorem s_isN {n : Bool} {j pos'} (ha : PE X ea (rdE E q fa)) : PE X (.Compare ea [if n then .IsNot else .Is] [.Constant .none j pos'] pos) (rdE E q (isNf n fa)) := by
  cases n
  · exact (pe_cmp (pc_isN ha) rfl).weak fun σ H Q h => isN_rd (n := false) h
  · exact (pe_cmp (pc_notN ha) rfl).weak fun σ H Q h => isN_rd (n := true) h
theorem t_isN {n : Bool} {j pos'} (ha : PE X ea (rdE E q fa)) : PT X (.Compare ea [if n then .IsNot else .Is] [.Constant .none j pos'] pos) (rdT E q (asT (isNf n fa))) := by
  have bl : ∀ c o c', isNf n fa c = .ok (o, c') → ∃ b, o = .v (.d (.bl b)) := fun c o c' ev => by
    obtain ⟨x, u, _, _, e⟩ := isNf_ok ev
    exact ⟨_, e⟩
  cases n
  · exact (pt_cmp (pc_isN ha) rfl).weak fun σ H Q h => isN_rd (n := false) (blT bl h)
  · exact (pt_cmp (pc_notN ha) rfl).weak fun σ H Q h => isN_rd (n := true) (blT bl h)
end
end G
namespace G
open PySem L2
section
variable {X : Cx} {E : Ev} {q q1 q2 q3 : Bool} {e ea eb ec : Expr} {es : List Expr} {pos : Pos} {f fa fb fc : Loc → Res (Opd × Loc)} {fs : Loc → Res (List Opd × Loc)}
/-! ### chains -/
def chnF (o o' : COp) (q2 q3 : Bool) (fa fb fc : Loc → Res (Opd × Loc)) : Loc → Res (Opd × Loc) := fun c => (fa c).bind fun (x, c1) => (gd (lateO x q2)).bind fun _ => (fb c1).bind fun (y, c2) => (gd (lateO y q3)).bind fun _ => (rdA x c2).bind fun u => (rdA y c2).bind fun v => (cop o u v).bind fun z =>
    if z then (fc c2).bind fun (y', c3) => (rdA y c3).bind fun v' => (rdA y' c3).bind fun v2 => (cop o' v' v2).bind fun z' => .ok (.v (.d (.bl z')), c3) else .ok (.v (.d (.bl false)), c2)
theorem chn_rd (hK : X.K = E.K) {o o' : COp} {σ : Sg} {H : Hp} {Q : VK} (h : rdE E (q1 && q2 && q3) (chnF o o' q2 q3 fa fb fc) σ H Q) : tChain (rGb E.K (cop o)) (rGb E.K (cop o')) (rdE E q1 fa) (rdE E q2 fb) (rdE E q3 fc) σ H Q := by
  obtain ⟨c, Z, L, oo, c', sr, ev, ok⟩ := h
  obtain ⟨⟨x, c1⟩, e1, ev⟩ := Res.bind_ok ev
  obtain ⟨_, l, ev⟩ := Res.bind_ok ev
  obtain ⟨⟨y, c2⟩, e2, ev⟩ := Res.bind_ok ev
  obtain ⟨_, l2, ev⟩ := Res.bind_ok ev
  obtain ⟨u, e3, ev⟩ := Res.bind_ok ev
  obtain ⟨v, e4, ev⟩ := Res.bind_ok ev
  obtain ⟨z, e5, ev⟩ := Res.bind_ok ev
  refine ⟨c, Z, L, x, c1, sr, e1, fun v1 H1 Z1 L1 Lr1 a1 t1 r1 => ⟨c1, Z1, L1, y, c2, a1.sr, e2, fun v2 H2 Z2 L2 Lr2 a2 t2 r2 => ?_⟩⟩
  have r1' := r1.aft a1.sr t1.dj a2 (gd_ok l)
  have a12 := a1.trans a2
  obtain ⟨_, k1⟩ := r1'.rdA a12.sr e3
  obtain ⟨_, k2⟩ := r2.rdA a12.sr e4
  refine ⟨Z2, u, v, _, _, z, k1, k2, e5, z, rfl, ?_⟩
  cases z
  · cases ev
    rw [if_neg Bool.false_ne_true]
    exact ok.fin0 a12.andT (by unfold RD; rfl)
  · rw [if_pos rfl]
    obtain ⟨⟨y', c3⟩, e6, ev⟩ := Res.bind_ok (show ((fc c2).bind fun (y', c3) => (rdA y c3).bind fun v' => (rdA y' c3).bind fun v2 => (cop o' v' v2).bind fun z' => Res.ok (Opd.v (.d (.bl z')), c3)) = _ from ev)
    obtain ⟨v', e7, ev⟩ := Res.bind_ok ev
    obtain ⟨v3, e8, ev⟩ := Res.bind_ok ev
    obtain ⟨z', e9, ev⟩ := Res.bind_ok ev
    cases ev
    refine ⟨c2, Z2, L2, y', _, a2.sr, e6, fun w H3 Z3 L3 Lr3 a3 t3 r3 => ?_⟩
    have r2' := r2.aft a2.sr t2.dj a3 (gd_ok l2)
    obtain ⟨_, k3⟩ := r2'.rdA a3.sr e7
    obtain ⟨_, k4⟩ := r3.rdA a3.sr e8
    exact ⟨Z3, v', v3, _, _, z', k3, k4, e9, ok.fin0 (a12.trans a3) (by unfold RD; rfl)⟩
theorem s_chn (hK : X.K = E.K) (hu : X.A.units + 65 < cLine) {o o' : COp} (hm : lastMarks [copOf o, copOf o'] [eb, ec] = false) (ha : PE X ea (rdE E q1 fa)) (hb : PE X eb (rdE E q2 fb)) (hc : PE X ec (rdE E q3 fc)) :
    PE X (.Compare ea [copOf o, copOf o'] [eb, ec] pos) (rdE E (q1 && q2 && q3) (chnF o o' q2 q3 fa fb fc)) := (pe_chain (copE hK hu o) (copE hK hu o') ha hb hc hm).weak fun σ H Q h => chn_rd hK h
theorem chn_bl {o o' : COp} {c : Loc} {oo : Opd} {c' : Loc} (ev : chnF o o' q2 q3 fa fb fc c = .ok (oo, c')) : ∃ b, oo = .v (.d (.bl b)) := by
  obtain ⟨⟨x, c1⟩, e1, ev⟩ := Res.bind_ok ev
  obtain ⟨_, l, ev⟩ := Res.bind_ok ev
  obtain ⟨⟨y, c2⟩, e2, ev⟩ := Res.bind_ok ev
  obtain ⟨_, l2, ev⟩ := Res.bind_ok ev
  obtain ⟨u, e3, ev⟩ := Res.bind_ok ev
  obtain ⟨v, e4, ev⟩ := Res.bind_ok ev
  obtain ⟨z, e5, ev⟩ := Res.bind_ok ev
  cases z
  · cases ev; exact ⟨_, rfl⟩
  · obtain ⟨⟨y', c3⟩, e6, ev⟩ := Res.bind_ok (show ((fc c2).bind fun (y', c3) => (rdA y c3).bind fun v' => (rdA y' c3).bind fun v2 => (cop o' v' v2).bind fun z' => Res.ok (Opd.v (.d (.bl z')), c3)) = _ from ev)
    obtain ⟨v', e7, ev⟩ := Res.bind_ok ev
    obtain ⟨v3, e8, ev⟩ := Res.bind_ok ev
    obtain ⟨z', e9, ev⟩ := Res.bind_ok ev
    cases ev
    exact ⟨_, rfl⟩
theorem t_chn (hK : X.K = E.K) (hu : X.A.units + 65 < cLine) {o o' : COp} (hm : lastMarks [copOf o, copOf o'] [eb, ec] = false) (ha : PE X ea (rdE E q1 fa)) (hb : PE X eb (rdE E q2 fb)) (hc : PE X ec (rdE E q3 fc)) :
    PT X (.Compare ea [copOf o, copOf o'] [eb, ec] pos) (rdT E (q1 && q2 && q3) (asT (chnF o o' q2 q3 fa fb fc))) := (pt_chain (copE hK hu o) (copE hK hu o') ha hb hc hm).weak fun σ H Q h => chn_rd hK (blT (fun c o c' => chn_bl) h)
/-! ### is True, is False -/
def isCf (n b : Bool) (f : Loc → Res (Opd × Loc)) : Loc → Res (Opd × Loc) := fun c => (f c).bind fun (x, c1) => (rdO x c1).bind fun u => match u with
    | .a (.d (.bl b')) => .ok (.v (.d (.bl (n != decide (b' = b)))), c1)
    | _ => .no
theorem isCf_ok {n b : Bool} {c c' : Loc} {o : Opd} (ev : isCf n b fa c = .ok (o, c')) : ∃ x b', fa c = .ok (x, c') ∧ rdO x c' = .ok (.d (.bl b')) ∧ o = .v (.d (.bl (n != decide (b' = b)))) := by
  obtain ⟨⟨x, c1⟩, e1, ev⟩ := Res.bind_ok ev
  obtain ⟨u, e2, ev⟩ := Res.bind_ok ev
  split at ev
  · cases ev; exact ⟨x, _, e1, e2, rfl⟩
  · cases ev
theorem isC_rd {n b : Bool} {σ : Sg} {H : Hp} {Q : VK} (h : rdE E q (isCf n b fa) σ H Q) : tOp (if n then rNotB else rIsB) (rdE E q fa) (tC (.bl b)) σ H Q := by
  obtain ⟨c, Z, L, o, c', sr, ev, ok⟩ := h
  obtain ⟨x, b', e1, e2, rfl⟩ := isCf_ok ev
  refine ⟨c, Z, L, x, c', sr, e1, fun v H1 Z1 L1 Lr a t r => ?_⟩
  obtain ⟨_, k⟩ := r.rdO a.sr e2
  obtain rfl := blE (show RA E.K H1 Z1 (.d (.bl b')) v _ from k)
  cases n
  · exact ⟨b', b, rfl, rfl, ok.fin0 a (by unfold RD; simp)⟩
  · exact ⟨b', b, rfl, rfl, ok.fin0 a (by unfold RD; simp)⟩
theorem s_isC {n b : Bool} {j pos'} (ha : PE X ea (rdE E q fa)) : PE X (.Compare ea [if n then .IsNot else .Is] [.Constant (.bool b) j pos'] pos) (rdE E q (isCf n b fa)) := by
  cases n
  · exact (pe_cmpR op_isBl ha pe_bl (nomark _)).weak fun σ H Q h => isC_rd (n := false) h
  · exact (pe_cmpR op_notBl ha pe_bl (nomark _)).weak fun σ H Q h => isC_rd (n := true) h
theorem t_isC {n b : Bool} {j pos'} (ha : PE X ea (rdE E q fa)) : PT X (.Compare ea [if n then .IsNot else .Is] [.Constant (.bool b) j pos'] pos) (rdT E q (asT (isCf n b fa))) := by
  have bl : ∀ c o c', isCf n b fa c = .ok (o, c') → ∃ b, o = .v (.d (.bl b)) := fun c o c' ev => by
    obtain ⟨x, u, _, _, e⟩ := isCf_ok ev
    exact ⟨_, e⟩
  cases n
  · exact (pt_cmpR op_isBl ha pe_bl (nomark _)).weak fun σ H Q h => isC_rd (n := false) (blT bl h)
  · exact (pt_cmpR op_notBl ha pe_bl (nomark _)).weak fun σ H Q h => isC_rd (n := true) (blT bl h)
/-! ### fields -/
/-- what the classes' facts say of fields -/
def FldOk (E : Ev) (f : Str) : Prop := ∀ C A, E.ca C = some A → Cls E.K A ∧ NoAttr E.K A f
theorem fld_at {σ : Sg} {H : Hp} {c : Loc} {Z : Addr → Prop} {L : List Addr} {i : Nat} {f : Str} {x : At} (sr : SR E c σ H Z L) (e : getF c i f = .ok x) :
    ∃ a A C dx fv v Lx, σ[i]? = some (some (.ref a)) ∧ E.ca C = some A ∧ H a = some (.ins A dx fv) ∧ fv.lookup f = some v ∧ RA E.K H Z x v Lx := by
  unfold getF at e
  split at e
  · rename_i C fs hc
    split at e
    · rename_i y hl
      cases e
      obtain ⟨oo, Li, Lo, g1, g2, g3, _⟩ := sr.rs.split hc
      obtain ⟨w, g4, a, A, dx, fv, M, e1, e2, hA, g5, g6⟩ := g2
      rw [g4, e1] at g1
      obtain ⟨v, Lx, Mo, k1, k2, _⟩ := g6.put hl
      exact ⟨a, A, C, dx, fv, v, Lx, g1, hA, g5, k1, k2⟩
    · cases e
  · cases e
theorem s_fld (hK : X.K = E.K) {i : Nat} {f : Str} {x : Str} {p : Pos} (hf : FldOk E f) (h : PE X (.Name x p) (tVar i)) : PE X (.Attribute (.Name x p) f pos) (rdE E true (evFld i f)) := by
  refine (pe_fld h rfl).weak fun σ H Q ⟨c, Z, L, o, c', sr, ev, ok⟩ => ?_
  unfold evFld at ev
  split at ev
  · rename_i d hg
    cases ev
    obtain ⟨a, A, C, dx, fv, v, Lx, h1, h2, h3, h4, h5⟩ := fld_at sr hg
    obtain ⟨k1, k2⟩ := hf C A h2
    exact ⟨_, h1, a, A, dx, fv, v, rfl, h3, by rw [hK]; exact k1, by rw [hK]; exact k2, h4, ok v H Z L [] (.refl sr) .nil ⟨rfl, h5.2⟩⟩
  · rename_i y _ hg
    cases ev
    obtain ⟨a, A, C, dx, fv, v, Lx, h1, h2, h3, h4, h5⟩ := fld_at sr hg
    obtain ⟨k1, k2⟩ := hf C A h2
    exact ⟨_, h1, a, A, dx, fv, v, rfl, h3, by rw [hK]; exact k1, by rw [hK]; exact k2, h4, ok v H Z L [] (.refl sr) .nil ⟨rfl, a, A, dx, fv, h1, h3, h4⟩⟩
  · cases ev
/-! ### slices -/
def rdP (E : Ev) (q : Bool) (f : Loc → Res (Option Int × Loc)) : TO := fun σ H Q => ∃ c Z L o c', SR E c σ H Z L ∧ f c = .ok (o, c') ∧ OkT E q L H Z σ c' (Q o)
theorem _root_.L2.PO.weak {X : Cx} {e : Option Expr} {t t' : TO} (h : PO X e t) (w : ∀ σ H Q, t' σ H Q → t σ H Q) : PO X e t' := ⟨fun pins s σ H Q I q => h.run pins s σ H Q I (w σ H Q q)⟩
theorem p_none : PO X none (rdP E true fun c => .ok (none, c)) := by
  refine po_none.weak fun σ H Q ⟨c, Z, L, o, c', sr, ev, ok⟩ => ?_
  cases ev
  exact ok H Z L (.refl sr)
theorem p_some (ha : PE X ea (rdE E q fa)) : PO X (some ea) (rdP E q fun c => (fa c).bind fun (x, c1) => match x with
    | .v (.a (.d (.int i))) => .ok (some i, c1)
    | _ => .no) := by
  refine (po_some ha).weak fun σ H Q ⟨c, Z, L, o, c', sr, ev, ok⟩ => ?_
  obtain ⟨⟨x, c1⟩, e1, ev⟩ := Res.bind_ok ev
  simp only at ev
  split at ev
  · cases ev
    exact ⟨c, Z, L, _, _, sr, e1, fun v H1 Z1 L1 Lr a t r => ⟨_, intE r, ok H1 Z1 L1 a⟩⟩
  · cases ev
theorem s_sl (hK : X.K = E.K) {lo hi : Option Expr} {fl fh : Loc → Res (Option Int × Loc)} {p2 : Pos} (ha : PE X ea (rdE E q1 fa)) (hl : PO X lo (rdP E q2 fl)) (hh : PO X hi (rdP E q3 fh)) :
    PE X (.Subscript ea (.Slice lo hi none p2) pos) (rdE E false fun c => (fa c).bind fun (x, c1) => (gd (lateO x false)).bind fun _ => (fl c1).bind fun (l, c2) => (fh c2).bind fun (h, c3) => (rdA x c3).bind fun u => (slc u l h).bind fun z => .ok (.v (.a z), c3)) := by
  refine (pe_slice slc_ok ha hl hh).weak fun σ H Q ⟨c, Z, L, o, c', sr, ev, ok⟩ => ?_
  obtain ⟨⟨x, c1⟩, e1, ev⟩ := Res.bind_ok ev
  obtain ⟨_, l, ev⟩ := Res.bind_ok ev
  obtain ⟨⟨l1, c2⟩, e2, ev⟩ := Res.bind_ok ev
  obtain ⟨⟨l2, c3⟩, e3, ev⟩ := Res.bind_ok ev
  obtain ⟨u, e4, ev⟩ := Res.bind_ok ev
  obtain ⟨z, e5, ev⟩ := Res.bind_ok ev
  cases ev
  refine ⟨c, Z, L, x, c1, sr, e1, fun v1 H1 Z1 L1 Lr1 a1 t1 r1 => ⟨c1, Z1, L1, l1, c2, a1.sr, e2, fun H2 Z2 L2 a2 => ⟨c2, Z2, L2, l2, _, a2.sr, e3, fun H3 Z3 L3 a3 => ?_⟩⟩⟩
  have l' : ∀ q, lateO x q = true := fun q => by
    have := gd_ok l
    cases x with
    | q i f => exact absurd this Bool.false_ne_true
    | v _ => rfl
    | p _ => rfl
  have a23 := a2.trans a3
  have r1' := r1.aft a1.sr t1.dj a23 (l' _)
  obtain ⟨_, k1⟩ := r1'.rdA a23.sr e4
  rw [hK]
  exact ⟨Z3, u, _, z, k1, e5, ok.fin (a1.trans a23).loud⟩
theorem s_rsl (hK : X.K = E.K) {k : Nat} {p1 p2 p3 : Pos} (ha : PE X ea (rdE E q fa)) : PE X (.Subscript ea (.Slice none none (some (.UnaryOp .USub (.Constant (.int 1) k p1) p2)) p3) pos) (rdE E q fun c => (fa c).bind fun (x, c1) => (rdA x c1).bind fun u => (match u with
    | .l xs => Res.ok (Opd.v (.l xs.reverse), c1)
    | .d (.lst xs) => Res.ok (Opd.v (.l xs.reverse), c1)
    | _ => Res.no)) := by
  refine (pe_revL ha).weak fun σ H Q ⟨c, Z, L, o, c', sr, ev, ok⟩ => ?_
  obtain ⟨⟨x, c1⟩, e1, ev⟩ := Res.bind_ok ev
  obtain ⟨u, e2, ev⟩ := Res.bind_ok ev
  have fin : ∀ xs, (u = .l xs ∨ u = .d (.lst xs)) → o = .v (.l xs.reverse) → c1 = c' → (rdE E q fa) σ H fun x H1 => ∃ a xs, x = .ref a ∧ SqL X.K H1 a xs ∧ ∀ p, H1 p = none → Q (.ref p) (upd H1 p (.lst xs.reverse)) := fun xs hu ho hc => by
    subst ho hc
    refine ⟨c, Z, L, x, c1, sr, e1, fun v H1 Z1 L1 Lr a t r => ?_⟩
    obtain ⟨_, k⟩ := r.rdA a.sr e2
    obtain ⟨b, vs, rfl, q1, r1⟩ := k.lst hu
    exact ⟨b, vs, rfl, by rw [hK]; exact q1, fun p hp => lstQ hp r1.rev (ok.fin a)⟩
  split at ev
  · cases ev; exact fin _ (.inl rfl) rfl rfl
  · cases ev; exact fin _ (.inr rfl) rfl rfl
  · cases ev
/-! ### built-ins -/
def ats (vs : List Vl) : Option (List At) := vs.mapM fun | .a x => some x | _ => none
theorem rd_ats {L1 : List Addr} {H : Hp} {Z : Addr → Prop} {c : Loc} {σ : Sg} (sr : SR E c σ H Z L1) : ∀ {os : List Opd} {vs : List V} {Lr : List Addr} {ws : List Vl} {xs : List At}, ROs E H Z c σ os vs Lr → rdOs os c = .ok ws → ats ws = some xs → RAs E.K H Z xs vs
  | [], vs, Lr, ws, xs, h, e, e2 => by
    cases e
    cases e2
    exact h.1
  | o :: os, vs, Lr, ws, xs, ⟨v, r, La, Lb, e1, e2, h1, h2⟩, e, e3 => by
    obtain ⟨w, k1, e⟩ := Res.bind_ok (show (rdO o c).bind (fun x => (rdOs os c).bind fun xs => Res.ok (x :: xs)) = _ from e)
    obtain ⟨ws', k2, e⟩ := Res.bind_ok e
    cases e
    obtain ⟨Lx, k⟩ := h1.rdO sr k1
    cases w with
    | o C fs => simp [ats] at e3
    | a y =>
      have e3 : (ats ws').bind (fun xs => some (y :: xs)) = some xs := by
        simpa [ats, List.mapM_cons] using e3
      cases hq : ats ws' with
      | none => rw [hq] at e3; cases e3
      | some ys =>
        rw [hq] at e3
        cases e3
        exact ⟨v, r, Lx, e1, k, rd_ats sr h2 k2 hq⟩
def bltF (b : Blt) (fs : Loc → Res (List Opd × Loc)) : Loc → Res (Opd × Loc) := fun c => (fs c).bind fun (os, c1) => (rdOs os c1).bind fun vs => match vs.mapM fun | .a x => some x | _ => none with
    | some xs => (blt b xs).bind fun z => .ok (.v (.a z), c1)
    | none => .no
theorem blt_rd (hK : X.K = E.K) {b : Blt} {σ : Sg} {H : Hp} {Q : VK} {R : List V → Hp → Prop} (hR : ∀ vs H, rBl E.K b vs H Q → R vs H) (h : rdE E q (bltF b fs) σ H Q) : rdAs E q fs σ H R := by
  obtain ⟨c, Z, L, o, c', sr, ev, ok⟩ := h
  obtain ⟨⟨os, c1⟩, e1, ev⟩ := Res.bind_ok ev
  obtain ⟨ws, e2, ev⟩ := Res.bind_ok ev
  split at ev
  · rename_i xs hx
    obtain ⟨z, e3, ev⟩ := Res.bind_ok ev
    cases ev
    exact ⟨c, Z, L, os, _, sr, e1, fun vs H1 Z1 L1 Lr a t r => hR vs H1 ⟨Z1, xs, z, rd_ats a.sr r e2 hx, e3, ok.fin a⟩⟩
  · cases ev
theorem s_blt (hK : X.K = E.K) (hc : X.calm = true) {b : Blt} {p : String × Bool} (hb : bltN b = some p) {pp : Pos} (hg : Gl X p.1) (hm : X.mg p.1 = none) (hv : bootBuiltins p.1 = some (bltV p)) (hn : (p.1 : Str) ≠ "__name__") (hdb : ((p.1 : Str) == ("__debug__" : Str)) = false)
    (ha : PA X (e :: es) (rdAs E q fs)) (he : starEach (e :: es) X.env = (false, eval e X.env) :: starEach es X.env) (hpl : (backTo pos (starEach es X.env)).any (·.1) = false) : PE X (.Call (.Name p.1 pp) (e :: es) [] pos) (rdE E q (bltF b fs)) := by
  have ok : CallR X (bltV p) (rBl E.K b) := hK ▸ blt_ok hc hb
  obtain ⟨n, t⟩ := p
  cases t
  · exact (pe_callB (id := n) ok hg hm hv ha hn hdb he hpl).weak fun σ H Q h => blt_rd hK (fun vs H k => k) h
  · exact (pe_callTy (T := n) ok hg hm hv ha hn hdb he hpl).weak fun σ H Q h => blt_rd hK (fun vs H k => k) h
theorem s_isi (hK : X.K = E.K) {b : Blt} {T : String} (hb : isiN b = some T) {pp p2 : Pos} (hg : Gl X "isinstance") (hm : X.mg "isinstance" = none) (hg2 : Gl X T) (hm2 : X.mg T = none) (hv2 : bootBuiltins T = some (.type T)) (hn : (T : Str) ≠ "__name__") (hdb : ((T : Str) == ("__debug__" : Str)) = false)
    (ha : PE X e (rdE E q f)) (he : starEach [e, .Name T p2] X.env = (false, eval e X.env) :: starEach [.Name T p2] X.env) :
    PE X (.Call (.Name "isinstance" pp) [e, .Name T p2] [] pos) (rdE E q (bltF b fun c => (f c).bind fun (o, c1) => (gd (lateO o true)).bind fun _ => .ok ([o], c1))) := by
  refine (pe_callB call_isi hg hm (by decide +kernel) (pa_cons ha (pa_cons (pe_bltn (v := .ty T) hg2 hm2 hv2 rfl hn hdb) pa_nil rfl) he) (by decide) (by decide) he rfl).weak fun σ H Q ⟨c, Z, L, o, c', sr, ev, ok⟩ => ?_
  obtain ⟨⟨os, c1⟩, e1, ev⟩ := Res.bind_ok ev
  obtain ⟨⟨x, c2⟩, e0, e1⟩ := Res.bind_ok e1
  obtain ⟨_, _, e1⟩ := Res.bind_ok e1
  cases e1
  obtain ⟨ws, e2, ev⟩ := Res.bind_ok ev
  obtain ⟨w, e3, e2⟩ := Res.bind_ok (show (rdO x _).bind (fun x => (rdOs [] _).bind fun xs => Res.ok (x :: xs)) = _ from e2)
  cases e2
  cases w with
  | o C fs => simp at ev
  | a y =>
    have ev : (blt b [y]).bind (fun z => Res.ok (Opd.v (.a z), c1)) = .ok (o, c') := by simpa using ev
    obtain ⟨z, e4, ev⟩ := Res.bind_ok ev
    cases ev
    refine ⟨c, Z, L, x, _, sr, e0, fun v H1 Z1 L1 Lr a t r => ?_⟩
    obtain ⟨_, k⟩ := r.rdO a.sr e3
    rw [hK]
    exact isi_ok hb (show RA E.K H1 Z1 y v _ from k) e4 (ok.fin a)
end
end G
namespace G
open PySem PySem.Spec PyProof.Rows L2
/-! ### list.extend by a list or a tuple -/
theorem extend_tup (l : Addr) (items : Array Value) (n : Nat) (b : Addr) (items2 : Array Value) (n2 : Nat) (dd : Option Addr) (sl : Array (Option Value)) (hs0 : ¬(!items.isEmpty && Builtin.List.listTooLong (items.size + items2.size)) = true) (hs1 : items.size ≤ sizeLine) (hs2 : items.size + items2.size ≤ sizeLine + 1) :
    Meets (Builtin.«list.extend» ⟨[.ref l, .ref b], []⟩) (fun _ R s => s.heap.get? l = some { cls := .type "list", dict := none, data := .seq items n, slots := #[] } ∧ s.heap.get? b = some { cls := .type "tuple", dict := dd, data := .seq items2 n2, slots := sl } ∧ R (.ok (.ret Value.none)) { s with heap := s.heap.update l (Obj.mapSeq fun x => x ++ items2), toks := s.toks }) :=
  .of_wp fun prog w A R s h => by
    obtain ⟨hp, g, d, tk, os⟩ := s; obtain ⟨hl, hb, h⟩ := h; have f1 := AutoSeq1.idx_int; have f2 := AutoSeq1.sub_tuple_tuple; have f3 := AutoSeq1.sub_list_list; have f4 := AutoSeq1.sub_tuple_list; have f5 := AutoSeq1.sub_list_tuple;
    have hz' : (items ++ items2).size ≤ sizeLine + 1 := by rw [Array.size_append]; exact hs2
    wp_walk using (wpAny_updateSeq hl rfl (hz := hs1) (_hz' := hz')), AutoSeq1.wpAny_loadPart' hl, AutoSeq1.wpAny_loadPart' hb; exact ⟨_, rfl, h⟩
theorem extend_lstW (l : Addr) (items : Array Value) (n : Nat) (b : Addr) (items2 : Array Value) (n2 : Nat) (dd : Option Addr) (sl : Array (Option Value)) (hs0 : ¬(!items.isEmpty && Builtin.List.listTooLong (items.size + items2.size)) = true) (hs1 : items.size ≤ sizeLine) (hs2 : items.size + items2.size ≤ sizeLine + 1) :
    Meets (Builtin.«list.extend» ⟨[.ref l, .ref b], []⟩) (fun _ R s => s.heap.get? l = some { cls := .type "list", dict := none, data := .seq items n, slots := #[] } ∧ s.heap.get? b = some { cls := .type "list", dict := dd, data := .seq items2 n2, slots := sl } ∧ R (.ok (.ret Value.none)) { s with heap := s.heap.update l (Obj.mapSeq fun x => x ++ items2), toks := s.toks }) :=
  .of_wp fun prog w A R s h => by
    obtain ⟨hp, g, d, tk, os⟩ := s; obtain ⟨hl, hb, h⟩ := h; have f1 := AutoSeq1.idx_int; have f2 := AutoSeq1.sub_tuple_tuple; have f3 := AutoSeq1.sub_list_list; have f4 := AutoSeq1.sub_tuple_list; have f5 := AutoSeq1.sub_list_tuple;
    have hz' : (items ++ items2).size ≤ sizeLine + 1 := by rw [Array.size_append]; exact hs2
    wp_walk using (wpAny_updateSeq hl rfl (hz := hs1) (_hz' := hz')), AutoSeq1.wpAny_loadPart' hl, AutoSeq1.wpAny_loadPart' hb; exact ⟨_, rfl, h⟩
section
variable {X : Cx}
def rExtA (K : PySem.W.Frag) : V → List V → Hp → VK → Prop := fun x vs H Q => ∃ l b xs zs, x = .ref l ∧ vs = [.ref b] ∧ H l = some (.lst xs) ∧ (SqL K H b zs ∨ SqT K H b zs) ∧ xs.length + zs.length ≤ sizeLine ∧ Q .non (upd H l (.lst (xs ++ zs)))
theorem mt_extA : MtR X "list.extend" (rExtA X.K) := by
  intro pins s σ H x vs v us Q I rx rv h
  obtain ⟨l, b, xs, zs, rfl, rfl, hH, hB, hz, q⟩ := h
  cases rx
  obtain ⟨u, rfl, ru⟩ := rv.one
  cases ru
  obtain ⟨z, its, n, r, hl, e⟩ := I.lstM hH
  have fin : ∀ its2 : List Value, Vals zs its2 → EP X pins σ Q Value.none { s with heap := s.heap.update l (Obj.mapSeq fun x => x ++ its2.toArray), toks := s.toks } := fun its2 r2 =>
    ⟨.non, _, I.lset (its' := its ++ its2) hH e (by simp) (r.append r2) (by rw [List.length_append]; exact hz), rfl, q⟩
  rcases hB with hB | hB
  · obtain ⟨its2, r2, p2, hz2⟩ := I.list hB
    obtain ⟨⟨oc, od, odata, osl⟩, e2, hc, n2, hd⟩ := p2.isList
    cases hc
    cases hd
    have hl2 := r2.length
    have hsz : its.toArray.size + its2.toArray.size ≤ sizeLine := by rw [List.size_toArray, List.size_toArray]; omega
    have hlong : ¬ (!its.toArray.isEmpty && Builtin.List.listTooLong (its.toArray.size + its2.toArray.size)) = true := by
      rw [notLongL hsz, Bool.and_false]
      exact Bool.false_ne_true
    exact call_meets F.slot_list_extend ⟨_, e, rfl⟩ F.entry_list_extend (F.args_list_extend_2 _ _)
      (extend_lstW l its.toArray n b its2.toArray n2 od osl hlong (by rw [List.size_toArray]; omega) (by omega)) ⟨e, e2, fin its2 r2⟩
  · obtain ⟨its2, r2, ⟨⟨oc, od, odata, osl⟩, e2, hc, n2, hd⟩, hz2⟩ := I.tuple hB
    cases hc
    cases hd
    have hl2 := r2.length
    have hsz : its.toArray.size + its2.toArray.size ≤ sizeLine := by rw [List.size_toArray, List.size_toArray]; omega
    have hlong : ¬ (!its.toArray.isEmpty && Builtin.List.listTooLong (its.toArray.size + its2.toArray.size)) = true := by
      rw [notLongL hsz, Bool.and_false]
      exact Bool.false_ne_true
    exact call_meets F.slot_list_extend ⟨_, e, rfl⟩ F.entry_list_extend (F.args_list_extend_2 _ _)
      (extend_tup l its.toArray n b its2.toArray n2 od osl hlong (by rw [List.size_toArray]; omega) (by omega)) ⟨e, e2, fin its2 r2⟩
/-- the methods that change a list -/
def mutName : Mut → String
  | .append => "append" | .extend => "extend" | .pop => "pop" | .remove => "remove" | .setdefault => "setdefault"
/-- a change of the list at l, by data -/
def rMu (K : PySem.W.Frag) (m : Mut) : V → List V → Hp → VK → Prop := fun x vs H Q => ∃ Z l ws xs ys z xs', x = .ref l ∧ H l = some (.lst ws) ∧ ¬ Z l ∧ RDs K H Z xs ws ∧ RDs K H Z ys vs ∧ mutL m xs ys = .ok (z, xs') ∧
  ∀ r ws', RD K H Z z r → RDs K H Z xs' ws' → Q r (upd H l (.lst ws'))
theorem RDs.last {K : PySem.W.Frag} {H : Hp} {Z : Addr → Prop} : ∀ {ds : List D} {vs : List V}, RDs K H Z ds vs → RDs K H Z ds.dropLast vs.dropLast
  | ds, vs, h => by
    rw [List.dropLast_eq_take, List.dropLast_eq_take, h.len]
    exact h.take _
theorem mut_ok {m : Mut} (hm : m = .append ∨ m = .extend ∨ m = .pop) : MtR X ("list." ++ mutName m) (rMu X.K m) := by
  intro pins s σ H x vs v us Q I rx rv h
  obtain ⟨Z, l, ws, xs, ys, z, xs', rfl, hH, hZ, h1, h2, e, q⟩ := h
  unfold mutL at e
  split at e
  · rename_i y
    obtain ⟨_, g, e⟩ := Res.bind_ok e
    cases e
    obtain ⟨w, r, rfl, k1, k2⟩ := RDs.cons.mp h2
    obtain rfl := RDs.nil.mp k2
    refine mt_append pins s σ H _ _ _ _ _ I rx rv ⟨l, ws, w, rfl, rfl, hH, ?_, q _ _ (by unfold RD; rfl) (h1.append (RDs.cons.mpr ⟨w, [], rfl, k1, RDs.nil.mpr rfl⟩))⟩
    have := fits_le (gd_ok g)
    rw [h1.len] at this
    exact this
  · rename_i y
    obtain ⟨zs, g0, e⟩ := Res.bind_ok e
    obtain ⟨_, g, e⟩ := Res.bind_ok e
    cases e
    obtain ⟨w, r, rfl, k1, k2⟩ := RDs.cons.mp h2
    obtain rfl := RDs.nil.mp k2
    have k1' : RA X.K H Z (.d y) w [] := ⟨rfl, k1⟩
    have hb : ∃ b vs, w = .ref b ∧ (SqL X.K H b vs ∨ SqT X.K H b vs) ∧ RDs X.K H Z zs vs := by
      have g0 := isOk_ok g0
      cases y with
      | lst ds =>
        cases g0
        obtain ⟨b, vs, e, q1, r1⟩ := k1'.lst (.inr rfl)
        exact ⟨b, vs, e, .inl q1, r1⟩
      | tup ds =>
        cases g0
        obtain ⟨b, vs, e, q1, r1⟩ := tupE k1'
        exact ⟨b, vs, e, .inr q1, r1⟩
      | _ => cases g0
    obtain ⟨b, vs', rfl, q1, r1⟩ := hb
    refine mt_extA pins s σ H _ _ _ _ _ I rx rv ⟨l, b, ws, vs', rfl, rfl, hH, q1, ?_, q _ _ (by unfold RD; rfl) (h1.append r1)⟩
    have := fits_le (gd_ok g)
    rw [h1.len, r1.len] at this
    exact this
  · obtain ⟨y, g0, e⟩ := Res.bind_ok e
    cases e
    obtain rfl := RDs.nil.mp h2
    have g0 := isOk_ok g0
    rw [h1.len] at g0
    obtain ⟨w, k1, k2⟩ := h1.get g0
    exact mt_pop pins s σ H _ _ _ _ _ I rx rv ⟨l, ws, w, rfl, rfl, hH, k1, q _ _ k2 h1.last⟩
  · cases e
end
/-! ### an owned list changed -/
section
variable {E : Ev} {c c' : Loc} {σ : Sg} {H : Hp} {Z : Addr → Prop} {L Lr : List Addr}
theorem set_same {σ : Sg} {i : Nat} {v : V} (h : σ[i]? = some (some v)) : σ.set i (some v) = σ := by
  apply List.ext_getElem?
  intro j
  rw [List.getElem?_set]
  by_cases hj : i = j
  · subst hj
    rw [h]
    have hlt : i < σ.length := (List.getElem?_eq_some_iff.mp h).1
    simp [hlt]
  · rw [if_neg hj]
theorem Stp.upd {l : Addr} {o u : HO} {M : List Addr} (h : H l = some o) (hi : imm o = false) : Stp [l] M H Z (upd H l u) Z :=
  ⟨fun b o' e hb _ => by rw [upd_ne (by simpa using hb)]; exact e, fun b o' e hi' => by
    by_cases hb : b = l
    · subst hb
      rw [h] at e
      cases e
      rw [hi] at hi'
      cases hi'
    · rw [upd_ne hb]; exact e, fun b e => by
    by_cases hb : b = l
    · subst hb; rw [upd_same]; simp
    · rw [upd_ne hb]; exact e, fun _ z => z, fun _ z => .inl z⟩
theorem TabG.upd {l P : Addr} {o u : HO} (h : H l = some o) (hi : isTbl o = false) (t : GxR.TabG H P) : GxR.TabG (upd H l u) P := by
  obtain ⟨ps, e, h2⟩ := t
  refine ⟨ps, ?_, h2⟩
  rw [upd_ne]
  · exact e
  · intro z
    subst z
    rw [h] at e
    cases e
    cases hi
/-- the list that an operand holds: where it stands, and the state once it is another -/
theorem put_ok {o : Opd} {v : V} {xs : List D} (sr : SR E c σ H Z L) (r : RO E H Z c σ o v Lr) (hr : rdA o c = .ok (.l xs)) (ho : ∀ x, o ≠ .v x) :
    ∃ l ws, v = .ref l ∧ H l = some (.lst ws) ∧ l ∈ L ∧ RDs E.K H Z xs ws ∧ ∀ xs' ws' c', putO o xs' c = .ok c' → RDs E.K H Z xs' ws' → ∃ L', SR E c' σ (upd H l (.lst ws')) Z L' ∧ (∀ a ∈ L', a ∈ L) := by
  unfold rdA at hr
  split at hr
  · rename_i y hy
    cases hr
    cases o with
    | v x => exact absurd rfl (ho x)
    | p i =>
      have e : gets c i = .ok (.a (.l xs)) := hy
      unfold gets at e
      split at e
      · rename_i y hc
        cases e
        obtain ⟨_, hσ⟩ := r
        obtain ⟨oo, Li, Lo, g1, g2, g3, back⟩ := sr.rs.split hc
        obtain ⟨w, g4, g5⟩ := g2
        rw [g4] at g1
        rw [hσ] at g1
        cases g1
        obtain ⟨l, ws, e1, e2, q, rr⟩ := (show RA E.K H Z (.l xs) v Li from g5)
        subst e1 e2
        obtain ⟨nd, nz, ld⟩ := sr.perm (L' := []) g3
        have nd2 := List.nodup_cons.mp (show (l :: Lo).Nodup from nd)
        have hZ : ∀ b, Z b → b ∉ [l] := fun b z hb => by
          have : b = l := by simpa using hb
          subst this
          exact nz b List.mem_cons_self z
        refine ⟨l, ws, rfl, q, g3.mem_iff.mpr List.mem_cons_self, rr, fun xs' ws' c' ec hx => ?_⟩
        have ec : Res.ok (c.set i (some (.l xs'))) = .ok c' := ec
        cases ec
        have s : Stp [l] L H Z (upd H l (.lst ws')) Z := .upd q rfl
        obtain ⟨L', k1, k2⟩ := back (upd H l (.lst ws')) Z (some (.l xs')) (some (.ref l)) [l] (fun x oo M hM h => RSl.stp s hZ (fun b hb z => by
          have : b = l := by simpa using z
          subst this
          exact nd2.1 (hM b hb)) h) ⟨_, rfl, l, ws', rfl, rfl, upd_same, RDs.stp s hZ _ _ hx⟩
        rw [set_same hσ] at k1
        have mem : ∀ b ∈ L', b ∈ L := fun b h => g3.mem_iff.mpr (k2.mem_iff.mp h)
        exact ⟨L', ⟨k1, k2.nodup_iff.mpr nd, fun b h => sr.nz b (mem b h), fun b z => s.dom b (sr.zd b z), fun b h => s.dom b (sr.ld b (mem b h)), fun P h => TabG.upd q rfl (sr.tb P h)⟩, mem⟩
      · cases e
    | q i f =>
      have e : (match getF c i f with | .ok a => Res.ok (Vl.a a) | _ => Res.no) = .ok (.a (.l xs)) := hy
      split at e
      · rename_i y hg
        cases e
        obtain ⟨_, a, A, dx, fv, hσ, hH, hf⟩ := r
        unfold getF at hg
        split at hg
        · rename_i C fs hc
          split at hg
          · rename_i y hlk
            cases hg
            obtain ⟨oo, Li, Lo, g1, g2, g3, back⟩ := sr.rs.split hc
            obtain ⟨w, g4, a', A', dx', fv', M, e1, e2, hA, g5, g6⟩ := g2
            rw [g4, e1] at g1
            rw [hσ] at g1
            cases g1
            rw [hH] at g5
            cases g5
            obtain ⟨v', Lx, Mo, k1, k2, k3, put⟩ := g6.put hlk
            rw [hf] at k1
            cases k1
            obtain ⟨l, ws, e3, e4, q, rr⟩ := k2
            subst e3 e4 e2
            obtain ⟨nd, nz, ld⟩ := sr.perm (L' := []) g3
            have n2 := List.nodup_append.mp nd
            have n3 := List.nodup_cons.mp n2.1
            have n4 := List.nodup_cons.mp (show (l :: Mo).Nodup from k3.nodup_iff.mp n3.2)
            have lM : l ∈ M := k3.mem_iff.mpr List.mem_cons_self
            have lL : l ∈ L := g3.mem_iff.mpr (List.mem_append_left _ (List.mem_cons_of_mem _ lM))
            have hZ : ∀ b, Z b → b ∉ [l] := fun b z hb => by
              have : b = l := by simpa using hb
              subst this
              exact sr.nz b lL z
            refine ⟨l, ws, rfl, q, lL, rr, fun xs' ws' c' ec hx => ?_⟩
            have ec : setF c i f (.l xs') = .ok c' := ec
            unfold setF at ec
            rw [hc] at ec
            simp only at ec
            split at ec
            rotate_left
            · cases ec
            cases ec
            have s : Stp [l] L H Z (upd H l (.lst ws')) Z := .upd q rfl
            have hal : a ≠ l := fun z => by
              subst z
              exact n3.1 lM
            obtain ⟨M', m1, m2⟩ := put (upd H l (.lst ws')) Z (.l xs') (.ref l) [l] (fun z u N hN h => RA.stp s hZ (fun b hb z => by
              have : b = l := by simpa using z
              subst this
              exact n4.1 (hN b hb)) h) ⟨l, ws', rfl, rfl, upd_same, RDs.stp s hZ _ _ hx⟩
            rw [putF_same f (.ref l) fv hf] at m1
            obtain ⟨L', b1, b2⟩ := back (upd H l (.lst ws')) Z (some (.o C (putA f (.l xs') fs))) (some (.ref a)) (a :: M') (fun x oo N hN h => RSl.stp s hZ (fun b hb z => by
              have : b = l := by simpa using z
              subst this
              exact n2.2.2 b (List.mem_cons_of_mem _ lM) b (hN b hb) rfl) h) ⟨_, rfl, a, _, dx, fv, M', rfl, rfl, hA, by rw [upd_ne hal]; exact hH, m1⟩
            rw [set_same hσ] at b1
            have p2 : (a :: M' ++ Lo).Perm (a :: M ++ Lo) := List.Perm.append_right Lo (List.Perm.cons a (m2.trans k3.symm))
            have mem : ∀ b ∈ L', b ∈ L := fun b h => g3.mem_iff.mpr (p2.mem_iff.mp (b2.mem_iff.mp h))
            exact ⟨L', ⟨b1, b2.nodup_iff.mpr (p2.nodup_iff.mpr nd), fun b h => sr.nz b (mem b h), fun b z => s.dom b (sr.zd b z), fun b h => s.dom b (sr.ld b (mem b h)), fun P h => TabG.upd q rfl (sr.tb P h)⟩, mem⟩
          · cases hg
        · cases hg
      · cases e
  · cases hr
end
end G
namespace G
open PySem L2
section
variable {X : Cx} {E : Ev} {q q1 q2 q3 : Bool} {e ea eb ec : Expr} {es : List Expr} {pos : Pos} {f fa fb fc : Loc → Res (Opd × Loc)} {fs : Loc → Res (List Opd × Loc)}
/-! ### a method that changes a list -/
theorem RDs.aft {L L1 : List Addr} {H H1 : Hp} {Z Z1 : Addr → Prop} {σ : Sg} {c c1 : Loc} {xs : List D} {vs : List V} (sr : SR E c σ H Z L) (a : Aft E q L H Z σ c1 H1 Z1 L1) (h : RDs E.K H Z xs vs) : RDs E.K H1 Z1 xs vs := RDs.stp a.st (wr_dj sr) _ _ h
theorem RD.aft {L L1 : List Addr} {H H1 : Hp} {Z Z1 : Addr → Prop} {σ : Sg} {c c1 : Loc} {x : D} {v : V} (sr : SR E c σ H Z L) (a : Aft E q L H Z σ c1 H1 Z1 L1) (h : RD E.K H Z x v) : RD E.K H1 Z1 x v := RD.stp a.st (wr_dj sr) _ _ h
def mutF (m : Mut) (q2 : Bool) (fa : Loc → Res (Opd × Loc)) (fs : Loc → Res (List Opd × Loc)) : Loc → Res (Opd × Loc) := fun c => (fa c).bind fun (x, c0) => (gd (lateO x q2)).bind fun _ => (rdA x c0).bind fun u0 => (gd u0.own).bind fun _ => (fs c0).bind fun (os, c1) => (toDs os c1).bind fun (ys, c2) => (rdA x c2).bind fun u => match u with
    | .l xs => (mutL m xs ys).bind fun (z, xs') => (putO x xs' c2).bind fun c3 => .ok (.v (.d z), c3)
    | _ => .no
theorem ownL {x : At} (h : x.own = true) : ∃ xs, x = .l xs := by
  cases x with
  | l xs => exact ⟨xs, rfl⟩
  | d _ => cases h
  | m _ => cases h
theorem mut_rd (hK : X.K = E.K) {m : Mut} {σ : Sg} {H : Hp} {Q : VK} (h : rdE E false (mutF m q2 fa fs) σ H Q) : rdE E q1 fa σ H fun x H1 => tyV X.K "list" x H1 ∧ rdAs E q2 fs σ H1 fun xs H2 => rMu X.K m x xs H2 Q := by
  obtain ⟨c, Z, L, o, c', sr, ev, ok⟩ := h
  obtain ⟨⟨x, c0⟩, e0, ev⟩ := Res.bind_ok ev
  obtain ⟨_, l, ev⟩ := Res.bind_ok ev
  obtain ⟨u0, e1, ev⟩ := Res.bind_ok ev
  obtain ⟨_, l1, ev⟩ := Res.bind_ok ev
  obtain ⟨⟨os, c1⟩, e2, ev⟩ := Res.bind_ok ev
  obtain ⟨⟨ys, c2⟩, e3, ev⟩ := Res.bind_ok ev
  obtain ⟨u, e4, ev⟩ := Res.bind_ok ev
  split at ev
  · rename_i xs
    obtain ⟨⟨z, xs'⟩, e5, ev⟩ := Res.bind_ok ev
    obtain ⟨c3, e6, ev⟩ := Res.bind_ok ev
    cases ev
    have hx : ∀ y, x ≠ .v y := fun y e => by rw [e] at e6; cases e6
    refine ⟨c, Z, L, x, c0, sr, e0, fun v H1 Z1 L1 Lr a t r => ⟨?_, c0, Z1, L1, os, c1, a.sr, e2, fun vs H2 Z2 L2 Lr2 a2 t2 r2 => ?_⟩⟩
    · obtain ⟨xs0, rfl⟩ := ownL (gd_ok l1)
      obtain ⟨_, k⟩ := r.rdA a.sr e1
      obtain ⟨b, ws, rfl, _, qq, _⟩ := k
      exact .inl ⟨rfl, ws, SqL.of qq⟩
    · have r' := r.aft a.sr t.dj a2 (gd_ok l)
      obtain ⟨Z3, L3, a3, hy⟩ := frz_args a2 t2 r2 e3
      have r'' : RO E H2 Z3 c2 σ x v Lr := by
        cases x with
        | v y => exact absurd rfl (hx y)
        | p i => exact r'
        | q i f => exact r'
      obtain ⟨b, ws, rfl, qq, bL, hx1, back⟩ := put_ok a3.sr r'' e4 hx
      rw [hK]
      refine ⟨Z3, b, ws, xs, ys, z, xs', rfl, qq, a3.sr.nz b bL, hx1, hy, e5, fun w ws' hz hxs => ?_⟩
      obtain ⟨L', sr', sub'⟩ := back xs' ws' _ e6 hxs
      have a13 := (a.trans a3).loud
      refine ok w _ Z3 L' [] ⟨?_, sr', fun b hb => a13.sub b (sub' b hb)⟩ .nil ⟨rfl, RD.stp (Stp.upd (Z := Z3) (M := []) qq rfl) (fun b' z hb => by
        have : b' = b := by simpa using hb
        subst this
        exact a3.sr.nz b' bL z) _ _ hz⟩
      have s : Stp (wr false L3) L3 H2 Z3 (upd H2 b (.lst ws')) Z3 := (Stp.upd (Z := Z3) (M := L3) qq rfl).weak (fun x hx => by
        have : x = b := by simpa using hx
        subst this
        exact bL) fun _ h => h
      have := a13.st.trans (q1 := false) (q2 := false) a13.sub s
      exact this
  · cases ev
def mutId (m : Mut) : String := "list." ++ mutName m
structure MutFacts (m : Mut) : Prop where
  slot : Slot "list" (mutName m) ("list." ++ mutName m)
  ty : typeOf (.builtin ("list." ++ mutName m)) = pure (.type "method_descriptor")
theorem mutFacts : ∀ m : Mut, (m = .append ∨ m = .extend ∨ m = .pop) → MutFacts m
  | .append, _ => ⟨PySem.F.slot_list_append, PySem.F.type_list_append⟩
  | .extend, _ => ⟨PySem.F.slot_list_extend, PySem.F.type_list_extend⟩
  | .pop, _ => ⟨PySem.F.slot_list_pop, PySem.F.type_list_pop⟩
  | .remove, h => by rcases h with h | h | h <;> cases h
  | .setdefault, h => by rcases h with h | h | h <;> cases h
theorem s_mut (hK : X.K = E.K) {m : Mut} (hm : m = .append ∨ m = .extend ∨ m = .pop) {o : Expr} {apos cpos : Pos} (ho : PE X o (rdE E q1 fa)) (ha : PA X (e :: es) (rdAs E q2 fs)) (hbase : attributeBase o (mutName m) X.env (eval o X.env) = eval o X.env) (hline : (apos.endLine == cpos.line) = true)
    (hfew : ((backTo cpos (starEach (e :: es) X.env)).all (fun x => !x.1) && (backToKw cpos (keywordEach [] X.env)).all (fun x => x.1.isSome)
      && decide ((e :: es).length + ([] : List Keyword).length + (if ([] : List Keyword).isEmpty then 0 else 1) < 30)) = true) (hs : starEach (e :: es) X.env = (false, eval e X.env) :: starEach es X.env) (hplain : (backTo cpos (starEach es X.env)).any (·.1) = false) :
    PE X (.Call (.Attribute o (mutName m) apos) (e :: es) [] cpos) (rdE E false (mutF m q2 fa fs)) :=
  (pe_bm PySem.F.plainAttrs_list (mutFacts m hm).slot (mutFacts m hm).ty (mut_ok hm) ho ha hbase hfew hline hs hplain).weak fun σ H Q h => mut_rd hK h
theorem s_mut0 (hK : X.K = E.K) {m : Mut} (hm : m = .append ∨ m = .extend ∨ m = .pop) {o : Expr} {apos cpos : Pos} (ho : PE X o (rdE E q1 fa)) (hbase : attributeBase o (mutName m) X.env (eval o X.env) = eval o X.env) (hline : (apos.endLine == cpos.line) = true) :
    PE X (.Call (.Attribute o (mutName m) apos) [] [] cpos) (rdE E false (mutF m true fa fun c => .ok ([], c))) := by
  refine (pe_bm0 PySem.F.plainAttrs_list (mutFacts m hm).slot (mutFacts m hm).ty (mut_ok hm) ho hbase hline).weak fun σ H Q h => ?_
  obtain ⟨c, Z, L, o, c', sr, ev, ok⟩ := mut_rd (q1 := q1) hK h
  refine ⟨c, Z, L, o, c', sr, ev, fun v H1 Z1 L1 Lr a t r => ?_⟩
  obtain ⟨ty, c2, Z2, L2, os, c3, sr2, ev2, ok2⟩ := ok v H1 Z1 L1 Lr a t r
  cases ev2
  exact ⟨ty, ok2 [] H1 Z2 L2 [] (.refl sr2) .nil ⟨rfl, rfl⟩⟩
end
/-! ### statements -/
structure AftS (E : Ev) (as : List Nat) (L : List Addr) (H : Hp) (Z : Addr → Prop) (σ : Sg) (c' : Loc) (σ' : Sg) (H' : Hp) (Z' : Addr → Prop) (L' : List Addr) : Prop where
  st : Stp L L H Z H' Z'
  sr : SR E c' σ' H' Z' L'
  sub : Sub L H L'
  un : ∀ i, i ∉ as → σ'[i]? = σ[i]?
/-- what is returned -/
def RR (E : Ev) (H : Hp) (Z : Addr → Prop) (σ : Sg) (r : Rv) (v : V) (Lr : List Addr) : Prop := match r with
  | .v x => RV E.K H Z E.ca x v Lr
  | .par j => Lr = [] ∧ σ[j]? = some (some v)
def OkF (E : Ev) (as : List Nat) (L : List Addr) (H : Hp) (Z : Addr → Prop) (σ : Sg) : Fl → Ends → Prop
  | .nx c', D => ∀ σ' H' Z' L', AftS E as L H Z σ c' σ' H' Z' L' → D.nx σ' H'
  | .bk c', D => ∀ σ' H' Z' L', AftS E as L H Z σ c' σ' H' Z' L' → D.bk σ' H'
  | .ct c', D => ∀ σ' H' Z' L', AftS E as L H Z σ c' σ' H' Z' L' → D.ct σ' H'
  | .rt r c', D => ∀ v σ' H' Z' L' Lr, AftS E as L H Z σ c' σ' H' Z' L' → Tmp Lr L' L H Z' H' → RR E H' Z' σ' r v Lr → D.rt v H'
  | _, _ => False
def rdS (E : Ev) (as : List Nat) (f : Loc → Fl) : TS := fun D σ H => ∃ c Z L, SR E c σ H Z L ∧ OkF E as L H Z σ (f c) D
section
variable {X : Cx} {E : Ev} {q q1 q2 q3 : Bool} {as bs : List Nat} {e ea eb ec : Expr} {es : List Expr} {pos : Pos} {f fa fb fc : Loc → Res (Opd × Loc)} {fs : Loc → Res (List Opd × Loc)} {L L1 L2 Lr : List Addr} {H H1 H2 : Hp} {Z Z1 Z2 : Addr → Prop} {σ σ1 σ2 : Sg} {c c1 c2 : Loc}
theorem Aft.s (a : Aft E q L H Z σ c1 H1 Z1 L1) : AftS E as L H Z σ c1 σ H1 Z1 L1 := ⟨a.st.toL, a.sr, a.sub, fun _ _ => rfl⟩
theorem AftS.mono (a : AftS E as L H Z σ c1 σ1 H1 Z1 L1) (h : ∀ i ∈ as, i ∈ bs) : AftS E bs L H Z σ c1 σ1 H1 Z1 L1 := ⟨a.st, a.sr, a.sub, fun i hi => a.un i fun z => hi (h i z)⟩
theorem stp_LL (a : Stp L L H Z H1 Z1) (s : Sub L H L1) (b : Stp L1 L1 H1 Z1 H2 Z2) : Stp L L H Z H2 Z2 := a.trans (q1 := false) (q2 := false) s b
theorem AftS.trans (a : AftS E as L H Z σ c1 σ1 H1 Z1 L1) (b : AftS E bs L1 H1 Z1 σ1 c2 σ2 H2 Z2 L2) : AftS E (as ++ bs) L H Z σ c2 σ2 H2 Z2 L2 :=
  ⟨stp_LL a.st a.sub b.st, b.sr, a.sub.trans a.st.dom b.sub, fun i hi => by
    rw [b.un i fun z => hi (List.mem_append_right _ z), a.un i fun z => hi (List.mem_append_left _ z)]⟩
theorem AftS.refl (h : SR E c σ H Z L) : AftS E as L H Z σ c σ H Z L := ⟨.refl, h, .refl, fun _ _ => rfl⟩
theorem OkF.mono {fl : Fl} {D : Ends} (h : ∀ i ∈ as, i ∈ bs) (ok : OkF E bs L H Z σ fl D) : OkF E as L H Z σ fl D := by
  cases fl with
  | nx c => exact fun σ' H' Z' L' a => ok σ' H' Z' L' (a.mono h)
  | bk c => exact fun σ' H' Z' L' a => ok σ' H' Z' L' (a.mono h)
  | ct c => exact fun σ' H' Z' L' a => ok σ' H' Z' L' (a.mono h)
  | rt r c => exact fun v σ' H' Z' L' Lr a => ok v σ' H' Z' L' Lr (a.mono h)
  | exc _ _ _ => exact ok
  | no => exact ok
/-- behind a first part -/
theorem OkF.sub {fl : Fl} {D : Ends} (a : AftS E as L H Z σ c1 σ1 H1 Z1 L1) (ok : OkF E (as ++ bs) L H Z σ fl D) : OkF E bs L1 H1 Z1 σ1 fl D := by
  cases fl with
  | nx c => exact fun σ' H' Z' L' b => ok σ' H' Z' L' (a.trans b)
  | bk c => exact fun σ' H' Z' L' b => ok σ' H' Z' L' (a.trans b)
  | ct c => exact fun σ' H' Z' L' b => ok σ' H' Z' L' (a.trans b)
  | rt r c => exact fun v σ' H' Z' L' Lr b t => ok v σ' H' Z' L' Lr (a.trans b) ⟨t.nd, t.dj, t.nz, t.ld, a.sub.trans a.st.dom t.sub⟩
  | exc _ _ _ => exact ok
  | no => exact ok
/-- a slot is given a value -/
theorem SR.put {i : Nat} {x : Vl} {v : V} (sr : SR E c σ H Z L) (hi : i < c.length) (h : RV E.K H Z E.ca x v Lr) (nd : Lr.Nodup) (dj : ∀ a ∈ Lr, a ∉ L) (nz : ∀ a ∈ Lr, ¬ Z a) (ld : ∀ a ∈ Lr, H a ≠ none) :
    ∃ L', SR E (c.set i (some x)) (σ.set i (some v)) H Z L' ∧ ∀ a ∈ L', a ∈ L ∨ a ∈ Lr := by
  obtain ⟨oo, Li, Lo, g1, g2, g3, back⟩ := sr.rs.split (List.getElem?_eq_getElem hi)
  obtain ⟨n1, n2, n3⟩ := sr.perm (L' := []) g3
  obtain ⟨L', k1, k2⟩ := back H Z (some x) (some v) Lr (fun x oo M _ h => h) ⟨v, rfl, h⟩
  have oL : ∀ a ∈ Lo, a ∈ L := fun a ha => g3.mem_iff.mpr (List.mem_append_right _ ha)
  have mem : ∀ a ∈ L', a ∈ Lr ∨ a ∈ Lo := fun a ha => List.mem_append.mp (k2.mem_iff.mp ha)
  have ndA : (Lr ++ Lo).Nodup := List.nodup_append.mpr ⟨nd, (List.nodup_append.mp n1).2.1, fun a ha b hb e => by subst e; exact dj a ha (oL a hb)⟩
  exact ⟨L', ⟨k1, k2.nodup_iff.mpr ndA, fun a ha => (mem a ha).elim (nz a) fun z => sr.nz a (oL a z), sr.zd, fun a ha => (mem a ha).elim (ld a) fun z => sr.ld a (oL a z), sr.tb⟩, fun a ha => (mem a ha).elim .inr fun z => .inl (oL a z)⟩
theorem SR.len (sr : SR E c σ H Z L) : c.length = σ.length := sr.rs.len
/-- a temporary, or what is frozen, as a value -/
theorem toV_ok {o : Opd} {v : V} {x : Vl} (a : Aft E q L H Z σ c1 H1 Z1 L1) (t : Tmp Lr L1 L H Z1 H1) (r : RO E H1 Z1 c1 σ o v Lr) (ev : toV o c1 = .ok (x, c2)) :
    ∃ Z2 L2 Lr2, Aft E q L H Z σ c2 H1 Z2 L2 ∧ Tmp Lr2 L2 L H Z2 H1 ∧ RV E.K H1 Z2 E.ca x v Lr2 := by
  have frz : ∀ d, toD o c1 = .ok (d, c2) → x = .d d → ∃ Z2 L2 Lr2, Aft E q L H Z σ c2 H1 Z2 L2 ∧ Tmp Lr2 L2 L H Z2 H1 ∧ RV E.K H1 Z2 E.ca x v Lr2 := fun d ed ex => by
    obtain ⟨Z2, L2, g, h⟩ := toD_ok a.sr t.dj t.ld r ed
    exact ⟨Z2, L2, [], a.gh t.sub g, .nil, by rw [ex]; exact ⟨rfl, h⟩⟩
  cases o with
  | v y => cases ev; exact ⟨Z1, L1, Lr, a, t, r⟩
  | p i =>
    obtain ⟨⟨d, c3⟩, e1, ev⟩ := Res.bind_ok (show (toD (.p i) c1).bind (fun (x, c1) => Res.ok (Vl.d x, c1)) = _ from ev)
    cases ev
    exact frz d e1 rfl
  | q i f =>
    obtain ⟨⟨d, c3⟩, e1, ev⟩ := Res.bind_ok (show (toD (.q i f) c1).bind (fun (x, c1) => Res.ok (Vl.d x, c1)) = _ from ev)
    cases ev
    exact frz d e1 rfl
theorem doNx_ok {r : Res Loc} {D : Ends} (ok : OkF E as L H Z σ (doNx r c) D) : ∃ c', r = .ok c' ∧ OkF E as L H Z σ (.nx c') D := by
  cases r with
  | ok c' => exact ⟨c', rfl, ok⟩
  | exc _ _ => exact ok.elim
  | no => exact ok.elim
/-- name = value -/
def asgF (i : Nat) (fa : Loc → Res (Opd × Loc)) : Loc → Fl := fun c => doNx ((fa c).bind fun (x, c1) => (toV x c1).bind fun (v, c2) => if i < c2.length then .ok (c2.set i (some v)) else .no) c
theorem asg_rd {i : Nat} {D : Ends} (h : rdS E [i] (asgF i fa) D σ H) : rdE E q fa σ H fun v H1 => D.nx (σ.set i (some v)) H1 := by
  obtain ⟨c, Z, L, sr, ok⟩ := h
  obtain ⟨c', er, ok⟩ := doNx_ok ok
  obtain ⟨⟨x, c1⟩, e1, er⟩ := Res.bind_ok er
  obtain ⟨⟨v, c2⟩, e2, er⟩ := Res.bind_ok er
  simp only at er
  split at er
  · rename_i hi
    cases er
    refine ⟨c, Z, L, x, c1, sr, e1, fun w H1 Z1 L1 Lr a t r => ?_⟩
    obtain ⟨Z2, L2, Lr2, a2, t2, rv⟩ := toV_ok a t r e2
    obtain ⟨L3, sr3, m3⟩ := a2.sr.put hi rv t2.nd t2.dj t2.nz t2.ld
    exact ok _ H1 Z2 L3 ⟨a2.st.toL, sr3, fun b hb => (m3 b hb).elim (a2.sub b) (t2.sub b), fun j hj => by
      rw [List.getElem?_set_ne]
      intro z
      apply hj
      simp [z]⟩
  · cases er
theorem s_asg {i : Nat} {x : Str} {pos' : Pos} (hN : X.N.Nodup) (hi : X.N[i]? = some x) (hx : _root_.L2.Loc X.env.scope x) (hs : swapsWith e (some (.Name x pos')) pos.line X.env = pure false) (hf : X.fn x = true ∨ X.env.scope.names.lookup x = some .local) (he : PE X e (rdE E q fa)) :
    PS X (.Assign [.Name x pos'] e pos) (rdS E [i] (asgF i fa)) := (ps_set hN hi hx he hs hf).weak fun D σ H h => asg_rd h
/-! small ones -/
theorem s_pass : PS X (.Pass pos) (rdS E [] fun c => .nx c) := ps_pass.weak fun D σ H ⟨c, Z, L, sr, ok⟩ => ok σ H Z L (.refl sr)
theorem s_brk : PS X (.Break pos) (rdS E [] fun c => .bk c) := ps_break.weak fun D σ H ⟨c, Z, L, sr, ok⟩ => ok σ H Z L (.refl sr)
theorem s_cnt : PS X (.Continue pos) (rdS E [] fun c => .ct c) := ps_continue.weak fun D σ H ⟨c, Z, L, sr, ok⟩ => ok σ H Z L (.refl sr)
theorem s_never {st : Stmt} : PS X st (rdS E [] fun _ => .no) := ps_never.weak fun D σ H ⟨c, Z, L, sr, ok⟩ => ok.elim
theorem s_doc {x j pos pos'} : PS X (.Expr (.Constant (.str x) j pos) pos') (rdS E [] fun c => .nx c) := ps_doc.weak fun D σ H ⟨c, Z, L, sr, ok⟩ => ok σ H Z L (.refl sr)
theorem s_retN : PS X (.Return none pos) (rdS E [] fun c => .rt (.v (.d .non)) c) := ps_retN.weak fun D σ H ⟨c, Z, L, sr, ok⟩ => ok .non σ H Z L [] (.refl sr) .nil ⟨rfl, by unfold RD; rfl⟩
theorem s_ex (hs : swapsWith e none pos.line X.env = pure false) (he : PE X e (rdE E q fa)) : PS X (.Expr e pos) (rdS E [] fun c => doNx ((fa c).bind fun (_, c1) => .ok c1) c) := by
  refine (ps_expr he hs).weak fun D σ H ⟨c, Z, L, sr, ok⟩ => ?_
  obtain ⟨c', er, ok⟩ := doNx_ok ok
  obtain ⟨⟨x, c1⟩, e1, er⟩ := Res.bind_ok er
  cases er
  exact ⟨c, Z, L, x, _, sr, e1, fun w H1 Z1 L1 Lr a t r => ok σ H1 Z1 L1 a.s⟩
def retF (np : Nat) (fa : Loc → Res (Opd × Loc)) : Loc → Fl := fun c => match fa c with
    | .ok (.v x, c1) => .rt (.v x) c1
    | .ok (.p i, c1) => if i < np then .rt (.par i) c1 else (match gets c1 i with | .ok y => .rt (.v y) (c1.set i none) | _ => .no)
    | .ok (.q i f, c1) => (match toD (.q i f) c1 with | .ok (y, c2) => .rt (.v (.d y)) c2 | _ => .no)
    | .exc cl as => .exc cl as c
    | .no => .no
/-- a slot given up: what it held is a temporary -/
theorem SR.take {i : Nat} {y : Vl} {v : V} (sr : SR E c σ H Z L) (hy : gets c i = .ok y) (hσ : σ[i]? = some (some v)) :
    ∃ L' Lr, SR E (c.set i none) σ H Z L' ∧ RV E.K H Z E.ca y v Lr ∧ Lr.Nodup ∧ (∀ a ∈ Lr, a ∉ L') ∧ (∀ a ∈ Lr, a ∈ L) ∧ ∀ a ∈ L', a ∈ L := by
  unfold gets at hy
  split at hy
  · rename_i y' hc
    cases hy
    obtain ⟨oo, Li, Lo, g1, g2, g3, back⟩ := sr.rs.split hc
    obtain ⟨w, g4, g5⟩ := g2
    rw [g4, hσ] at g1
    cases g1
    obtain ⟨n1, n2, n3⟩ := sr.perm (L' := []) g3
    have nd := List.nodup_append.mp n1
    obtain ⟨L', k1, k2⟩ := back H Z none (some v) [] (fun x oo M _ h => h) rfl
    rw [set_same hσ] at k1
    have mem : ∀ a ∈ L', a ∈ Lo := fun a ha => by simpa using k2.mem_iff.mp ha
    have oL : ∀ a ∈ L', a ∈ L := fun a ha => g3.mem_iff.mpr (List.mem_append_right _ (mem a ha))
    exact ⟨L', Li, ⟨k1, k2.nodup_iff.mpr (by simpa using nd.2.1), fun a ha => sr.nz a (oL a ha), sr.zd, fun a ha => sr.ld a (oL a ha), sr.tb⟩, g5, nd.1, fun a ha hb => nd.2.2 a ha a (mem a hb) rfl, fun a ha => g3.mem_iff.mpr (List.mem_append_left _ ha), oL⟩
  · cases hy
theorem s_ret {np : Nat} (he : PE X e (rdE E q fa)) : PS X (.Return (some e) pos) (rdS E [] (retF np fa)) := by
  refine (ps_ret he).weak fun D σ H ⟨c, Z, L, sr, ok⟩ => ?_
  unfold retF at ok
  split at ok
  · rename_i x c1 ev
    exact ⟨c, Z, L, _, c1, sr, ev, fun v H1 Z1 L1 Lr a t r => ok v σ H1 Z1 L1 Lr a.s t r⟩
  · rename_i i c1 ev
    split at ok
    · exact ⟨c, Z, L, _, c1, sr, ev, fun v H1 Z1 L1 Lr a t r => ok v σ H1 Z1 L1 Lr a.s t r⟩
    · split at ok
      · rename_i y hy
        refine ⟨c, Z, L, _, c1, sr, ev, fun v H1 Z1 L1 Lr a t r => ?_⟩
        obtain ⟨L', Lr', k1, k2, k3, k4, k5, k6⟩ := a.sr.take hy r.2
        exact ok v σ H1 Z1 L' Lr' ⟨a.st.toL, k1, fun b hb => a.sub b (k6 b hb), fun _ _ => rfl⟩ ⟨k3, k4, fun b hb => a.sr.nz b (k5 b hb), fun b hb => a.sr.ld b (k5 b hb), fun b hb => a.sub b (k5 b hb)⟩ k2
      · exact ok.elim
  · rename_i i f c1 ev
    split at ok
    · rename_i y c2 ed
      refine ⟨c, Z, L, _, c1, sr, ev, fun v H1 Z1 L1 Lr a t r => ?_⟩
      obtain ⟨Z2, L2, g, h⟩ := toD_ok a.sr t.dj t.ld r ed
      exact ok v σ H1 Z2 L2 [] (a.gh t.sub g).s .nil ⟨rfl, h⟩
    · exact ok.elim
  · exact ok.elim
  · exact ok.elim
/-! blocks -/
def seqF (f g : Loc → Fl) : Loc → Fl := fun c => match f c with
    | .nx c1 => g c1
    | f => f
theorem ss_nil : PSs X [] (rdS E [] fun c => .nx c) := pss_nil.weak fun D σ H ⟨c, Z, L, sr, ok⟩ => ok σ H Z L (.refl sr)
theorem ss_cons {st : Stmt} {rest : List Stmt} {f g : Loc → Fl} (h1 : PS X st (rdS E as f)) (h2 : PSs X rest (rdS E bs g)) : PSs X (st :: rest) (rdS E (as ++ bs) (seqF f g)) := by
  refine (pss_cons h1 h2).weak fun D σ H ⟨c, Z, L, sr, ok⟩ => ⟨c, Z, L, sr, ?_⟩
  unfold seqF at ok
  split at ok
  · rename_i c1 ef
    rw [ef]
    exact fun σ1 H1 Z1 L1 a => ⟨c1, Z1, L1, a.sr, OkF.sub a ok⟩
  · rename_i hn
    have ok' := OkF.mono (as := as) (fun i hi => List.mem_append_left bs hi) ok
    cases hf : f c with
    | nx c1 => exact absurd hf (hn c1)
    | bk c1 => rw [hf] at ok'; exact ok'
    | ct c1 => rw [hf] at ok'; exact ok'
    | rt r c1 => rw [hf] at ok'; exact ok'
    | exc _ _ _ => rw [hf] at ok'; exact ok'
    | no => rw [hf] at ok'; exact ok'
def ifF (ft : Loc → Res (Bool × Loc)) (f g : Loc → Fl) : Loc → Fl := fun c => match ft c with
    | .ok (t, c1) => if t then f c1 else g c1
    | .exc cl as => .exc cl as c
    | .no => .no
theorem s_if {a b : List Stmt} {ft : Loc → Res (Bool × Loc)} {f g : Loc → Fl} (hc : PT X ec (rdT E q ft)) (h1 : PSs X a (rdS E as f)) (h2 : PSs X b (rdS E bs g)) : PS X (.If ec a b pos) (rdS E (as ++ bs) (ifF ft f g)) := by
  refine (ps_if hc h1 h2).weak fun D σ H ⟨c, Z, L, sr, ok⟩ => ?_
  unfold ifF at ok
  split at ok
  · rename_i t c1 et
    refine ⟨c, Z, L, t, c1, sr, et, fun H1 Z1 L1 a => ?_⟩
    cases t
    · rw [if_neg Bool.false_ne_true] at ok ⊢
      exact ⟨c1, Z1, L1, a.sr, OkF.sub (as := []) a.s (OkF.mono (fun i hi => List.mem_append_right as hi) ok)⟩
    · rw [if_pos rfl] at ok ⊢
      exact ⟨c1, Z1, L1, a.sr, OkF.sub (as := []) a.s (OkF.mono (fun i hi => List.mem_append_left bs hi) ok)⟩
  · exact ok.elim
  · exact ok.elim
end
end G
namespace G
open PySem L2
section
variable {X : Cx} {E : Ev} {q q1 q2 q3 : Bool} {as bs : List Nat} {e ea eb ec : Expr} {es : List Expr} {pos : Pos} {f fa fb fc : Loc → Res (Opd × Loc)} {fs : Loc → Res (List Opd × Loc)} {L L1 L2 Lr : List Addr} {H H1 H2 : Hp} {Z Z1 Z2 : Addr → Prop} {σ σ1 σ2 : Sg} {c c1 c2 : Loc}
/-! ### targets -/
def rdG (E : Ev) (as : List Nat) (t : D → Loc → Res Loc) : TG := fun v σ H Q => ∃ d c Z L c', SR E c σ H Z L ∧ RD E.K H Z d v ∧ t d c = .ok c' ∧ ∀ σ' L', SR E c' σ' H Z L' → (∀ a ∈ L', a ∈ L) → (∀ i, i ∉ as → σ'[i]? = σ[i]?) → Q σ' H
def rdGs (E : Ev) (as : List Nat) (t : List D → Loc → Res Loc) : TGs := fun vs σ H Q => ∃ ds c Z L c', SR E c σ H Z L ∧ RDs E.K H Z ds vs ∧ t ds c = .ok c' ∧ ∀ σ' L', SR E c' σ' H Z L' → (∀ a ∈ L', a ∈ L) → (∀ i, i ∉ as → σ'[i]? = σ[i]?) → Q σ' H
theorem _root_.L2.PG.weak {X : Cx} {e : Expr} {t t' : TG} (h : PG X e t) (w : ∀ v σ H Q, t' v σ H Q → t v σ H Q) : PG X e t' := ⟨fun pins s σ H v u Q I r q => h.run pins s σ H v u Q I r (w v σ H Q q)⟩
theorem _root_.L2.PGs.weak {X : Cx} {e : List Expr} {t t' : TGs} (h : PGs X e t) (w : ∀ v σ H Q, t' v σ H Q → t v σ H Q) : PGs X e t' := ⟨fun pins s σ H v u Q I r q => h.run pins s σ H v u Q I r (w v σ H Q q)⟩
theorem _root_.L2.PG.or {X : Cx} {e : Expr} {t t' : TG} (h : PG X e t) (h' : PG X e t') : PG X e (fun v σ H Q => t v σ H Q ∨ t' v σ H Q) := ⟨fun pins s σ H v u Q I r q => q.elim (h.run pins s σ H v u Q I r) (h'.run pins s σ H v u Q I r)⟩
theorem g_nm {i : Nat} {x : Str} (hN : X.N.Nodup) (hi : X.N[i]? = some x) (hx : _root_.L2.Loc X.env.scope x) (hf : X.fn x = true ∨ X.env.scope.names.lookup x = some .local) : PG X (.Name x pos) (rdG E [i] fun d c => if i < c.length then .ok (c.set i (some (.d d))) else .no) := by
  refine (pg_name hN hi hx hf).weak fun v σ H Q ⟨d, c, Z, L, c', sr, hd, ev, ok⟩ => ?_
  simp only at ev
  split at ev
  · rename_i hl
    cases ev
    obtain ⟨L', sr', m⟩ := sr.put (x := .d d) (v := v) (Lr := []) hl ⟨rfl, hd⟩ .nil (fun _ h => absurd h (by simp)) (fun _ h => absurd h (by simp)) (fun _ h => absurd h (by simp))
    exact ok _ L' sr' (fun a ha => (m a ha).elim id fun h => absurd h (by simp)) fun j hj => by
      rw [List.getElem?_set_ne]
      intro z
      apply hj
      simp [z]
  · cases ev
theorem gs_nil : PGs X [] (rdGs E [] fun ds c => match ds with | [] => .ok c | _ => .no) := by
  refine pgs_nil.weak fun vs σ H Q ⟨ds, c, Z, L, c', sr, hd, ev, ok⟩ => ?_
  simp only at ev
  split at ev
  · cases ev
    exact ⟨RDs.nil.mp hd, ok σ L sr (fun _ h => h) fun _ _ => rfl⟩
  · cases ev
theorem gs_cons {t : D → Loc → Res Loc} {ts : List D → Loc → Res Loc} (h1 : PG X e (rdG E as t)) (h2 : PGs X es (rdGs E bs ts)) (hs : (assignEach (e :: es) X.env).map (·.2) = assign e X.env :: (assignEach es X.env).map (·.2)) :
    PGs X (e :: es) (rdGs E (as ++ bs) fun ds c => match ds with | [] => .no | x :: xs => (t x c).bind fun c1 => ts xs c1) := by
  refine (pgs_cons h1 h2 hs).weak fun vs σ H Q ⟨ds, c, Z, L, c', sr, hd, ev, ok⟩ => ?_
  simp only at ev
  split at ev
  · cases ev
  · rename_i x xs
    obtain ⟨v, r, rfl, k1, k2⟩ := RDs.cons.mp hd
    obtain ⟨c1, e1, ev⟩ := Res.bind_ok ev
    refine ⟨v, r, rfl, x, c, Z, L, c1, sr, k1, e1, fun σ1 L1 sr1 m1 u1 => ⟨xs, c1, Z, L1, c', sr1, k2, ev, fun σ2 L2 sr2 m2 u2 => ok σ2 L2 sr2 (fun a h => m1 a (m2 a h)) fun i hi => ?_⟩⟩
    rw [u2 i fun z => hi (List.mem_append_right _ z), u1 i fun z => hi (List.mem_append_left _ z)]
/-- a, b, .. = a tuple or a list of that length -/
theorem g_tp {k : Nat} {ts : List D → Loc → Res Loc} {n : Nat} (hK : X.K = E.K) (hc : X.calm = true) (h : PGs X es (rdGs E as ts)) (hlen : ∀ ds c c', ts ds c = .ok c' → ds.length = n) (hn : (assignEach es X.env).length = n) (hst : (assignEach es X.env).findIdx? (·.1) = none) :
    PG X (.Tuple es k pos) (rdG E as fun d c => match d with | .tup xs => ts xs c | .lst xs => ts xs c | _ => .no) := by
  refine ((pg_tup hc h hn hst).or (pg_unl hc h hn hst)).weak fun v σ H Q ⟨d, c, Z, L, c', sr, hd, ev, ok⟩ => ?_
  rw [hK]
  simp only at ev
  split at ev
  · obtain ⟨a, vs, rfl, q, r⟩ := RD.tupI.mp hd
    exact .inl ⟨a, vs, rfl, q, by rw [← r.len]; exact hlen _ _ _ ev, _, c, Z, L, c', sr, r, ev, ok⟩
  · obtain ⟨a, vs, rfl, q, r⟩ := RD.lstI.mp hd
    exact .inr ⟨a, vs, rfl, q.sq, by rw [← r.len]; exact hlen _ _ _ ev, _, c, Z, L, c', sr, r, ev, ok⟩
  · cases ev
/-! ### assignment to a tuple of targets -/
theorem s_asgT {tg : Expr} {t : D → Loc → Res Loc} (he : PE X e (rdE E q fa)) (hg : PG X tg (rdG E as t)) (hs : swapsWithSole [tg] e pos.line X.env = pure false) (hw : swappedStores [tg] e X.env = pure none) (h1 : (assignEach [tg] X.env).map (·.2) = [assign tg X.env]) :
    PS X (.Assign [tg] e pos) (rdS E as fun c => doNx ((fa c).bind fun (x, c1) => (toD x c1).bind fun (v, c2) => t v c2) c) := by
  refine (ps_asg he hg hs hw h1).weak fun D σ H ⟨c, Z, L, sr, ok⟩ => ?_
  obtain ⟨c', er, ok⟩ := doNx_ok ok
  obtain ⟨⟨x, c1⟩, e1, er⟩ := Res.bind_ok er
  obtain ⟨⟨d, c2⟩, e2, er⟩ := Res.bind_ok er
  refine ⟨c, Z, L, x, c1, sr, e1, fun v H1 Z1 L1 Lr a tm r => ?_⟩
  obtain ⟨Z2, L2, g, h⟩ := toD_ok a.sr tm.dj tm.ld r e2
  have a2 := a.gh tm.sub g
  exact ⟨d, c2, Z2, L2, c', a2.sr, h, er, fun σ' L' sr' m u => ok σ' H1 Z2 L' ⟨a2.st.toL, sr', fun b hb => a2.sub b (m b hb), u⟩⟩
/-! ### o[i] = value -/
def setF1 (q2 : Bool) (fe fo fi : Loc → Res (Opd × Loc)) : Loc → Fl := fun c => doNx ((fe c).bind fun (x, c1) => (toD x c1).bind fun (v, c2) => (fo c2).bind fun (oo, c3) => (gd (lateO oo q2)).bind fun _ => (fi c3).bind fun (ii, c4) => (rdA ii c4).bind fun j => setIt oo j v c4) c
theorem s_setI {o i : Expr} {tpos : Pos} {fe fo fi : Loc → Res (Opd × Loc)} (he : PE X e (rdE E q fe)) (ho : PE X o (rdE E q1 fo)) (hi : PE X i (rdE E q2 fi))
    (ha : ∀ v, assign (.Subscript o i tpos) X.env v = (do
      let ov ← holding [v] (eval o X.env)
      let iv ← holding [v, ov] (eval i X.env)
      standAt tpos
      holding [v, ov, iv] (setItem ov iv v)
      release [v, ov, iv] [])) (hs : swapsWithSole [.Subscript o i tpos] e pos.line X.env = pure false) (hw : swappedStores [.Subscript o i tpos] e X.env = pure none) (h1 : (assignEach [.Subscript o i tpos] X.env).map (·.2) = [assign (.Subscript o i tpos) X.env]) :
    PS X (.Assign [.Subscript o i tpos] e pos) (rdS E [] (setF1 q2 fe fo fi)) := by
  refine (ps_asg he (pg_sub ho hi set_list ha) hs hw h1).weak fun D σ H ⟨c, Z, L, sr, ok⟩ => ?_
  obtain ⟨c', er, ok⟩ := doNx_ok ok
  obtain ⟨⟨x, c1⟩, e1, er⟩ := Res.bind_ok er
  obtain ⟨⟨d, c2⟩, e2, er⟩ := Res.bind_ok er
  obtain ⟨⟨oo, c3⟩, e3, er⟩ := Res.bind_ok er
  obtain ⟨_, l, er⟩ := Res.bind_ok er
  obtain ⟨⟨ii, c4⟩, e4, er⟩ := Res.bind_ok er
  obtain ⟨j, e5, er⟩ := Res.bind_ok er
  obtain ⟨u, e6, er⟩ := Res.bind_ok (show (rdA oo c4).bind (fun u => match u, j with
    | .l xs, .d (.int j) => (isOk (L2.ixN xs.length j)).bind fun n => putO oo (xs.set n d) c4
    | _, _ => Res.no) = _ from er)
  split at er
  rotate_left
  · cases er
  rename_i xs jj _
  obtain ⟨n, e7, er⟩ := Res.bind_ok er
  refine ⟨c, Z, L, x, c1, sr, e1, fun v H1 Z1 L1 Lr a tm r => ?_⟩
  obtain ⟨Z2, L2, g, hd⟩ := toD_ok a.sr tm.dj tm.ld r e2
  have a2 := a.gh tm.sub g
  refine ⟨c2, Z2, L2, oo, c3, a2.sr, e3, fun ov H3 Z3 L3 Lr3 a3 t3 r3 => ⟨c3, Z3, L3, ii, c4, a3.sr, e4, fun iv H4 Z4 L4 Lr4 a4 t4 r4 => ?_⟩⟩
  have a34 := a3.trans a4
  have r3' := r3.aft a3.sr t3.dj a4 (gd_ok l)
  have hd' := RD.aft a2.sr a34 hd
  obtain ⟨_, k⟩ := r4.rdA a4.sr e5
  have hx : ∀ y, oo ≠ .v y := fun y e => by rw [e] at er; cases er
  obtain ⟨b, ws, rfl, qq, bL, hx1, back⟩ := put_ok a4.sr r3' e6 hx
  have en := isOk_ok e7
  rw [hx1.len] at en
  refine ⟨b, ws, jj, n, rfl, intE k, qq, en, ?_⟩
  obtain ⟨L', sr', sub'⟩ := back (xs.set n d) (ws.set n v) c' er (hx1.set hd' n)
  have a14 := (a2.trans a34).loud
  refine ok σ _ Z4 L' ⟨?_, sr', fun b hb => a14.sub b (sub' b hb), fun _ _ => rfl⟩
  exact stp_LL a14.st.toL a14.sub ((Stp.upd (Z := Z4) (M := L4) qq rfl).weak (fun x hx => by
        have : x = b := by simpa using hx
        subst this
        exact bL) fun _ h => h)
/-! ### self.f = value -/
theorem RFs.add {K : PySem.W.Frag} {H H' : Hp} {Z Z' : Addr → Prop} {f : Str} {y : At} {w : V} {Ly : List Addr} : ∀ {fs : List (Str × At)} {fv : List (Str × V)} {M : List Addr}, RFs K H Z fs fv M → fs.lookup f = none → (∀ z u N, (∀ b ∈ N, b ∈ M) → RA K H Z z u N → RA K H' Z' z u N) → RA K H' Z' y w Ly →
    RFs K H' Z' (putA f y fs) (putF f w fv) (M ++ Ly)
  | [], _, _, ⟨e1, e2⟩, _, _, hy => by
    subst e1 e2
    exact ⟨w, [], Ly, [], rfl, by simp, hy, rfl, rfl⟩
  | (g, z) :: r, fv, M, ⟨v, fs', L1, L2, e, hM, h1, h2⟩, hl, fr, hy => by
    subst e
    rw [List.lookup_cons] at hl
    cases hb : f == g with
    | true => simp only [hb] at hl; cases hl
    | false =>
      simp only [hb] at hl
      have eg : ¬ g = f := fun w => by rw [w] at hb; simp at hb
      have ih := RFs.add h2 hl (fun z u N hN => fr z u N fun b hb => by rw [hM]; exact List.mem_append_right _ (hN b hb)) hy
      unfold putA putF
      rw [if_neg eg, if_neg eg]
      exact ⟨v, _, L1, L2 ++ Ly, rfl, by rw [hM, List.append_assoc], fr _ _ _ (fun b hb => by rw [hM]; exact List.mem_append_left _ hb) h1, ih⟩
theorem RFs.length {K : PySem.W.Frag} {H : Hp} {Z : Addr → Prop} : ∀ {fs : List (Str × At)} {fv : List (Str × V)} {M : List Addr}, RFs K H Z fs fv M → fs.length = fv.length
  | [], _, _, h => by rw [h.1]; rfl
  | (_, _) :: r, _, _, ⟨v, fs', L1, L2, e, _, _, h2⟩ => by rw [e]; simp [RFs.length h2]
/-- the instance in a slot: where it stands, and the state once a field is another -/
theorem setF_ok {i : Nat} {f : Str} {y : At} {c' : Loc} (sr : SR E c σ H Z L) (ev : setF c i f y = .ok c') : ∃ a C A dx fv, σ[i]? = some (some (.ref a)) ∧ E.ca C = some A ∧ H a = some (.ins A dx fv) ∧ a ∈ L ∧ fv.length < 1000 ∧
    ∀ w Ly, RA E.K H Z y w Ly → Ly.Nodup → (∀ b ∈ Ly, b ∉ L) → (∀ b ∈ Ly, ¬ Z b) → (∀ b ∈ Ly, H b ≠ none) → ∃ L', SR E c' σ (upd H a (.ins A dx (putF f w fv))) Z L' ∧ ∀ b ∈ L', b ∈ L ∨ b ∈ Ly := by
  unfold setF at ev
  split at ev
  rotate_left
  · cases ev
  rename_i C fs hc
  split at ev
  rotate_left
  · cases ev
  rename_i hlen
  cases ev
  obtain ⟨oo, Li, Lo, g1, g2, g3, back⟩ := sr.rs.split hc
  obtain ⟨w0, g4, a, A, dx, fv, M, e1, e2, hA, g5, g6⟩ := g2
  rw [g4, e1] at g1
  subst e2
  obtain ⟨nd, nz, ld⟩ := sr.perm (L' := []) g3
  have n2 := List.nodup_append.mp nd
  have n3 := List.nodup_cons.mp n2.1
  have aL : a ∈ L := g3.mem_iff.mpr (List.mem_append_left _ List.mem_cons_self)
  have hZ : ∀ b, Z b → b ∉ [a] := fun b z hb => by
    have : b = a := by simpa using hb
    subst this
    exact sr.nz b aL z
  have hl2 := g6.length
  refine ⟨a, C, A, dx, fv, g1, hA, g5, aL, by omega, fun w Ly hy ndy djy nzy ldy => ?_⟩
  have s : Stp [a] L H Z (upd H a (.ins A dx (putF f w fv))) Z := .upd g5 rfl
  have na : ∀ b ∈ Ly, b ∉ [a] := fun b hb z => by
    have : b = a := by simpa using z
    subst this
    exact djy b hb aL
  have nM : ∀ b ∈ M, b ∉ [a] := fun b hb z => by
    have : b = a := by simpa using z
    subst this
    exact n3.1 hb
  have hy' := RA.stp s hZ na hy
  have fin : ∀ M', RFs E.K (upd H a (.ins A dx (putF f w fv))) Z (putA f y fs) (putF f w fv) M' → M'.Nodup → (∀ b ∈ M', b ∈ M ∨ b ∈ Ly) → ∃ L', SR E (c.set i (some (.o C (putA f y fs)))) σ (upd H a (.ins A dx (putF f w fv))) Z L' ∧ ∀ b ∈ L', b ∈ L ∨ b ∈ Ly := fun M' hM' ndM' memM' => by
    obtain ⟨L', b1, b2⟩ := back (upd H a (.ins A dx (putF f w fv))) Z (some (.o C (putA f y fs))) (some (.ref a)) (a :: M') (fun x oo N hN h => RSl.stp s hZ (fun b hb z => by
      have : b = a := by simpa using z
      subst this
      exact n2.2.2 b List.mem_cons_self b (hN b hb) rfl) h) ⟨_, rfl, a, A, dx, _, M', rfl, rfl, hA, upd_same, hM'⟩
    rw [set_same g1] at b1
    have mem : ∀ b ∈ L', b ∈ L ∨ b ∈ Ly := fun b h => by
      rcases List.mem_append.mp (b2.mem_iff.mp h) with h | h
      · rcases List.mem_cons.mp h with h | h
        · rw [h]; exact .inl aL
        · exact (memM' b h).imp (fun h => g3.mem_iff.mpr (List.mem_append_left _ (List.mem_cons_of_mem _ h))) id
      · exact .inl (g3.mem_iff.mpr (List.mem_append_right _ h))
    refine ⟨L', ⟨b1, b2.nodup_iff.mpr (List.nodup_append.mpr ⟨List.nodup_cons.mpr ⟨fun h => (memM' a h).elim n3.1 fun z => djy a z aL, ndM'⟩, n2.2.1, fun b hb d hd e => ?_⟩), fun b h => (mem b h).elim (sr.nz b) (nzy b), fun b z => s.dom b (sr.zd b z),
      fun b h => s.dom b ((mem b h).elim (sr.ld b) (ldy b)), fun P h => TabG.upd g5 rfl (sr.tb P h)⟩, mem⟩
    subst e
    rcases List.mem_cons.mp hb with h | h
    · subst h; exact n2.2.2 b List.mem_cons_self b hd rfl
    · rcases memM' b h with h | h
      · exact n2.2.2 b (List.mem_cons_of_mem _ h) b hd rfl
      · exact djy b h (g3.mem_iff.mpr (List.mem_append_right _ hd))
  cases hlk : fs.lookup f with
  | none =>
    refine fin _ (RFs.add g6 hlk (fun z u N hN h => RA.stp s hZ (fun b hb => nM b (hN b hb)) h) hy') (List.nodup_append.mpr ⟨n3.2, ndy, fun b hb d hd e => ?_⟩) fun b hb => List.mem_append.mp hb
    subst e
    exact djy b hd (g3.mem_iff.mpr (List.mem_append_left _ (List.mem_cons_of_mem _ hb)))
  | some x0 =>
    obtain ⟨v', Lx, Mo, k1, k2, k3, put⟩ := g6.put hlk
    have oM : ∀ b ∈ Mo, b ∈ M := fun b hb => k3.mem_iff.mpr (List.mem_append_right _ hb)
    obtain ⟨M', m1, m2⟩ := put _ Z y w Ly (fun z u N hN h => RA.stp s hZ (fun b hb => nM b (oM b (hN b hb))) h) hy'
    refine fin M' m1 (m2.nodup_iff.mpr (List.nodup_append.mpr ⟨ndy, (List.nodup_append.mp (k3.nodup_iff.mp n3.2)).2.1, fun b hb d hd e => ?_⟩)) fun b hb => (List.mem_append.mp (m2.mem_iff.mp hb)).elim .inr fun h => .inl (oM b h)
    subst e
    exact djy b hb (g3.mem_iff.mpr (List.mem_append_left _ (List.mem_cons_of_mem _ (oM b hd))))
theorem s_setF (hK : X.K = E.K) {i : Nat} {f : Str} {x : Str} {p pos' : Pos} {fe : Loc → Res (Opd × Loc)} (hf : FldOk E f) (ho : PE X (.Name x p) (tVar i)) (he : PE X e (rdE E q fe)) (hs : swapsWith e (some (.Attribute (.Name x p) f pos')) pos.line X.env = pure false) :
    PS X (.Assign [.Attribute (.Name x p) f pos'] e pos) (rdS E [] fun c => doNx ((fe c).bind fun (x, c1) => (toV x c1).bind fun (v, c2) => match v with
    | .a y => setF c2 i f y
    | _ => .no) c) := by
  refine (ps_fld ho he hs).weak fun D σ H ⟨c, Z, L, sr, ok⟩ => ?_
  obtain ⟨c', er, ok⟩ := doNx_ok ok
  obtain ⟨⟨x, c1⟩, e1, er⟩ := Res.bind_ok er
  obtain ⟨⟨v, c2⟩, e2, er⟩ := Res.bind_ok er
  simp only at er
  split at er
  rotate_left
  · cases er
  rename_i y
  refine ⟨c, Z, L, x, c1, sr, e1, fun w H1 Z1 L1 Lr a t r => ?_⟩
  obtain ⟨Z2, L2, Lr2, a2, t2, rv⟩ := toV_ok a t r e2
  obtain ⟨b, C, A, dx, fv, h1, hA, h2, bL, hl, back⟩ := setF_ok a2.sr er
  obtain ⟨k1, k2⟩ := hf C A hA
  refine ⟨_, h1, b, A, dx, fv, rfl, h2, by rw [hK]; exact k1, by rw [hK]; exact k2, hl, ?_⟩
  obtain ⟨L', sr', mem⟩ := back w Lr2 (show RA E.K H1 Z2 y w Lr2 from rv) t2.nd t2.dj t2.nz t2.ld
  exact ok σ _ Z2 L' ⟨stp_LL a2.st.toL a2.sub ((Stp.upd (Z := Z2) (M := L2) h2 rfl).weak (fun x hx => by
        have : x = b := by simpa using hx
        subst this
        exact bL) fun _ h => h), sr', fun d hd => (mem d hd).elim (a2.sub d) (t2.sub d), fun _ _ => rfl⟩
/-! ### x += value -/
theorem aug_V {K : PySem.W.Frag} {o : BOp} {x : D} {v : At} {z : D} {u w : V} {Lv : List Addr} (e : augV o x v = .ok z) (h1 : RD K H Z x u) (h2 : RA K H Z v w Lv) : ∃ i j, u = .int i ∧ w = .int j ∧ ((o = .add ∧ z = .int (i + j)) ∨ (o = .sub ∧ z = .int (i - j))) := by
  unfold augV at e
  split at e
  · cases e
    exact ⟨_, _, by unfold RD at h1; exact h1, intE h2, .inl ⟨rfl, rfl⟩⟩
  · cases e
    exact ⟨_, _, by unfold RD at h1; exact h1, intE h2, .inr ⟨rfl, rfl⟩⟩
  · cases e
theorem s_aug {i : Nat} {x : Str} {o : BOp} {pos' : Pos} {fe : Loc → Res (Opd × Loc)} (ho : o = .add ∨ o = .sub) (hN : X.N.Nodup) (hi : X.N[i]? = some x) (hx : _root_.L2.Loc X.env.scope x) (hf : X.fn x = true ∨ X.env.scope.names.lookup x = some .local) (he : PE X e (rdE E q fe)) :
    PS X (.AugAssign (.Name x pos') (opOf o) e pos) (rdS E [i] fun c => doNx ((fe c).bind fun (y, c1) => (gets c i).bind fun u => (rdA y c1).bind fun v => match u with
    | .a (.d x) => (augV o x v).bind fun z => .ok (c1.set i (some (.d z)))
    | _ => .no) c) := by
  have fin : ∀ D σ H, rdS E [i] (fun c => doNx ((fe c).bind fun (y, c1) => (gets c i).bind fun u => (rdA y c1).bind fun v => match u with
    | .a (.d x) => (augV o x v).bind fun z => .ok (c1.set i (some (.d z)))
    | _ => .no) c) D σ H → ∃ x, σ[i]? = some (some x) ∧ rdE E q fe σ H fun y H1 => ∃ a b, x = .int a ∧ y = .int b ∧ ((o = .add ∧ D.nx (σ.set i (some (.int (a + b)))) H1) ∨ (o = .sub ∧ D.nx (σ.set i (some (.int (a - b)))) H1)) := fun D σ H ⟨c, Z, L, sr, ok⟩ => by
    obtain ⟨c', er, ok⟩ := doNx_ok ok
    obtain ⟨⟨y, c1⟩, e1, er⟩ := Res.bind_ok er
    obtain ⟨u, e2, er⟩ := Res.bind_ok er
    obtain ⟨v, e3, er⟩ := Res.bind_ok er
    split at er
    rotate_left
    · cases er
    rename_i d _
    obtain ⟨z, e4, er⟩ := Res.bind_ok er
    cases er
    unfold gets at e2
    split at e2
    rotate_left
    · cases e2
    rename_i y' hc
    cases e2
    obtain ⟨oo, Li, Lo, g1, g2, g3, _⟩ := sr.rs.split hc
    obtain ⟨w, g4, g5⟩ := g2
    rw [g4] at g1
    have g5 : RA E.K H Z (.d d) w Li := g5
    refine ⟨w, g1, c, Z, L, y, c1, sr, e1, fun ww H1 Z1 L1 Lr a t r => ?_⟩
    obtain ⟨_, k⟩ := r.rdA a.sr e3
    obtain ⟨ii, jj, rfl, rfl, hz⟩ := aug_V e4 (RD.aft sr a g5.2) k
    have hlt : i < c1.length := by
      rw [a.sr.len]
      exact (List.getElem?_eq_some_iff.mp g1).1
    have go : ∀ n : Int, z = .int n → D.nx (σ.set i (some (.int n))) H1 := fun n hn => by
      obtain ⟨L', sr', m⟩ := a.sr.put (x := .d z) (v := .int n) (Lr := []) hlt ⟨rfl, by rw [hn]; unfold RD; rfl⟩ .nil (fun _ h => absurd h (by simp)) (fun _ h => absurd h (by simp)) (fun _ h => absurd h (by simp))
      exact ok _ H1 Z1 L' ⟨a.st.toL, sr', fun b hb => (m b hb).elim (a.sub b) fun h => absurd h (by simp), fun j hj => by
        rw [List.getElem?_set_ne]
        intro z
        apply hj
        simp [z]⟩
    refine ⟨ii, jj, rfl, rfl, ?_⟩
    rcases hz with ⟨h1, h2⟩ | ⟨h1, h2⟩
    · exact .inl ⟨h1, go _ h2⟩
    · exact .inr ⟨h1, go _ h2⟩
  rcases ho with rfl | rfl
  · refine (ps_aug hN hi hx he ip_add hf).weak fun D σ H h => ?_
    obtain ⟨x, h1, c, Z, L, o', c', sr, ev, ok⟩ := fin D σ H h
    refine ⟨x, h1, c, Z, L, o', c', sr, ev, fun v H1 Z1 L1 Lr a t r => ?_⟩
    obtain ⟨i', j', e1, e2, ⟨_, k⟩ | ⟨k, _⟩⟩ := ok v H1 Z1 L1 Lr a t r
    · exact ⟨i', j', e1, e2, k⟩
    · cases k
  · refine (ps_aug hN hi hx he ip_sub hf).weak fun D σ H h => ?_
    obtain ⟨x, h1, c, Z, L, o', c', sr, ev, ok⟩ := fin D σ H h
    refine ⟨x, h1, c, Z, L, o', c', sr, ev, fun v H1 Z1 L1 Lr a t r => ?_⟩
    obtain ⟨i', j', e1, e2, ⟨k, _⟩ | ⟨_, k⟩⟩ := ok v H1 Z1 L1 Lr a t r
    · cases k
    · exact ⟨i', j', e1, e2, k⟩
/-! ### while -/
theorem s_whl {n : Nat} {body : List Stmt} {ft : Loc → Res (Bool × Loc)} {f : Loc → Fl} (hp : PassesOwn (model X.prog X.w) X.A X.env X.xe) (hc : PT X ec (rdT E q ft)) (hb : PSs X body (rdS E as f)) : PS X (.While ec body [] pos) (rdS E as (whileL ft f n)) := by
  refine (ps_while hp hc hb).weak fun D σ H ⟨c, Z, L, sr, ok⟩ => ?_
  refine ⟨fun m σ1 H1 => ∃ c1 Z1 L1, AftS E as L H Z σ c1 σ1 H1 Z1 L1 ∧ OkF E as L H Z σ (whileL ft f m c1) D, ⟨n, c, Z, L, .refl sr, ok⟩, ?_⟩
  rintro m σ1 H1 ⟨c1, Z1, L1, a1, ok1⟩
  cases m with
  | zero => exact ok1.elim
  | succ m =>
    unfold whileL at ok1
    split at ok1
    · rename_i c2 et
      refine ⟨c1, Z1, L1, true, c2, a1.sr, et, fun H2 Z2 L2 a2 => ?_⟩
      show if true = true then _ else _
      rw [if_pos rfl]
      have a12 : AftS E as L H Z σ c2 σ1 H2 Z2 L2 := by
        have := a1.trans (bs := []) a2.s
        rw [List.append_nil] at this
        exact this
      refine ⟨fun σ' H' => ∃ c' Z' L', AftS E as L H Z σ c' σ' H' Z' L' ∧ OkF E as L H Z σ (whileL ft f m c') D, fun σ' H' ⟨c', Z', L', a', o'⟩ => ⟨m, Nat.lt_succ_self m, c', Z', L', a', o'⟩, c2, Z2, L2, a2.sr, ?_⟩
      have join : ∀ {c' σ' H' Z' L'}, AftS E as L2 H2 Z2 σ1 c' σ' H' Z' L' → AftS E as L H Z σ c' σ' H' Z' L' := fun b => (a12.trans b).mono fun i hi => (List.mem_append.mp hi).elim id id
      cases hf : f c2 with
      | nx c3 => rw [hf] at ok1; exact fun σ' H' Z' L' b => ⟨c3, Z', L', join b, ok1⟩
      | ct c3 => rw [hf] at ok1; exact fun σ' H' Z' L' b => ⟨c3, Z', L', join b, ok1⟩
      | bk c3 => rw [hf] at ok1; exact fun σ' H' Z' L' b => ok1 σ' H' Z' L' (join b)
      | rt r c3 => rw [hf] at ok1; exact fun v σ' H' Z' L' Lr b t => ok1 v σ' H' Z' L' Lr (join b) ⟨t.nd, t.dj, t.nz, t.ld, a12.sub.trans a12.st.dom t.sub⟩
      | exc _ _ _ => rw [hf] at ok1; exact ok1.elim
      | no => rw [hf] at ok1; exact ok1.elim
    · rename_i c2 et
      refine ⟨c1, Z1, L1, false, c2, a1.sr, et, fun H2 Z2 L2 a2 => ?_⟩
      show if false = true then _ else _
      rw [if_neg Bool.false_ne_true]
      have a12 : AftS E as L H Z σ c2 σ1 H2 Z2 L2 := by
        have := a1.trans (bs := []) a2.s
        rw [List.append_nil] at this
        exact this
      exact ok1 σ1 H2 Z2 L2 a12
    · exact ok1.elim
    · exact ok1.elim
end
end G
namespace G
open PySem L2
/-! ### a def's promise by the evaluator -/
def spF (E : Ev) (cf : List Vl → Res CR) : Sp := fun vs H Q _ => ∃ cs Z L cr, SR E (cs.map some) (vs.map some) H Z L ∧ cf cs = .ok cr ∧
  ∀ v H' Z' L' Lr, Stp L L H Z H' Z' → SR E cr.outs (vs.map some) H' Z' L' → Sub L H L' → Tmp Lr L' L H Z' H' → RR E H' Z' (vs.map some) cr.r v Lr → Q v H'
section
variable {E : Ev} {L L1 L2 Lr : List Addr} {H H1 H2 : Hp} {Z Z1 Z2 : Addr → Prop} {σ σ1 σ2 : Sg} {c c1 c2 : Loc}
/-- fewer slots, some of them given up -/
theorem RS.mask {K : PySem.W.Frag} {ca : Nat → Option Addr} : ∀ {c : Loc} {σ : Sg} {L : List Addr} {c2 : Loc} {σ2 : Sg}, RS K H Z ca c σ L → c2.length = σ2.length → c2.length ≤ c.length → (∀ (j : Nat) (x : Vl), c2[j]? = some (some x) → c[j]? = some (some x) ∧ σ2[j]? = σ[j]?) → ∃ L2, RS K H Z ca c2 σ2 L2 ∧ L2.Sublist L
  | c, σ, L, [], σ2, h, hl, _, _ => by
    have : σ2 = [] := List.eq_nil_of_length_eq_zero hl.symm
    exact ⟨[], ⟨this, rfl⟩, List.nil_sublist _⟩
  | [], σ, L, y :: c2, σ2, h, hl, hle, _ => by simp at hle
  | x :: c, σ, L, y :: c2, [], h, hl, hle, _ => by simp at hl
  | x :: c, σ, L, y :: c2, o2 :: σ2, ⟨o, σ', L1, L2, e, hL, h1, h2⟩, hl, hle, hj => by
    subst e
    obtain ⟨M, r, sl⟩ := RS.mask h2 (by simpa using hl) (by simpa using hle) (fun j x e => by simpa using hj (j + 1) x (by simpa using e))
    cases y with
    | none => exact ⟨M, ⟨o2, σ2, [], M, rfl, rfl, rfl, r⟩, by rw [hL]; exact sl.trans (List.sublist_append_right _ _)⟩
    | some y =>
      obtain ⟨k1, k2⟩ := hj 0 y rfl
      simp at k1 k2
      subst k1 k2
      exact ⟨L1 ++ M, ⟨o2, σ2, L1, M, rfl, rfl, h1, r⟩, by rw [hL]; exact List.Sublist.append_left sl _⟩
theorem SR.mask {c2 : Loc} {σ2 : Sg} (sr : SR E c σ H Z L) (hl : c2.length = σ2.length) (hle : c2.length ≤ c.length) (hj : ∀ (j : Nat) (x : Vl), c2[j]? = some (some x) → c[j]? = some (some x) ∧ σ2[j]? = σ[j]?) : ∃ L2, SR E c2 σ2 H Z L2 ∧ ∀ a ∈ L2, a ∈ L := by
  obtain ⟨L2, r, sl⟩ := sr.rs.mask hl hle hj
  exact ⟨L2, ⟨r, sl.nodup sr.nd, fun a h => sr.nz a (sl.subset h), sr.zd, fun a h => sr.ld a (sl.subset h), sr.tb⟩, fun a h => sl.subset h⟩
theorem RS.more {K : PySem.W.Frag} {ca : Nat → Option Addr} (m : Nat) : ∀ {c : Loc} {σ : Sg} {L : List Addr}, RS K H Z ca c σ L → RS K H Z ca (c ++ List.replicate m none) (σ ++ List.replicate m none) L
  | [], σ, L, ⟨e, hL⟩ => by
    subst e hL
    induction m with
    | zero => exact ⟨rfl, rfl⟩
    | succ m ih => exact ⟨none, List.replicate m none, [], [], by simp [List.replicate_succ], rfl, rfl, by simpa using ih⟩
  | x :: c, σ, L, ⟨o, σ', L1, L2, e, hL, h1, h2⟩ => by
    subst e
    exact ⟨o, σ' ++ List.replicate m none, L1, L2, rfl, hL, h1, RS.more m h2⟩
/-- the body's end: what the parameters hold -/
theorem SR.outs {np : Nat} {as : List Nat} {vs : List V} {m : Nat} (sr : SR E c σ H Z L) (hv : vs.length = np) (hc : np ≤ c.length) (un : ∀ i, i ∉ as → σ[i]? = (vs.map some ++ List.replicate m none)[i]?) : ∃ L2, SR E (outsF np as c) (vs.map some) H Z L2 ∧ ∀ a ∈ L2, a ∈ L := by
  refine sr.mask (by unfold outsF; simp [hv]) (by unfold outsF; simpa using hc) fun j x e => ?_
  unfold outsF at e
  rw [List.getElem?_map] at e
  cases hr : (List.range np)[j]? with
  | none => rw [hr] at e; cases e
  | some j' =>
    rw [hr] at e
    have hj := List.getElem?_eq_some_iff.mp hr
    obtain ⟨hj1, hj2⟩ := hj
    simp at hj1 hj2
    subst hj2
    simp only [Option.map_some, Option.some.injEq] at e
    split at e
    · cases e
    · rename_i hn
      have e1 : c[j]? = some (some x) := by
        rw [List.getD_eq_getElem?_getD] at e
        cases hcj : c[j]? with
        | none => rw [hcj] at e; cases e
        | some y => rw [hcj] at e; simp at e; rw [e]
      refine ⟨e1, ?_⟩
      rw [un j hn, List.getElem?_append_left (by simp; omega)]
end
/-! ### the call of a def -/
section
variable {E : Ev} {L L1 L2 Lr : List Addr} {H H1 H2 : Hp} {Z Z1 Z2 : Addr → Prop} {σ σ1 σ2 : Sg} {c c1 c2 : Loc}
theorem rdO_set {i : Nat} {s : Option Vl} {o : Opd} (h : ∀ j, (o = .p j ∨ ∃ f, o = .q j f) → j ≠ i) : rdO o (c.set i s) = rdO o c := by
  cases o with
  | v x => rfl
  | p j =>
    have := h j (.inl rfl)
    show gets (c.set i s) j = gets c j
    unfold gets
    rw [List.getElem?_set_ne (Ne.symm this)]
  | q j f =>
    have := h j (.inr ⟨f, rfl⟩)
    show (match getF (c.set i s) j f with | .ok a => Res.ok (Vl.a a) | _ => Res.no) = (match getF c j f with | .ok a => Res.ok (Vl.a a) | _ => Res.no)
    unfold getF
    rw [List.getElem?_set_ne (Ne.symm this)]
theorem rdOs_set {i : Nat} {s : Option Vl} : ∀ {os : List Opd}, i ∉ ownP os → rdOs os (c.set i s) = rdOs os c
  | [], _ => rfl
  | o :: os, h => by
    have h1 : ∀ j, (o = .p j ∨ ∃ f, o = .q j f) → j ≠ i := fun j hj e => by
      subst e
      rcases hj with rfl | ⟨f, rfl⟩ <;> exact h List.mem_cons_self
    have h2 : i ∉ ownP os := by
      cases o with
      | v x => exact h
      | p j => exact fun z => h (List.mem_cons_of_mem _ z)
      | q j f => exact fun z => h (List.mem_cons_of_mem _ z)
    show ((rdO o (c.set i s)).bind fun x => (rdOs os (c.set i s)).bind fun xs => Res.ok (x :: xs)) = ((rdO o c).bind fun x => (rdOs os c).bind fun xs => Res.ok (x :: xs))
    rw [rdO_set h1, rdOs_set h2]
theorem backP_set {i : Nat} {s : Option Vl} : ∀ {os : List Opd} {ys : List (Option Vl)} {c c' : Loc}, i ∉ ownP os → backP os ys (c.set i s) = .ok c' → ∃ c0, backP os ys (c.set i none) = .ok c0 ∧ c' = c0.set i s ∧ c0[i]? = (c.set i none)[i]? ∧ c0.length = c.length
  | [], ys, c, c', _, e => by
    cases e
    exact ⟨c.set i none, rfl, by simp, rfl, by simp⟩
  | .p j :: os, y :: ys, c, c', h, e => by
    have hj : i ≠ j := fun z => h (by rw [z]; exact List.mem_cons_self)
    have h2 : i ∉ ownP os := fun z => h (List.mem_cons_of_mem _ z)
    have e : backP os ys ((c.set i s).set j y) = .ok c' := e
    rw [List.set_comm _ _ hj] at e
    obtain ⟨c0, e1, e2, e3, e4⟩ := backP_set h2 e
    refine ⟨c0, ?_, e2, ?_, by simpa using e4⟩
    · show backP os ys ((c.set i none).set j y) = _
      rw [List.set_comm _ _ hj]
      exact e1
    · rw [e3, ← List.set_comm _ _ hj, List.getElem?_set_ne (Ne.symm hj)]
  | .p j :: os, [], c, c', h, e => by cases e
  | .v x :: os, y :: ys, c, c', h, e => by
    obtain ⟨c0, e1, e2⟩ := backP_set (os := os) (ys := ys) h e
    exact ⟨c0, e1, e2⟩
  | .v x :: os, [], c, c', h, e => by cases e
  | .q j f :: os, ys, c, c', h, e => by cases ys <;> cases e
theorem SR.putO {i : Nat} {x : Option Vl} {v : V} (sr : SR E c σ H Z L) (hi : i < c.length) (h : RSl E.K H Z E.ca x (some v) Lr) (nd : Lr.Nodup) (dj : ∀ a ∈ Lr, a ∉ L) (nz : ∀ a ∈ Lr, ¬ Z a) (ld : ∀ a ∈ Lr, H a ≠ none) :
    ∃ L', SR E (c.set i x) (σ.set i (some v)) H Z L' ∧ ∀ a ∈ L', a ∈ L ∨ a ∈ Lr := by
  obtain ⟨oo, Li, Lo, g1, g2, g3, back⟩ := sr.rs.split (List.getElem?_eq_getElem hi)
  obtain ⟨n1, n2, n3⟩ := sr.perm (L' := []) g3
  obtain ⟨L', k1, k2⟩ := back H Z x (some v) Lr (fun x oo M _ h => h) h
  have oL : ∀ a ∈ Lo, a ∈ L := fun a ha => g3.mem_iff.mpr (List.mem_append_right _ ha)
  have mem : ∀ a ∈ L', a ∈ Lr ∨ a ∈ Lo := fun a ha => List.mem_append.mp (k2.mem_iff.mp ha)
  have ndA : (Lr ++ Lo).Nodup := List.nodup_append.mpr ⟨nd, (List.nodup_append.mp n1).2.1, fun a ha b hb e => by subst e; exact dj a ha (oL a hb)⟩
  exact ⟨L', ⟨k1, k2.nodup_iff.mpr ndA, fun a ha => (mem a ha).elim (nz a) fun z => sr.nz a (oL a z), sr.zd, fun a ha => (mem a ha).elim (ld a) fun z => sr.ld a (oL a z), sr.tb⟩, fun a ha => (mem a ha).elim .inr fun z => .inl (oL a z)⟩
/-- the arguments handed over: a small state of their own, and what is left -/
theorem lend : ∀ {os : List Opd} {vs : List V} {Lr : List Addr} {c : Loc} {L : List Addr} {cs : List Vl}, SR E c σ H Z L → ROs E H Z c σ os vs Lr → Lr.Nodup → (∀ a ∈ Lr, a ∉ L) → (∀ a ∈ Lr, ¬ Z a) → (∀ a ∈ Lr, H a ≠ none) → rdOs os c = .ok cs → noQ os = true → (ownP os).Nodup →
    ∃ La Lo, SR E (cs.map some) (vs.map some) H Z La ∧ (La ++ Lo).Nodup ∧ (∀ a ∈ La, a ∈ L ∨ a ∈ Lr) ∧ (∀ a ∈ Lo, a ∈ L) ∧
      ∀ W H' Z' La' outs c', (∀ a ∈ W, ¬ Z a) → (∀ a ∈ Lo, a ∉ W) → Stp W W H Z H' Z' → SR E outs (vs.map some) H' Z' La' → Sub W H La' → backP os outs c = .ok c' → ∃ L', SR E c' σ H' Z' L' ∧ ∀ a ∈ L', a ∈ Lo ∨ a ∈ La'
  | [], vs, Lr, c, L, cs, sr, h, _, _, _, _, e, _, _ => by
    cases e
    obtain ⟨rfl, rfl⟩ := h
    refine ⟨[], L, ⟨⟨rfl, rfl⟩, .nil, fun _ h => absurd h (by simp), sr.zd, fun _ h => absurd h (by simp), sr.tb⟩, by simpa using sr.nd, fun _ h => absurd h (by simp), fun _ h => h, fun W H' Z' La' outs c' wz wo s sr' sub e => ?_⟩
    cases e
    refine ⟨L, ⟨RS.stp s (fun b z hb => wz b hb z) wo sr.rs, sr.nd, fun a ha z => ?_, sr'.zd, fun a ha => s.dom a (sr.ld a ha), sr'.tb⟩, fun a h => .inl h⟩
    rcases s.znew a z with z | z | z
    · exact sr.nz a ha z
    · exact wo a ha z
    · exact sr.ld a ha z
  | .v x :: os, vs, Lr, c, L, cs, sr, ⟨v, r, Lx, Lb, e1, e2, h1, h2⟩, nd, dj, nz, ld, e, nq, no => by
    subst e1 e2
    obtain ⟨y, k1, e⟩ := Res.bind_ok (show (rdO (.v x) c).bind (fun x => (rdOs os c).bind fun xs => Res.ok (x :: xs)) = _ from e)
    obtain ⟨ys, k2, e⟩ := Res.bind_ok e
    cases e
    cases k1
    have nd2 := List.nodup_append.mp nd
    obtain ⟨La, Lo, sra, nda, suba, subo, back⟩ := lend sr h2 nd2.2.1 (fun a h => dj a (List.mem_append_right _ h)) (fun a h => nz a (List.mem_append_right _ h)) (fun a h => ld a (List.mem_append_right _ h)) k2 nq no
    have dx : ∀ a ∈ Lx, a ∉ La ∧ a ∉ Lo := fun a ha => ⟨fun z => (suba a z).elim (fun z => dj a (List.mem_append_left _ ha) z) fun z => nd2.2.2 a ha a z rfl, fun z => dj a (List.mem_append_left _ ha) (subo a z)⟩
    have ndA := List.nodup_append.mp nda
    refine ⟨Lx ++ La, Lo, ⟨⟨some v, r.map some, Lx, La, rfl, rfl, ⟨v, rfl, h1⟩, sra.rs⟩, List.nodup_append.mpr ⟨nd2.1, ndA.1, fun a ha b hb z => by subst z; exact (dx a ha).1 hb⟩, fun a ha => (List.mem_append.mp ha).elim (fun h => nz a (List.mem_append_left _ h)) (sra.nz a), sra.zd, fun a ha => (List.mem_append.mp ha).elim (fun h => ld a (List.mem_append_left _ h)) (sra.ld a), sra.tb⟩,
      ?_, fun a ha => (List.mem_append.mp ha).elim (fun h => .inr (List.mem_append_left _ h)) fun h => (suba a h).imp id (List.mem_append_right _), subo, fun W H' Z' La' outs c' wz wo s sr' sub eb => ?_⟩
    · rw [List.append_assoc]
      exact List.nodup_append.mpr ⟨nd2.1, nda, fun a ha b hb z => by subst z; exact (List.mem_append.mp hb).elim (dx a ha).1 (dx a ha).2⟩
    · cases outs with
      | nil => cases eb
      | cons y ys' =>
        obtain ⟨o', σ', M1, M2, f1, f2, f3, f4⟩ := sr'.rs
        have f1 : some v :: r.map some = o' :: σ' := f1
        cases f1
        have ndM := List.nodup_append.mp (f2 ▸ sr'.nd)
        have sr2 : SR E ys' (r.map some) H' Z' M2 := ⟨f4, ndM.2.1, fun a h => sr'.nz a (by rw [f2]; exact List.mem_append_right _ h), sr'.zd, fun a h => sr'.ld a (by rw [f2]; exact List.mem_append_right _ h), sr'.tb⟩
        obtain ⟨L', g1, g2⟩ := back W H' Z' M2 ys' c' wz wo s sr2 (fun a h => sub a (by rw [f2]; exact List.mem_append_right _ h)) eb
        exact ⟨L', g1, fun a h => (g2 a h).imp id fun h => by rw [f2]; exact List.mem_append_right _ h⟩
  | .p i :: os, vs, Lr, c, L, cs, sr, ⟨v, r, Lx, Lb, e1, e2, h1, h2⟩, nd, dj, nz, ld, e, nq, no => by
    subst e1 e2
    obtain ⟨y, k1, e⟩ := Res.bind_ok (show (rdO (.p i) c).bind (fun x => (rdOs os c).bind fun xs => Res.ok (x :: xs)) = _ from e)
    obtain ⟨ys, k2, e⟩ := Res.bind_ok e
    cases e
    obtain ⟨hx, hσ⟩ := h1
    subst hx
    have no2 := List.nodup_cons.mp (show (i :: ownP os).Nodup from no)
    obtain ⟨L0, Li, sr0, ry, ndi, dji, subi, sub0⟩ := sr.take k1 hσ
    rw [← rdOs_set (s := none) no2.1] at k2
    have h2' : ROs E H Z (c.set i none) σ os r Lb := by
      have all : ∀ {os : List Opd} {vs : List V} {M : List Addr}, ROs E H Z c σ os vs M → ROs E H Z (c.set i none) σ os vs M := by
        intro os
        induction os with
        | nil => intro vs M h; exact h
        | cons o os ih =>
          rintro vs M ⟨v, r, La, Lb, e1, e2, h1, h2⟩
          exact ⟨v, r, La, Lb, e1, e2, by cases o <;> exact h1, ih h2⟩
      exact all h2
    obtain ⟨La, Lo, sra, nda, suba, subo, back⟩ := lend sr0 h2' nd (fun a h z => dj a h (sub0 a z)) nz ld k2 nq no2.2
    have ndA := List.nodup_append.mp nda
    have di : ∀ a ∈ Li, a ∉ La ∧ a ∉ Lo := fun a ha => ⟨fun z => (suba a z).elim (dji a ha) fun z => dj a z (subi a ha), fun z => dji a ha (subo a z)⟩
    refine ⟨Li ++ La, Lo, ⟨⟨some v, r.map some, Li, La, rfl, rfl, ⟨v, rfl, ry⟩, sra.rs⟩, List.nodup_append.mpr ⟨ndi, ndA.1, fun a ha b hb z => by subst z; exact (di a ha).1 hb⟩, fun a ha => (List.mem_append.mp ha).elim (fun h => sr.nz a (subi a h)) (sra.nz a), sra.zd, fun a ha => (List.mem_append.mp ha).elim (fun h => sr.ld a (subi a h)) (sra.ld a), sra.tb⟩,
      ?_, fun a ha => (List.mem_append.mp ha).elim (fun h => .inl (subi a h)) fun h => (suba a h).imp (sub0 a) (fun h => by simpa using h), fun a h => sub0 a (subo a h), fun W H' Z' La' outs c' wz wo s sr' sub eb => ?_⟩
    · rw [List.append_assoc]
      exact List.nodup_append.mpr ⟨ndi, nda, fun a ha b hb z => by subst z; exact (List.mem_append.mp hb).elim (di a ha).1 (di a ha).2⟩
    · cases outs with
      | nil => cases eb
      | cons y' ys' =>
        obtain ⟨o', σ', M1, M2, f1, f2, f3, f4⟩ := sr'.rs
        have f1 : some v :: r.map some = o' :: σ' := f1
        cases f1
        have ndM := List.nodup_append.mp (f2 ▸ sr'.nd)
        have inR : ∀ a ∈ M2, a ∈ La' := fun a h => by rw [f2]; exact List.mem_append_right _ h
        have inL : ∀ a ∈ M1, a ∈ La' := fun a h => by rw [f2]; exact List.mem_append_left _ h
        have sr2 : SR E ys' (r.map some) H' Z' M2 := ⟨f4, ndM.2.1, fun a h => sr'.nz a (inR a h), sr'.zd, fun a h => sr'.ld a (inR a h), sr'.tb⟩
        obtain ⟨c0, b1, b2, b3, b4⟩ := backP_set (s := y') no2.1 (show backP os ys' (c.set i y') = .ok c' from eb)
        obtain ⟨L', g1, g2⟩ := back W H' Z' M2 ys' c0 wz wo s sr2 (fun a h => sub a (inR a h)) b1
        have hlt : i < c0.length := by
          rw [b4, sr.len]
          exact (List.getElem?_eq_some_iff.mp hσ).1
        obtain ⟨L2, p1, p2⟩ := g1.putO (x := y') (v := v) hlt f3 ndM.1 (fun a ha z => (g2 a z).elim (fun z => by
          rcases sub a (inL a ha) with h | h
          · exact wo a z h
          · exact sr0.ld a (subo a z) h) fun z => ndM.2.2 a ha a z rfl) (fun a h => sr'.nz a (inL a h)) (fun a h => sr'.ld a (inL a h))
        rw [set_same hσ] at p1
        rw [b2]
        exact ⟨L2, p1, fun a h => (p2 a h).elim (fun h => (g2 a h).imp id (inR a)) fun h => .inr (inL a h)⟩
  | .q i f :: os, vs, Lr, c, L, cs, sr, h, nd, dj, nz, ld, e, nq, no => by cases nq
end
/-! ### the call of a def, of a method -/
section
variable {X : Cx} {E : Ev} {q : Bool} {e : Expr} {es : List Expr} {fs : Loc → Res (List Opd × Loc)} {L L1 L2 Lr : List Addr} {H H1 H2 : Hp} {Z Z1 Z2 : Addr → Prop} {σ : Sg} {c c1 c2 c' : Loc}
theorem ROs.get : ∀ {os : List Opd} {vs : List V} {Lr : List Addr} {j : Nat} {o : Opd}, ROs E H Z c σ os vs Lr → os[j]? = some o → ∃ v Lo, vs[j]? = some v ∧ RO E H Z c σ o v Lo
  | [], _, _, j, o, _, e => by simp at e
  | o' :: os, _, _, 0, o, ⟨v, r, La, Lb, e1, e2, h1, h2⟩, e => by
    simp at e; subst e e1
    exact ⟨v, La, rfl, h1⟩
  | o' :: os, _, _, j + 1, o, ⟨v, r, La, Lb, e1, e2, h1, h2⟩, e => by
    subst e1
    obtain ⟨w, Lo, k1, k2⟩ := ROs.get (j := j) h2 (by simpa using e)
    exact ⟨w, Lo, by simpa using k1, k2⟩
theorem backP_mask {x : Vl} : ∀ {os : List Opd} {ys : List (Option Vl)} {j : Nat} {c : Loc}, os[j]? = some (.v x) → backP os (ys.set j none) c = backP os ys c
  | [], _, j, _, e => by simp at e
  | o :: os, [], j, c, e => by simp
  | o :: os, y :: ys, 0, c, e => by
    simp at e; subst e
    rfl
  | .p i :: os, y :: ys, j + 1, c, e => backP_mask (os := os) (ys := ys) (j := j) (c := c.set i y) (by simpa using e)
  | .v _ :: os, y :: ys, j + 1, c, e => backP_mask (os := os) (ys := ys) (j := j) (c := c) (by simpa using e)
  | .q _ _ :: os, y :: ys, j + 1, c, e => rfl
theorem call_rd {cf : List Vl → Res CR} {os : List Opd} {vs : List V} {o : Opd} {Q : VK} (a : Aft E q L H Z σ c1 H1 Z1 L1) (t : Tmp Lr L1 L H Z1 H1) (r : ROs E H1 Z1 c1 σ os vs Lr) (ev : callO cf os c1 = .ok (o, c')) (ok : OkO E false L H Z σ o c' Q) {E0 : XK} : spF E cf vs H1 Q E0 := by
  obtain ⟨_, g, ev⟩ := Res.bind_ok ev
  have g := gd_ok g
  rw [Bool.and_eq_true] at g
  obtain ⟨cs, e1, ev⟩ := Res.bind_ok ev
  obtain ⟨cr, e2, ev⟩ := Res.bind_ok ev
  obtain ⟨c2, e3, ev⟩ := Res.bind_ok ev
  obtain ⟨La, Lo, sra, nda, suba, subo, back⟩ := lend a.sr r t.nd t.dj t.nz t.ld e1 g.1 (of_decide_eq_true g.2)
  have ndA := List.nodup_append.mp nda
  have subLa : Sub L H La := fun b hb => (suba b hb).elim (a.sub b) (t.sub b)
  refine ⟨cs, Z1, La, cr, sra, e2, fun v H2 Z2 La' Lv s sr' sub tv rv => ?_⟩
  have st : Stp L L H Z H2 Z2 := stp_LL a.st.toL (L1 := La) subLa s
  have fin : ∀ (outs : Loc) (Lb : List Addr) (Lw : List Addr) (o' : Opd), SR E outs (vs.map some) H2 Z2 Lb → (∀ b ∈ Lb, b ∈ La') → backP os outs c1 = .ok c2 → Lw.Nodup → (∀ b ∈ Lw, b ∉ Lb) → (∀ b ∈ Lw, ¬ Z2 b) → (∀ b ∈ Lw, H2 b ≠ none) → Sub La H1 Lw → (∀ L2, SR E c2 σ H2 Z2 L2 → RO E H2 Z2 c2 σ o' v Lw) → o' = o → c2 = c' → Q v H2 := by
    intro outs Lb Lw o' srb mb eb nw dw nz ld sw ro eo ec
    subst eo ec
    obtain ⟨L2, sr2, m2⟩ := back La H2 Z2 Lb outs c2 sra.nz (fun b hb z => ndA.2.2 b z b hb rfl) s srb (fun b hb => sub b (mb b hb)) eb
    have sub2 : Sub L H L2 := fun b hb => (m2 b hb).elim (fun h => a.sub b (subo b h)) fun h => (subLa.trans a.st.dom sub) b (mb b h)
    exact ok v H2 Z2 L2 Lw ⟨st, sr2, sub2⟩ ⟨nw, fun b hb z => (m2 b z).elim (fun h => (sw b hb).elim (fun w => ndA.2.2 b w b h rfl) fun w => a.sr.ld b (subo b h) w) (dw b hb), nz, ld, subLa.trans a.st.dom sw⟩ (ro L2 sr2)
  cases hr : cr.r with
  | v x =>
    rw [hr] at ev rv
    cases ev
    exact fin cr.outs La' Lv (.v x) sr' (fun b h => h) e3 tv.nd tv.dj tv.nz tv.ld tv.sub (fun _ _ => rv) rfl rfl
  | par j =>
    rw [hr] at ev rv
    obtain ⟨hLv, hv⟩ := rv
    subst hLv
    have emp : ∀ {P : Addr → Prop}, ∀ b ∈ ([] : List Addr), P b := fun b h => absurd h (by simp)
    simp only at ev
    cases ho : os[j]? with
    | none => rw [ho] at ev; cases ev
    | some oj =>
      cases hy : cr.outs[j]? with
      | none =>
        rw [ho, hy] at ev
        cases oj with
        | v x => cases ev
        | q i f => cases ev
        | p i =>
          cases ev
          obtain ⟨w, Lw, k1, k2⟩ := r.get ho
          have : w = v := by
            rw [List.getElem?_map, k1] at hv
            cases hv; rfl
          subst this
          exact fin cr.outs La' [] (.p i) sr' (fun b h => h) e3 .nil emp emp emp emp (fun _ _ => ⟨rfl, k2.2⟩) rfl rfl
      | some yy =>
        rw [ho, hy] at ev
        cases oj with
        | v x =>
          cases yy with
          | none => cases ev
          | some y =>
            cases ev
            have hg : gets cr.outs j = .ok y := by
              unfold gets
              rw [hy]
            obtain ⟨Lb, Lw, k1, k2, k3, k4, k5, k6⟩ := sr'.take hg hv
            exact fin (cr.outs.set j none) Lb Lw (.v y) k1 k6 (by rw [backP_mask ho]; exact e3) k3 k4 (fun b hb => sr'.nz b (k5 b hb)) (fun b hb => sr'.ld b (k5 b hb)) (fun b hb => sub b (k5 b hb)) (fun _ _ => k2) rfl rfl
        | q i f => cases yy <;> cases ev
        | p i =>
          have ev : Res.ok (Opd.p i, c2) = .ok (o, c') := by cases yy <;> exact ev
          cases ev
          obtain ⟨w, Lw, k1, k2⟩ := r.get ho
          have : w = v := by
            rw [List.getElem?_map, k1] at hv
            cases hv; rfl
          subst this
          exact fin cr.outs La' [] (.p i) sr' (fun b h => h) e3 .nil emp emp emp emp (fun _ _ => ⟨rfl, k2.2⟩) rfl rfl
def callF (cf : List Vl → Res CR) (fs : Loc → Res (List Opd × Loc)) : Loc → Res (Opd × Loc) := fun c => (fs c).bind fun (os, c1) => callO cf os c1
theorem s_call {cf : List Vl → Res CR} {k : Nat} {f : Addr} {fd : FuncData} {ps : List Str} {x : Str} {p pos : Pos} (F : FnOk X.prog X.w X.K X.mg X.base CX0 k f fd ps (spF E cf)) (hr : Room k X.A) (hg : Gl X x) (hm : X.mg x = some (.ref f)) (hk : PySem.W.keepIn X.K (.ref f) = true) (hb : Binds X.K fd ps [])
    (ha : PA X (e :: es) (rdAs E q fs)) (hdb : (x == ("__debug__" : Str)) = false) (he : starEach (e :: es) X.env = (false, eval e X.env) :: starEach es X.env) (hpl : (backTo pos (starEach es X.env)).any (·.1) = false) :
    PE X (.Call (.Name x p) (e :: es) [] pos) (rdE E false (callF cf fs)) := by
  refine (pe_call F hr hg hm hk hb .nil pass0 ha hdb he hpl).weak fun σ H Q ⟨c, Z, L, o, c', sr, ev, ok⟩ => ?_
  obtain ⟨⟨os, c1⟩, e1, ev⟩ := Res.bind_ok ev
  refine ⟨c, Z, L, os, c1, sr, e1, fun vs H1 Z1 L1 Lr a t r => ?_⟩
  show spF E cf (vs ++ []) H1 Q E0
  rw [List.append_nil]
  exact call_rd a t r ev ok
theorem s_call0 {cf : List Vl → Res CR} {k : Nat} {f : Addr} {fd : FuncData} {ps : List Str} {x : Str} {p pos : Pos} (F : FnOk X.prog X.w X.K X.mg X.base CX0 k f fd ps (spF E cf)) (hr : Room k X.A) (hg : Gl X x) (hm : X.mg x = some (.ref f)) (hk : PySem.W.keepIn X.K (.ref f) = true) (hb : Binds X.K fd ps [])
    (hdb : (x == ("__debug__" : Str)) = false) : PE X (.Call (.Name x p) [] [] pos) (rdE E false (callF cf fun c => .ok ([], c))) := by
  refine (pe_call0 F hr hg hm hk hb .nil pass0 hdb).weak fun σ H Q ⟨c, Z, L, o, c', sr, ev, ok⟩ => ?_
  exact call_rd (os := []) (vs := []) (q := true) (E0 := E0) (.refl sr) .nil ⟨rfl, rfl⟩ ev ok
/-! ### the body of a def -/
def bodyF (np : Nat) (as : List Nat) (m : Nat) (body : Loc → Fl) : List Vl → Res CR := fun args =>
      match body (args.map some ++ List.replicate m none) with
      | .rt r c => outR np as r c
      | .nx c => outR np as (.v (.d .non)) c
      | .exc cl as _ => .exc cl as
      | _ => .no
theorem SR.map_len {cs : List Vl} {vs : List V} (sr : SR E (cs.map some) (vs.map some) H Z L) : cs.length = vs.length := by
  have := sr.rs.len
  simpa using this
theorem fn_ok {P : Program} {w : World} {K : PySem.W.Frag} {mg : Str → Option Value} {base : Heap} {x qual : Str} {st : Stmt} {f : Addr} {fd : FuncData} {N ps : List Str} {k : Nat} {as : List Nat} {body : Loc → Fl} {cf : List Vl → Res CR} (F : _root_.L2.FunD K x qual (defArgs st) (defBody st) (defScope st) [] [] f fd) (S : FnScope N ps (defScope st)) (hle : ps.length ≤ N.length)
    (hcf : ∀ args cr, cf args = .ok cr → args.length = ps.length ∧ bodyF ps.length as (N.length - ps.length) body args = .ok cr)
    (hb : ∀ (c : Addr) (A : Around) (outer : List Env) (s : Shared) (H : Hp) (E0 : XK), fd.code = .ref c → Room k (A.deeper (PyProof.Rows.envOfC qual (defScope st) s.heap.objs.size f (.ref c))) → PSs (cxOf CX0 P w K mg base N qual (defScope st) f (.ref c) A outer s H E0).nox (defBody st) (rdS E as body)) :
    FnOk P w K mg base CX0 (k + 1) f fd ps (spF E cf) := by
  obtain ⟨oc, od, dV, kV, doc, pm, an, cdv, ct, osl, rfl, lk, hcd, _, _⟩ := F.ex
  obtain ⟨cc, rfl⟩ : ∃ cc, cdv = .ref cc := by
    cases cdv with
    | ref cc => exact ⟨cc, rfl⟩
    | _ => cases hcd
  refine fn_of lk hcd S (fun vs H Q E0 ⟨cs, Z, L, cr, sr, ev, _⟩ => ?_) fun A outer s H vs Q E0 hr ⟨cs, Z, L, cr, sr, ev, ok⟩ => ?_
  · rw [← sr.map_len]; exact (hcf cs cr ev).1
  · obtain ⟨hl, ev⟩ := hcf cs cr ev
    have hlv : vs.length = ps.length := by rw [← sr.map_len]; exact hl
    refine ⟨_, (hb cc A outer s H E0 rfl hr).nox, ?_⟩
    have es : _root_.L2.start N vs = vs.map some ++ List.replicate (N.length - ps.length) none := by
      unfold _root_.L2.start
      rw [hlv]
    rw [es]
    have sr0 : SR E (cs.map some ++ List.replicate (N.length - ps.length) none) (vs.map some ++ List.replicate (N.length - ps.length) none) H Z L := ⟨sr.rs.more _, sr.nd, sr.nz, sr.zd, sr.ld, sr.tb⟩
    refine ⟨_, Z, L, sr0, ?_⟩
    unfold bodyF at ev
    have fin : ∀ {r c' σ' H' Z' L' Lr v}, outR ps.length as r c' = .ok cr → AftS E as L H Z (vs.map some ++ List.replicate (N.length - ps.length) none) c' σ' H' Z' L' → Tmp Lr L' L H Z' H' → RR E H' Z' σ' r v Lr → Q v H' := by
      intro r c' σ' H' Z' L' Lr v er a t rr
      unfold outR at er
      split at er
      rotate_left
      · cases er
      rename_i hlen
      obtain ⟨L2, sr2, m2⟩ := a.sr.outs hlv hlen a.un
      have t2 : Tmp Lr L2 L H Z' H' := ⟨t.nd, fun b hb z => t.dj b hb (m2 b z), t.nz, t.ld, t.sub⟩
      have sub2 : Sub L H L2 := fun b hb => a.sub b (m2 b hb)
      cases r with
      | v x =>
        cases er
        exact ok v H' Z' L2 Lr a.st sr2 sub2 t2 rr
      | par j =>
        simp only at er
        split at er
        rotate_left
        · cases er
        rename_i hj
        cases er
        obtain ⟨e1, e2⟩ := rr
        refine ok v H' Z' L2 Lr a.st sr2 sub2 t2 ⟨e1, ?_⟩
        rw [a.un j hj.2, List.getElem?_append_left (by simp; omega)] at e2
        exact e2
    split at ev
    · rename_i r c' hb'
      rw [hb']
      exact fun v σ' H' Z' L' Lr a t rr => fin ev a t rr
    · rename_i c' hb'
      rw [hb']
      exact fun σ' H' Z' L' a => fin (v := .non) (Lr := []) ev a .nil ⟨rfl, by unfold RD; rfl⟩
    · cases ev
    · cases ev
end
end G
namespace G
open PySem L2
section
variable {X : Cx} {E : Ev} {q q1 q2 : Bool} {as bs : List Nat} {e ea eb tg iter : Expr} {es : List Expr} {pos : Pos} {fa fb : Loc → Res (Opd × Loc)} {L L1 L2 Lr : List Addr} {H H1 H2 : Hp} {Z Z1 Z2 : Addr → Prop} {σ σ1 σ2 : Sg} {c c1 c2 : Loc}
theorem _root_.L2.PI.weak {X : Cx} {tg e : Expr} {t t' : TI} (h : PI X tg e t) (w : ∀ σ H R, t' σ H R → t σ H R) : PI X tg e t' := ⟨fun pins s σ H R I q => h.run pins s σ H R I (w σ H R q)⟩
theorem _root_.L2.PI.or {X : Cx} {tg e : Expr} {t t' : TI} (h : PI X tg e t) (h' : PI X tg e t') : PI X tg e (fun σ H R => t σ H R ∨ t' σ H R) := ⟨fun pins s σ H R I q => q.elim (h.run pins s σ H R I) (h'.run pins s σ H R I)⟩
/-- what a source hands out, as long as its place stays as it is -/
structure JOk (E : Ev) (J : It) (wk : Wk) (c1 : Loc) (σ : Sg) (H1 : Hp) (Z1 : Addr → Prop) (L1 : List Addr) : Prop where
  init : wk.still c1 = .ok ()
  go : ∀ qb as c2 σ2 H2 Z2 L2 i d, wk.free qb as = true → AftS E as L1 H1 Z1 σ c2 σ2 H2 Z2 L2 → (qb = true → Stp [] L1 H1 Z1 H2 Z2) → wk.still c2 = .ok () → wk.its[i]? = some d → J.go i H2 ∧ ∀ x H', J.yld i H2 x H' → Fr H2 H' [] ∧ RD E.K H' Z2 d x
  stop : ∀ qb as c2 σ2 H2 Z2 L2 i, wk.free qb as = true → AftS E as L1 H1 Z1 σ c2 σ2 H2 Z2 L2 → (qb = true → Stp [] L1 H1 Z1 H2 Z2) → wk.still c2 = .ok () → i = wk.its.length → J.stop i H2
def rdI (E : Ev) (q : Bool) (f : Loc → Res (Wk × Loc)) : TI := fun σ H R => ∃ c Z L wk c', SR E c σ H Z L ∧ f c = .ok (wk, c') ∧ ∀ J H' Z' L', Aft E q L H Z σ c' H' Z' L' → JOk E J wk c' σ H' Z' L' → R J H'
/-! ### for -/
def frF (as : List Nat) (fs : Loc → Res (Wk × Loc)) (t : D → Loc → Res Loc) (f : Loc → Fl) : Loc → Fl := fun c => match fs c with
    | .ok (wk, c1) => if wk.free false as then forL (fun c => stillF wk (f c)) t wk.its c1 else .no
    | .exc cl as => .exc cl as c
    | .no => .no
theorem s_fr {body : List Stmt} {fs : Loc → Res (Wk × Loc)} {t : D → Loc → Res Loc} {f : Loc → Fl} (hp : PassesOwn (model X.prog X.w) X.A X.env X.xe) (hc : X.calm = true) (hi : PI X tg iter (rdI E q fs)) (hg : PG X tg (rdG E as t)) (hb : PSs X body (rdS E bs f))
    (hs : ∀ x, foldedSetIterable iter X.env x = pure x) : PS X (.For tg iter body [] pos) (rdS E (as ++ bs) (frF (as ++ bs) fs t f)) := by
  refine (ps_for hp hc hi hg hb hs).weak fun D σ H ⟨c, Z, L, sr, ok⟩ => ?_
  unfold frF at ok
  split at ok
  rotate_left
  · exact ok.elim
  · exact ok.elim
  rename_i wk c1 e1
  split at ok
  rotate_left
  · exact ok.elim
  rename_i hf
  refine ⟨c, Z, L, wk, c1, sr, e1, fun J H1 Z1 L1 a jo => ?_⟩
  refine ⟨fun i m σ2 H2 => m = wk.its.length - i ∧ i ≤ wk.its.length ∧ ∃ c2 Z2 L2, AftS E (as ++ bs) L1 H1 Z1 σ c2 σ2 H2 Z2 L2 ∧ wk.still c2 = .ok () ∧ OkF E (as ++ bs) L H Z σ (forL (fun c => stillF wk (f c)) t (wk.its.drop i) c2) D, ⟨_, rfl, Nat.zero_le _, c1, Z1, L1, .refl a.sr, jo.init, ok⟩, ?_⟩
  rintro i m σ2 H2 ⟨rfl, hi', c2, Z2, L2, a2, st2, ok2⟩
  have toS : ∀ {c3 σ3 H3 Z3 L3}, AftS E (as ++ bs) L1 H1 Z1 σ c3 σ3 H3 Z3 L3 → AftS E (as ++ bs) L H Z σ c3 σ3 H3 Z3 L3 := fun b => a.s (as := []).trans b
  by_cases hlt : i < wk.its.length
  · obtain ⟨g1, g2⟩ := jo.go false _ c2 σ2 H2 Z2 L2 i wk.its[i] hf a2 (fun e => nomatch e) st2 (List.getElem?_eq_getElem hlt)
    refine .inr ⟨g1, fun σ' H' => ∃ c' Z' L', AftS E (as ++ bs) L1 H1 Z1 σ c' σ' H' Z' L' ∧ wk.still c' = .ok () ∧ OkF E (as ++ bs) L H Z σ (forL (fun c => stillF wk (f c)) t (wk.its.drop (i + 1)) c') D, fun σ' H' n => ⟨wk.its.length - (i + 1), by omega, rfl, hlt, n⟩, fun x H3 y => ?_⟩
    obtain ⟨f3, r3⟩ := g2 x H3 y
    rw [List.drop_eq_getElem_cons hlt] at ok2
    unfold forL at ok2
    split at ok2
    rotate_left
    · exact ok2.elim
    rename_i c3 e3
    have sr3 : SR E c2 σ2 H3 Z2 L2 := a2.sr.fr f3
    refine ⟨wk.its[i], c2, Z2, L2, c3, sr3, r3, e3, fun σ4 L4 sr4 m4 u4 => ?_⟩
    have a4 : AftS E (as ++ bs) L1 H1 Z1 σ c3 σ4 H3 Z2 L4 := (a2.trans (bs := as) ⟨f3.stp, sr4, fun b hb => .inl (m4 b hb), u4⟩).mono fun i hi => by
      rcases List.mem_append.mp hi with h | h
      · exact h
      · exact List.mem_append_left _ h
    refine ⟨c3, Z2, L4, sr4, ?_⟩
    have join : ∀ {c' σ' H' Z' L'}, AftS E bs L4 H3 Z2 σ4 c' σ' H' Z' L' → AftS E (as ++ bs) L1 H1 Z1 σ c' σ' H' Z' L' := fun b => (a4.trans b).mono fun i hi => by
      rcases List.mem_append.mp hi with h | h
      · exact h
      · exact List.mem_append_right _ h
    cases hfc : f c3 with
    | nx c5 =>
      have e5 : stillF wk (f c3) = (match wk.still c5 with | .ok _ => Fl.nx c5 | _ => Fl.no) := by rw [hfc]; rfl
      rw [e5] at ok2
      cases h5 : wk.still c5 with
      | ok u =>
        rw [h5] at ok2
        exact fun σ' H' Z' L' b => ⟨c5, Z', L', join b, h5, ok2⟩
      | exc _ _ => rw [h5] at ok2; exact ok2.elim
      | no => rw [h5] at ok2; exact ok2.elim
    | ct c5 =>
      have e5 : stillF wk (f c3) = (match wk.still c5 with | .ok _ => Fl.ct c5 | _ => Fl.no) := by rw [hfc]; rfl
      rw [e5] at ok2
      cases h5 : wk.still c5 with
      | ok u =>
        rw [h5] at ok2
        exact fun σ' H' Z' L' b => ⟨c5, Z', L', join b, h5, ok2⟩
      | exc _ _ => rw [h5] at ok2; exact ok2.elim
      | no => rw [h5] at ok2; exact ok2.elim
    | bk c5 =>
      rw [hfc] at ok2
      exact fun σ' H' Z' L' b => ok2 σ' H' Z' L' (toS (join b))
    | rt r c5 =>
      rw [hfc] at ok2
      exact fun v σ' H' Z' L' Lr b tm => ok2 v σ' H' Z' L' Lr (toS (join b)) ⟨tm.nd, tm.dj, tm.nz, tm.ld, (toS a4).sub.trans (toS a4).st.dom tm.sub⟩
    | exc _ _ _ => rw [hfc] at ok2; exact ok2.elim
    | no => rw [hfc] at ok2; exact ok2.elim
  · have hle : wk.its.length ≤ i := by omega
    refine .inl ⟨jo.stop false _ c2 σ2 H2 Z2 L2 i hf a2 (fun e => nomatch e) st2 (by omega), ?_⟩
    rw [List.drop_of_length_le hle] at ok2
    exact ok2 σ2 H2 Z2 L2 (toS a2)
/-! ### sources -/
mutual
theorem RD.nd {K : PySem.W.Frag} {H : Hp} {Z : Addr → Prop} : ∀ {d : D} {v : V}, RD K H Z d v → d.nd = true
  | .non, _, _ => by simp [D.nd]
  | .bl _, _, _ => by simp [D.nd]
  | .int _, _, _ => by simp [D.nd]
  | .str _, _, _ => by simp [D.nd]
  | .tup ds, v, h => by
    obtain ⟨a, vs, e, _, r⟩ := RD.tupI.mp h
    unfold D.nd
    exact RDs.nd r
  | .lst ds, v, h => by
    obtain ⟨a, vs, e, _, r⟩ := RD.lstI.mp h
    unfold D.nd
    exact RDs.nd r
  | .dic _, _, h => by unfold RD at h; exact h.elim
theorem RDs.nd {K : PySem.W.Frag} {H : Hp} {Z : Addr → Prop} : ∀ {ds : List D} {vs : List V}, RDs K H Z ds vs → D.nds ds = true
  | [], _, _ => by simp [D.nds]
  | d :: ds, _, h => by
    obtain ⟨v, r, _, h1, h2⟩ := RDs.cons.mp h
    unfold D.nds
    rw [RD.nd h1, RDs.nd h2]
    rfl
end
/-- what stands at a source, now and later: a list or a tuple of these items -/
def Held (E : Ev) (wk : Wk) (c1 : Loc) (σ : Sg) (H1 : Hp) (Z1 : Addr → Prop) (L1 : List Addr) (Sq : Hp → Addr → List V → Prop) (a : Addr) (xs : List D) : Prop :=
  (∃ vs, Sq H1 a vs ∧ RDs E.K H1 Z1 xs vs) ∧
  ∀ qb as c2 σ2 H2 Z2 L2, wk.free qb as = true → AftS E as L1 H1 Z1 σ c2 σ2 H2 Z2 L2 → (qb = true → Stp [] L1 H1 Z1 H2 Z2) → wk.still c2 = .ok () → ∃ vs, Sq H2 a vs ∧ RDs E.K H2 Z2 xs vs
theorem lk_free {wk : Wk} {qb : Bool} {o : Opd} {y : At} (h : (o, y) ∈ wk.lk) (hf : wk.free qb as = true) : (∃ i, o = .p i ∧ i ∉ as) ∨ (∃ i f, o = .q i f ∧ i ∉ as ∧ qb = true) := by
  have := List.all_eq_true.mp hf _ h
  cases o with
  | p i => exact .inl ⟨i, rfl, of_decide_eq_true this⟩
  | v _ => cases this
  | q i f =>
    have this : (qb && decide (i ∉ as)) = true := this
    rw [Bool.and_eq_true] at this
    exact .inr ⟨i, f, rfl, of_decide_eq_true this.2, this.1⟩
theorem stillL_mem {o : Opd} {xs : List D} : ∀ {l : List (Opd × At)}, (o, .l xs) ∈ l → stillL l c = .ok () → rdA o c = .ok (.l xs)
  | (o', y) :: r, h, e => by
    obtain ⟨z, e1, e⟩ := Res.bind_ok (show ((rdA o' c).bind fun z => (sameA y z).bind fun _ => stillL r c) = _ from e)
    obtain ⟨_, e2, e⟩ := Res.bind_ok e
    rcases List.mem_cons.mp h with h | h
    · cases h
      cases z with
      | l ys =>
        have := D.beqs_eq (gd_ok (show gd (D.beqs xs ys) = _ from e2))
        rw [e1, this]
      | d _ => cases e2
      | m _ => cases e2
    · exact stillL_mem h e
theorem stillL_app : ∀ {l r : List (Opd × At)}, stillL l c = .ok () → stillL r c = .ok () → stillL (l ++ r) c = .ok ()
  | [], r, _, h => h
  | (o, y) :: l, r, h, h2 => by
    obtain ⟨z, e1, e⟩ := Res.bind_ok (show ((rdA o c).bind fun z => (sameA y z).bind fun _ => stillL l c) = _ from h)
    obtain ⟨u, e2, e⟩ := Res.bind_ok e
    show ((rdA o c).bind fun z => (sameA y z).bind fun _ => stillL (l ++ r) c) = _
    rw [e1]
    show ((sameA y z).bind fun _ => stillL (l ++ r) c) = _
    rw [e2]
    exact stillL_app e h2
theorem src_init {x : Opd} {u : At} {v : V} (sr : SR E c1 σ H1 Z1 L1) (r : RO E H1 Z1 c1 σ x v Lr) (e : rdA x c1 = .ok u) : stillL (lkOf x u) c1 = .ok () := by
  have own : ∀ ys, u = .l ys → stillL [(x, .l ys)] c1 = .ok () := fun ys eu => by
    subst eu
    show ((rdA x c1).bind fun z => (sameA (At.l ys) z).bind fun _ => Res.ok ()) = _
    rw [e]
    show (gd (D.beqs ys ys)).bind (fun _ => Res.ok ()) = _
    obtain ⟨Lx, k⟩ := r.rdA sr e
    obtain ⟨_, _, _, _, _, k⟩ := k
    rw [D.beqs_refl (RDs.nd k)]
    rfl
  cases x with
  | v y => rfl
  | p i =>
    cases u with
    | l ys => exact own ys rfl
    | d _ => rfl
    | m _ => rfl
  | q i f =>
    cases u with
    | l ys => exact own ys rfl
    | d _ => rfl
    | m _ => rfl
theorem src_held {wk : Wk} {x : Opd} {u : At} {v : V} {xs : List D} (sr : SR E c1 σ H1 Z1 L1) (t : ∀ a ∈ Lr, a ∉ L1) (r : RO E H1 Z1 c1 σ x v Lr) (e : rdA x c1 = .ok u) (hlk : ∀ p ∈ lkOf x u, p ∈ wk.lk) (es : u.seq? = some xs) :
    ∃ a, v = .ref a ∧ ((u.isList = true ∧ Held E wk c1 σ H1 Z1 L1 (SqL E.K) a xs) ∨ (u = .d (.tup xs) ∧ Held E wk c1 σ H1 Z1 L1 (SqT E.K) a xs)) := by
  obtain ⟨Lx, k⟩ := r.rdA sr e
  cases u with
  | m _ => cases es
  | d d =>
    cases d with
    | lst ys =>
      cases es
      obtain ⟨a, vs, rfl, q, rr⟩ := RD.lstI.mp k.2
      refine ⟨a, rfl, .inl ⟨rfl, ⟨vs, q.sq, rr⟩, fun qb as c2 σ2 H2 Z2 L2 hf a2 qt st2 => ?_⟩⟩
      obtain ⟨a', vs', e', q', rr'⟩ := RD.lstI.mp (RD.stp a2.st (fun b hb hw => sr.nz b hw hb) _ _ k.2)
      cases e'
      exact ⟨vs', q'.sq, rr'⟩
    | tup ys =>
      cases es
      obtain ⟨a, vs, rfl, q, rr⟩ := RD.tupI.mp k.2
      refine ⟨a, rfl, .inr ⟨rfl, ⟨vs, q, rr⟩, fun qb as c2 σ2 H2 Z2 L2 hf a2 qt st2 => ?_⟩⟩
      obtain ⟨a', vs', e', q', rr'⟩ := RD.tupI.mp (RD.stp a2.st (fun b hb hw => sr.nz b hw hb) _ _ k.2)
      cases e'
      exact ⟨vs', q', rr'⟩
    | non => cases es
    | bl _ => cases es
    | int _ => cases es
    | str _ => cases es
    | dic _ => cases es
  | l ys =>
    cases es
    obtain ⟨a, vs, rfl, hL, q, rr⟩ := k
    refine ⟨a, rfl, .inl ⟨rfl, ⟨vs, .inl (.inl q), rr⟩, fun qb as c2 σ2 H2 Z2 L2 hf a2 qt st2 => ?_⟩⟩
    have late : RO E H2 Z2 c2 σ2 x (.ref a) [] → (x, .l xs) ∈ wk.lk → ∃ vs, SqL E.K H2 a vs ∧ RDs E.K H2 Z2 xs vs := fun r2 hm => by
      obtain ⟨Lx2, k2⟩ := r2.rdA a2.sr (stillL_mem hm st2)
      obtain ⟨a', vs', e', hL', q', rr'⟩ := k2
      cases e'
      exact ⟨vs', .inl (.inl q'), rr'⟩
    cases x with
    | v y =>
      have ey : y = .a (.l xs) := by
        unfold rdA at e
        split at e
        · rename_i z hz
          cases e
          cases hz
          rfl
        · cases e
      subst ey
      obtain ⟨a', vs', e', hL', q', rr'⟩ := r
      cases e'
      have hn : a ∉ L1 := t a (by rw [hL']; simp)
      exact ⟨vs', .inl (.inl (a2.st.keep _ _ q' hn rfl)), RDs.stp a2.st (fun b hb hw => sr.nz b hw hb) _ _ rr'⟩
    | p i =>
      have hm := hlk (.p i, .l xs) (by simp [lkOf])
      rcases lk_free hm hf with ⟨i', ei, hi⟩ | ⟨i', f, ei, _⟩
      · cases ei
        exact late ⟨rfl, by rw [a2.un i hi]; exact r.2⟩ hm
      · cases ei
    | q i f =>
      have hm := hlk (.q i f, .l xs) (by simp [lkOf])
      rcases lk_free hm hf with ⟨i', ei, hi⟩ | ⟨i', f', ei, hi, hq⟩
      · cases ei
      · cases ei
        obtain ⟨_, b, C, dx, fv, h1, h2, h3⟩ := r
        exact late ⟨rfl, b, C, dx, fv, by rw [a2.un i hi]; exact h1, (qt hq).keep _ _ h2 (by simp) rfl, h3⟩ hm
/-! items one by one -/
theorem jok_list {wk : Wk} {a : Addr} (i0 : wk.still c1 = .ok ()) (h : Held E wk c1 σ H1 Z1 L1 (SqL E.K) a wk.its) : JOk E (Itl E.K a) wk c1 σ H1 Z1 L1 where
  init := i0
  go := fun qb as c2 σ2 H2 Z2 L2 i d hf a2 qt st2 hi => by
    obtain ⟨vs, q, rr⟩ := h.2 qb as c2 σ2 H2 Z2 L2 hf a2 qt st2
    obtain ⟨v, hv, rv⟩ := rr.get hi
    refine ⟨⟨vs, v, q, hv⟩, fun x H' y => ?_⟩
    obtain ⟨e, y⟩ := y
    subst e
    have := y vs q
    rw [hv] at this
    cases this
    exact ⟨.refl, rv⟩
  stop := fun qb as c2 σ2 H2 Z2 L2 i hf a2 qt st2 hi => by
    obtain ⟨vs, q, rr⟩ := h.2 qb as c2 σ2 H2 Z2 L2 hf a2 qt st2
    exact ⟨vs, q, by rw [← rr.len]; exact Nat.le_of_eq hi.symm⟩
theorem jok_tup {wk : Wk} {a : Addr} (i0 : wk.still c1 = .ok ()) (h : Held E wk c1 σ H1 Z1 L1 (SqT E.K) a wk.its) : JOk E (Itt E.K a) wk c1 σ H1 Z1 L1 where
  init := i0
  go := fun qb as c2 σ2 H2 Z2 L2 i d hf a2 qt st2 hi => by
    obtain ⟨vs, q, rr⟩ := h.2 qb as c2 σ2 H2 Z2 L2 hf a2 qt st2
    obtain ⟨v, hv, rv⟩ := rr.get hi
    refine ⟨⟨vs, v, q, hv⟩, fun x H' y => ?_⟩
    obtain ⟨e, y⟩ := y
    subst e
    have := y vs q
    rw [hv] at this
    cases this
    exact ⟨.refl, rv⟩
  stop := fun qb as c2 σ2 H2 Z2 L2 i hf a2 qt st2 hi => by
    obtain ⟨vs, q, rr⟩ := h.2 qb as c2 σ2 H2 Z2 L2 hf a2 qt st2
    exact ⟨vs, q, by rw [← rr.len]; exact Nat.le_of_eq hi.symm⟩
theorem jok_str {z : Str} : JOk E (Its z) ⟨z.cps.toList.map fun ch => .str ⟨#[ch]⟩, []⟩ c1 σ H1 Z1 L1 where
  init := rfl
  go := fun qb as c2 σ2 H2 Z2 L2 i d hf a2 qt st2 hi => by
    have hi : (z.cps.toList.map fun ch => D.str ⟨#[ch]⟩)[i]? = some d := hi
    rw [List.getElem?_map] at hi
    cases hc : z.cps.toList[i]? with
    | none => rw [hc] at hi; cases hi
    | some ch =>
      rw [hc] at hi
      cases hi
      obtain ⟨hl, _⟩ := List.getElem?_eq_some_iff.mp hc
      refine ⟨show i < z.cps.size by simpa using hl, fun x H' y => ?_⟩
      obtain ⟨e, c', hc', ex⟩ := y
      subst e ex
      rw [← Array.getElem?_toList, hc] at hc'
      cases hc'
      exact ⟨.refl, by unfold RD; rfl⟩
  stop := fun qb as c2 σ2 H2 Z2 L2 i hf a2 qt st2 hi => by
    have hi : (z.cps.toList.map fun ch => D.str ⟨#[ch]⟩).length ≤ i := Nat.le_of_eq hi.symm
    show z.cps.size ≤ i
    simpa using hi
def srSeq (fa : Loc → Res (Opd × Loc)) : Loc → Res (Wk × Loc) := fun c => (fa c).bind fun (x, c1) => (rdA x c1).bind fun u => (items u).bind fun its => .ok (⟨its, lkOf x u⟩, c1)
theorem items_seq {u : At} {xs : List D} (h : ∀ z, u ≠ .d (.str z)) (e : items u = .ok xs) : u.seq? = some xs := by
  unfold items at e
  split at e
  · exact absurd rfl (h _)
  · exact isOk_ok e
theorem i_seq (hK : X.K = E.K) (ha : PE X e (rdE E q fa)) : PI X tg e (rdI E q (srSeq fa)) := by
  refine ((pi_list ha).or ((pi_tup ha).or (pi_str ha))).weak fun σ H R ⟨c, Z, L, wk, c', sr, ev, ok⟩ => ?_
  rw [hK]
  obtain ⟨⟨x, c1⟩, e1, ev⟩ := Res.bind_ok ev
  obtain ⟨u, e2, ev⟩ := Res.bind_ok ev
  obtain ⟨its, e3, ev⟩ := Res.bind_ok ev
  cases ev
  by_cases hs : ∃ z, u = .d (.str z)
  · obtain ⟨z, rfl⟩ := hs
    obtain ⟨_, _, e3⟩ := Res.bind_ok (show ((gd (fits z.length)).bind fun _ => Res.ok (z.cps.toList.map fun ch => D.str ⟨#[ch]⟩)) = _ from e3)
    cases e3
    refine .inr (.inr ⟨c, Z, L, x, _, sr, e1, fun v H1 Z1 L1 Lr a t r => ?_⟩)
    obtain ⟨Lx, k⟩ := r.rdA a.sr e2
    refine ⟨z, strE k, ok _ H1 Z1 L1 a ?_⟩
    have : lkOf x (At.d (D.str z)) = [] := by cases x <;> rfl
    rw [this]
    exact jok_str
  · have e4 := items_seq (fun z e => hs ⟨z, e⟩) e3
    by_cases hl : u.isList = true
    · refine .inl ⟨c, Z, L, x, _, sr, e1, fun v H1 Z1 L1 Lr a t r => ?_⟩
      obtain ⟨b, rfl, ⟨_, h⟩ | ⟨h, _⟩⟩ := src_held (wk := ⟨its, lkOf x u⟩) a.sr t.dj r e2 (fun _ h => h) e4
      · obtain ⟨vs, q0, _⟩ := h.1
        exact ⟨b, rfl, ⟨vs, q0⟩, ok _ H1 Z1 L1 a (jok_list (src_init a.sr r e2) h)⟩
      · rw [h] at hl; cases hl
    · refine .inr (.inl ⟨c, Z, L, x, _, sr, e1, fun v H1 Z1 L1 Lr a t r => ?_⟩)
      obtain ⟨b, rfl, ⟨h, _⟩ | ⟨_, h⟩⟩ := src_held (wk := ⟨its, lkOf x u⟩) a.sr t.dj r e2 (fun _ h => h) e4
      · exact absurd h hl
      · obtain ⟨vs, q0, _⟩ := h.1
        exact ⟨b, rfl, ⟨vs, q0⟩, ok _ H1 Z1 L1 a (jok_tup (src_init a.sr r e2) h)⟩
/-! reversed -/
def srRev (fa : Loc → Res (Opd × Loc)) : Loc → Res (Wk × Loc) := fun c => (fa c).bind fun (x, c1) => (rdA x c1).bind fun u => (isOk u.seq?).bind fun its => .ok (⟨its.reverse, lkOf x u⟩, c1)
theorem rev_get {α : Type} {xs : List α} {i : Nat} {d : α} (h : xs.reverse[i]? = some d) : i < xs.length ∧ xs[xs.length - 1 - i]? = some d := by
  obtain ⟨hl, _⟩ := List.getElem?_eq_some_iff.mp h
  rw [List.length_reverse] at hl
  rw [List.getElem?_reverse hl] at h
  exact ⟨hl, h⟩
theorem i_rev (hK : X.K = E.K) {p : Pos} (hg : Gl X "reversed") (hm : X.mg "reversed" = none) (ha : PE X e (rdE E q fa)) (hs : starEach [e] X.env = (false, eval e X.env) :: starEach [] X.env) : PI X tg (.Call (.Name "reversed" p) [e] [] pos) (rdI E q (srRev fa)) := by
  refine (RT.pi_revA hg hm ha hs).weak fun σ H R ⟨c, Z, L, wk, c', sr, ev, ok⟩ => ?_
  rw [hK]
  obtain ⟨⟨x, c1⟩, e1, ev⟩ := Res.bind_ok ev
  obtain ⟨u, e2, ev⟩ := Res.bind_ok ev
  obtain ⟨its, e3, ev⟩ := Res.bind_ok ev
  cases ev
  refine ⟨c, Z, L, x, _, sr, e1, fun v H1 Z1 L1 Lr a t r => ?_⟩
  obtain ⟨b, rfl, hh⟩ := src_held (wk := ⟨its.reverse, lkOf x u⟩) a.sr t.dj r e2 (fun _ h => h) (isOk_ok e3)
  rcases hh with ⟨_, h⟩ | ⟨_, h⟩
  · obtain ⟨vs0, q0, r0⟩ := h.1
    refine ⟨b, vs0, rfl, .inl ⟨q0, ok _ H1 Z1 L1 a ⟨src_init a.sr r e2, fun qb as c2 σ2 H2 Z2 L2 i d hf a2 qt st2 hi => ?_, fun qb as c2 σ2 H2 Z2 L2 i hf a2 qt st2 hi => ?_⟩⟩⟩
    · obtain ⟨vs, qq, rr⟩ := h.2 qb as c2 σ2 H2 Z2 L2 hf a2 qt st2
      obtain ⟨h1, h2⟩ := rev_get hi
      obtain ⟨w, hw, rw'⟩ := rr.get h2
      have l0 := r0.len
      rw [l0] at hw h1
      refine ⟨⟨h1, vs, w, qq, hw⟩, fun y H' yy => ?_⟩
      obtain ⟨e, y2⟩ := yy
      subst e
      have := y2 vs qq
      rw [hw] at this
      cases this
      exact ⟨.refl, rw'⟩
    · show vs0.length ≤ i
      have hi : its.reverse.length ≤ i := Nat.le_of_eq hi.symm
      rw [List.length_reverse, r0.len] at hi
      exact hi
  · obtain ⟨vs0, q0, r0⟩ := h.1
    refine ⟨b, vs0, rfl, .inr ⟨q0, ok _ H1 Z1 L1 a ⟨src_init a.sr r e2, fun qb as c2 σ2 H2 Z2 L2 i d hf a2 qt st2 hi => ?_, fun qb as c2 σ2 H2 Z2 L2 i hf a2 qt st2 hi => ?_⟩⟩⟩
    · obtain ⟨vs, qq, rr⟩ := h.2 qb as c2 σ2 H2 Z2 L2 hf a2 qt st2
      obtain ⟨h1, h2⟩ := rev_get hi
      obtain ⟨w, hw, rw'⟩ := rr.get h2
      have l0 := r0.len
      rw [l0] at hw h1
      refine ⟨⟨h1, vs, w, qq, hw⟩, fun y H' yy => ?_⟩
      obtain ⟨e, y2⟩ := yy
      subst e
      have := y2 vs qq
      rw [hw] at this
      cases this
      exact ⟨.refl, rw'⟩
    · show vs0.length ≤ i
      have hi : its.reverse.length ≤ i := Nat.le_of_eq hi.symm
      rw [List.length_reverse, r0.len] at hi
      exact hi
/-! range -/
theorem rngI_get {lo hi : Int} {i : Nat} {d : D} (h : (rngI lo hi)[i]? = some d) : i < (hi - lo).toNat ∧ d = .int (lo + i) := by
  unfold rngI at h
  rw [List.getElem?_map] at h
  cases hr : (List.range (hi - lo).toNat)[i]? with
  | none => rw [hr] at h; cases h
  | some k =>
    rw [hr] at h
    obtain ⟨h1, h2⟩ := List.getElem?_eq_some_iff.mp hr
    simp at h1 h2
    subst h2
    cases h
    exact ⟨by omega, rfl⟩
theorem jok_rng {lo hi : Int} : JOk E (Itr lo (hi - lo).toNat) ⟨rngI lo hi, []⟩ c1 σ H1 Z1 L1 where
  init := rfl
  go := fun qb as c2 σ2 H2 Z2 L2 i d hf a2 qt st2 hi => by
    obtain ⟨h1, rfl⟩ := rngI_get hi
    refine ⟨h1, fun x H' y => ?_⟩
    obtain ⟨e, ex⟩ := y
    subst e ex
    exact ⟨.refl, by unfold RD; rfl⟩
  stop := fun qb as c2 σ2 H2 Z2 L2 i hf a2 qt st2 h => by
    have h : (rngI lo hi).length ≤ i := Nat.le_of_eq h.symm
    unfold rngI at h
    show (hi - lo).toNat ≤ i
    simpa using h
def srRng (fs : Loc → Res (List Opd × Loc)) : Loc → Res (Wk × Loc) := fun c => (fs c).bind fun (os, c1) => (rdOs os c1).bind fun vs => match vs.mapM fun | .a x => some x | _ => none with
    | some xs => (rng xs).bind fun its => .ok (⟨its, []⟩, c1)
    | none => .no
theorem RAs.nil {K : PySem.W.Frag} {H : Hp} {Z : Addr → Prop} {xs : List V} (h : RAs K H Z [] xs) : xs = [] := by unfold RAs at h; exact h
theorem RAs.cons {K : PySem.W.Frag} {H : Hp} {Z : Addr → Prop} {x : At} {ys : List At} {xs : List V} (h : RAs K H Z (x :: ys) xs) : ∃ v r L, xs = v :: r ∧ RA K H Z x v L ∧ RAs K H Z ys r := by unfold RAs at h; exact h
theorem RAs.len {K : PySem.W.Frag} {H : Hp} {Z : Addr → Prop} : ∀ {ys : List At} {xs : List V}, RAs K H Z ys xs → ys.length = xs.length
  | [], _, h => by rw [h.nil]; rfl
  | _ :: ys, _, h => by
    obtain ⟨v, r, L, e, _, h2⟩ := h.cons
    rw [e]
    simp [RAs.len h2]
theorem i_rng1 {p : Pos} {fs : Loc → Res (List Opd × Loc)} (hg : Gl X "range") (hm : X.mg "range" = none) (ha : PA X [e] (rdAs E q fs)) (hl : ∀ c os c', fs c = .ok (os, c') → os.length = 1) (hs : starEach [e] X.env = [(false, eval e X.env)]) : PI X tg (.Call (.Name "range" p) [e] [] pos) (rdI E q (srRng fs)) := by
  refine (pi_range1 hg hm ha hs).weak fun σ H R ⟨c, Z, L, wk, c', sr, ev, ok⟩ => ?_
  obtain ⟨⟨os, c1⟩, e1, ev⟩ := Res.bind_ok ev
  obtain ⟨vs, e2, ev⟩ := Res.bind_ok ev
  split at ev
  rotate_left
  · cases ev
  rename_i xs hx
  obtain ⟨its, e3, ev⟩ := Res.bind_ok ev
  cases ev
  refine ⟨c, Z, L, os, _, sr, e1, fun ws H1 Z1 L1 Lr a t r => ?_⟩
  have ra := rd_ats a.sr r e2 hx
  have h1 := hl _ _ _ e1
  rw [r.len, ← ra.len] at h1
  unfold rng at e3
  split at e3
  · rename_i j
    obtain ⟨_, g, e3⟩ := Res.bind_ok e3
    cases e3
    obtain ⟨k1, k2⟩ := okR_ok (gd_ok g)
    obtain ⟨v, Lv, rfl, k⟩ := ra.one
    refine ⟨j, by rw [intE k], k1, k2, ok (Itr 0 j.toNat) H1 Z1 L1 a ?_⟩
    have e0 : j.toNat = (j - 0).toNat := by simp
    rw [e0]
    exact jok_rng
  · simp at h1
  · cases e3
theorem i_rng2 {e2' : Expr} {p : Pos} {fs : Loc → Res (List Opd × Loc)} (hg : Gl X "range") (hm : X.mg "range" = none) (ha : PA X [e, e2'] (rdAs E q fs)) (hl : ∀ c os c', fs c = .ok (os, c') → os.length = 2) (hs : starEach [e, e2'] X.env = [(false, eval e X.env), (false, eval e2' X.env)]) (hs2 : starEach [e2'] X.env = [(false, eval e2' X.env)]) : PI X tg (.Call (.Name "range" p) [e, e2'] [] pos) (rdI E q (srRng fs)) := by
  refine (pi_range2 hg hm ha hs hs2).weak fun σ H R ⟨c, Z, L, wk, c', sr, ev, ok⟩ => ?_
  obtain ⟨⟨os, c1⟩, e1, ev⟩ := Res.bind_ok ev
  obtain ⟨vs, e2, ev⟩ := Res.bind_ok ev
  split at ev
  rotate_left
  · cases ev
  rename_i xs hx
  obtain ⟨its, e3, ev⟩ := Res.bind_ok ev
  cases ev
  refine ⟨c, Z, L, os, _, sr, e1, fun ws H1 Z1 L1 Lr a t r => ?_⟩
  have ra := rd_ats a.sr r e2 hx
  have h1 := hl _ _ _ e1
  rw [r.len, ← ra.len] at h1
  unfold rng at e3
  split at e3
  · simp at h1
  · rename_i i j
    obtain ⟨_, g, e3⟩ := Res.bind_ok e3
    cases e3
    have g := gd_ok g
    rw [Bool.and_eq_true] at g
    obtain ⟨k1, k2⟩ := okR_ok g.1
    obtain ⟨k3, k4⟩ := okR_ok g.2
    obtain ⟨v, r1, Lv, rfl, k, ra⟩ := ra.cons
    obtain ⟨v2, Lv2, rfl, kk⟩ := ra.one
    exact ⟨i, j, by rw [intE k, intE kk], ⟨k1, k2, k3, k4⟩, ok _ H1 Z1 L1 a jok_rng⟩
  · cases e3
end
end G
set_option maxHeartbeats 1000000
namespace G
open PySem L2 PySem.Spec PyProof.Rows
/-! a list (true) or a tuple (false) that is gone through -/
def SqB (K : PySem.W.Frag) : Bool → Hp → Addr → List V → Prop
  | true => SqL K
  | false => SqT K
def ItB : Bool → Heap → Addr → Addr → Nat → Prop
  | true => fun h it a i => h.IsListIter it a i
  | false => fun h it a i => h.IsTupleIter it a i
def SqO : Bool → Heap → Addr → Array Value → Prop
  | true => fun h a its => h.IsList a its
  | false => fun h a its => h.IsTuple a its
def itO : Bool → Addr → Obj
  | true => fun a => { cls := .type "list_iterator", data := .fields #[.ref a, .int 0 0] }
  | false => fun a => { cls := .type "tuple_iterator", data := .fields #[.ref a, .int 0 0] }
theorem draws_b {prog : Program} {w : World} {A : Around} (hh : A.handled = none) (b : Bool) (it a : Addr) (hne : a ≠ it) (its : Array Value) : Draws prog w A it [it, a] its.size (fun i v => its[i]? = some v) (fun i h => ItB b h it a i ∧ SqO b h a its) := by
  cases b
  · exact Draws.tuple hh it a hne its
  · exact Draws.list hh it a hne its
theorem begins_b (b : Bool) (a : Addr) (its : Array Value) : Begins (.ref a) (itO b a) fun h => SqO b h a its := by
  cases b
  · exact begins_tuple a its
  · exact begins_list a its
theorem ItB.new {b : Bool} {h : Heap} {it a : Addr} (e : h.get? it = some (itO b a)) : ItB b h it a 0 := by
  cases b
  · exact ⟨_, e, rfl, rfl⟩
  · exact ⟨_, e, rfl, rfl⟩
theorem ItB.obj {b : Bool} {h : Heap} {it a : Addr} {i : Nat} (e : ItB b h it a i) : ∃ o, h.get? it = some o ∧ ∀ v, o.data ≠ .cell v := by
  cases b
  · obtain ⟨o, e, c, d⟩ := e
    exact ⟨o, e, fun v z => by rw [d] at z; cases z⟩
  · obtain ⟨o, e, c, d⟩ := e
    exact ⟨o, e, fun v z => by rw [d] at z; cases z⟩
theorem ItB.at' {b : Bool} {h h' : Heap} {it a : Addr} {i : Nat} (e : ItB b h it a i) (k : ∀ o, h.get? it = some o → h'.get? it = some o) : ItB b h' it a i := by
  cases b
  · obtain ⟨o, e, r⟩ := e
    exact ⟨o, k o e, r⟩
  · obtain ⟨o, e, r⟩ := e
    exact ⟨o, k o e, r⟩
section
variable {X : Cx} {pins : List (Addr × Obj)} {σ : L2.St} {H : Hp} {s : Shared}
theorem Inv.sqB (I : Inv X pins σ H s) {b : Bool} {a : Addr} {xs : List V} (h : SqB X.K b H a xs) : ∃ its : List Value, Vals xs its ∧ SqO b s.heap a its.toArray ∧ xs.length ≤ sizeLine ∧ a < s.heap.objs.size := by
  cases b
  · obtain ⟨its, rv, p, hz⟩ := I.tuple h
    obtain ⟨o, ho, _⟩ := id p
    exact ⟨its, rv, p, hz, Heap.lt_size ho⟩
  · obtain ⟨its, rv, p, hz⟩ := I.list h
    exact ⟨its, rv, p.isList, hz, p.lt⟩
theorem Inv.sqB_inj (I : Inv X pins σ H s) {b : Bool} {a : Addr} {xs ys : List V} (h : SqB X.K b H a xs) (h' : SqB X.K b H a ys) : xs = ys := by
  cases b
  · exact I.tuple_inj h h'
  · exact I.list_inj h h'
end
/-! ### zip -/
def ItzB (K : PySem.W.Frag) (b1 b2 : Bool) (a b : Addr) : It :=
  ⟨fun i H => ∃ (xs ys : List V) (x y : V), SqB K b1 H a xs ∧ SqB K b2 H b ys ∧ xs[i]? = some x ∧ ys[i]? = some y,
    fun i H v H' => ∃ T x y, v = .ref T ∧ H T = none ∧ H' = upd H T (.tup [x, y]) ∧ (∀ xs, SqB K b1 H a xs → xs[i]? = some x) ∧ ∀ ys, SqB K b2 H b ys → ys[i]? = some y,
    fun i H => ∃ xs ys : List V, SqB K b1 H a xs ∧ SqB K b2 H b ys ∧ i ≤ xs.length ∧ i ≤ ys.length ∧ (i = xs.length ∨ i = ys.length)⟩
theorem turn_zipB {P : Program} {w : World} {K : PySem.W.Frag} {elts : List Expr} {kk : Nat} {tpos : Pos} {b1 b2 : Bool} {a b z TI TO i1 i2 : Addr} (D : ZipSep2 z TI TO i1 i2 [i1, a] [i2, b]) (n1 : a ≠ i1) (n2 : b ≠ i2) :
    Turn P w K (.Tuple elts kk tpos) (ItzB K b1 b2 a b) [z, TI, TO, i1, i2] z (fun i h => IsZip h z TI TO .none ∧ IsTupOf2 h TI (.ref i1) (.ref i2) ∧ (∃ x y, IsTupOf2 h TO x y) ∧ ItB b1 h i1 a i ∧ ItB b2 h i2 b i) where
  mem := by simp
  obj := fun i h st c hc => by
    obtain ⟨hz, hTI, ⟨x, y, hTO⟩, s1, s2⟩ := st
    have e' : c = z ∨ c = TI ∨ c = TO ∨ c = i1 ∨ c = i2 := by simpa using hc
    rcases e' with q | q | q | q | q
    · rw [q]; exact ⟨_, hz, fun v q => nomatch q⟩
    · rw [q]; exact ⟨_, hTI, fun v q => nomatch q⟩
    · rw [q]; exact ⟨_, hTO, fun v q => nomatch q⟩
    · rw [q]; exact s1.obj
    · rw [q]; exact s2.obj
  keep := fun i h h' st k => by
    obtain ⟨hz, hTI, ⟨x, y, hTO⟩, h1, h2⟩ := st
    exact ⟨k z (by simp) _ hz, k TI (by simp) _ hTI, ⟨x, y, k TO (by simp) _ hTO⟩, h1.at' fun o q => k i1 (by simp) o q, h2.at' fun o q => k i2 (by simp) o q⟩
  item := by
    intro X hP hw hK hc i pins s σ H E I hf st hg
    subst hP hw hK
    obtain ⟨hz, hTI, ⟨x0, y0, hTO⟩, h1, h2⟩ := st
    obtain ⟨xs, ys, x, y, hqx, hqy, hx, hy⟩ := hg
    obtain ⟨its, rv, p, _, _⟩ := Inv.sqB I hqx
    obtain ⟨its2, rv2, p2, _, _⟩ := Inv.sqB I hqy
    obtain ⟨u, hu, ru⟩ := rv.get hx
    obtain ⟨u2, hu2, ru2⟩ := rv2.get hy
    have hzl : z < s.heap.objs.size := Heap.lt_size hz
    have g1 : i < its.toArray.size := by
      obtain ⟨h, _⟩ := List.getElem?_eq_some_iff.mp hu
      simpa using h
    have g2 : i < its2.toArray.size := by
      obtain ⟨h, _⟩ := List.getElem?_eq_some_iff.mp hu2
      simpa using h
    refine wpAny_pyNext_zipD2_item D (draws_b (A := X.A.in1) (I.ok.hd hc) b1 i1 a n1 its.toArray) (draws_b (A := X.A.in1) (I.ok.hd hc) b2 i2 b n2 its2.toArray) hz hTI hTO ⟨h1, p⟩ ⟨h2, p2⟩ g1 g2 fun v1 v2 h' tk e1 e2 z' TO' h1' h2' hT hsz hk => ?_
    have e1 : v1 = u := by
      have e1 : its.toArray[i]? = some v1 := e1
      have hu : its.toArray[i]? = some u := by simpa using hu
      rw [hu] at e1
      exact (Option.some.inj e1).symm
    have e2 : v2 = u2 := by
      have e2 : its2.toArray[i]? = some v2 := e2
      have hu2 : its2.toArray[i]? = some u2 := by simpa using hu2
      rw [hu2] at e2
      exact (Option.some.inj e2).symm
    subst e1 e2
    refine ⟨_, rfl, wpAny_letOwnedTupleGo_zip (s := { s with heap := h', toks := tk }) z' fun h'' z'' sb => ?_⟩
    have hT2 : h''.get? s.heap.objs.size = some { cls := .type "tuple", data := .seq #[v1, v2] } := (sb.2 _ (Nat.ne_of_gt hzl)).trans hT
    have new : ObjOk X.prog X.w (upd H s.heap.objs.size (.tup [x, y])) h'' s.heap.objs.size (.tup [x, y]) :=
      ⟨by show 2 ≤ sizeLine; decide, [v1, v2], .cons ru (.cons ru2 .nil), ⟨_, hT2, rfl, _, rfl⟩⟩
    have I1 : Inv X pins σ (upd H s.heap.objs.size (.tup [x, y])) { s with heap := h'', toks := tk } :=
      I.turnedNew (t' := tk) (ch := [z, TI, TO, i1, i2]) (fun c o hb q => (sb.2 c (fun q' => hb (by simp [q']))).trans (hk c o (fun q' => hb (by simp [q'])) (fun q' => hb (by simp [q'])) (fun q' => hb (by simp [q'])) (fun q' => hb (by simp [q'])) q)) hf (Nat.le_refl _) new
    have i1z : i1 ≠ z := fun q => D.zf1 (by rw [← q]; simp)
    have i2z : i2 ≠ z := fun q => D.zf2 (by rw [← q]; simp)
    refine ⟨.ref s.heap.objs.size, _, I1, rfl, ⟨_, x, y, rfl, I.hok.fresh (Nat.le_refl _), rfl, fun l hl => by rw [Inv.sqB_inj I hl hqx]; exact hx, fun l hl => by rw [Inv.sqB_inj I hl hqy]; exact hy⟩, ⟨z'', ?_, ⟨v1, v2, ?_⟩, ?_, ?_⟩, fun c hcm => ?_⟩
    · exact (sb.2 _ D.TIz).trans (hk _ _ D.TIz D.TITO D.TIi1 D.TIi2 hTI)
    · exact (sb.2 _ D.TOz).trans TO'
    · exact h1'.1.at' fun o q => (sb.2 _ i1z).trans q
    · exact h2'.1.at' fun o q => (sb.2 _ i2z).trans q
    · have hlt : c < s.heap.objs.size := by
        have e' : c = z ∨ c = TI ∨ c = TO ∨ c = i1 ∨ c = i2 := by simpa using hcm
        rcases e' with q | q | q | q | q
        · rw [q]; exact hzl
        · rw [q]; exact Heap.lt_size hTI
        · rw [q]; exact Heap.lt_size hTO
        · rw [q]; obtain ⟨_, e1, _⟩ := h1.obj; exact Heap.lt_size e1
        · rw [q]; obtain ⟨_, e2, _⟩ := h2.obj; exact Heap.lt_size e2
      rw [upd_ne (Nat.ne_of_lt hlt)]
      exact (hf c hcm).1
  done := by
    intro X hP hw hK hc i pins s σ H E I hf st hg
    subst hP hw hK
    obtain ⟨hz, hTI, ⟨x0, y0, hTO⟩, h1, h2⟩ := st
    obtain ⟨xs, ys, hqx, hqy, l1, l2, hend⟩ := hg
    obtain ⟨its, rv, p, _, _⟩ := Inv.sqB I hqx
    obtain ⟨its2, rv2, p2, _, _⟩ := Inv.sqB I hqy
    have m1 := rv.length
    have m2 := rv2.length
    exact wpAny_pyNext_zipD2_end D (draws_b (A := X.A.in1) (I.ok.hd hc) b1 i1 a n1 its.toArray) (draws_b (A := X.A.in1) (I.ok.hd hc) b2 i2 b n2 its2.toArray) hz hTI hTO (i := i) ⟨h1, p⟩ ⟨h2, p2⟩ (by simp; omega) (by simp; omega) (by simp; omega) fun h' tk hk => ⟨rfl, I.turnedL (t' := tk) (ch := [z, TI, TO, i1, i2]) (fun c o hb q =>
      hk c o (fun q' => hb (by simp [q'])) (fun q' => hb (by simp [q'])) (fun q' => hb (by simp [q'])) (fun q' => hb (by simp [q'])) q) hf⟩
  self := fun A i s Q E st h => wpAny_pyIter_zip st.1 h
def iZipB (K : PySem.W.Frag) (ta : TA) : TI := fun σ H R => ta σ H fun vs H1 => ∃ b1 b2 a b xs ys, vs = [.ref a, .ref b] ∧ SqB K b1 H1 a xs ∧ SqB K b2 H1 b ys ∧ R (ItzB K b1 b2 a b) H1
theorem pi_zipB {X : Cx} {e e2 : Expr} {ta : TA} {p pos tpos : Pos} {elts : List Expr} {kk : Nat} (hg : Gl X "zip") (hm : X.mg "zip" = none) (ha : PA X [e, e2] ta)
    (hs : starEach [e, e2] X.env = (false, eval e X.env) :: starEach [e2] X.env) (hpl : (backTo pos (starEach [e2] X.env)).any (·.1) = false) :
    PI X (.Tuple elts kk tpos) (.Call (.Name "zip" p) [e, e2] [] pos) (iZipB X.K ta) := by
  refine ⟨fun pins s σ H R I h => ?_⟩
  refine Call_ (ld_blt I hg hm PyProof.Rows.boot_zip (PyProof.Rows.callWith_type1 (thn (ha.run pos pins s σ H _ I h) fun us s1 ⟨vs, H1, I1, r1, q1⟩ => ?_) hs hpl))
  obtain ⟨b1, b2, a, b, xs, ys, ex, hqx, hqy, q⟩ := q1
  subst ex
  cases r1 with
  | cons r rr =>
    cases rr with
    | cons r' rr =>
      cases rr
      cases r
      cases r'
      obtain ⟨its, rv, p1, _, la⟩ := Inv.sqB I1 hqx
      obtain ⟨its2, rv2, p2, _, lb⟩ := Inv.sqB I1 hqy
      refine zip_begins2 (begins_b b1 a its.toArray) (begins_b b2 b its2.toArray) p1 p2 fun h' hz hTI hTO h1 h2 hsz hk => wpAny_pyIter_zip hz ?_
      have I2 : Inv X pins σ H1 { s1 with heap := h' } := I1.kept (t' := s1.toks) hk
      refine ⟨s1.heap.objs.size + 4, [s1.heap.objs.size + 4, s1.heap.objs.size + 2, s1.heap.objs.size + 3, s1.heap.objs.size, s1.heap.objs.size + 1], _, _, H1, rfl, I2, turn_zipB (zip_sep2 (fp1 := [a]) (fp2 := [b]) (fun c hc => by simp at hc; subst hc; exact la) (fun c hc => by simp at hc; subst hc; exact lb)) (Nat.ne_of_lt la) (Nat.ne_of_lt (Nat.lt_succ_of_lt lb)), ⟨hz, hTI, ⟨_, _, hTO⟩, ItB.new h1, ItB.new h2⟩, fun c hcm => ?_, q⟩
      have e' : c = s1.heap.objs.size + 4 ∨ c = s1.heap.objs.size + 2 ∨ c = s1.heap.objs.size + 3 ∨ c = s1.heap.objs.size ∨ c = s1.heap.objs.size + 1 := by simpa using hcm
      have hle : s1.heap.objs.size ≤ c := by
        rcases e' with z | z | z | z | z
        · rw [z]; exact Nat.le_add_right _ _
        · rw [z]; exact Nat.le_add_right _ _
        · rw [z]; exact Nat.le_add_right _ _
        · rw [z]; exact Nat.le_refl _
        · rw [z]; exact Nat.le_add_right _ _
      exact I1.fpOk hle (I1.hok.fresh hle)
/-! ### enumerate -/
def IteB (K : PySem.W.Frag) (b : Bool) (a : Addr) : It :=
  ⟨fun i H => ∃ (xs : List V) (x : V), SqB K b H a xs ∧ xs[i]? = some x, fun i H v H' => ∃ T x, v = .ref T ∧ H T = none ∧ H' = upd H T (.tup [.int (i : Nat), x]) ∧ ∀ xs, SqB K b H a xs → xs[i]? = some x, fun i H => ∃ xs : List V, SqB K b H a xs ∧ xs.length = i⟩
theorem turn_enumB {P : Program} {w : World} {K : PySem.W.Frag} {elts : List Expr} {kk : Nat} {tpos : Pos} {bb : Bool} (a e it : Addr) (hei : e ≠ it) (hea : a ≠ e) (hai : a ≠ it) :
    Turn P w K (.Tuple elts kk tpos) (IteB K bb a) [e, it] e (fun i h => (∃ old, IsEnum h e it ((i : Nat) : Int) old) ∧ ItB bb h it a i) where
  mem := by simp
  obj := fun i h st b hb => by
    obtain ⟨⟨old, he⟩, hi⟩ := st
    have e' : b = e ∨ b = it := by simpa using hb
    rcases e' with z | z
    · rw [z]; exact ⟨_, he, fun v q => nomatch q⟩
    · rw [z]; exact hi.obj
  keep := fun i h h' st k => let ⟨⟨old, he⟩, hi⟩ := st; ⟨⟨old, k e (by simp) _ he⟩, hi.at' fun o q => k it (by simp) o q⟩
  item := by
    intro X hP hw hK hc i pins s σ H E I hf st hg
    subst hP hw hK
    obtain ⟨⟨old, he⟩, hit⟩ := st
    obtain ⟨xs, x, hq, hx⟩ := hg
    obtain ⟨its, rv, p, hz, _⟩ := Inv.sqB I hq
    obtain ⟨u, hu, ru⟩ := rv.get hx
    have hel : e < s.heap.objs.size := Heap.lt_size he
    have hil : it < s.heap.objs.size := by obtain ⟨_, q, _⟩ := hit.obj; exact Heap.lt_size q
    have g1 : i < its.toArray.size := by
      obtain ⟨h, _⟩ := List.getElem?_eq_some_iff.mp hu
      simpa using h
    refine wpAny_pyNext_enum_itemD (draws_b (A := X.A.in1) (I.ok.hd hc) bb it a hai its.toArray) he ⟨hit, p⟩ g1 hei (by simp [hei, Ne.symm hea]) fun v h' tk e1 ho hit' hT hsz hk => ?_
    have e1 : v = u := by
      have e1 : its.toArray[i]? = some v := e1
      have hu : its.toArray[i]? = some u := by simpa using hu
      rw [hu] at e1
      exact (Option.some.inj e1).symm
    subst e1
    refine ⟨_, rfl, wpAny_letOwnedTupleGo_enum (s := { s with heap := h', toks := tk + 1 }) ho fun h'' he' sb => ?_⟩
    have hT2 : h''.get? s.heap.objs.size = some { cls := .type "tuple", data := .seq #[.int i tk, v] } := (sb.2 _ (Nat.ne_of_gt hel)).trans hT
    have new : ObjOk X.prog X.w (upd H s.heap.objs.size (.tup [.int (i : Nat), x])) h'' s.heap.objs.size (.tup [.int (i : Nat), x]) :=
      ⟨by show 2 ≤ sizeLine; decide, [.int i tk, v], .cons ⟨_, rfl⟩ (.cons ru .nil), ⟨_, hT2, rfl, _, rfl⟩⟩
    have I1 : Inv X pins σ (upd H s.heap.objs.size (.tup [.int (i : Nat), x])) { s with heap := h'', toks := tk + 1 } :=
      I.turnedNew (t' := tk + 1) (ch := [e, it]) (fun b ob hb q => (sb.2 b (fun z => hb (by simp [z]))).trans (hk b ob (fun z => hb (by simp [z])) (fun z => hb (by simp [z])) q)) hf (Nat.le_refl _) new
    refine ⟨.ref s.heap.objs.size, _, I1, rfl, ⟨_, x, rfl, I.hok.fresh (Nat.le_refl _), rfl, fun ys hy => by rw [Inv.sqB_inj I hy hq]; exact hx⟩, ⟨⟨v, ?_⟩, hit'.1.at' fun o q => (sb.2 it (Ne.symm hei)).trans q⟩, fun b hb => ?_⟩
    · have e1 : ((i + 1 : Nat) : Int) = (i : Int) + 1 := by omega
      rw [e1]; exact he'
    · have hb' : b < s.heap.objs.size := by
        have e' : b = e ∨ b = it := by simpa using hb
        rcases e' with z | z
        · rw [z]; exact hel
        · rw [z]; exact hil
      rw [upd_ne (Nat.ne_of_lt hb')]
      exact (hf b hb).1
  done := by
    intro X hP hw hK hc i pins s σ H E I hf st hg
    subst hP hw hK
    obtain ⟨⟨old, he⟩, hit⟩ := st
    obtain ⟨xs, hq, hx⟩ := hg
    obtain ⟨its, rv, p, hz, _⟩ := Inv.sqB I hq
    obtain ⟨f0, f1, f2, f3, f4, f5⟩ := hf it (by simp)
    have hl := rv.length
    have hi : i = its.toArray.size := by simp; omega
    subst hi
    exact wpAny_pyNext_enum_endD (draws_b (A := X.A.in1) (I.ok.hd hc) bb it a hai its.toArray) he ⟨hit, p⟩ fun h' eb => ⟨rfl, I.turned (t' := s.toks) (fun b o hb q => eb b o hb q) f0 f1 f3 f4 f5⟩
  self := fun A i s Q E st h => let ⟨⟨_, he⟩, _⟩ := st; wpAny_pyIter_enum he h
theorem meets_enumerate_newB1 {v : Value} {o : Obj} {H : Heap → Prop} (B : Begins v o H) :
    Meets (Builtin.«enumerate.__new__» ⟨[.type "enumerate", v], []⟩) (fun _ R s => H s.heap ∧
      R (.ok (.ret (.ref (s.heap.push o).objs.size))) { s with heap := (s.heap.push o).push { cls := .type "enumerate", data := .fields #[.none, .bool false, .ref s.heap.objs.size, rawInt 0, .none, .none] } }) :=
  .of_wp fun prog w A R s h => by
    obtain ⟨hp, g, d, tk, os⟩ := s; obtain ⟨h1, h⟩ := h
    have hsub := sub_enumerate
    have q1 : ∀ {A' : Around} {E : Value → Shared → Prop} {Q : Value → Shared → Prop}, Q (.ref hp.objs.size) ⟨hp.push o, g, d, tk, os⟩ → wpAny (model prog w) A' (pyIter v) Q E ⟨hp, g, d, tk, os⟩ :=
      fun q => B.iter prog w _ _ ⟨hp, g, d, tk, os⟩ _ h1 q
    wp_walk using q1
    refine wpAny_stack_any fun st => wpAny_pure ?_
    split
    · rename_i c _ _ _ _ _
      cases (c == Value.type "enumerate")
      · wp_walk using q1
        exact ⟨_, rfl, h⟩
      · wp_walk using q1
        exact ⟨_, rfl, h⟩
    · wp_walk using q1
      exact ⟨_, rfl, h⟩
theorem call_enumB {prog : Program} {w : World} {A : Around} {E : Value → Shared → Prop} {s : Shared} {v : Value} {o : Obj} {H : Heap → Prop} {Q : Value → Shared → Prop} (B : Begins v o H) (h1 : H s.heap)
    (h : ∀ h', IsEnum h' (s.heap.objs.size + 1) s.heap.objs.size 0 .none → h'.get? s.heap.objs.size = some o → h'.objs.size = s.heap.objs.size + 2 →
      (∀ b o, s.heap.get? b = some o → h'.get? b = some o) → Q (.ref (s.heap.objs.size + 1)) { s with heap := h' }) :
    wpAny (model prog w) A (call (.type "enumerate") [v]) Q E s := by
  refine callType_new F.called_enumerate (by decide) (F.typeCall_enumerate_1 _) (F.newCall_enumerate_1 _) (fun obj => F.args_object_init_2 obj _) F.entry_enumerate_new
    (meets_enumerate_newB1 B) ⟨h1, ?_⟩
  have hz : (s.heap.push o).objs.size = s.heap.objs.size + 1 := Heap.size_push ..
  show _ ∧ _
  rw [hz]
  have he : IsEnum ((s.heap.push o).push { cls := .type "enumerate", data := .fields #[.none, .bool false, .ref s.heap.objs.size, rawInt 0, .none, .none] }) (s.heap.objs.size + 1) s.heap.objs.size 0 .none := by
    have := Heap.get?_push_size (s.heap.push o) (o := { cls := .type "enumerate", data := .fields #[.none, .bool false, .ref s.heap.objs.size, rawInt 0, .none, .none] }) rfl
    rw [hz] at this; exact this
  exact ⟨⟨_, he, rfl⟩, h _ he (Heap.get?_push_of_some _ (Heap.get?_push_size _ B.free)) (by rw [Heap.size_push, hz]) fun b o x => Heap.get?_push_of_some _ (Heap.get?_push_of_some _ x)⟩
def iEnumB (K : PySem.W.Frag) (te : TE) : TI := fun σ H R => te σ H fun v H1 => ∃ b a xs, v = .ref a ∧ SqB K b H1 a xs ∧ R (IteB K b a) H1
theorem pi_enumB {X : Cx} {e : Expr} {te : TE} {p pos tpos : Pos} {elts : List Expr} {kk : Nat} (hg : Gl X "enumerate") (hm : X.mg "enumerate" = none) (he : PE X e te) (hs : starEach [e] X.env = (false, eval e X.env) :: starEach [] X.env) :
    PI X (.Tuple elts kk tpos) (.Call (.Name "enumerate" p) [e] [] pos) (iEnumB X.K te) := by
  refine ⟨fun pins s σ H R I h => ?_⟩
  refine Call_ (ld_blt I hg hm boot_enumerate (PyProof.Rows.callWith_type1 (args_cons (thn (he.run pins s σ H _ I h) fun u s1 ⟨v, H1, I1, r1, q1⟩ => args_nil ?_) hs) hs rfl))
  obtain ⟨b, a, xs, ex, hq, q⟩ := q1
  subst ex
  obtain rfl : u = Value.ref a := r1
  obtain ⟨its, rv, p', hz, la⟩ := Inv.sqB I1 hq
  refine call_enumB (begins_b b a its.toArray) p' fun h' he hit hsz hk => wpAny_pyIter_enum he ?_
  have I2 : Inv X pins σ H1 { s1 with heap := h' } := I1.kept (t' := s1.toks) hk
  refine ⟨s1.heap.objs.size + 1, [s1.heap.objs.size + 1, s1.heap.objs.size], _, _, H1, rfl, I2, turn_enumB a (s1.heap.objs.size + 1) s1.heap.objs.size (Nat.succ_ne_self _) (Nat.ne_of_lt (Nat.lt_succ_of_lt la)) (Nat.ne_of_lt la), ⟨⟨.none, he⟩, ItB.new hit⟩, fun b hb => ?_, q⟩
  have e' : b = s1.heap.objs.size + 1 ∨ b = s1.heap.objs.size := by simpa using hb
  have hle : s1.heap.objs.size ≤ b := by
    rcases e' with z | z
    · rw [z]; exact Nat.le_add_right _ _
    · rw [z]; exact Nat.le_refl _
  exact I1.fpOk hle (I1.hok.fresh hle)
end G
namespace G
open PySem L2
section
variable {X : Cx} {E : Ev} {q q1 q2 : Bool} {as bs : List Nat} {e ea eb tg iter : Expr} {es : List Expr} {pos : Pos} {fa fb : Loc → Res (Opd × Loc)} {L L1 L2 Lr : List Addr} {H H1 H2 : Hp} {Z Z1 Z2 : Addr → Prop} {σ σ1 σ2 : Sg} {c c1 c2 : Loc}
theorem held_b {wk : Wk} {x : Opd} {u : At} {v : V} {xs : List D} (sr : SR E c1 σ H1 Z1 L1) (t : ∀ a ∈ Lr, a ∉ L1) (r : RO E H1 Z1 c1 σ x v Lr) (e : rdA x c1 = .ok u) (hlk : ∀ p ∈ lkOf x u, p ∈ wk.lk) (es : u.seq? = some xs) :
    ∃ b a, v = .ref a ∧ Held E wk c1 σ H1 Z1 L1 (SqB E.K b) a xs := by
  obtain ⟨a, e, ⟨_, h⟩ | ⟨_, h⟩⟩ := src_held sr t r e hlk es
  · exact ⟨true, a, e, h⟩
  · exact ⟨false, a, e, h⟩
theorem tup2 {K : PySem.W.Frag} {d1 d2 : D} {v1 v2 : V} {T : Addr} (h : H T = none) (h1 : RD K H Z d1 v1) (h2 : RD K H Z d2 v2) : Fr H (upd H T (.tup [v1, v2])) [] ∧ RD K (upd H T (.tup [v1, v2])) Z (.tup [d1, d2]) (.ref T) := by
  have f : Fr H (upd H T (.tup [v1, v2])) [] := .new0 h
  exact ⟨f, RD.tupI.mpr ⟨T, [v1, v2], rfl, .inl (.inl upd_same), RDs.cons.mpr ⟨_, _, rfl, f.rd h1, RDs.cons.mpr ⟨_, _, rfl, f.rd h2, RDs.nil.mpr rfl⟩⟩⟩⟩
theorem enumD_get : ∀ {xs : List D} {k : Int} {i : Nat}, (enumD k xs)[i]? = xs[i]?.map fun x => D.tup [.int (k + i), x]
  | [], k, i => by simp [enumD]
  | x :: xs, k, 0 => by simp [enumD]
  | x :: xs, k, i + 1 => by
    have e : k + 1 + (i : Int) = k + ((i + 1 : Nat) : Int) := by omega
    simp only [enumD, List.getElem?_cons_succ, enumD_get, e]
theorem enumD_len : ∀ {xs : List D} {k : Int}, (enumD k xs).length = xs.length
  | [], k => rfl
  | x :: xs, k => by simp [enumD, enumD_len]
theorem zipD_get : ∀ {xs ys : List D} {i : Nat} {d : D}, (zipD xs ys)[i]? = some d → ∃ x y, xs[i]? = some x ∧ ys[i]? = some y ∧ d = .tup [x, y]
  | [], ys, i, d, h => by simp [zipD] at h
  | x :: xs, [], i, d, h => by simp [zipD] at h
  | x :: xs, y :: ys, 0, d, h => by
    simp [zipD] at h
    exact ⟨x, y, rfl, rfl, h.symm⟩
  | x :: xs, y :: ys, i + 1, d, h => by
    simp only [zipD, List.getElem?_cons_succ] at h
    obtain ⟨x', y', h1, h2, h3⟩ := zipD_get h
    exact ⟨x', y', by simpa using h1, by simpa using h2, h3⟩
theorem zipD_len : ∀ {xs ys : List D}, (zipD xs ys).length = min xs.length ys.length
  | [], ys => by simp [zipD]
  | x :: xs, [] => by simp [zipD]
  | x :: xs, y :: ys => by simp [zipD, zipD_len]
def srEnum (fa : Loc → Res (Opd × Loc)) : Loc → Res (Wk × Loc) := fun c => (fa c).bind fun (x, c1) => (rdA x c1).bind fun u => (isOk u.seq?).bind fun its => .ok (⟨enumD 0 its, lkOf x u⟩, c1)
/-- the turns of an iterator one by one: only those up to the end are asked -/
theorem i_enum (hK : X.K = E.K) {p tpos : Pos} {elts : List Expr} {kk : Nat} (hg : Gl X "enumerate") (hm : X.mg "enumerate" = none) (ha : PE X e (rdE E q fa)) (hs : starEach [e] X.env = (false, eval e X.env) :: starEach [] X.env) :
    PI X (.Tuple elts kk tpos) (.Call (.Name "enumerate" p) [e] [] pos) (rdI E q (srEnum fa)) := by
  refine (pi_enumB hg hm ha hs).weak fun σ H R ⟨c, Z, L, wk, c', sr, ev, ok⟩ => ?_
  rw [hK]
  obtain ⟨⟨x, c1⟩, e1, ev⟩ := Res.bind_ok ev
  obtain ⟨u, e2, ev⟩ := Res.bind_ok ev
  obtain ⟨its, e3, ev⟩ := Res.bind_ok ev
  cases ev
  refine ⟨c, Z, L, x, _, sr, e1, fun v H1 Z1 L1 Lr a t r => ?_⟩
  obtain ⟨b, ad, rfl, h⟩ := held_b (wk := ⟨enumD 0 its, lkOf x u⟩) a.sr t.dj r e2 (fun _ h => h) (isOk_ok e3)
  obtain ⟨vs0, q0, r0⟩ := h.1
  refine ⟨b, ad, vs0, rfl, q0, ok _ H1 Z1 L1 a ⟨src_init a.sr r e2, fun qb as c2 σ2 H2 Z2 L2 i d hf a2 qt st2 hi => ?_, fun qb as c2 σ2 H2 Z2 L2 i hf a2 qt st2 hi => ?_⟩⟩
  · obtain ⟨vs, qq, rr⟩ := h.2 qb as c2 σ2 H2 Z2 L2 hf a2 qt st2
    have hi : (enumD 0 its)[i]? = some d := hi
    rw [enumD_get] at hi
    cases hx : its[i]? with
    | none => rw [hx] at hi; cases hi
    | some y =>
      rw [hx] at hi
      cases hi
      obtain ⟨w, hw, rw'⟩ := rr.get hx
      refine ⟨⟨vs, w, qq, hw⟩, fun z H' yy => ?_⟩
      obtain ⟨T, x', ez, hT, eH, yy⟩ := yy
      have := yy vs qq
      rw [hw] at this
      cases this
      subst ez eH
      exact tup2 hT (by unfold RD; simp) rw'
  · obtain ⟨vs, qq, rr⟩ := h.2 qb as c2 σ2 H2 Z2 L2 hf a2 qt st2
    have hi : i = (enumD 0 its).length := hi
    rw [enumD_len] at hi
    exact ⟨vs, qq, by rw [← rr.len]; exact hi.symm⟩
def srZip (q2 : Bool) (fa fb : Loc → Res (Opd × Loc)) : Loc → Res (Wk × Loc) := fun c => (fa c).bind fun (x, c1) => (gd (lateO x q2)).bind fun _ => (fb c1).bind fun (y, c2) => (rdA x c2).bind fun u => (rdA y c2).bind fun v => (isOk u.seq?).bind fun xs => (isOk v.seq?).bind fun ys => .ok (⟨zipD xs ys, lkOf x u ++ lkOf y v⟩, c2)
theorem i_zip (hK : X.K = E.K) {p tpos : Pos} {elts : List Expr} {kk : Nat} (hg : Gl X "zip") (hm : X.mg "zip" = none) (ha : PE X ea (rdE E q1 fa)) (hb : PE X eb (rdE E q2 fb))
    (hs : starEach [ea, eb] X.env = (false, eval ea X.env) :: starEach [eb] X.env) (hs2 : starEach [eb] X.env = (false, eval eb X.env) :: starEach [] X.env) (hpl : (backTo pos (starEach [eb] X.env)).any (·.1) = false) :
    PI X (.Tuple elts kk tpos) (.Call (.Name "zip" p) [ea, eb] [] pos) (rdI E (q1 && q2) (srZip q2 fa fb)) := by
  refine (pi_zipB hg hm (pa_cons ha (pa_cons hb pa_nil hs2) hs) hs hpl).weak fun σ H R ⟨c, Z, L, wk, c', sr, ev, ok⟩ => ?_
  rw [hK]
  obtain ⟨⟨x, c1⟩, e1, ev⟩ := Res.bind_ok ev
  obtain ⟨_, l, ev⟩ := Res.bind_ok ev
  obtain ⟨⟨y, c2⟩, e2, ev⟩ := Res.bind_ok ev
  obtain ⟨u, e3, ev⟩ := Res.bind_ok ev
  obtain ⟨v, e4, ev⟩ := Res.bind_ok ev
  obtain ⟨xs, e5, ev⟩ := Res.bind_ok ev
  obtain ⟨ys, e6, ev⟩ := Res.bind_ok ev
  cases ev
  refine ⟨c, Z, L, x, c1, sr, e1, fun v1 H1 Z1 L1 Lr1 a1 t1 r1 => ⟨c1, Z1, L1, y, _, a1.sr, e2, fun v2 H2 Z2 L2 Lr2 a2 t2 r2 => ?_⟩⟩
  have r1' := r1.aft a1.sr t1.dj a2 (gd_ok l)
  have t1' := t1.aft a2
  obtain ⟨b1, d1, rfl, h1⟩ := held_b (wk := ⟨zipD xs ys, lkOf x u ++ lkOf y v⟩) a2.sr t1'.dj r1' e3 (fun _ h => List.mem_append_left _ h) (isOk_ok e5)
  obtain ⟨b2, d2, rfl, h2⟩ := held_b (wk := ⟨zipD xs ys, lkOf x u ++ lkOf y v⟩) a2.sr t2.dj r2 e4 (fun _ h => List.mem_append_right _ h) (isOk_ok e6)
  obtain ⟨vs1, q1', r01⟩ := h1.1
  obtain ⟨vs2, q2', r02⟩ := h2.1
  refine ⟨b1, b2, d1, d2, vs1, vs2, rfl, q1', q2', ok _ H2 Z2 L2 (a1.trans a2) ⟨stillL_app (src_init a2.sr r1' e3) (src_init a2.sr r2 e4), fun qb as c3 σ3 H3 Z3 L3 i d hf a3 qt st3 hi => ?_, fun qb as c3 σ3 H3 Z3 L3 i hf a3 qt st3 hi => ?_⟩⟩
  · obtain ⟨ws1, p1, s1⟩ := h1.2 qb as c3 σ3 H3 Z3 L3 hf a3 qt st3
    obtain ⟨ws2, p2, s2⟩ := h2.2 qb as c3 σ3 H3 Z3 L3 hf a3 qt st3
    obtain ⟨x', y', hx, hy, rfl⟩ := zipD_get hi
    obtain ⟨w1, hw1, rw1⟩ := s1.get hx
    obtain ⟨w2, hw2, rw2⟩ := s2.get hy
    refine ⟨⟨ws1, ws2, w1, w2, p1, p2, hw1, hw2⟩, fun z H' yy => ?_⟩
    obtain ⟨T, xx, yy', ez, hT, eH, k1, k2⟩ := yy
    have k1 := k1 ws1 p1
    have k2 := k2 ws2 p2
    rw [hw1] at k1
    rw [hw2] at k2
    cases k1
    cases k2
    subst ez eH
    exact tup2 hT rw1 rw2
  · obtain ⟨ws1, p1, s1⟩ := h1.2 qb as c3 σ3 H3 Z3 L3 hf a3 qt st3
    obtain ⟨ws2, p2, s2⟩ := h2.2 qb as c3 σ3 H3 Z3 L3 hf a3 qt st3
    have hi : i = (zipD xs ys).length := hi
    rw [zipD_len] at hi
    have l1 := s1.len
    have l2 := s2.len
    exact ⟨ws1, ws2, p1, p2, by omega, by omega, by omega⟩
end
end G
namespace G
open PySem L2
section
variable {E : Ev} {L L1 L2 Lr : List Addr} {H H1 H2 : Hp} {Z Z1 Z2 : Addr → Prop} {σ σ1 σ2 : Sg} {c c1 c2 c' : Loc}
/-! ### own slots wiped -/
theorem wipeO_len : ∀ {own : List Nat} {c c' : Loc}, wipeO c own = .ok c' → c'.length = c.length
  | [], c, c', e => by cases e; rfl
  | i :: r, c, c', e => by
    obtain ⟨c1, e1, e2⟩ := Res.bind_ok (show ((match c[i]? with
    | some none => Res.ok (c.set i none)
    | some (some (.a (.d _))) => Res.ok (c.set i none)
    | _ => Res.no).bind fun c1 => wipeO c1 r) = _ from e)
    have := wipeO_len e2
    rw [this]
    split at e1
    · cases e1; simp
    · cases e1; simp
    · cases e1
theorem wipeO_get : ∀ {own : List Nat} {c c' : Loc} {j : Nat} {x : Vl}, wipeO c own = .ok c' → c'[j]? = some (some x) → c[j]? = some (some x) ∧ j ∉ own
  | [], c, c', j, x, e, h => by cases e; exact ⟨h, by simp⟩
  | i :: r, c, c', j, x, e, h => by
    obtain ⟨c1, e1, e2⟩ := Res.bind_ok (show ((match c[i]? with
    | some none => Res.ok (c.set i none)
    | some (some (.a (.d _))) => Res.ok (c.set i none)
    | _ => Res.no).bind fun c1 => wipeO c1 r) = _ from e)
    obtain ⟨h1, h2⟩ := wipeO_get e2 h
    have fin : c1 = c.set i none → i < c.length → c[j]? = some (some x) ∧ j ∉ i :: r := fun ec hl => by
      subst ec
      by_cases hj : i = j
      · subst hj
        rw [List.getElem?_set_self hl] at h1
        cases h1
      · rw [List.getElem?_set_ne hj] at h1
        exact ⟨h1, by simp only [List.mem_cons, not_or]; exact ⟨fun z => hj z.symm, h2⟩⟩
    split at e1
    · rename_i hc
      cases e1
      exact fin rfl (List.getElem?_eq_some_iff.mp hc).1
    · rename_i hc
      cases e1
      exact fin rfl (List.getElem?_eq_some_iff.mp hc).1
    · cases e1
theorem wipeO_nil : ∀ {own : List Nat} {c c' : Loc} {j : Nat}, wipeO c own = .ok c' → j ∈ own → c'[j]? = some none
  | [], c, c', j, e, h => by simp at h
  | i :: r, c, c', j, e, h => by
    obtain ⟨c1, e1, e2⟩ := Res.bind_ok (show ((match c[i]? with
    | some none => Res.ok (c.set i none)
    | some (some (.a (.d _))) => Res.ok (c.set i none)
    | _ => Res.no).bind fun c1 => wipeO c1 r) = _ from e)
    by_cases hj : j ∈ r
    · exact wipeO_nil e2 hj
    · have hji : j = i := by
        rcases List.mem_cons.mp h with h | h
        · exact h
        · exact absurd h hj
      subst hji
      have fin : c1 = c.set j none → j < c.length → c'[j]? = some none := fun ec hl => by
        cases hc' : c'[j]? with
        | none =>
          have := wipeO_len e2
          rw [List.getElem?_eq_none_iff] at hc'
          rw [ec] at this
          simp at this
          omega
        | some y =>
          cases y with
          | none => rfl
          | some x =>
            have := (wipeO_get e2 hc').1
            rw [ec, List.getElem?_set_self hl] at this
            cases this
      split at e1
      · rename_i hc
        cases e1
        exact fin rfl (List.getElem?_eq_some_iff.mp hc).1
      · rename_i hc
        cases e1
        exact fin rfl (List.getElem?_eq_some_iff.mp hc).1
      · cases e1
theorem wipeO_was : ∀ {own : List Nat} {c c' : Loc} {j : Nat}, wipeO c own = .ok c' → j ∈ own → c[j]? = some none ∨ ∃ d, c[j]? = some (some (.a (.d d)))
  | [], c, c', j, e, h => by simp at h
  | i :: r, c, c', j, e, h => by
    obtain ⟨c1, e1, e2⟩ := Res.bind_ok (show ((match c[i]? with
    | some none => Res.ok (c.set i none)
    | some (some (.a (.d _))) => Res.ok (c.set i none)
    | _ => Res.no).bind fun c1 => wipeO c1 r) = _ from e)
    by_cases hj : j = i
    · subst hj
      split at e1
      · rename_i hc; exact .inl hc
      · rename_i d hc; exact .inr ⟨_, hc⟩
      · cases e1
    · have hjr : j ∈ r := (List.mem_cons.mp h).elim (fun z => absurd z hj) id
      have ec : c1 = c.set i none := by
        split at e1
        · cases e1; rfl
        · cases e1; rfl
        · cases e1
      have := wipeO_was e2 hjr
      rw [ec, List.getElem?_set_ne (fun z => hj z.symm)] at this
      exact this
theorem wipe_out {σ : Sg} {j : Nat} : ∀ {own : List Nat}, j ∉ own → (wipe σ own)[j]? = σ[j]?
  | [], _ => rfl
  | v :: vs, h => by
    simp only [List.mem_cons, not_or] at h
    unfold wipe
    rw [List.getElem?_set_ne (fun z => h.1 z.symm), wipe_out h.2]
theorem wipe_same {σ σ' : Sg} {own : List Nat} (hl : σ'.length = σ.length) (h : ∀ j, j ∉ own → σ'[j]? = σ[j]?) : wipe σ' own = wipe σ own := by
  have inn : ∀ (τ : Sg) (own : List Nat) (j : Nat), j ∈ own → j < τ.length → (wipe τ own)[j]? = some none := by
    intro τ own
    induction own with
    | nil => intro j h; simp at h
    | cons v vs ih =>
      intro j h hlt
      unfold wipe
      by_cases hj : v = j
      · subst hj
        rw [List.getElem?_set_self (by rw [wipe_length]; exact hlt)]
      · rw [List.getElem?_set_ne hj]
        exact ih j ((List.mem_cons.mp h).elim (fun z => absurd z.symm hj) id) hlt
  apply List.ext_getElem?
  intro j
  by_cases hj : j ∈ own
  · by_cases hlt : j < σ.length
    · rw [inn _ _ _ hj (by omega), inn _ _ _ hj hlt]
    · rw [List.getElem?_eq_none (by rw [wipe_length]; omega), List.getElem?_eq_none (by rw [wipe_length]; omega)]
  · rw [wipe_out hj, wipe_out hj, h j hj]
theorem SR.wipe {own : List Nat} (sr : SR E c σ H Z L) (e : wipeO c own = .ok c') : ∃ L2, SR E c' (wipe σ own) H Z L2 ∧ ∀ a ∈ L2, a ∈ L :=
  sr.mask (by rw [wipeO_len e, wipe_length]; exact sr.len) (by rw [wipeO_len e]; exact Nat.le_refl _) fun j x hj => by
    obtain ⟨h1, h2⟩ := wipeO_get e hj
    exact ⟨h1, wipe_out h2⟩
/-! as they were -/
theorem SR.putX {i : Nat} {x : Option Vl} {o : Option V} (sr : SR E c σ H Z L) (hi : i < c.length) (h : RSl E.K H Z E.ca x o []) : ∃ L', SR E (c.set i x) (σ.set i o) H Z L' ∧ ∀ a ∈ L', a ∈ L := by
  obtain ⟨oo, Li, Lo, g1, g2, g3, back⟩ := sr.rs.split (List.getElem?_eq_getElem hi)
  obtain ⟨n1, n2, n3⟩ := sr.perm (L' := []) g3
  obtain ⟨L', k1, k2⟩ := back H Z x o [] (fun x oo M _ h => h) h
  have oL : ∀ a ∈ Lo, a ∈ L := fun a ha => g3.mem_iff.mpr (List.mem_append_right _ ha)
  have mem : ∀ a ∈ L', a ∈ Lo := fun a ha => by simpa using k2.mem_iff.mp ha
  exact ⟨L', ⟨k1, k2.nodup_iff.mpr (by simpa using (List.nodup_append.mp n1).2.1), fun a ha => sr.nz a (oL a (mem a ha)), sr.zd, fun a ha => sr.ld a (oL a (mem a ha)), sr.tb⟩, fun a ha => oL a (mem a ha)⟩
theorem back_sr {c0 : Loc} {σ0 : Sg} : ∀ {own : List Nat} {c : Loc} {σ : Sg} {L : List Addr}, SR E c σ H Z L → (∀ j ∈ own, j < c.length ∧ RSl E.K H Z E.ca (c0.getD j none) (σ0.getD j none) []) → (∀ j, j ∉ own → σ[j]? = σ0[j]?) → σ.length = σ0.length →
    ∃ L', SR E (backO c0 c own) σ0 H Z L' ∧ ∀ a ∈ L', a ∈ L
  | [], c, σ, L, sr, _, h, hl => by
    have : σ = σ0 := List.ext_getElem? fun j => h j (by simp)
    subst this
    exact ⟨L, sr, fun _ h => h⟩
  | i :: r, c, σ, L, sr, hr, h, hl => by
    obtain ⟨h1, h2⟩ := hr i List.mem_cons_self
    obtain ⟨L', sr', m⟩ := sr.putX h1 h2
    obtain ⟨L2, sr2, m2⟩ := back_sr (own := r) (c0 := c0) (σ0 := σ0) sr' (fun j hj => by
      obtain ⟨k1, k2⟩ := hr j (List.mem_cons_of_mem _ hj)
      exact ⟨by simpa using k1, k2⟩) (fun j hj => by
      by_cases hji : i = j
      · subst hji
        have hlt : i < σ0.length := by rw [← hl, ← sr.len]; exact h1
        rw [List.getElem?_set_self (by rw [hl]; exact hlt), List.getD_eq_getElem?_getD, List.getElem?_eq_getElem hlt]
        rfl
      · rw [List.getElem?_set_ne hji]
        exact h j (by simp only [List.mem_cons, not_or]; exact ⟨fun z => hji z.symm, hj⟩)) (by simpa using hl)
    exact ⟨L2, sr2, fun a ha => m a (m2 a ha)⟩
end
/-! ### [elt for tg in iter if ..] -/
section
variable {X : Cx} {E : Ev} {q q1 q2 : Bool} {as : List Nat} {tg iter elt : Expr} {ifs : List Expr} {pos : Pos} {L L1 L2 Lr : List Addr} {H H1 H2 : Hp} {Z Z1 Z2 : Addr → Prop} {σ σ1 σ2 : Sg} {c c1 c2 : Loc}
def lcF (qb : Bool) (own : List Nat) (fs : Loc → Res (Wk × Loc)) (ft : Loc → Res (Bool × Loc)) (fe : Loc → Res (Opd × Loc)) (t : D → Loc → Res Loc) : Loc → Res (Opd × Loc) := fun c =>
  (fs c).bind fun (wk, c1) => (gd (wk.free qb own)).bind fun _ => (wipeO c1 own).bind fun c2 => (wk.still c2).bind fun _ =>
    (compL (turnF wk own ft fe) t wk.its c2).bind fun (ys, c3) =>
      (gd (fits ys.length)).bind fun _ => .ok (.v (.l ys), backO c1 c3 own)
/-- between two turns -/
structure LcI (E : Ev) (qb : Bool) (wk : Wk) (own : List Nat) (L1 : List Addr) (H1 : Hp) (Z1 : Addr → Prop) (σ : Sg) (c2 : Loc) (H2 : Hp) (Z2 : Addr → Prop) (L2 : List Addr) : Prop where
  af : AftS E own L1 H1 Z1 σ c2 (wipe σ own) H2 Z2 L2
  qt : qb = true → Stp [] L1 H1 Z1 H2 Z2
  st : wk.still c2 = .ok ()
  nl : ∀ j ∈ own, c2[j]? = some none
theorem stp_new {W L : List Addr} {H H1 : Hp} {Z Z1 : Addr → Prop} {D : Addr} {o : HO} (a : Stp W L H Z H1 Z1) (hn : H D = none) : Stp W L H Z (upd H1 D o) Z1 where
  keep := fun b u e hw ht => by rw [upd_ne (ne_of_none e hn)]; exact a.keep b u e hw ht
  im := fun b u e hi => by rw [upd_ne (ne_of_none e hn)]; exact a.im b u e hi
  dom := fun b e => by
    by_cases hb : b = D
    · rw [hb] at e; exact absurd hn e
    · rw [upd_ne hb]; exact a.dom b e
  zup := a.zup
  znew := a.znew
theorem stp_emp {L L1 : List Addr} {H H1 H2 : Hp} {Z Z1 Z2 : Addr → Prop} (a : Stp [] L H Z H1 Z1) (s : Sub L H L1) (b : Stp [] L1 H1 Z1 H2 Z2) : Stp [] L H Z H2 Z2 := Stp.trans (q1 := true) (q2 := true) a s b
theorem lc_rd {ow : List Nat} {fs : Loc → Res (Wk × Loc)} {ft : Loc → Res (Bool × Loc)} {fe : Loc → Res (Opd × Loc)} {t : D → Loc → Res Loc} (has : ∀ i ∈ as, i ∈ ow) (htl : ∀ d c c', t d c = .ok c' → c'.length = c.length) {Q : VK}
    (h : rdE E false (lcF (q1 && q2) ow fs ft fe t) σ H Q) : tLc (rdI E q fs) (rdG E as t) (rdT E q1 ft) (rdE E q2 fe) ow σ H Q := by
  obtain ⟨c, Z, L, o, c', sr, ev, ok⟩ := h
  obtain ⟨⟨wk, c1⟩, e1, ev⟩ := Res.bind_ok ev
  obtain ⟨_, hf, ev⟩ := Res.bind_ok ev
  obtain ⟨c2, e2, ev⟩ := Res.bind_ok ev
  obtain ⟨_, e3, ev⟩ := Res.bind_ok ev
  obtain ⟨⟨ys, c3⟩, e4, ev⟩ := Res.bind_ok ev
  obtain ⟨_, e5, ev⟩ := Res.bind_ok ev
  cases ev
  have hf := gd_ok hf
  have hfit := fits_le (gd_ok e5)
  refine ⟨c, Z, L, wk, c1, sr, e1, fun J H1 Z1 L1 a jo D hD => ?_⟩
  obtain ⟨L2, sr2, m2⟩ := a.sr.wipe e2
  have i0 : LcI E (q1 && q2) wk ow L1 H1 Z1 σ c2 H1 Z1 L2 := ⟨⟨.refl, sr2, fun b hb => .inl (m2 b hb), fun i hi => wipe_out hi⟩, fun _ => .refl, e3, fun j hj => wipeO_nil e2 hj⟩
  -- a new list beside
  have new : Fr H1 (upd H1 D (.lst [])) [D] := .new hD
  refine ⟨fun i m H2 => m = wk.its.length - i ∧ i ≤ wk.its.length ∧ ∃ c4 Z4 L4 xs vs zs, LcI E (q1 && q2) wk ow L1 H1 Z1 σ c4 H2 Z4 L4 ∧ D ∉ L4 ∧ ¬ Z4 D ∧ H2 D = some (.lst vs) ∧ RDs E.K H2 Z4 xs vs ∧ compL (turnF wk ow ft fe) t (wk.its.drop i) c4 = .ok (zs, c3) ∧ xs ++ zs = ys,
    ⟨_, rfl, Nat.zero_le _, c2, Z1, L2, [], [], ys, ⟨⟨new.stp, i0.af.sr.fr new, fun b hb => .inl (m2 b hb), i0.af.un⟩, fun _ => new.stp, e3, i0.nl⟩, fun z => a.sr.ld D (m2 D z) hD, fun z => a.sr.zd D z hD, upd_same, RDs.nil.mpr rfl, e4, rfl⟩, ?_⟩
  rintro i m H2 ⟨rfl, hle, c4, Z4, L4, xs, vs, zs, iv, hDL, hDZ, hDv, hxs, ec, exs⟩
  by_cases hlt : i < wk.its.length
  · obtain ⟨g1, g2⟩ := jo.go (q1 && q2) ow c4 (wipe σ ow) H2 Z4 L4 i wk.its[i] hf iv.af iv.qt iv.st (List.getElem?_eq_getElem hlt)
    refine .inr ⟨g1, _, fun H' n => ⟨wk.its.length - (i + 1), by omega, rfl, hlt, n⟩, fun x H3 y => ?_⟩
    obtain ⟨f3, r3⟩ := g2 x H3 y
    rw [List.drop_eq_getElem_cons hlt] at ec
    unfold compL at ec
    obtain ⟨c5, e6, ec⟩ := Res.bind_ok ec
    obtain ⟨⟨yo, c9⟩, e7, ec⟩ := Res.bind_ok ec
    obtain ⟨⟨zs', c3'⟩, e8, ec⟩ := Res.bind_ok ec
    cases ec
    have sr3 : SR E c4 (wipe σ ow) H3 Z4 L4 := iv.af.sr.fr f3
    have hDv3 := f3.kp _ _ hDv
    refine ⟨wk.its[i], c4, Z4, L4, c5, sr3, r3, e6, fun σ4 L5 sr5 m5 u5 => ?_⟩
    have hl4 : σ4.length = σ.length := by
      rw [← sr5.len, htl _ _ _ e6, sr3.len, wipe_length]
    have hw4 : wipe σ4 ow = wipe σ ow := wipe_same hl4 fun j hj => by rw [u5 j fun z => hj (has j z), wipe_out hj]
    refine ⟨hw4, ?_⟩
    have stA : Stp L1 L1 H1 Z1 H3 Z4 := stp_LL iv.af.st iv.af.sub f3.stp
    have subA : Sub L1 H1 L5 := fun b hb => iv.af.sub b (m5 b hb)
    have qtA : (q1 && q2) = true → Stp [] L1 H1 Z1 H3 Z4 := fun h => stp_emp (iv.qt h) iv.af.sub f3.stp
    have hDL5 : D ∉ L5 := fun z => hDL (m5 D z)
    -- behind a part that ends with own slots wiped
    have fin : ∀ {c8 : Loc} {H5 : Hp} {Z8 : Addr → Prop} {L8 : List Addr}, Aft E (q1 && q2) L5 H3 Z4 σ4 c8 H5 Z8 L8 → wipeO c8 ow = .ok c9 → wk.still c9 = .ok () →
        D ∉ L8 ∧ ¬ Z8 D ∧ H5 D = some (.lst vs) ∧ RDs E.K H5 Z8 xs vs ∧ ∃ L9, LcI E (q1 && q2) wk ow L1 H1 Z1 σ c9 H5 Z8 L9 ∧ ∀ b ∈ L9, b ∈ L8 := fun {c8 H5 Z8 L8} b ew es => by
      obtain ⟨L9, sr9, m9⟩ := b.sr.wipe ew
      rw [hw4] at sr9
      refine ⟨fun z => (b.sub D z).elim hDL5 (fun z => by rw [hDv3] at z; cases z), fun z => ?_, b.st.keep _ _ hDv3 (fun z => hDL5 (wr_sub z)) rfl, RDs.stp b.st (wr_dj sr5) _ _ (f3.rds hxs), L9, ⟨⟨stp_LL stA subA b.st.toL, sr9, fun x hx => (subA.trans stA.dom b.sub) x (m9 x hx), fun j hj => wipe_out hj⟩, fun h => ?_, es, fun j hj => wipeO_nil ew hj⟩, m9⟩
      · rcases b.st.znew D z with z | z | z
        · exact hDZ z
        · exact hDL5 z
        · rw [hDv3] at z; cases z
      · have b' := b.st
        rw [h] at b'
        exact stp_emp (qtA h) subA b'
    obtain ⟨⟨bb, c6⟩, e9, e7⟩ := Res.bind_ok e7
    refine ⟨c5, Z4, L5, bb, c6, sr5, e9, fun H4 Z6 L6 b1 => ?_⟩
    cases bb with
    | false =>
      have e7 : ((wipeO c6 ow).bind fun c4 => (wk.still c4).bind fun _ => Res.ok ((none : Option G.D), c4)) = .ok (yo, c9) := e7
      rw [if_neg Bool.false_ne_true]
      obtain ⟨c9', ew, e7⟩ := Res.bind_ok e7
      obtain ⟨_, es, e7⟩ := Res.bind_ok e7
      cases e7
      obtain ⟨k1, k2, k3, k4, L9, k5, k6⟩ := fin (b1.andT (q2 := q2)) ew es
      exact ⟨_, Z6, L9, xs, vs, _, k5, fun z => k1 (k6 D z), k2, k3, k4, e8, exs⟩
    | true =>
      have e7 : ((fe c6).bind fun (o, c'') => (toD o c'').bind fun (y, c3) => (wipeO c3 ow).bind fun c4 => (wk.still c4).bind fun _ => Res.ok (some y, c4)) = .ok (yo, c9) := e7
      rw [if_pos rfl]
      obtain ⟨⟨o, c7⟩, e10, e7⟩ := Res.bind_ok e7
      obtain ⟨⟨yd, c8⟩, e11, e7⟩ := Res.bind_ok e7
      obtain ⟨c9', ew, e7⟩ := Res.bind_ok e7
      obtain ⟨_, es, e7⟩ := Res.bind_ok e7
      cases e7
      refine ⟨c6, Z6, L6, o, c7, b1.sr, e10, fun v H5 Z7 L7 Lr b2 t2 r2 => ?_⟩
      obtain ⟨Z8, L8, g, hy⟩ := toD_ok b2.sr t2.dj t2.ld r2 e11
      have b3 := b1.trans (b2.gh t2.sub g)
      obtain ⟨k1, k2, k3, k4, L9, k5, k6⟩ := fin b3 ew es
      have hlen : vs.length < sizeLine := by
        rw [← hxs.len]
        have : (xs ++ yd :: zs').length ≤ sizeLine := by rw [exs]; exact hfit
        simp only [List.length_append, List.length_cons] at this
        omega
      refine ⟨vs, k3, hlen, ?_⟩
      have s : ∀ {M : List Addr}, Stp [D] M H5 Z8 (upd H5 D (.lst (vs ++ [v]))) Z8 := .upd k3 rfl
      have nz : ∀ b, Z8 b → b ∉ [D] := fun b z hb => by
        have : b = D := by simpa using hb
        subst this
        exact k2 z
      have n9 : ∀ b ∈ L9, b ∉ [D] := fun b h9 hb => by
        have : b = D := by simpa using hb
        subst this
        exact k1 (k6 _ h9)
      have sr9 := k5.af.sr
      refine ⟨_, Z8, L9, xs ++ [yd], vs ++ [v], zs', ⟨⟨stp_new k5.af.st hD, ⟨RS.stp (s (M := [])) nz n9 sr9.rs, sr9.nd, sr9.nz, fun b z => (s (M := [])).dom b (sr9.zd b z), fun b z => (s (M := [])).dom b (sr9.ld b z), fun P h => TabG.upd k3 rfl (sr9.tb P h)⟩, k5.af.sub, k5.af.un⟩, fun h => stp_new (k5.qt h) hD, k5.st, k5.nl⟩, fun z => k1 (k6 D z), k2, upd_same, ?_, e8, by simpa using exs⟩
      exact (RDs.stp (s (M := [])) nz _ _ k4).append (RDs.cons.mpr ⟨v, [], rfl, RD.stp (s (M := [])) nz _ _ hy, RDs.nil.mpr rfl⟩)
  · have hi : i = wk.its.length := by omega
    refine .inl ⟨jo.stop (q1 && q2) ow c4 (wipe σ ow) H2 Z4 L4 i hf iv.af iv.qt iv.st hi, ?_⟩
    subst hi
    rw [List.drop_of_length_le (Nat.le_refl _)] at ec
    cases ec
    rw [List.append_nil] at exs
    subst exs
    obtain ⟨L', sr', m'⟩ := back_sr (c0 := c1) (σ0 := σ) (own := ow) iv.af.sr (fun j hj => by
      have hn := iv.nl j hj
      refine ⟨(List.getElem?_eq_some_iff.mp hn).1, ?_⟩
      rcases wipeO_was e2 hj with h | ⟨d, h⟩
      · rw [List.getD_eq_getElem?_getD, h]
        rfl
      · obtain ⟨oo, Li, Lo, g1, g2, _⟩ := a.sr.rs.split h
        obtain ⟨v, rfl, g3⟩ := g2
        have g3 : RA E.K H1 Z1 (.d d) v Li := g3
        rw [List.getD_eq_getElem?_getD, List.getD_eq_getElem?_getD, h, g1]
        exact ⟨v, rfl, rfl, RD.stp iv.af.st (fun b hb hw => a.sr.nz b hw hb) _ _ g3.2⟩) (fun j hj => wipe_out hj) (wipe_length _ _)
    have hDn : H D = none := by
      cases q : H D with
      | none => rfl
      | some o => exact absurd hD (a.st.dom D (by rw [q]; simp))
    refine ok (.ref D) H2 Z4 L' [D] ⟨stp_LL a.st.toL a.sub iv.af.st, sr', fun b hb => (a.sub.trans a.st.dom iv.af.sub) b (m' b hb)⟩ ⟨by simp, fun b hb z => ?_, fun b hb z => ?_, fun b hb => ?_, fun b hb => ?_⟩ ⟨D, vs, rfl, rfl, hDv, hxs⟩
    · have : b = D := by simpa using hb
      subst this
      exact hDL (m' _ z)
    · have : b = D := by simpa using hb
      subst this
      exact hDZ z
    · have : b = D := by simpa using hb
      subst this
      rw [hDv]; simp
    · have : b = D := by simpa using hb
      subst this
      exact .inr hDn
theorem s_lc {scope : Scope} {own : List (Str × Nat)} {fs : Loc → Res (Wk × Loc)} {ft : Loc → Res (Bool × Loc)} {fe : Loc → Res (Opd × Loc)} {t : D → Loc → Res Loc} (hc : X.calm = true) (hN : X.N.Nodup) (hi : PI X tg iter (rdI E q fs)) (ok : BlkOk X.N X.env.scope scope own)
    (has : ∀ i ∈ as, i ∈ own.map (·.2)) (htl : ∀ d c c', t d c = .ok c' → c'.length = c.length)
    (hg : ∀ (s : Shared) (H : Hp) (C : Addr) (cl : List (Str × Addr)) (fp : List Addr), PG (X.blk s H scope (compEnvC scope cl C X.env) fp) tg (rdG E as t)) (ht : ∀ (s : Shared) (H : Hp) (C : Addr) (cl : List (Str × Addr)) (fp : List Addr), PTs (X.blk s H scope (compEnvC scope cl C X.env) fp) ifs (rdT E q1 ft))
    (he : ∀ (s : Shared) (H : Hp) (C : Addr) (cl : List (Str × Addr)) (fp : List Addr), PE (X.blk s H scope (compEnvC scope cl C X.env) fp) elt (rdE E q2 fe)) (hs : ∀ x, foldedSetIterable iter X.env x = pure x) :
    PE X (.ListComp elt [⟨tg, iter, ifs, 0⟩] scope pos) (rdE E false (lcF (q1 && q2) (own.map (·.2)) fs ft fe t)) := by
  refine (pe_lc hc hN hi ok hg ht he hs).weak fun σ H Q h => lc_rd has htl h
theorem s_asgLc {i : Nat} {y : Str} {py spos : Pos} {scope : Scope} {own : List (Str × Nat)} {fs : Loc → Res (Wk × Loc)} {ft : Loc → Res (Bool × Loc)} {fe : Loc → Res (Opd × Loc)} {t : D → Loc → Res Loc} (hc : X.calm = true) (hN : X.N.Nodup) (hy : X.N[i]? = some y) (hyl : X.env.scope.names.lookup y = some .local)
    (hsw : swapsWith (.ListComp elt [⟨tg, iter, ifs, 0⟩] scope pos) (some (.Name y py)) spos.line X.env = pure true) (hi : PI X tg iter (rdI E q fs)) (ok : BlkOk X.N X.env.scope scope own)
    (has : ∀ i ∈ as, i ∈ own.map (·.2)) (htl : ∀ d c c', t d c = .ok c' → c'.length = c.length)
    (hg : ∀ (s : Shared) (H : Hp) (C : Addr) (cl : List (Str × Addr)) (fp : List Addr), PG (X.blk s H scope (compEnvC scope cl C X.env) fp) tg (rdG E as t)) (ht : ∀ (s : Shared) (H : Hp) (C : Addr) (cl : List (Str × Addr)) (fp : List Addr), PTs (X.blk s H scope (compEnvC scope cl C X.env) fp) ifs (rdT E q1 ft))
    (he : ∀ (s : Shared) (H : Hp) (C : Addr) (cl : List (Str × Addr)) (fp : List Addr), PE (X.blk s H scope (compEnvC scope cl C X.env) fp) elt (rdE E q2 fe)) (hs : ∀ x, foldedSetIterable iter X.env x = pure x) :
    PS X (.Assign [.Name y py] (.ListComp elt [⟨tg, iter, ifs, 0⟩] scope pos) spos) (rdS E [i] (asgF i (lcF (q1 && q2) (own.map (·.2)) fs ft fe t))) :=
  (ps_setLc hc hN hy hyl hsw hi ok hg ht he hs).weak fun D σ H h => lc_rd has htl (asg_rd (q := false) h)
/-! targets keep the length -/
mutual
theorem asgT_len : ∀ (t : Tg) (d : D) (c c' : Loc), asgT t d c = .ok c' → c'.length = c.length
  | .nm i, d, c, c', e => by
    unfold asgT at e
    split at e
    · cases e; simp
    · cases e
  | .tp ts, .tup xs, c, c', e => by unfold asgT at e; exact asgTs_len ts xs c c' e
  | .tp ts, .lst xs, c, c', e => by unfold asgT at e; exact asgTs_len ts xs c c' e
  | .tp ts, .non, c, c', e => by cases e
  | .tp ts, .bl _, c, c', e => by cases e
  | .tp ts, .int _, c, c', e => by cases e
  | .tp ts, .str _, c, c', e => by cases e
  | .tp ts, .dic _, c, c', e => by cases e
theorem asgTs_len : ∀ (ts : List Tg) (ds : List D) (c c' : Loc), asgTs ts ds c = .ok c' → c'.length = c.length
  | [], [], c, c', e => by cases e; rfl
  | t :: ts, x :: xs, c, c', e => by
    unfold asgTs at e
    obtain ⟨c1, e1, e⟩ := Res.bind_ok e
    rw [asgTs_len ts xs _ _ e, asgT_len t x _ _ e1]
  | [], _ :: _, c, c', e => by cases e
  | _ :: _, [], c, c', e => by cases e
end
end
end G
set_option maxHeartbeats 2000000
/-! generator expressions of one clause: the machine -/
namespace G
open PySem PySem.Spec PyProof.Rows L2 GenW
section
variable {X : Cx} {pins : List (Addr × Obj)} {σ : L2.St} {H : Hp} {s : Shared}
theorem inv_gens {g' : Array GenState} (I : Inv X pins σ H s) (hg : AllBare g') : Inv X pins σ H { s with gens := g' } :=
  ⟨I.ok, I.os, hg, I.base, I.loc, I.cell, I.free, I.freeC, I.pin, I.hok, I.len⟩
/-- the generator's block -/
abbrev gblk (X : Cx) (A : Around) (s : Shared) (H : Hp) (scope : Scope) (env : Env) (fp : List Addr) : Cx :=
  { X with A := A, s_0 := s, H_0 := H, env := env, outer := X.stack, stack := env :: X.stack, ex := fp, fn := fun x => scope.names.lookup x == some .cell, calm := true, pn := [], xe := fun _ _ => False }
abbrev gEnv (X : Cx) (scope : Scope) (Ca : Addr) (code : Value) : Env := genEnv scope (cloFrom X.env.cells scope.names []) Ca code builtinsNs X.env
structure GScp (scope : Scope) : Prop where
  co : scope.isCoroutine = false
  cell : ∀ y ∈ scope.names, y.2 ≠ .cell
  dot : scope.names.lookup (".0" : Str) = some NameKind.local
theorem inv_at {A A' : Around} {s0 : Shared} {H0 : Hp} {scope : Scope} {env : Env} {fp : List Addr} (I : Inv (gblk X A s0 H0 scope env fp) pins σ H s) (hd : A'.handled = none) (hf : A'.frames = some (env :: X.stack)) : Inv (gblk X A' s0 H0 scope env fp) pins σ H s :=
  ⟨⟨I.ok.mod, I.ok.kind, I.ok.glob, I.ok.blt, I.ok.above, I.ok.inj, I.ok.has, I.ok.cab, fun _ => hd, hf, I.ok.stk, I.ok.exf, I.ok.bs, I.ok.bsz, I.ok.noex, I.ok.exfs, I.ok.funs, I.ok.frf⟩, I.os, I.bare, I.base, I.loc, I.cell, I.free, I.freeC, I.pin, I.hok, I.len⟩
theorem gen_start {scope : Scope} {own : List (Str × Nat)} {fp : List Addr} {it : Addr} {code : Value} {A : Around} {h' : Heap} {g' : Array GenState} {t' : Nat} (I : Inv X pins σ H s) (ok : BlkOk X.N X.env.scope scope own) (S : GScp scope) (hN : X.N.Nodup)
    (hfp : ∀ b ∈ fp, FpOk X pins H b ∧ b < s.heap.objs.size) (hA : A.handled = none) (hAf : A.frames = some (gEnv X scope s.heap.objs.size code :: X.stack)) (hn' : h'.Ns s.heap.objs.size fun y => if y = (".0" : Str) then some (.ref it) else none)
    (hk : ∀ b o, s.heap.get? b = some o → h'.get? b = some o) (hg : AllBare g') :
    Inv (gblk X A s H scope (gEnv X scope s.heap.objs.size code) fp) [] (wipe σ (own.map (·.2))) H { s with heap := h', gens := g', toks := t' } := by
  have hfree : ∀ y ∈ scope.names, y.2 = .free → ∃ c, X.env.cells.lookup y.1 = some c := fun y hy e => by
    rcases ok.free y hy e with k | k
    · exact I.ok.has _ (.inl k)
    · exact I.ok.has _ (.inr k)
  have cm : ∀ {y : Str} {c : Addr}, (cloFrom X.env.cells scope.names []).lookup y = some c → X.env.cells.lookup y = some c := fun {y c} e => by
    rcases cloFrom_mem (PySem.mem_of_lookup e) with hm | ⟨h1, rfl⟩
    · cases hm
    · obtain ⟨c, hc⟩ := hfree _ h1 rfl
      rw [hc]; rfl
  have clt : ∀ {y : Str} {c : Addr}, X.env.cells.lookup y = some c → c < s.heap.objs.size := fun {y c} e => by
    obtain ⟨w, z⟩ := I.cell y c e
    exact z.lt
  have look : ∀ {y : Str}, scope.names.lookup y = some .free → ∃ c, (cloFrom X.env.cells scope.names []).lookup y = some c ∧ X.env.cells.lookup y = some c := fun {y} hl => by
    have hy : (y, NameKind.free) ∈ scope.names := PySem.mem_of_lookup hl
    obtain ⟨c', e'⟩ := mem_lookup (cloFrom_has (cells := X.env.cells) (acc := []) hy)
    exact ⟨c', e', cm e'⟩
  have okB : (gblk X A s H scope (gEnv X scope s.heap.objs.size code) fp).Ok := by
    refine ⟨I.ok.mod, ok.kind, I.ok.glob, rfl, Nat.le_refl _, fun y z c e1 e2 => I.ok.inj y z c (cm e1) (cm e2), fun y hy => ?_, fun y c z e => ?_, fun _ => hA, hAf, .inr ⟨rfl, rfl⟩, fun b hb => ⟨?_, fun y c e => ?_⟩, I.bs, Nat.le_trans I.ok.bsz I.sz, fun b o e hb => ?_, fun b hb z => ?_, I.stack, I.stkFree⟩
    · have hy : scope.names.lookup y = some .cell ∨ scope.names.lookup y = some .free := hy
      rcases hy with hy | hy
      · exact absurd rfl (S.cell _ (PySem.mem_of_lookup hy))
      · obtain ⟨c, h1, _⟩ := look hy
        exact ⟨c, h1⟩
    · have z : (scope.names.lookup y == some NameKind.cell) = true := z
      have z : scope.names.lookup y = some .cell := by simpa using z
      exact absurd rfl (S.cell _ (PySem.mem_of_lookup z))
    · exact Nat.ne_of_lt (hfp b hb).2
    · exact (hfp b hb).1.2.2.2.2.1 y c (cm e)
    · rcases (hfp b hb).1.2.2.2.1 with z | z
      · exact I.ok.noex b o e z
      · exact absurd (Nat.lt_of_lt_of_le (Heap.lt_size e) (Nat.le_trans I.ok.bsz z)) (Nat.lt_irrefl _)
    · rcases List.mem_cons.mp (I.stkSub b z) with z | z
      · exact (hfp b hb).1.2.1 z
      · exact (hfp b hb).1.2.2.1 z
  refine ⟨okB, rfl, hg, Un.kept hk, ⟨_, hn', fun i y av e1 e2 e3 => ?_⟩, fun y c e => ?_, I.hok.fresh (Nat.le_refl _), fun y c e => I.freeC y c (cm e), fun p hp => absurd (show p ∈ ([] : List (Addr × Obj)) ++ [] from hp) (by simp), I.hok.kept hk, by rw [wipe_length]; exact I.len⟩
  · obtain ⟨e2, hne⟩ := wipe_some e2
    have hfr : scope.names.lookup y = some .free := by
      have e3 : Vis scope y := e3
      rcases e3 with e3 | e3 | e3
      · rcases ok.own _ (PySem.mem_of_lookup e3) (.inl rfl) with e' | e'
        · obtain ⟨p, hp, hpy⟩ := List.mem_map.mp e'
          have e4 := ok.ix p hp
          have : p.1 = y := hpy
          rw [this] at e4
          exact absurd (List.mem_map.mpr ⟨p, hp, nodup_ix hN e4 e1⟩) hne
        · exact absurd (List.mem_of_getElem? e1) e'
      · exact absurd rfl (S.cell _ (PySem.mem_of_lookup e3))
      · exact e3
    obtain ⟨m, hn, hl⟩ := I.loc
    have hvis : Vis X.env.scope y := (ok.free _ (PySem.mem_of_lookup hfr) rfl).elim (fun k => .inr (.inl k)) fun k => .inr (.inr k)
    obtain ⟨w, r, q⟩ := hl i y av e1 e2 hvis
    refine ⟨w, r, .inr ⟨.inr hfr, ?_⟩⟩
    obtain ⟨c, h1, h2⟩ := look hfr
    rcases q with ⟨k, _⟩ | ⟨_, c', e', z⟩
    · have k : X.env.scope.names.lookup y = some .local := k
      rcases ok.free _ (PySem.mem_of_lookup hfr) rfl with k' | k' <;> rw [show X.env.scope.names.lookup y = _ from k'] at k <;> cases k
    · rw [h2] at e'; cases e'
      exact ⟨c, h1, z.keeps hk⟩
  · obtain ⟨w, z⟩ := I.cell y c (cm e)
    exact ⟨w, z.keeps hk⟩
end
/-! ### the loop -/
abbrev gex (elt tg iter : Expr) (ifs : List Expr) (scope : Scope) (pos : Pos) : Expr := .GeneratorExp elt [⟨tg, iter, ifs, 0⟩] scope pos
/-- what the consumer has noted (in a list of its own), and what keeps it -/
structure ClOk (Cl : Shared → List V) (Ck : Hp → Hp → Prop) (Done : Hp → Prop) : Prop where
  C : ∀ (Y : Cx) pl σ1 H1 s1 pl' σ2 H2 s2, Inv Y pl σ1 H1 s1 → Inv Y pl' σ2 H2 s2 → Ck H1 H2 → Cl s1 = Cl s2
  g : ∀ s' g', Cl { s' with gens := g' } = Cl s'
  k : ∀ (Y : Cx) pl σ H' s' h', Inv Y pl σ H' s' → Done H' → (∀ b o, s'.heap.get? b = some o → h'.get? b = some o) → Cl { s' with heap := h' } = Cl s'
abbrev PutT := V → Hp → (Hp → Prop) → Prop
def GYg (Y : Cx) (pn : List (Addr × Obj)) (Cl : Shared → List V) (Put : PutT) : Protocol := fun _ s₀ v s kap =>
  ∃ y H' pg σ' Nx, Cl s₀ = Cl s ∧ RelV y v ∧ Inv Y (pn ++ pg) σ' H' s ∧ Put y H' Nx ∧ ∀ H'' s'', Inv Y (pn ++ pg) σ' H'' s'' → Nx H'' → kap (.send .none) s''
abbrev GRg (Y : Cx) (pn : List (Addr × Obj)) (σ : L2.St) (Cl : Shared → List V) (Done : Hp → Prop) : GenEnd := fun _ s₀ r s₁ => r = .ok .next ∧ ∃ H', Cl s₀ = Cl s₁ ∧ Inv Y pn σ H' s₁ ∧ Done H'
def GTurn (J : It) (g : TG) (tt : TT) (te : TE) (vs : List Nat) (σ : L2.St) (Ck : Hp → Hp → Prop) (Put : PutT) (Done : Hp → Prop) (W : Nat → Nat → Hp → Prop) : Prop := ∀ i m H, W i m H →
  (J.stop i H ∧ Ck H H ∧ Done H) ∨ (J.go i H ∧ ∃ Nx : Hp → Prop, (∀ H', Nx H' → ∃ m', m' < m ∧ W (i + 1) m' H') ∧ ∀ x H', J.yld i H x H' → g x (wipe σ vs) H' fun σ2 H2 => wipe σ2 vs = wipe σ vs ∧ tt σ2 H2 fun b H3 =>
    if b = true then te σ2 H3 fun y H4 => Ck H H4 ∧ Put y H4 Nx else Ck H H3 ∧ Nx H3)
section
variable {Y : Cx} {B : Around} {it : Addr} {pn : List (Addr × Obj)} {J : It} {fp : List Addr} {tn : Nat → Heap → Prop} {vs : List Nat} {σ : L2.St} {Cl : Shared → List V} {Ck : Hp → Hp → Prop} {Put : PutT} {Done : Hp → Prop} {W : Nat → Nat → Hp → Prop} {g : TG} {tt : TT} {te : TE} {elt tg iter : Expr} {ifs : List Expr} {scope : Scope} {pos : Pos}
theorem over_gen {A : Around} {e it acc : Value} {env : Env} : A.over (.compLoop (gex elt tg iter ifs scope pos) 0 it acc env) [] = A.deeper env := by
  first
    | rfl
    | (obtain ⟨hd, d, fr, gs, u⟩ := A; simp [Around.over, Around.deeper, marksOver, frameCount, unitsOf, envsOf, guardsOf, pushEnvs, pushGuards, Code.envs, Code.env?, Code.isFrame, Code.guards, Code.isGuard, Code.weight, Code.frames, Code.isCreation, Code.isCaller, Code.cUnits])
theorem over_gen0 {A : Around} {e it acc : Value} {env : Env} : A.over (.compStart (gex elt tg iter ifs scope pos) 0 it acc env) [] = A.deeper env := by
  first
    | rfl
    | (obtain ⟨hd, d, fr, gs, u⟩ := A; simp [Around.over, Around.deeper, marksOver, frameCount, unitsOf, envsOf, guardsOf, pushEnvs, pushGuards, Code.envs, Code.env?, Code.isFrame, Code.guards, Code.isGuard, Code.weight, Code.frames, Code.isCreation, Code.isCaller, Code.cUnits])
theorem gen_loop (ho : B.deeper Y.env = Y.A) (hx : Y.xe = fun _ _ => False) (hc : Y.calm = true) (hco : Y.env.scope.isCoroutine = false) (hex : ∀ b ∈ fp, b ∈ Y.ex) (hpn : Y.pn = []) (hpf : ∀ p ∈ pn, p.1 ∉ fp) (hC : ClOk Cl Ck Done)
    (T : Turn Y.prog Y.w Y.K tg J fp it tn) (pg : PG Y tg g) (pt : PTs Y ifs tt) (pe : PE Y elt te) (turn : GTurn J g tt te vs σ Ck Put Done W) :
    ∀ (m n i : Nat) (H : Hp) (s₀ s : Shared), m < n → Cl s₀ = Cl s → Inv Y pn (wipe σ vs) H s → tn i s.heap → (∀ b ∈ fp, H b = none) → W i m H →
      Seg (model Y.prog Y.w) B (GRg Y pn (wipe σ vs) Cl Done) (GYg Y pn Cl Put) n s₀ (.compLoop (gex elt tg iter ifs scope pos) 0 (.ref it) .none Y.env)
        ((model Y.prog Y.w).den (.compLoop (gex elt tg iter ifs scope pos) 0 (.ref it) .none Y.env)) [] s := by
  have hov : B.over (.compLoop (gex elt tg iter ifs scope pos) 0 (.ref it) .none Y.env) [] = Y.A := by rw [← ho]; exact over_gen (e := .none)
  have stat : ∀ {pl : List (Addr × Obj)} {σ' : L2.St} {H' : Hp} {s' : Shared}, Inv Y pl σ' H' s' → (∀ p ∈ pl, p.1 ∉ fp) → (∀ b ∈ fp, H' b = none) → ∀ b ∈ fp, FpOk Y pl H' b := fun {pl σ' H' s'} I' hp hn b hb =>
    ⟨hn b hb, (I'.ok.exf b (hex b hb)).1, I'.ok.exfs b (hex b hb), .inl (hex b hb), fun x c e => (I'.ok.exf b (hex b hb)).2 x c e, fun p hp' e => by rw [hpn] at hp'; exact hp p hp' (by rw [e]; exact hb)⟩
  intro m
  induction m using Nat.strongRecOn with
  | ind m ih =>
  intro n i H s₀ s hmn hcl I st hn w
  show Seg _ B _ _ _ s₀ _ ((compTurn (gex elt tg iter ifs scope pos) 0 (.ref it) .none Y.env).onRaise (leaving Y.env)) [] s
  rw [compTurn_gen, Sem.onRaise_eq_wrap]
  refine seg_bind_wrap (wpAny_standAt ?_)
  rcases turn i m H w with ⟨stop, ck, dn⟩ | ⟨go, Nx, hNx, step⟩
  · have td := T.done Y rfl rfl rfl hc i pn s _ H (fun _ _ => False) I (stat I hpf hn) st stop
    refine seg_bind_wrap ?_
    rw [hov]
    refine thnF td fun r s6 ⟨hr, I6⟩ => ?_
    subst hr
    exact seg_end (.ok .next) ⟨rfl, H, hcl.trans (hC.C _ _ _ _ _ _ _ _ _ I I6 ck), I6, dn⟩
  · have ti := T.item Y rfl rfl rfl hc i pn s _ H (fun _ _ => False) I (stat I hpf hn) st go
    refine seg_bind_wrap ?_
    rw [hov]
    refine thnF ti fun r s6 ⟨u, hr, h6⟩ => ?_
    subst hr
    refine seg_bind_wrap ?_
    rw [hov]
    refine thnF h6 fun _ s7 ⟨x, H7, I7, r7, y7, st7, n7⟩ => ?_
    have I7' := I7.pinned (stat I7 hpf n7) (T.obj _ _ st7)
    have pgr := pg.run _ s7 _ H7 x u _ I7' r7 (step x H7 y7)
    rw [hx] at pgr
    refine seg_bind_wrap ?_
    rw [hov]
    refine thnF pgr fun _ s8 ⟨σ8, H8, I8, hw8, q8⟩ => ?_
    have ptr := pt.run _ s8 σ8 H8 _ I8 q8
    rw [hx] at ptr
    refine seg_bind_wrap ?_
    rw [hov]
    refine thnF ptr fun b s9 ⟨H9, I9, q9⟩ => ?_
    have fin : ∀ {s' : Shared} {H' : Hp}, Inv Y (pn ++ pinsAt fp s7.heap) σ8 H' s' → Inv Y pn (wipe σ vs) H' s' ∧ tn (i + 1) s'.heap ∧ ∀ b ∈ fp, H' b = none := fun {s' H'} I' => by
      have pin' : ∀ b ∈ fp, ∀ o, s7.heap.get? b = some o → s'.heap.get? b = some o ∧ H' b = none := fun b hb o e =>
        let z := I'.pin (b, o) (List.mem_append_right _ (List.mem_append_right _ (mem_pinsAt hb e)))
        ⟨z.1, z.2.1⟩
      have hl : (wipe σ vs).length = σ8.length := by rw [← hw8, wipe_length]
      refine ⟨I'.unpinned.weak hl fun j v e => ?_, T.keep _ _ _ st7 fun b hb o e => (pin' b hb o e).1, fun b hb => ?_⟩
      · rw [← hw8] at e
        exact (wipe_some e).1
      · obtain ⟨o, e, _⟩ := T.obj _ _ st7 b hb
        exact (pin' b hb o e).2
    cases b with
    | false =>
      simp only [Bool.false_eq_true, if_false] at q9 ⊢
      obtain ⟨m', hm, w'⟩ := hNx H9 q9.2
      obtain ⟨k1, k2, k3⟩ := fin I9
      exact seg_again rfl (ih m' hm n (i + 1) H9 s₀ s9 (Nat.lt_trans hm hmn) (hcl.trans (hC.C _ _ _ _ _ _ _ _ _ I I9 q9.1)) k1 k2 k3 w')
    | true =>
      simp only [if_true] at q9 ⊢
      have hy : ∀ v, yieldOut Y.env v = yieldValue v := fun v => by simp only [yieldOut, hco, Bool.false_eq_true, if_false]
      simp only [hy]
      rw [Sem.bind_eq_wrap', Sem.bind_eq_wrap', Sem.wrap_wrap, Sem.wrap_wrap]
      have per := pe.run _ s9 σ8 H9 _ I9 q9
      rw [hx] at per
      refine seg_wrap ?_
      rw [hov]
      refine thnF per fun z s10 ⟨yv, H10, I10, r10, ck, pu⟩ => ?_
      obtain ⟨n', rfl⟩ : ∃ n', n = n' + 1 := ⟨n - 1, by omega⟩
      refine seg_at (seg_yield rfl rfl rfl ⟨yv, H10, pinsAt fp s7.heap, σ8, Nx, hcl.trans (hC.C _ _ _ _ _ _ _ _ _ I I10 ck), r10, I10, pu, fun H'' s'' I'' nx => ?_⟩)
      obtain ⟨m', hm, w'⟩ := hNx H'' nx
      obtain ⟨k1, k2, k3⟩ := fin I''
      exact seg_again rfl (ih m' hm n' (i + 1) H'' s'' s'' (by omega) rfl k1 k2 k3 w')
theorem gen_begin (ho : B.deeper Y.env = Y.A) (hx : Y.xe = fun _ _ => False) (hc : Y.calm = true) (hco : Y.env.scope.isCoroutine = false) (hex : ∀ b ∈ fp, b ∈ Y.ex) (hpn : Y.pn = []) (hpf : ∀ p ∈ pn, p.1 ∉ fp) (hC : ClOk Cl Ck Done)
    (T : Turn Y.prog Y.w Y.K tg J fp it tn) (pg : PG Y tg g) (pt : PTs Y ifs tt) (pe : PE Y elt te) (turn : GTurn J g tt te vs σ Ck Put Done W) (m n : Nat) (H : Hp) (s₀ s : Shared) (hmn : m < n) (hcl : Cl s₀ = Cl s) (I : Inv Y pn (wipe σ vs) H s) (st : tn 0 s.heap) (hn : ∀ b ∈ fp, H b = none) (w : W 0 m H) :
    Seg (model Y.prog Y.w) B (GRg Y pn (wipe σ vs) Cl Done) (GYg Y pn Cl Put) n s₀ (.compStart (gex elt tg iter ifs scope pos) 0 (.ref it) .none Y.env)
      ((model Y.prog Y.w).den (.compStart (gex elt tg iter ifs scope pos) 0 (.ref it) .none Y.env)) [] s := by
  have loop := gen_loop (iter := iter) (scope := scope) (pos := pos) ho hx hc hco hex hpn hpf hC T pg pt pe turn m n 0 H s₀ s hmn hcl I st hn w
  show Seg _ B _ _ _ s₀ _ ((compStart (gex elt tg iter ifs scope pos) 0 (.ref it) .none Y.env).onRaise (leaving Y.env)) [] s
  unfold compStart
  rw [Sem.onRaise_eq_wrap]
  show Seg _ B _ _ _ s₀ _ ((ask >>= _).wrap _ _ _ _) [] s
  refine seg_bind_wrap (wpAny_askSetting ?_)
  split
  · exact seg_again rfl loop
  · first
      | exact seg_bind_wrap (wpAny_rule (seg_bind_wrap (wpAny_standAt (seg_bind_wrap (T.self _ 0 s _ _ st (seg_again rfl loop))))))
      | (refine seg_bind_wrap (wpAny_rule ?_); show Seg _ B _ _ _ s₀ _ ((standAt iter.pos >>= _).wrap _ _ _ _) [] s; exact seg_bind_wrap (wpAny_standAt (seg_bind_wrap (T.self _ 0 s _ _ st (seg_again rfl loop)))))
/-! ### asked for the next -/
def GGo (Y : Cx) (B : Around) (pn : List (Addr × Obj)) (σw : L2.St) (Cl : Shared → List V) (Put : PutT) (Done : Hp → Prop) (gn n : Nat) (s : Shared) : Prop :=
  ∃ gs, s.gens[gn]? = some gs ∧ gs.Goes (model Y.prog Y.w) B (GRg Y pn σw Cl Done) (GYg Y pn Cl Put) n (.send .none) (s.setGen gn .running)
theorem gen_next {a : Addr} {go : Obj} {gn n : Nat} {σw σ' : L2.St} {H : Hp} {s : Shared} {pg : List (Addr × Obj)} {Q : Option Value → Shared → Prop} {E : Value → Shared → Prop} (hh : B.handled = none) (hd : B.depth < recursionLimit) (hap : (a, go) ∈ pn)
    (hgo : ∀ h : Heap, h.get? a = some go → h.IsGen a gn) (I : Inv Y (pn ++ pg) σ' H s) (hg : GGo Y B.in1 pn σw Cl Put Done gn n s)
    (hC : ClOk Cl Ck Done)
    (hQ0 : ∀ H' s', Cl s = Cl s' → Inv Y pn σw H' s' → Done H' → Q none s')
    (hQ1 : ∀ v y H' s' pg σ' Nx, Cl s = Cl s' → RelV y v → Inv Y (pn ++ pg) σ' H' s' → Put y H' Nx → (∀ H'' s'', Inv Y (pn ++ pg) σ' H'' s'' → s''.gens = s'.gens → Nx H'' → ∃ m, n = m + 1 ∧ GGo Y B.in1 pn σw Cl Put Done gn m s'') → Q (some v) s') :
    wpAny (model Y.prog Y.w) B (pyNext (.ref a)) Q E s := by
  obtain ⟨gs, hgs, hgo'⟩ := hg
  have hgl : gn < s.gens.size := (Array.getElem?_eq_some_iff.mp hgs).1
  have ig : s.heap.IsGen a gn := hgo _ (I.pin (a, go) (List.mem_append_right _ (List.mem_append_left _ hap))).1
  refine wpAny_gsz (n := gn + 1) hgl (wpAny_pyNext_genexpQ (P := fun _ s₀ s₁ => ∃ H', Cl s₀ = Cl s₁ ∧ Inv Y pn σw H' s₁ ∧ Done H') hh I.nolimit hd ig hgs hgo' (fun v s₁ gs' hb hv hsz => ?_) (fun s₁ hp h' hk hsz => ?_))
  · obtain ⟨y, H', pg', σ2, Nx, hcl, r, I', pu, kap⟩ := hv
    have hsz1 : gn < s₁.gens.size := by
      rw [setGen_size] at hsz
      omega
    refine hQ1 v y H' _ pg' σ2 Nx ((hC.g s _).symm.trans (hcl.trans (hC.g s₁ _).symm)) r (inv_gens I' (allBare_setGen I'.bare hb)) pu fun H'' s'' I'' hg'' nx => ?_
    have hk := kap H'' (s''.setGen gn .running) (inv_gens I'' (allBare_setGen I''.bare rfl)) nx
    cases n with
    | zero => exact hk.elim
    | succ m =>
      refine ⟨m, rfl, gs', ?_, hk⟩
      rw [hg'']
      exact setGen_at hsz1
  · obtain ⟨H', hcl, I', dn⟩ := hp
    exact hQ0 H' _ ((hC.g s _).symm.trans (hcl.trans ((hC.k _ _ _ _ _ _ I' dn hk).symm.trans (hC.g { s₁ with heap := h' } _).symm))) (inv_gens (I'.kept (t' := s₁.toks) hk) (allBare_setGen I'.bare rfl)) dn
end
end G
/-! a generator expression is made; what its consumer meets -/
namespace G
open PySem PySem.Spec PyProof.Rows L2 GenW
/-- one asking: the end, or a value; k: what holds when all is ready for the next -/
def GNs (X : Cx) (pins : List (Addr × Obj)) (σ : L2.St) (B : Around) (a : Addr) (Cl : Shared → List V) (Put : PutT) (Done : Hp → Prop) (k : Shared → Prop) (s : Shared) : Prop :=
  ∀ (Q : Option Value → Shared → Prop) (E : Value → Shared → Prop), (∀ H' s', Cl s = Cl s' → Inv X pins σ H' s' → Done H' → Q none s') →
    (∀ v y H' s' Nx (Y : Cx) pg σ', Y.prog = X.prog → Y.w = X.w → Cl s = Cl s' → RelV y v → Inv Y pg σ' H' s' → Put y H' Nx → (∀ H'' s'', Inv Y pg σ' H'' s'' → Inv X pins σ H'' s'') →
      (∀ H'' s'', Inv Y pg σ' H'' s'' → s''.gens = s'.gens → Nx H'' → k s'') → Q (some v) s') → wpAny (model X.prog X.w) B (pyNext (.ref a)) Q E s
def GN (X : Cx) (pins : List (Addr × Obj)) (σ : L2.St) (B : Around) (a : Addr) (Cl : Shared → List V) (Put : PutT) (Done : Hp → Prop) : Nat → Shared → Prop
  | 0 => GNs X pins σ B a Cl Put Done fun _ => False
  | n + 1 => GNs X pins σ B a Cl Put Done (GN X pins σ B a Cl Put Done n)
structure AOk (X : Cx) (B : Around) : Prop where
  hd : B.handled = none
  fr : B.frames = some X.stack
  dp : B.depth ≤ X.A.depth + 2
  un : B.units ≤ X.A.units + 8
theorem AOk.in1 {X : Cx} {B : Around} (h : AOk X B) (hu : B.units + 1 ≤ X.A.units + 8) : AOk X B.in1 := ⟨h.hd, h.fr, h.dp, hu⟩
structure GA (X : Cx) (env : Env) (A : Around) : Prop where
  hd : A.handled = none
  fr : A.frames = some (env :: X.stack)
  dp : A.depth ≤ X.A.depth + 4
  un : A.units ≤ X.A.units + 16
theorem AOk.ga {X : Cx} {B : Around} (h : AOk X B) (env : Env) : GA X env (B.in1.deeper env) :=
  ⟨h.hd, Around.frames_deeper (A := B.in1) h.fr, by have := h.dp; show B.depth + 1 ≤ _; omega, by have := h.un; show B.units + 1 + 3 ≤ _; omega⟩
def GReady (X : Cx) (pins : List (Addr × Obj)) (σ : L2.St) (J : It) (g : TG) (tt : TT) (te : TE) (vs : List Nat) (a : Addr) (H0 : Hp) (s : Shared) : Prop :=
  ∃ (Y : Cx) (pg : List (Addr × Obj)) (σ' : L2.St), Y.prog = X.prog ∧ Y.w = X.w ∧ Inv Y pg σ' H0 s ∧ (∀ H'' s'', Inv Y pg σ' H'' s'' → (∃ gn, s''.heap.IsGen a gn) ∧ Inv X pins σ H'' s'') ∧
    ∀ B Cl Ck Put Done W m H'' s'', AOk X B → ClOk Cl Ck Done → Inv Y pg σ' H'' s'' → s''.gens = s.gens → GTurn J g tt te vs σ Ck Put Done W → W 0 m H'' → ∃ n, GN X pins σ B a Cl Put Done n s''
section
variable {X : Cx} {pins : List (Addr × Obj)} {σ : L2.St} {H : Hp} {s : Shared}
theorem gn_of {A B : Around} {s0 : Shared} {H0 : Hp} {scope : Scope} {env : Env} {fp : List Addr} {a : Addr} {go : Obj} {gn : Nat} {pn : List (Addr × Obj)} {σw : L2.St} {Cl : Shared → List V} {Ck : Hp → Hp → Prop} {Put : PutT} {Done : Hp → Prop} (hC : ClOk Cl Ck Done) (hh : B.handled = none) (hd : B.depth < recursionLimit) (hap : (a, go) ∈ pn) (hgo : ∀ h : Heap, h.get? a = some go → h.IsGen a gn)
    (rs : ∀ pg σ' H'' s'', Inv (gblk X A s0 H0 scope env fp) pg σ' H'' s'' → Inv X pins σ H'' s'') :
    ∀ (n : Nat) (s : Shared) (pg : List (Addr × Obj)) (σ' : L2.St) (H : Hp), Inv (gblk X A s0 H0 scope env fp) (pn ++ pg) σ' H s → GGo (gblk X A s0 H0 scope env fp) B.in1 pn σw Cl Put Done gn n s → GN X pins σ B a Cl Put Done n s
  | 0, s, pg, σ', H, I, hg => fun Q E hQ0 hQ1 => gen_next (Y := gblk X A s0 H0 scope env fp) hh hd hap hgo I hg hC (fun H' s' cl I' dn => hQ0 H' s' cl (rs _ _ _ _ I') dn)
      fun v y H' s' pg' σ2 Nx cl r I' pu kap => hQ1 v y H' s' Nx (gblk X A s0 H0 scope env fp) (pn ++ pg') σ2 rfl rfl cl r I' pu (fun H'' s'' => rs _ _ H'' s'') fun H'' s'' I'' hg' nx => by
        obtain ⟨m, e, _⟩ := kap H'' s'' I'' hg' nx
        cases e
  | n + 1, s, pg, σ', H, I, hg => fun Q E hQ0 hQ1 => gen_next (Y := gblk X A s0 H0 scope env fp) hh hd hap hgo I hg hC (fun H' s' cl I' dn => hQ0 H' s' cl (rs _ _ _ _ I') dn)
      fun v y H' s' pg' σ2 Nx cl r I' pu kap => hQ1 v y H' s' Nx (gblk X A s0 H0 scope env fp) (pn ++ pg') σ2 rfl rfl cl r I' pu (fun H'' s'' => rs _ _ H'' s'') fun H'' s'' I'' hg' nx => by
        obtain ⟨m, e, g2⟩ := kap H'' s'' I'' hg' nx
        cases e
        exact gn_of hC hh hd hap hgo rs n s'' pg' σ2 H'' I'' g2
theorem gen_make {c P : Addr} {wi : TI} {R : It → Hp → Prop} {own : List (Str × Nat)} {g : TG} {tt : TT} {te : TE} {elt tg iter : Expr} {ifs : List Expr} {scope : Scope} {pos : Pos} {Q' : Value → Shared → Prop} (hc : X.calm = true) (hd : X.A.depth + 3 < recursionLimit) (TB : GxR.TabB X.base X.mg c P) (hcode : X.env.code = .ref c)
    (ok : BlkOk X.N X.env.scope scope own) (S : GScp scope) (hN : X.N.Nodup) (hi : PI X tg iter wi)
    (hg : ∀ (A : Around) (s : Shared) (H : Hp) (Ca : Addr) (code : Value) (fp : List Addr), GA X (gEnv X scope Ca code) A → PG (gblk X A s H scope (gEnv X scope Ca code) fp) tg g)
    (ht : ∀ (A : Around) (s : Shared) (H : Hp) (Ca : Addr) (code : Value) (fp : List Addr), GA X (gEnv X scope Ca code) A → PTs (gblk X A s H scope (gEnv X scope Ca code) fp) ifs tt)
    (he : ∀ (A : Around) (s : Shared) (H : Hp) (Ca : Addr) (code : Value) (fp : List Addr), GA X (gEnv X scope Ca code) A → PE (gblk X A s H scope (gEnv X scope Ca code) fp) elt te)
    (hs : ∀ v, genFold iter X.env v = pure v) (I : Inv X pins σ H s) (h : wi σ H fun J H1 => GxR.TabG H1 P ∧ R J H1)
    (hQ : ∀ a J H1 H0 s', R J H1 → GxR.Tabbed P H1 H0 → GReady X pins σ J g tt te (own.map (·.2)) a H0 s' → Q' (.ref a) s') :
    wpAny (model X.prog X.w) X.A (eval (gex elt tg iter ifs scope pos) X.env) Q' X.xe s := by
  have hfree : ∀ y ∈ scope.names, y.2 = .free → ∃ c, X.env.cells.lookup y.1 = some c := fun y hy e => by
    rcases ok.free y hy e with k | k
    · exact I.ok.has _ (.inl k)
    · exact I.ok.has _ (.inr k)
  refine wpAny_GeneratorExp_make S.co (closure_ok hfree) S.cell S.dot ok.kind (by omega) ?_ hs
  refine thn (hi.run pins s σ H _ I h) fun xv s1 hx => thn hx fun itv s2 h2 => ?_
  obtain ⟨it, fp, tn, J, H2, e, I2, T, st2, f2, ⟨ps, hP, htr⟩, q⟩ := h2
  subst e
  have hPs : s2.heap.get? P = some { cls := .none, data := .fields ps } := I2.hok P _ hP
  have cd : PySem.W.CodeHd s2.heap c P := TB.code.keeps I2.bk
  refine ⟨I2.nolimit, ?_⟩
  have cont : ∀ (code : Value) (h3 : Heap) (tk : Nat) (ps' : Array Value), Heap.ExtBut P s2.heap h3 → s2.heap.objs.size ≤ h3.objs.size → h3.get? P = some { cls := .none, data := .fields ps' } → (∃ more, ps' = ps ++ more) → TriplesOk ps'.toList →
      wpAny (model X.prog X.w) X.A (builtinsFor X.env.globals X.env.builtins) (fun bi s₄ =>
        ∀ h', h'.Ns s₄.heap.objs.size (fun y => if y = ".0" then some (.ref it) else none) → Heap.SameBut s₄.heap.objs.size (s₄.heap.push { cls := .type "frame", data := .dict #[] }) h' →
          Q' (.ref h'.objs.size) { s₄ with
            gens := s₄.gens.push (.fresh (.compStart (gex elt tg iter ifs scope pos) 0 (.ref it) .none (genEnv scope (cloFrom X.env.cells scope.names []) s₄.heap.objs.size code bi X.env))),
            toks := s₄.toks + 1 + 1 + 1,
            heap := h'.push { cls := .type "generator", data := .fields #[.int s₄.gens.size 0, .str "<genexpr>" (s₄.toks + 1), .str (X.env.qual ++ "<genexpr>") (s₄.toks + 1 + 1)] } }) X.xe { s2 with heap := h3, toks := tk } := by
    intro code h3 tk ps' hx hsz hP3 hmore ht3
    obtain ⟨bm, ob, e1, e2, e3, e4, e5, e6, e7, e8⟩ := TB.bm
    refine wpAny_builtinsFor (m := X.mg) (by rw [I2.ok.glob]; exact (I2.mod.glob.keeps I2.bk).extBut hx TB.gP) e1 e2 (hx _ _ e4 (I2.bk _ _ e5)) e6 e7 e8 ?_
    intro h' hn' hs'
    have I4 : Inv X pins σ (upd H2 P (.tbl ps')) { s2 with heap := h3, toks := tk } := by
      obtain ⟨more, rfl⟩ := hmore
      exact GxR.inv_tab (more := more) (g' := s2.gens) (d' := s2.drawn) I2 hP (fun b o hb e => hx b o hb e) hP3 I2.bare
    have htab : GxR.Tabbed P H2 (upd H2 P (.tbl ps')) := ⟨⟨ps', upd_same, ht3⟩, fun b hb => upd_ne hb⟩
    generalize hH4 : upd H2 P (.tbl ps') = H4 at I4 htab
    generalize hs4 : ({ s2 with heap := h3, toks := tk } : Shared) = s4 at I4 hn' hs' ⊢
    have hh4 : s4.heap = h3 := by rw [← hs4]
    have nP : ∀ b, H2 b = none → b ≠ P := fun b e z => by rw [z, hP] at e; cases e
    have f4 : ∀ b ∈ fp, FpOk X pins H4 b ∧ b < s4.heap.objs.size := fun b hb => by
      obtain ⟨o, eo, _⟩ := T.obj _ _ st2 b hb
      refine ⟨⟨?_, (f2 b hb).2⟩, by rw [hh4]; exact Nat.lt_of_lt_of_le (Heap.lt_size eo) hsz⟩
      rw [htab.2 b (nP b (f2 b hb).1)]
      exact (f2 b hb).1
    generalize hgo : ({ cls := .type "generator", data := .fields #[.int s4.gens.size 0, .str "<genexpr>" (s4.toks + 1), .str (X.env.qual ++ "<genexpr>") (s4.toks + 1 + 1)] } : Obj) = go
    have szh : h'.objs.size = s4.heap.objs.size + 1 := by rw [hs'.1, Heap.size_push]
    have k4 : ∀ b o, s4.heap.get? b = some o → (h'.push go).get? b = some o := fun b o e => Heap.get?_push_of_some _ (hs'.extBut b o (Nat.ne_of_lt (Heap.lt_size e)) (Heap.get?_push_of_some _ e))
    have hisgen : ∀ h : Heap, h.get? h'.objs.size = some go → h.IsGen h'.objs.size s4.gens.size := fun h e => ⟨go, _, _, e, by rw [← hgo], by rw [← hgo], by rw [← hgo]⟩
    have a1 : ∀ env : Env, (X.A.deeper env).handled = none := fun env => I2.ok.hd hc
    have I5 := gen_start (g' := s4.gens.push (.fresh (.compStart (gex elt tg iter ifs scope pos) 0 (.ref it) .none (gEnv X scope s4.heap.objs.size code)))) (t' := s4.toks + 1 + 1 + 1) (A := X.A.deeper (gEnv X scope s4.heap.objs.size code)) I4 ok S hN f4 (a1 _) (Around.frames_deeper I4.ok.frames) (hn'.push go) k4 (I4.bare.push rfl)
    generalize hs5 : ({ s4 with heap := h'.push go, gens := s4.gens.push (.fresh (.compStart (gex elt tg iter ifs scope pos) 0 (.ref it) .none (gEnv X scope s4.heap.objs.size code))), toks := s4.toks + 1 + 1 + 1 } : Shared) = s5 at I5
    have hh5 : s5.heap = h'.push go := by rw [← hs5]
    have hg5 : s5.gens = s4.gens.push (.fresh (.compStart (gex elt tg iter ifs scope pos) 0 (.ref it) .none (gEnv X scope s4.heap.objs.size code))) := by rw [← hs5]
    have I6 : Inv (gblk X (X.A.deeper (gEnv X scope s4.heap.objs.size code)) s4 H4 scope (gEnv X scope s4.heap.objs.size code) fp) [(h'.objs.size, go)] (wipe σ (own.map (·.2))) H4 s5 := I5.pins_of fun p hp => by
      rw [List.mem_singleton.mp hp]
      refine ⟨by rw [hh5]; exact Heap.get?_push_size _ (by rw [← hgo]; rfl), I4.hok.fresh (by rw [szh]; exact Nat.le_succ _), by rw [szh]; exact Nat.succ_ne_self _, fun z => ?_, fun v z => by rw [← hgo] at z; cases z⟩
      have z : h'.objs.size ∈ frs X.stack := z
      rcases List.mem_cons.mp (I4.stkSub _ z) with z | z
      · have q := I4.lt
        rw [← z] at q
        exact absurd (Nat.lt_of_lt_of_le q (by rw [szh]; exact Nat.le_succ _)) (Nat.lt_irrefl _)
      · exact I4.nofs (by rw [szh]; exact Nat.le_succ _) z
    have hpf : ∀ p ∈ [(h'.objs.size, go)], p.1 ∉ fp := fun p hp z => by
      rw [List.mem_singleton.mp hp] at z
      have q : h'.objs.size < s4.heap.objs.size := (f4 _ z).2
      exact absurd (Nat.lt_of_lt_of_le q (by rw [szh]; exact Nat.le_succ _)) (Nat.lt_irrefl _)
    have st5 : tn 0 s5.heap := T.keep _ _ _ st2 fun b hb o e => by
      rw [hh5]
      refine k4 b o ?_
      rw [hh4]
      exact hx b o (nP b (f2 b hb).1) e
    have stat : ∀ {A : Around} {pl : List (Addr × Obj)} {σ' : L2.St} {H' : Hp} {s' : Shared}, Inv (gblk X A s4 H4 scope (gEnv X scope s4.heap.objs.size code) fp) pl σ' H' s' → (∀ p ∈ pl, p.1 ∉ fp) → (∀ b ∈ fp, H' b = none) → ∀ b ∈ fp, FpOk (gblk X A s4 H4 scope (gEnv X scope s4.heap.objs.size code) fp) pl H' b := fun {A pl σ' H' s'} I' hp hn b hb =>
      ⟨hn b hb, (I'.ok.exf b hb).1, I'.ok.exfs b hb, .inl hb, fun x c e => (I'.ok.exf b hb).2 x c e, fun p hp' e => hp p hp' (by rw [e]; exact hb)⟩
    have I7 := I6.pinned (stat I6 hpf fun b hb => (f4 b hb).1.1) (T.obj _ _ st5)
    have rs : ∀ A pg σ' H'' s'', Inv (gblk X A s4 H4 scope (gEnv X scope s4.heap.objs.size code) fp) pg σ' H'' s'' → Inv X pins σ H'' s'' := fun A pg σ' H'' s'' I' =>
      I4.call' (ch := fp) I'.os I'.base I'.hok I'.bare fun b hb => ⟨(f4 b hb).1.2.2.2.1, (f4 b hb).1.2.1, (f4 b hb).1.2.2.2.2.1, (f4 b hb).1.2.2.2.2.2⟩
    have fin : GReady X pins σ J g tt te (own.map (·.2)) h'.objs.size H4 s5 := by
      refine ⟨gblk X (X.A.deeper (gEnv X scope s4.heap.objs.size code)) s4 H4 scope (gEnv X scope s4.heap.objs.size code) fp, _, _, rfl, rfl, I7, fun H'' s'' I'' => ⟨⟨_, hisgen _ (I''.pin (h'.objs.size, go) (List.mem_append_right _ (List.mem_append_left _ List.mem_cons_self))).1⟩, rs _ _ _ _ _ I''⟩, fun B Cl Ck Put Done W m H'' s'' hB hC I'' hge turn w => ⟨m + 1, ?_⟩⟩
      have hGA := hB.ga (gEnv X scope s4.heap.objs.size code)
      have J1 := inv_at (A' := B.in1.deeper (gEnv X scope s4.heap.objs.size code)) I'' hGA.hd hGA.fr
      have hge : s''.gens = s5.gens := hge
      refine gn_of (σw := wipe σ (own.map (·.2))) hC hB.hd (by have := hB.dp; omega) List.mem_cons_self hisgen (rs _) (m + 1) s'' _ _ H'' J1 ⟨.fresh (.compStart (gex elt tg iter ifs scope pos) 0 (.ref it) .none (gEnv X scope s4.heap.objs.size code)), ?_, rfl, ?_⟩
      · rw [hge, hg5]
        exact Array.getElem?_push_size ..
      · have pin' : ∀ b ∈ fp, ∀ o, s5.heap.get? b = some o → s''.heap.get? b = some o ∧ H'' b = none := fun b hb o e =>
          let z := J1.pin (b, o) (List.mem_append_right _ (List.mem_append_right _ (mem_pinsAt hb e)))
          ⟨z.1, z.2.1⟩
        have J2 : Inv (gblk X (B.in1.deeper (gEnv X scope s4.heap.objs.size code)) s4 H4 scope (gEnv X scope s4.heap.objs.size code) fp) [(h'.objs.size, go)] (wipe σ (own.map (·.2))) H'' (s''.setGen s4.gens.size .running) := inv_gens J1.unpinned (allBare_setGen J1.bare rfl)
        refine gen_begin (Y := gblk X (B.in1.deeper (gEnv X scope s4.heap.objs.size code)) s4 H4 scope (gEnv X scope s4.heap.objs.size code) fp) rfl rfl rfl S.co (fun b hb => hb) rfl hpf hC T (hg _ _ _ _ _ _ hGA) (ht _ _ _ _ _ _ hGA) (he _ _ _ _ _ _ hGA) turn m (m + 1) H'' _ _ (Nat.lt_succ_self m) rfl J2 (T.keep _ _ _ st5 fun b hb o e => (pin' b hb o e).1) (fun b hb => ?_) w
        obtain ⟨o, e, _⟩ := T.obj _ _ st5 b hb
        exact (pin' b hb o e).2
    exact hQ h'.objs.size J H2 H4 s5 q htab fin
  cases hf : codeAmong pos ps.toList with
  | none =>
    refine wpAny_genexprCodeX hcode (cd.code hPs htr) (cd.tab hPs) hf fun c' h' tk hx hge hlt hco' _ htab' _ => ?_
    obtain ⟨o1, vs, f1, tf, fl, tg, inF, tx, tt, op, _, _, _, _, _, _, _, _, _, htr', _⟩ := hco'
    exact cont _ h' tk _ hx (Nat.le_trans hge (Nat.le_of_lt hlt)) htab'.2 ⟨_, rfl⟩ htr'
  | some cv =>
    refine wpAny_genexprCode_hit hcode (cd.code hPs htr) hf ?_
    exact cont cv s2.heap s2.toks ps (Heap.ExtBut.refl _ _) (Nat.le_refl _) hPs ⟨#[], by simp⟩ htr
end
end G
/-! what consumes a generator expression -/
namespace G
open PySem PySem.Spec PyProof.Rows L2 GenW
section
variable {X Y : Cx} {pins pg : List (Addr × Obj)} {σ σ' : L2.St} {H : Hp} {s : Shared} {D : Addr}
/-- the tracked list at D is written -/
theorem inv_lst {acc ys : List V} {f : Array Value → Array Value} (I : Inv Y pg σ' H s) (hD : H D = some (.lst acc)) (hz : ys.length ≤ sizeLine) (hr : ∀ its : List Value, Vals acc its → Vals ys (f its.toArray).toList) :
    Inv Y pg σ' (upd H D (.lst ys)) { s with heap := s.heap.update D (Obj.mapSeq f) } := by
  obtain ⟨_, its, n, ri, e⟩ := I.hok D _ hD
  obtain ⟨n', e'⟩ : ∃ n', (s.heap.update D (Obj.mapSeq f)).get? D = some { cls := .type "list", data := .seq (f its.toArray) n' } := ⟨_, Heap.get?_update_self (Obj.mapSeq f) e rfl⟩
  refine I.write (t' := s.toks) (by rw [hD]; trivial) (.inl rfl) (fun b u hb q => (Heap.get?_update_other _ _ (Ne.symm hb)).trans q) ⟨_, e'⟩ ⟨hz, (f its.toArray).toList, _, hr its ri, by rw [Array.toArray_toList]; exact e'⟩
abbrev Cl0 : Shared → List V := fun _ => []
abbrev Ck0 : Hp → Hp → Prop := fun _ _ => True
theorem cl0 {Done : Hp → Prop} : ClOk Cl0 Ck0 Done := ⟨fun _ _ _ _ _ _ _ _ _ _ _ _ => rfl, fun _ _ => rfl, fun _ _ _ _ _ _ _ _ _ => rfl⟩
/-- what stands in the list at D -/
def vOf : Value → V
  | .none => .non | .bool b => .bl b | .int i _ => .int i | .str x _ => .str x | .bytes b _ => .byt b | .float b _ => .flt b | .ref a => .ref a | .type n => .ty n
  | _ => .non
theorem vOf_eq : ∀ {x : V} {v : Value}, RelV x v → vOf v = x
  | .non, v, h => by obtain rfl : v = _ := h; rfl
  | .bl b, v, h => by obtain rfl : v = _ := h; rfl
  | .int i, v, h => by obtain ⟨t, rfl⟩ := h; rfl
  | .str i, v, h => by obtain ⟨t, rfl⟩ := h; rfl
  | .byt i, v, h => by obtain ⟨t, rfl⟩ := h; rfl
  | .flt i, v, h => by obtain ⟨t, rfl⟩ := h; rfl
  | .ref a, v, h => by obtain rfl : v = _ := h; rfl
  | .ty n, v, h => by obtain rfl : v = _ := h; rfl
theorem vOfs_eq : ∀ {xs : List V} {us : List Value}, Vals xs us → us.map vOf = xs
  | [], _, .nil => rfl
  | x :: xs, _, .cons r t => by rw [List.map_cons, vOf_eq r, vOfs_eq t]
def cellH (D : Addr) (h : Heap) : List V := match h.get? D with
  | some o => (match o.data with | .seq its _ => its.toList.map vOf | _ => [])
  | none => []
def ClD (D : Addr) : Shared → List V := fun s => cellH D s.heap
def CkD (D : Addr) : Hp → Hp → Prop := fun H H' => ∃ xs, H D = some (.lst xs) ∧ H' D = some (.lst xs)
theorem clD_eq {xs : List V} (I : Inv Y pg σ' H s) (h : H D = some (.lst xs)) : ClD D s = xs := by
  obtain ⟨_, its, n, r, e⟩ := I.hok D _ h
  unfold ClD cellH
  rw [e]
  exact vOfs_eq r
theorem clD {Done : Hp → Prop} (hD : ∀ H, Done H → ∃ xs, H D = some (.lst xs)) : ClOk (ClD D) (CkD D) Done where
  C := fun Y pl σ1 H1 s1 pl' σ2 H2 s2 I1 I2 ⟨xs, e1, e2⟩ => by rw [clD_eq I1 e1, clD_eq I2 e2]
  g := fun _ _ => rfl
  k := fun Y pl σ H' s' h' I d k => by
    obtain ⟨xs, e⟩ := hD _ d
    obtain ⟨_, its, n, r, e'⟩ := I.hok D _ e
    show cellH D h' = cellH D s'.heap
    unfold cellH
    rw [e', k _ _ e']
/-! ### a list of all that comes -/
def PutL (D : Addr) : PutT := fun y H Nx => ∃ acc, H D = some (.lst acc) ∧ acc.length < sizeLine ∧ Nx (upd H D (.lst (acc ++ [y])))
theorem extend_step {A : Around} {a : Addr} {res : Value} {Dn : Hp → Prop} {k : Shared → Prop} {R : Result → Shared → Prop} (hR : ∀ H' s', Inv X pins σ H' s' → Dn H' → R (.ok (.ret res)) s')
    (ih : ∀ s', k s' → codeAny (model X.prog X.w) A (.builtin "list.extend.loop" ⟨[.ref D, .ref a, res], []⟩) R s') (h : GNs X pins σ A.in1 a Cl0 (PutL D) Dn k s) : codeAny (model X.prog X.w) A (.builtin "list.extend.loop" ⟨[.ref D, .ref a, res], []⟩) R s := by
  refine codeAny_builtin F.entry_extend_loop ?_
  rw [Around.under_plainId F.plain_extend_loop _]
  show wpAny _ A.in1 (pyNext (.ref a) >>= _) _ _ s
  refine wpAny_bind (h _ _ (fun H' s' cl I dn => ?_) fun v y H' s' Nx Y pg σ' eP ew cl r I pu rs kk => ?_)
  · exact wpAny_pure (hR H' s' I dn)
  · obtain ⟨acc, hD, hz, nx⟩ := pu
    obtain ⟨hz', its, n, ri, e⟩ := I.hok D _ hD
    have hl := ri.length
    show wpAny _ A.in1 (updateSeq D (·.push v) >>= _) _ _ _
    refine wpAny_bind ?_
    refine wpAny_updateSeq e rfl (wpAny_pure ⟨plainId_quiet F.plain_extend_loop _, ih _ (kk _ _ (inv_lst I hD (by rw [List.length_append]; exact hz) fun its ri => ?_) rfl nx)⟩) (by rw [List.size_toArray]; omega) (by show (its.toArray.push v).size ≤ sizeLine + 1; rw [Array.size_push, List.size_toArray]; omega)
    rw [Array.toList_push]
    exact ri.append (.cons r .nil)
theorem extend_gn {A : Around} {a : Addr} {res : Value} {Dn : Hp → Prop} {R : Result → Shared → Prop} (hR : ∀ H' s', Inv X pins σ H' s' → Dn H' → R (.ok (.ret res)) s') :
    ∀ (n : Nat) (s : Shared), GN X pins σ A.in1 a Cl0 (PutL D) Dn n s → codeAny (model X.prog X.w) A (.builtin "list.extend.loop" ⟨[.ref D, .ref a, res], []⟩) R s
  | 0, s, h => extend_step hR (fun _ z => z.elim) h
  | n + 1, s, h => extend_step hR (fun s' z => extend_gn hR n s' z) h
theorem collect_gn {A : Around} {a : Addr} {H0 : Hp} {Dn : Addr → Hp → Prop} {Q : List Value → Shared → Prop} {E : Value → Shared → Prop} (I : Inv Y pg σ' H0 s) (hga : ∃ gn, s.heap.IsGen a gn) (hDn : ∀ D H, Dn D H → ∃ xs, H D = some (.lst xs))
    (hG : ∀ D s'', H0 D = none → Inv Y pg σ' (upd H0 D (.lst [])) s'' → s''.gens = s.gens → ∃ n, GN X pins σ A.in1 a Cl0 (PutL D) (Dn D) n s'')
    (hQ : ∀ D H' s' xs us, Inv X pins σ H' s' → Dn D H' → H' D = some (.lst xs) → Vals xs us → Q us s') : wpAny (model X.prog X.w) A (collect (.ref a)) Q E s := by
  obtain ⟨gn, hg⟩ := hga
  generalize eD : s.heap.objs.size = D
  have hD0 : H0 D = none := I.hok.fresh (Nat.le_of_eq eD)
  have hDa : D ≠ a := by
    obtain ⟨o, nm, qn, ho, _⟩ := id hg
    rw [← eD]
    exact Nat.ne_of_gt (Heap.lt_size ho)
  unfold collect
  refine wpAny_bind (wpAny_runValue (codeAny_builtin F.entry_proto_collect ?_))
  rw [Around.under_plainId F.plain_proto_collect _]
  show wpAny _ A.in1 (newList [] >>= fun l => again (.builtin "list.__iadd__" ⟨[l, .ref a], []⟩)) _ _ s
  refine wpAny_bind (wpAny_newObj_type ?_)
  rw [eD]
  refine wpAny_pure ⟨plainId_quiet F.plain_list_iadd _, codeAny_builtin F.entry_list_iadd ?_⟩
  rw [Around.under_plainId F.plain_list_iadd _]
  have hS₁ : (s.heap.push { cls := .type "list", data := .seq ([] : List Value).toArray }).get? D = some { cls := .type "list", data := .seq ([] : List Value).toArray } := by rw [← eD]; exact Heap.get?_push_size _ rfl
  have k1 : ∀ b o, s.heap.get? b = some o → (s.heap.push { cls := .type "list", data := .seq ([] : List Value).toArray }).get? b = some o := fun b o e => Heap.get?_push_of_some _ e
  have up : ∀ (h : Heap) (f : Obj → Obj), (∀ b o, s.heap.get? b = some o → h.get? b = some o) → ∀ b o, s.heap.get? b = some o → (h.update D f).get? b = some o := fun h f q b o e =>
    (Heap.get?_update_other _ _ (by rw [← eD]; exact Ne.symm (Nat.ne_of_lt (Heap.lt_size e)))).trans (q b o e)
  have g1 : (s.heap.push { cls := .type "list", data := .seq ([] : List Value).toArray }).IsGen a gn := hg.keeps k1
  show wpAny _ A.in1 (Builtin.List.listExtendWith (.ref D) (.ref a) (.ref D)) _ _ _
  unfold Builtin.List.listExtendWith
  refine wpAny_bind (wpAny_typeOf (Heap.IsGen.typeIs (s := { s with heap := _ }) g1) ?_)
  have h1 : Builtin.List.listSameRef (.ref D) (.ref a) = false := by simp [Builtin.List.listSameRef, hDa]
  have h2 : (Value.type "generator" == Value.type "list") = false := by decide
  have h3 : (Value.type "generator" == Value.type "tuple") = false := by decide
  simp only [h1, h2, h3, Bool.or_false, Bool.false_eq_true, if_false]
  refine wpAny_bind (wpAny_pyIter_gen (s := { s with heap := _ }) g1 ?_)
  refine wpAny_bind (wpAny_holding ?_)
  unfold Builtin.List.listLengthHint
  refine wpAny_bind (wpAny_specialOf (Heap.IsGen.typeIs (s := { s with heap := _ }) g1) F.gen_no_len ?_)
  show wpAny _ A.in1 (specialOf (Value.ref a) (Str.ofString "__length_hint__") >>= _) _ _ _
  refine wpAny_bind (wpAny_specialOf (Heap.IsGen.typeIs (s := { s with heap := _ }) g1) F.gen_no_hint ?_)
  refine wpAny_pure ?_
  show wpAny _ A.in1 (rule "list.extend.makes-room" >>= fun _ => Builtin.List.listTouch (.ref D) >>= fun _ =>
    again (.builtin "list.extend.loop" ⟨[.ref D, .ref a, .ref D], []⟩)) _ _ _
  refine wpAny_bind (wpAny_rule ?_)
  refine wpAny_bind ?_
  show wpAny _ A.in1 (updateSeq D (·.push .none) >>= fun _ => updateSeq D (·.pop)) _ _ _
  refine wpAny_bind (wpAny_updateSeq hS₁ rfl ?_)
  have hS₂ := Heap.get?_update_self (Obj.mapSeq (·.push Value.none)) hS₁ rfl
  refine wpAny_updateSeq hS₂ rfl ?_
  have hS₃ := Heap.get?_update_self (Obj.mapSeq (·.pop)) hS₂ rfl
  have k4 := up _ (Obj.mapSeq (·.pop)) (up _ (Obj.mapSeq (·.push Value.none)) k1)
  have I4 := I.laid (t' := s.toks) (o := .lst []) k4 (Nat.le_of_eq eD) ⟨Nat.zero_le _, [], _, .nil, hS₃⟩
  obtain ⟨n, hn⟩ := hG D _ hD0 I4 rfl
  refine wpAny_pure ⟨plainId_quiet F.plain_extend_loop _, extend_gn (D := D) (A := A) (fun H' s' I' dn => ?_) n _ hn⟩
  obtain ⟨xs, hx⟩ := hDn D H' dn
  obtain ⟨hz', its, c, ri, e⟩ := I'.hok D _ hx
  show wpAny _ A (load D >>= _) _ _ s'
  refine wpAny_bind (wpAny_load e ?_)
  refine wpAny_pure ?_
  show Q its.toArray.toList s'
  rw [show its.toArray.toList = its by simp]
  exact hQ D H' s' xs its I' dn hx ri
end
/-! ### the readings -/
/-- the walk, then all turns; D: the consumer's own list, first as xs0 -/
def tGD (P : Addr) (wi : TI) (g : TG) (tt : TT) (te : TE) (vs : List Nat) (Ck : Addr → Hp → Hp → Prop) (Put : Addr → PutT) (Done : Addr → Hp → Prop) : L2.St → Hp → Prop := fun σ H => wi σ H fun J H1 => GxR.TabG H1 P ∧ ∀ H0, GxR.Tabbed P H1 H0 → ∀ D, H0 D = none →
  ∃ W m, GTurn J g tt te vs σ (Ck D) (Put D) (Done D) W ∧ W 0 m (upd H0 D (.lst []))
/-- .. without a list of its own -/
def tGN (P : Addr) (wi : TI) (g : TG) (tt : TT) (te : TE) (vs : List Nat) (Put : PutT) (Done : Hp → Prop) : L2.St → Hp → Prop := fun σ H => wi σ H fun J H1 => GxR.TabG H1 P ∧ ∀ H0, GxR.Tabbed P H1 H0 →
  ∃ W m, GTurn J g tt te vs σ Ck0 Put Done W ∧ W 0 m H0
/-- the premises of all rules -/
structure GPre (X : Cx) (c P : Addr) (own : List (Str × Nat)) (wi : TI) (g : TG) (tt : TT) (te : TE) (elt tg iter : Expr) (ifs : List Expr) (scope : Scope) : Prop where
  hc : X.calm = true
  hd : X.A.depth + 3 < recursionLimit
  TB : GxR.TabB X.base X.mg c P
  hcode : X.env.code = .ref c
  ok : BlkOk X.N X.env.scope scope own
  S : GScp scope
  hN : X.N.Nodup
  hi : PI X tg iter wi
  hg : ∀ (A : Around) (s : Shared) (H : Hp) (Ca : Addr) (code : Value) (fp : List Addr), GA X (gEnv X scope Ca code) A → PG (gblk X A s H scope (gEnv X scope Ca code) fp) tg g
  ht : ∀ (A : Around) (s : Shared) (H : Hp) (Ca : Addr) (code : Value) (fp : List Addr), GA X (gEnv X scope Ca code) A → PTs (gblk X A s H scope (gEnv X scope Ca code) fp) ifs tt
  he : ∀ (A : Around) (s : Shared) (H : Hp) (Ca : Addr) (code : Value) (fp : List Addr), GA X (gEnv X scope Ca code) A → PE (gblk X A s H scope (gEnv X scope Ca code) fp) elt te
  hs : ∀ v, genFold iter X.env v = pure v
section
variable {X : Cx} {c P : Addr} {own : List (Str × Nat)} {wi : TI} {g : TG} {tt : TT} {te : TE} {elt tg iter : Expr} {ifs : List Expr} {scope : Scope} {p pos gpos : Pos}
theorem gen_run {pins : List (Addr × Obj)} {σ : L2.St} {H : Hp} {s : Shared} {R : It → Hp → Prop} {Q' : Value → Shared → Prop} (G : GPre X c P own wi g tt te elt tg iter ifs scope) (I : Inv X pins σ H s) (h : wi σ H fun J H1 => GxR.TabG H1 P ∧ R J H1)
    (hQ : ∀ a J H1 H0 s', R J H1 → GxR.Tabbed P H1 H0 → GReady X pins σ J g tt te (own.map (·.2)) a H0 s' → Q' (.ref a) s') : wpAny (model X.prog X.w) X.A (eval (gex elt tg iter ifs scope gpos) X.env) Q' X.xe s :=
  gen_make G.hc G.hd G.TB G.hcode G.ok G.S G.hN G.hi G.hg G.ht G.he G.hs I h hQ
theorem a_ok (hc : X.A.handled = none) (hf : X.A.frames = some X.stack) : AOk X X.A := ⟨hc, hf, Nat.le_add_right _ _, Nat.le_add_right _ _⟩
theorem aok1 (h : AOk X X.A) : AOk X X.A.in1 := ⟨h.hd, h.fr, h.dp, by show X.A.units + 1 ≤ _; omega⟩
theorem aok3 (h : AOk X X.A) : AOk X X.A.in1.in1.in1 := ⟨h.hd, h.fr, h.dp, by show X.A.units + 1 + 1 + 1 ≤ _; omega⟩
/-- tuple(..) -/
theorem pe_genT (G : GPre X c P own wi g tt te elt tg iter ifs scope) (hgl : Gl X "tuple") (hm : X.mg "tuple" = none) :
    PE X (.Call (.Name "tuple" p) [gex elt tg iter ifs scope gpos] [] pos) fun σ H Q => tGD P wi g tt te (own.map (·.2)) (fun _ => Ck0) PutL (fun D H' => ∃ xs, H' D = some (.lst xs) ∧ ∀ p, H' p = none → Q (.ref p) (upd H' p (.tup xs))) σ H := by
  refine ⟨fun pins s σ H Q I h => ?_⟩
  have he : starEach [gex elt tg iter ifs scope gpos] X.env = (false, eval (gex elt tg iter ifs scope gpos) X.env) :: starEach [] X.env := by rfl
  refine wpAny_Call_Name_kw (ld_blt I hgl hm PyProof.Rows.boot_tuple ?_)
  refine PyProof.Rows.callWith_type1 ?_ he rfl
  rw [he]
  show wpAny _ _ (spliced ((false, eval (gex elt tg iter ifs scope gpos) X.env) :: backTo pos (starEach [] X.env))) _ _ s
  refine Calls.spliced_cons (gen_run G I h fun a J H1 H0 s5 hR hT hG => ?_)
  refine Calls.spliced_nil ?_
  obtain ⟨Y, pg, σ', e1, e2, IY, hga, hmk⟩ := hG
  have A0 := a_ok (X := X) (I.ok.hd G.hc) I.ok.frames
  obtain ⟨gn, hgen⟩ := (hga H0 s5 IY).1
  have fin : ∀ {D : Addr} {H' : Hp} {s' : Shared} {xs : List V} {us : List Value}, Inv X pins σ H' s' → (∀ p, H' p = none → Q (.ref p) (upd H' p (.tup xs))) → Vals xs us → us.length ≤ sizeLine →
      EP X pins σ Q (.ref s'.heap.objs.size) { s' with heap := s'.heap.push { cls := .type "tuple", data := .seq us.toArray } } := fun {D H' s' xs us} I' q r hz => by
    refine ⟨.ref s'.heap.objs.size, _, I'.laid (o := .tup xs) (t' := s'.toks) (fun b o e => Heap.get?_push_of_some _ e) (Nat.le_refl _) ⟨by rw [r.length]; exact hz, us, r, ⟨_, Heap.get?_push_size _ rfl, rfl, _, rfl⟩⟩, rfl, q _ (I'.hok.fresh (Nat.le_refl _))⟩
  refine callType_codes (Q₁ := fun obj s₁ => s₁.TypeIs obj "tuple" ∧ EP X pins σ Q obj s₁) F.called_tuple (F.typeCall_tuple_1 _) F.entry_object_init ?_ fun obj s₁ h₁ => ?_
  · refine codeAny_of_tree ?_
    show wpAny _ X.A.in1.in1 (do checkBuiltinCall "tuple.__new__" ⟨[.type "tuple", .ref a], []⟩; again (.builtin "tuple.__new__" ⟨[.type "tuple", .ref a], []⟩)) _ _ s5
    refine wpAny_bind (wpAny_of_eq (F.newCall_tuple_1 _) (wpAny_pure ⟨plainId_quiet F.plain_tuple_new _, codeAny_builtin F.entry_tuple_new ?_⟩))
    rw [Around.under_plainId F.plain_tuple_new _]
    have hsub := sub_tuple_self
    have hinit := init_tuple_lookup
    have hmh := madeHere_tuple
    have hTI : s5.TypeIs (.ref a) "generator" := hgen.typeIs
    have hcol := fun {Q2 : List Value → Shared → Prop} {E : Value → Shared → Prop} => collect_gn (X := X) (pins := pins) (σ := σ) (A := X.A.in1.in1) (a := a) (s := s5) (Y := Y) (pg := pg) (σ' := σ') (H0 := H0) (Dn := fun D H' => ∃ xs, H' D = some (.lst xs) ∧ ∀ p, H' p = none → Q (.ref p) (upd H' p (.tup xs))) (Q := Q2) (E := E) IY ⟨gn, hgen⟩ (fun D H' ⟨xs, h1, _⟩ => ⟨xs, h1⟩)
      fun D s'' hD0 I'' hge => by
        obtain ⟨W, m, ht, hw⟩ := hR H0 hT D hD0
        exact hmk _ _ _ _ _ _ _ _ _ (aok3 A0) cl0 I'' hge ht hw
    wp_walk using wpAny_typeOf hTI, hcol
    intro D H' s' xs us I' dn hx r
    obtain ⟨xs', hx', q⟩ := dn
    rw [hx] at hx'
    cases hx'
    have hz : us.length ≤ sizeLine := by
      obtain ⟨hz', _⟩ := I'.hok D _ hx
      rw [← r.length]
      exact hz'
    show wpAny _ _ (Builtin.Tuple.tupleExact us.toArray >>= fun v => ret v) _ _ _
    unfold Builtin.Tuple.tupleExact
    refine wpAny_bind (wpAny_newObj_type ?_ (by show us.toArray.size ≤ sizeLine; rw [List.size_toArray]; exact hz))
    refine wpAny_pure ⟨⟨_, Heap.get?_push_size _ rfl, rfl⟩, fin (D := D) I' q r hz⟩
  · exact ⟨h₁.1, F.args_object_init_2 obj _, object_init_meets F.called_tuple.init.lookup F.called_tuple.made (by decide) X.prog X.w X.A.in1 _ s₁ ⟨h₁.1, rfl, h₁.2⟩⟩
/-! ### any, all -/
def PutB (st : Bool) (Qb : Bool → Hp → Prop) : PutT := fun y H Nx => ∃ b, y = .bl b ∧ ((b = st ∧ Qb st H) ∨ (b ≠ st ∧ Nx H))
theorem any_step {pins : List (Addr × Obj)} {σ : L2.St} {s : Shared} {A : Around} {a : Addr} {Qb : Bool → Hp → Prop} {k : Shared → Prop} {R : Result → Shared → Prop} (hR : ∀ b H' s', Inv X pins σ H' s' → Qb b H' → R (.ok (.ret (.bool b))) s')
    (ih : ∀ s', k s' → codeAny (model X.prog X.w) A (.builtin "any.loop" ⟨[.ref a], []⟩) R s') (h : GNs X pins σ A.in1 a Cl0 (PutB true Qb) (Qb false) k s) : codeAny (model X.prog X.w) A (.builtin "any.loop" ⟨[.ref a], []⟩) R s := by
  refine codeAny_builtin F.entry_any_loop ?_
  rw [Around.under_plainId F.plain_any_loop _]
  show wpAny _ A.in1 (pyNext (.ref a) >>= _) _ _ s
  refine wpAny_bind (h _ _ (fun H' s' cl I dn => ?_) fun v y H' s' Nx Y pg σ' eP ew cl r I pu rs kk => ?_)
  · exact wpAny_bind (wpAny_rule (wpAny_pure (hR false H' s' I dn)))
  · obtain ⟨b, rfl, q⟩ := pu
    obtain rfl : v = Value.bool b := r
    refine wpAny_bind (wpAny_holding (wpAny_truthy_bool ?_))
    refine wpAny_bind (wpAny_letGo ?_)
    cases b with
    | false =>
      rcases q with ⟨q, _⟩ | ⟨_, q⟩
      · cases q
      · simp only [Bool.false_eq_true, if_false]
        exact wpAny_pure ⟨plainId_quiet F.plain_any_loop _, ih _ (kk _ _ I rfl q)⟩
    | true =>
      rcases q with ⟨_, q⟩ | ⟨q, _⟩
      · simp only [if_true]
        exact wpAny_bind (wpAny_rule (wpAny_pure (hR true H' s' (rs _ _ I) q)))
      · exact absurd rfl q
theorem any_gn {pins : List (Addr × Obj)} {σ : L2.St} {A : Around} {a : Addr} {Qb : Bool → Hp → Prop} {R : Result → Shared → Prop} (hR : ∀ b H' s', Inv X pins σ H' s' → Qb b H' → R (.ok (.ret (.bool b))) s') :
    ∀ (n : Nat) (s : Shared), GN X pins σ A.in1 a Cl0 (PutB true Qb) (Qb false) n s → codeAny (model X.prog X.w) A (.builtin "any.loop" ⟨[.ref a], []⟩) R s
  | 0, s, h => any_step hR (fun _ z => z.elim) h
  | n + 1, s, h => any_step hR (fun s' z => any_gn hR n s' z) h
theorem all_step {pins : List (Addr × Obj)} {σ : L2.St} {s : Shared} {A : Around} {a : Addr} {Qb : Bool → Hp → Prop} {k : Shared → Prop} {R : Result → Shared → Prop} (hR : ∀ b H' s', Inv X pins σ H' s' → Qb b H' → R (.ok (.ret (.bool b))) s')
    (ih : ∀ s', k s' → codeAny (model X.prog X.w) A (.builtin "all.loop" ⟨[.ref a], []⟩) R s') (h : GNs X pins σ A.in1 a Cl0 (PutB false Qb) (Qb true) k s) : codeAny (model X.prog X.w) A (.builtin "all.loop" ⟨[.ref a], []⟩) R s := by
  refine codeAny_builtin F.entry_all_loop ?_
  rw [Around.under_plainId F.plain_all_loop _]
  show wpAny _ A.in1 (pyNext (.ref a) >>= _) _ _ s
  refine wpAny_bind (h _ _ (fun H' s' cl I dn => ?_) fun v y H' s' Nx Y pg σ' eP ew cl r I pu rs kk => ?_)
  · exact wpAny_bind (wpAny_rule (wpAny_pure (hR true H' s' I dn)))
  · obtain ⟨b, rfl, q⟩ := pu
    obtain rfl : v = Value.bool b := r
    refine wpAny_bind (wpAny_holding (wpAny_truthy_bool ?_))
    refine wpAny_bind (wpAny_letGo ?_)
    cases b with
    | true =>
      rcases q with ⟨q, _⟩ | ⟨_, q⟩
      · cases q
      · simp only [if_true]
        exact wpAny_pure ⟨plainId_quiet F.plain_all_loop _, ih _ (kk _ _ I rfl q)⟩
    | false =>
      rcases q with ⟨_, q⟩ | ⟨q, _⟩
      · simp only [Bool.false_eq_true, if_false]
        exact wpAny_bind (wpAny_rule (wpAny_pure (hR false H' s' (rs _ _ I) q)))
      · exact absurd rfl q
theorem all_gn {pins : List (Addr × Obj)} {σ : L2.St} {A : Around} {a : Addr} {Qb : Bool → Hp → Prop} {R : Result → Shared → Prop} (hR : ∀ b H' s', Inv X pins σ H' s' → Qb b H' → R (.ok (.ret (.bool b))) s') :
    ∀ (n : Nat) (s : Shared), GN X pins σ A.in1 a Cl0 (PutB false Qb) (Qb true) n s → codeAny (model X.prog X.w) A (.builtin "all.loop" ⟨[.ref a], []⟩) R s
  | 0, s, h => all_step hR (fun _ z => z.elim) h
  | n + 1, s, h => all_step hR (fun s' z => all_gn hR n s' z) h
/-- any(..) -/
theorem pe_genAny (G : GPre X c P own wi g tt te elt tg iter ifs scope) (hgl : Gl X "any") (hm : X.mg "any" = none) :
    PE X (.Call (.Name "any" p) [gex elt tg iter ifs scope gpos] [] pos) fun σ H Q => tGN P wi g tt te (own.map (·.2)) (PutB true fun b H' => Q (.bl b) H') (fun H' => Q (.bl false) H') σ H := by
  refine ⟨fun pins s σ H Q I h => ?_⟩
  have he : starEach [gex elt tg iter ifs scope gpos] X.env = (false, eval (gex elt tg iter ifs scope gpos) X.env) :: starEach [] X.env := by rfl
  refine wpAny_Call_Name_kw (ld_blt I hgl hm boot_any ?_)
  refine PyProof.Rows.callWith_builtin1 ?_ he rfl
  rw [he]
  show wpAny _ _ (spliced ((false, eval (gex elt tg iter ifs scope gpos) X.env) :: backTo pos (starEach [] X.env))) _ _ s
  refine Calls.spliced_cons (gen_run G I h fun a J H1 H0 s5 hR hT hG => ?_)
  refine Calls.spliced_nil ?_
  obtain ⟨Y, pg, σ', e1, e2, IY, hga, hmk⟩ := hG
  have A0 := a_ok (X := X) (I.ok.hd G.hc) I.ok.frames
  obtain ⟨gn, hgen⟩ := (hga H0 s5 IY).1
  refine call_function_tree F.kind_any F.plain_any F.entry_any (F.args_any1 _) ?_
  unfold Builtin.«any»
  refine wpAny_bind (m := oneArg "any" _) (wpAny_pure ?_)
  refine wpAny_bind (wpAny_pyIter_gen hgen ?_)
  obtain ⟨W, m, ht, hw⟩ := hR H0 hT
  obtain ⟨n, hn⟩ := hmk _ _ _ _ _ _ _ _ _ (aok1 A0) cl0 IY rfl ht hw
  exact wpAny_pure ⟨plainId_quiet F.plain_any_loop _, any_gn (fun b H' s' I' q => ⟨.bl b, H', I', rfl, q⟩) n s5 hn⟩
/-- all(..) -/
theorem pe_genAll (G : GPre X c P own wi g tt te elt tg iter ifs scope) (hgl : Gl X "all") (hm : X.mg "all" = none) :
    PE X (.Call (.Name "all" p) [gex elt tg iter ifs scope gpos] [] pos) fun σ H Q => tGN P wi g tt te (own.map (·.2)) (PutB false fun b H' => Q (.bl b) H') (fun H' => Q (.bl true) H') σ H := by
  refine ⟨fun pins s σ H Q I h => ?_⟩
  have he : starEach [gex elt tg iter ifs scope gpos] X.env = (false, eval (gex elt tg iter ifs scope gpos) X.env) :: starEach [] X.env := by rfl
  refine wpAny_Call_Name_kw (ld_blt I hgl hm boot_all ?_)
  refine PyProof.Rows.callWith_builtin1 ?_ he rfl
  rw [he]
  show wpAny _ _ (spliced ((false, eval (gex elt tg iter ifs scope gpos) X.env) :: backTo pos (starEach [] X.env))) _ _ s
  refine Calls.spliced_cons (gen_run G I h fun a J H1 H0 s5 hR hT hG => ?_)
  refine Calls.spliced_nil ?_
  obtain ⟨Y, pg, σ', e1, e2, IY, hga, hmk⟩ := hG
  have A0 := a_ok (X := X) (I.ok.hd G.hc) I.ok.frames
  obtain ⟨gn, hgen⟩ := (hga H0 s5 IY).1
  refine call_function_tree F.kind_all F.plain_all F.entry_all (F.args_all1 _) ?_
  unfold Builtin.«all»
  refine wpAny_bind (m := oneArg "all" _) (wpAny_pure ?_)
  refine wpAny_bind (wpAny_pyIter_gen hgen ?_)
  obtain ⟨W, m, ht, hw⟩ := hR H0 hT
  obtain ⟨n, hn⟩ := hmk _ _ _ _ _ _ _ _ _ (aok1 A0) cl0 IY rfl ht hw
  exact wpAny_pure ⟨plainId_quiet F.plain_all_loop _, all_gn (fun b H' s' I' q => ⟨.bl b, H', I', rfl, q⟩) n s5 hn⟩
/-! ### max of ints -/
def PutM (D : Addr) : PutT := fun y H Nx => ∃ i, y = .int i ∧ ((H D = some (.lst []) ∧ Nx (upd H D (.lst [.int i, .int i]))) ∨ ∃ j, H D = some (.lst [.int j, .int j]) ∧ (j < i → Nx (upd H D (.lst [.int i, .int i]))) ∧ (¬ j < i → Nx H))
def DoneM (D : Addr) (Q : VK) : Hp → Prop := fun H => ∃ j, H D = some (.lst [.int j, .int j]) ∧ Q (.int j) (upd H D (.lst []))
theorem vals2 {i j : Int} {us : List Value} (h : Vals [V.int i, V.int j] us) : ∃ t u, us = [.int i t, .int j u] := by
  cases h with
  | cons r1 h =>
    cases h with
    | cons r2 h =>
      cases h
      obtain ⟨t, rfl⟩ := r1
      obtain ⟨u, rfl⟩ := r2
      exact ⟨t, u, rfl⟩
theorem max_step {pins : List (Addr × Obj)} {σ : L2.St} {s : Shared} {A : Around} {a D : Addr} {Q : VK} {k : Shared → Prop} {R : Result → Shared → Prop} (hR : ∀ j t H' s', Inv X pins σ H' s' → Q (.int j) H' → R (.ok (.ret (.int j t))) s')
    (hcon : ∃ (Y : Cx) (pg : List (Addr × Obj)) (σ' : L2.St) (H : Hp), Inv Y pg σ' H s ∧ (H D = some (.lst []) ∨ ∃ j, H D = some (.lst [.int j, .int j])))
    (ih : ∀ s', k s' → (∃ (Y : Cx) (pg : List (Addr × Obj)) (σ' : L2.St) (H : Hp), Inv Y pg σ' H s' ∧ (H D = some (.lst []) ∨ ∃ j, H D = some (.lst [.int j, .int j]))) → codeAny (model X.prog X.w) A (.builtin "max.loop" ⟨[.ref a, .none, .ref D], []⟩) R s')
    (h : GNs X pins σ A.in1 a (ClD D) (PutM D) (DoneM D Q) k s) : codeAny (model X.prog X.w) A (.builtin "max.loop" ⟨[.ref a, .none, .ref D], []⟩) R s := by
  have hname : (toString "max" ++ toString ".loop" : String) = "max.loop" := by decide
  obtain ⟨Y0, pg0, σ0, H0, I0, hc0⟩ := hcon
  refine codeAny_builtin F.entry_max_loop ?_
  rw [Around.under_plainId F.plain_max_loop _]
  show wpAny _ A.in1 (seqItems? (.ref D) >>= _) _ _ s
  rcases hc0 with e0 | ⟨j, e0⟩
  · have cs := clD_eq I0 e0
    obtain ⟨_, its0, n0, r0, eo⟩ := I0.hok D _ e0
    cases r0
    refine wpAny_bind (wpAny_seqItems eo rfl ?_)
    show wpAny _ A.in1 (tryCatch (pyNext (.ref a)) _ >>= _) _ _ s
    refine wpAny_bind (wpAny_tryCatch (h _ _ (fun H' s' cl I dn => ?_) fun v y H' s' Nx Y pg σ' eP ew cl r I pu rs kk => ?_))
    · obtain ⟨j, e1, _⟩ := dn
      rw [cs, clD_eq I e1] at cl
      cases cl
    · obtain ⟨i, rfl, q⟩ := pu
      obtain ⟨t, rfl⟩ := r
      rcases q with ⟨e1, q⟩ | ⟨j, e1, _⟩
      · obtain ⟨_, its1, n1, r1, eo1⟩ := I.hok D _ e1
        cases r1
        have I2 := inv_lst (f := fun _ => #[.int i t, .int i t]) (ys := [.int i, .int i]) I e1 (by show 2 ≤ sizeLine; decide) fun _ _ => .cons ⟨t, rfl⟩ (.cons ⟨t, rfl⟩ .nil)
        show wpAny _ A.in1 (updateSeq D (fun _ => #[.int i t, .int i t]) >>= _) _ _ _
        refine wpAny_bind ?_
        refine wpAny_updateSeq eo1 rfl ?_
        rw [hname]
        exact wpAny_pure ⟨plainId_quiet F.plain_max_loop _, ih _ (kk _ _ I2 rfl q) ⟨_, _, _, _, I2, .inr ⟨i, upd_same⟩⟩⟩
      · rw [cs, clD_eq I e1] at cl
        cases cl
  · have cs := clD_eq I0 e0
    obtain ⟨_, its0, n0, r0, eo⟩ := I0.hok D _ e0
    obtain ⟨t0, u0, rfl⟩ := vals2 r0
    refine wpAny_bind (wpAny_seqItems eo rfl ?_)
    show wpAny _ A.in1 (tryCatch (pyNext (.ref a)) _ >>= _) _ _ s
    refine wpAny_bind (wpAny_tryCatch (h _ _ (fun H' s' cl I dn => ?_) fun v y H' s' Nx Y pg σ' eP ew cl r I pu rs kk => ?_))
    · obtain ⟨j', e1, q⟩ := dn
      rw [cs, clD_eq I e1] at cl
      cases cl
      obtain ⟨_, its1, n1, r1, eo1⟩ := I.hok D _ e1
      have I2 := inv_lst (f := fun _ => #[]) (ys := []) I e1 (by decide) fun _ _ => .nil
      show wpAny _ A.in1 (updateSeq D (fun _ => #[]) >>= _) _ _ _
      refine wpAny_bind ?_
      refine wpAny_updateSeq eo1 rfl (wpAny_bind (wpAny_letGo (wpAny_pure ?_))) (hz := by obtain ⟨t1, u1, rfl⟩ := vals2 r1; show 2 ≤ sizeLine; decide)
      exact hR _ _ _ _ I2 q
    · obtain ⟨i, rfl, q⟩ := pu
      obtain ⟨t, rfl⟩ := r
      rcases q with ⟨e1, _⟩ | ⟨j', e1, q1, q2⟩
      · rw [cs, clD_eq I e1] at cl
        cases cl
      · rw [cs, clD_eq I e1] at cl
        cases cl
        obtain ⟨_, its1, n1, r1, eo1⟩ := I.hok D _ e1
        obtain ⟨t1, u1, rfl⟩ := vals2 r1
        show wpAny _ A.in1 (tryCatch (holding [Value.int i t, Value.int i t] (richCompare .Gt (Value.int i t) (Value.int j u0) >>= _)) _ >>= _) _ _ _
        refine wpAny_bind (wpAny_tryCatch (wpAny_holding (wpAny_bind (CmpOf.ints_gt (prog := X.prog) (w := X.w) (P := fun n v => (n = 0 ∧ v = Value.int i t) ∨ (n = 1 ∧ v = Value.int j u0)) (fun n => if n = 0 then i else j) (fun n v hv => ?_) 0 1 _ _ _ _ _ (.inl ⟨rfl, rfl⟩) (.inr ⟨rfl, rfl⟩) ?_))))
        · rcases hv with ⟨rfl, rfl⟩ | ⟨rfl, rfl⟩
          · exact ⟨t, rfl⟩
          · exact ⟨u0, rfl⟩
        refine wpAny_bind (wpAny_holding (wpAny_truthy_bool ?_))
        refine wpAny_bind (wpAny_letGo (wpAny_pure ?_))
        by_cases hlt : j < i
        · have e2 : decide (i > if (1 : Nat) = 0 then i else j) = true := decide_eq_true hlt
          simp only [if_true, e2]
          have I2 := inv_lst (f := fun _ => #[.int i t, .int i t]) (ys := [.int i, .int i]) I e1 (by show 2 ≤ sizeLine; decide) fun _ _ => .cons ⟨t, rfl⟩ (.cons ⟨t, rfl⟩ .nil)
          refine wpAny_bind ?_
          refine wpAny_updateSeq eo1 rfl (wpAny_bind (wpAny_letGo ?_))
          rw [hname]
          exact wpAny_pure ⟨plainId_quiet F.plain_max_loop _, ih _ (kk _ _ I2 rfl (q1 hlt)) ⟨_, _, _, _, I2, .inr ⟨i, upd_same⟩⟩⟩
        · have e2 : decide (i > if (1 : Nat) = 0 then i else j) = false := decide_eq_false hlt
          simp only [if_true, e2, Bool.false_eq_true, if_false]
          refine wpAny_bind (wpAny_letGo ?_)
          rw [hname]
          exact wpAny_pure ⟨plainId_quiet F.plain_max_loop _, ih _ (kk _ _ I rfl (q2 hlt)) ⟨_, _, _, _, I, .inr ⟨j, e1⟩⟩⟩
theorem max_gn {pins : List (Addr × Obj)} {σ : L2.St} {A : Around} {a D : Addr} {Q : VK} {R : Result → Shared → Prop} (hR : ∀ j t H' s', Inv X pins σ H' s' → Q (.int j) H' → R (.ok (.ret (.int j t))) s') :
    ∀ (n : Nat) (s : Shared), (∃ (Y : Cx) (pg : List (Addr × Obj)) (σ' : L2.St) (H : Hp), Inv Y pg σ' H s ∧ (H D = some (.lst []) ∨ ∃ j, H D = some (.lst [.int j, .int j]))) → GN X pins σ A.in1 a (ClD D) (PutM D) (DoneM D Q) n s → codeAny (model X.prog X.w) A (.builtin "max.loop" ⟨[.ref a, .none, .ref D], []⟩) R s
  | 0, s, hc, h => max_step hR hc (fun _ z _ => z.elim) h
  | n + 1, s, hc, h => max_step hR hc (fun s' z hc' => max_gn hR n s' hc' z) h
/-- max(..) of ints -/
theorem pe_genMax (G : GPre X c P own wi g tt te elt tg iter ifs scope) (hgl : Gl X "max") (hm : X.mg "max" = none) :
    PE X (.Call (.Name "max" p) [gex elt tg iter ifs scope gpos] [] pos) fun σ H Q => tGD P wi g tt te (own.map (·.2)) CkD PutM (fun D => DoneM D Q) σ H := by
  refine ⟨fun pins s σ H Q I h => ?_⟩
  have hname : (toString "max" ++ toString ".loop" : String) = "max.loop" := by decide
  have he : starEach [gex elt tg iter ifs scope gpos] X.env = (false, eval (gex elt tg iter ifs scope gpos) X.env) :: starEach [] X.env := by rfl
  refine wpAny_Call_Name_kw (ld_blt I hgl hm boot_max ?_)
  refine PyProof.Rows.callWith_builtin1 ?_ he rfl
  rw [he]
  show wpAny _ _ (spliced ((false, eval (gex elt tg iter ifs scope gpos) X.env) :: backTo pos (starEach [] X.env))) _ _ s
  refine Calls.spliced_cons (gen_run G I h fun a J H1 H0 s5 hR hT hG => ?_)
  refine Calls.spliced_nil ?_
  obtain ⟨Y, pg, σ', e1, e2, IY, hga, hmk⟩ := hG
  have A0 := a_ok (X := X) (I.ok.hd G.hc) I.ok.frames
  obtain ⟨gn, hgen⟩ := (hga H0 s5 IY).1
  refine call_function_tree F.kind_max F.plain_max F.entry_max (F.args_max1 _) ?_
  show wpAny _ X.A.in1 (Builtin.Builtins.bindParams "max" ["key", "default"] 0 ⟨[], []⟩ >>= _) _ _ s5
  refine wpAny_bind (wpAny_of_eq (show Builtin.Builtins.bindParams "max" ["key", "default"] 0 ⟨[], []⟩ = pure [none, none] from rfl) ?_)
  refine wpAny_bind (wpAny_pure ?_)
  refine wpAny_bind (wpAny_pyIter_gen hgen ?_)
  refine wpAny_bind (wpAny_newObj_type ?_)
  rw [hname]
  have hD0 : H0 s5.heap.objs.size = none := IY.hok.fresh (Nat.le_refl _)
  have I4 := IY.laid (t' := s5.toks) (o := .lst []) (fun b o e => Heap.get?_push_of_some { cls := .type "list", data := .seq ([] : List Value).toArray } e) (Nat.le_refl _) ⟨Nat.zero_le _, [], _, .nil, Heap.get?_push_size _ rfl⟩
  obtain ⟨W, m, ht, hw⟩ := hR H0 hT _ hD0
  obtain ⟨n, hn⟩ := hmk _ _ _ _ _ _ _ _ _ (aok1 A0) (clD fun H ⟨j, e, _⟩ => ⟨_, e⟩) I4 rfl ht hw
  exact wpAny_pure ⟨plainId_quiet F.plain_max_loop _, max_gn (fun j t H' s' I' q => ⟨.int j, H', I', ⟨t, rfl⟩, q⟩) n _ ⟨_, _, _, _, I4, .inl upd_same⟩ hn⟩
end
end G
/-! generator expressions: the evaluator's steps are the machine's -/
namespace G
open PySem L2
section
variable {E : Ev} {q q1 q2 : Bool} {as ow : List Nat} {L L1 L2 Lr : List Addr} {H H0 H1 H2 : Hp} {Z Z1 Z2 : Addr → Prop} {σ σ1 σ2 : Sg} {c c1 c2 c' : Loc} {P : Addr}
theorem stp_tab {W M : List Addr} (t : GxR.Tabbed P H H0) (hP : GxR.TabG H P) : Stp W M H Z H0 Z where
  keep := fun b o e _ ht => by
    by_cases hb : b = P
    · obtain ⟨ps, e', _⟩ := hP
      rw [hb, e'] at e
      cases e
      cases ht
    · rw [t.2 b hb]; exact e
  im := fun b o e hi => by
    by_cases hb : b = P
    · obtain ⟨ps, e', _⟩ := hP
      rw [hb, e'] at e
      cases e
      cases hi
    · rw [t.2 b hb]; exact e
  dom := fun b e => by
    by_cases hb : b = P
    · obtain ⟨ps, e', _⟩ := t.1
      rw [hb, e']; simp
    · rw [t.2 b hb]; exact e
  zup := fun _ z => z
  znew := fun _ z => .inl z
theorem SR.tab (t : GxR.Tabbed P H H0) (hP : GxR.TabG H P) (sr : SR E c σ H Z L) : SR E c σ H0 Z L :=
  ⟨RS.stp (stp_tab (W := []) (M := []) t hP) (fun _ _ => by simp) (fun _ _ => by simp) sr.rs, sr.nd, sr.nz, fun a z => (stp_tab (W := []) (M := []) (Z := Z) t hP).dom a (sr.zd a z), fun a z => (stp_tab (W := []) (M := []) (Z := Z) t hP).dom a (sr.ld a z), fun P' h => by
    by_cases hb : P' = P
    · rw [hb]; exact t.1
    · obtain ⟨ps, e, h'⟩ := sr.tb P' h
      exact ⟨ps, by rw [t.2 P' hb]; exact e, h'⟩⟩
/-- what others hold stays through a turn -/
structure Kpt (E : Ev) (H : Hp) (Z : Addr → Prop) (L : List Addr) (H' : Hp) (Z' : Addr → Prop) (L' : List Addr) : Prop where
  obj : ∀ D o, H D = some o → isTbl o = false → D ∉ L → ¬ Z D → H' D = some o ∧ D ∉ L' ∧ ¬ Z' D
  rds : ∀ xs vs, RDs E.K H Z xs vs → RDs E.K H' Z' xs vs
theorem turn_rd {J : It} {wk : Wk} {ft : Loc → Res (Bool × Loc)} {fe : Loc → Res (Opd × Loc)} {t : D → Loc → Res Loc} (has : ∀ i ∈ as, i ∈ ow) (htl : ∀ d c c', t d c = .ok c' → c'.length = c.length) (jo : JOk E J wk c1 σ H1 Z1 L1) (hf : wk.free (q1 && q2) ow = true)
    {i : Nat} (hlt : i < wk.its.length) {c4 : Loc} {H2 : Hp} {Z4 : Addr → Prop} {L4 : List Addr} (iv : LcI E (q1 && q2) wk ow L1 H1 Z1 σ c4 H2 Z4 L4) {c5 c9 : Loc} {yo : Option D} (e6 : t wk.its[i] c4 = .ok c5) (e7 : turnF wk ow ft fe c5 = .ok (yo, c9)) {K1 : VK} {K0 : Hp → Prop}
    (hy : ∀ yd v H5 Z8 L9, yo = some yd → LcI E (q1 && q2) wk ow L1 H1 Z1 σ c9 H5 Z8 L9 → RD E.K H5 Z8 yd v → Kpt E H2 Z4 L4 H5 Z8 L9 → K1 v H5)
    (hn : ∀ H5 Z8 L9, yo = none → LcI E (q1 && q2) wk ow L1 H1 Z1 σ c9 H5 Z8 L9 → Kpt E H2 Z4 L4 H5 Z8 L9 → K0 H5) :
    J.go i H2 ∧ ∀ x H3, J.yld i H2 x H3 → rdG E as t x (wipe σ ow) H3 fun σ4 H4 => wipe σ4 ow = wipe σ ow ∧ rdT E q1 ft σ4 H4 fun b H5 => if b = true then rdE E q2 fe σ4 H5 K1 else K0 H5 := by
  obtain ⟨g1, g2⟩ := jo.go (q1 && q2) ow c4 (wipe σ ow) H2 Z4 L4 i wk.its[i] hf iv.af iv.qt iv.st (List.getElem?_eq_getElem hlt)
  refine ⟨g1, fun x H3 y => ?_⟩
  obtain ⟨f3, r3⟩ := g2 x H3 y
  have sr3 : SR E c4 (wipe σ ow) H3 Z4 L4 := iv.af.sr.fr f3
  refine ⟨wk.its[i], c4, Z4, L4, c5, sr3, r3, e6, fun σ4 L5 sr5 m5 u5 => ?_⟩
  have hl4 : σ4.length = σ.length := by
    rw [← sr5.len, htl _ _ _ e6, sr3.len, wipe_length]
  have hw4 : wipe σ4 ow = wipe σ ow := wipe_same hl4 fun j hj => by rw [u5 j fun z => hj (has j z), wipe_out hj]
  refine ⟨hw4, ?_⟩
  have stA : Stp L1 L1 H1 Z1 H3 Z4 := stp_LL iv.af.st iv.af.sub f3.stp
  have subA : Sub L1 H1 L5 := fun b hb => iv.af.sub b (m5 b hb)
  have qtA : (q1 && q2) = true → Stp [] L1 H1 Z1 H3 Z4 := fun h => stp_emp (iv.qt h) iv.af.sub f3.stp
  have fin : ∀ {c8 : Loc} {H5 : Hp} {Z8 : Addr → Prop} {L8 : List Addr}, Aft E (q1 && q2) L5 H3 Z4 σ4 c8 H5 Z8 L8 → wipeO c8 ow = .ok c9 → wk.still c9 = .ok () →
      ∃ L9, LcI E (q1 && q2) wk ow L1 H1 Z1 σ c9 H5 Z8 L9 ∧ Kpt E H2 Z4 L4 H5 Z8 L9 := fun {c8 H5 Z8 L8} b ew es => by
    obtain ⟨L9, sr9, m9⟩ := b.sr.wipe ew
    rw [hw4] at sr9
    refine ⟨L9, ⟨⟨stp_LL stA subA b.st.toL, sr9, fun x hx => (subA.trans stA.dom b.sub) x (m9 x hx), fun j hj => wipe_out hj⟩, fun h => ?_, es, fun j hj => wipeO_nil ew hj⟩, fun D o hD ht hL hZ => ?_, fun xs vs h => RDs.stp b.st (wr_dj sr5) _ _ (f3.rds h)⟩
    · have b' := b.st
      rw [h] at b'
      exact stp_emp (qtA h) subA b'
    · have hD3 := f3.kp _ _ hD
      have hDL5 : D ∉ L5 := fun z => hL (m5 D z)
      refine ⟨b.st.keep _ _ hD3 (fun z => hDL5 (wr_sub z)) ht, fun z => ?_, fun z => ?_⟩
      · rcases b.sub D (m9 D z) with z | z
        · exact hDL5 z
        · rw [hD3] at z; cases z
      · rcases b.st.znew D z with z | z | z
        · exact hZ z
        · exact hDL5 z
        · rw [hD3] at z; cases z
  obtain ⟨⟨bb, c6⟩, e9, e7⟩ := Res.bind_ok e7
  refine ⟨c5, Z4, L5, bb, c6, sr5, e9, fun H4 Z6 L6 b1 => ?_⟩
  cases bb with
  | false =>
    have e7 : ((wipeO c6 ow).bind fun c4 => (wk.still c4).bind fun _ => Res.ok ((none : Option G.D), c4)) = .ok (yo, c9) := e7
    rw [if_neg Bool.false_ne_true]
    obtain ⟨c9', ew, e7⟩ := Res.bind_ok e7
    obtain ⟨_, es, e7⟩ := Res.bind_ok e7
    cases e7
    obtain ⟨L9, k5, k6⟩ := fin (b1.andT (q2 := q2)) ew es
    exact hn _ _ _ rfl k5 k6
  | true =>
    have e7 : ((fe c6).bind fun (o, c'') => (toD o c'').bind fun (y, c3) => (wipeO c3 ow).bind fun c4 => (wk.still c4).bind fun _ => Res.ok (some y, c4)) = .ok (yo, c9) := e7
    rw [if_pos rfl]
    obtain ⟨⟨o, c7⟩, e10, e7⟩ := Res.bind_ok e7
    obtain ⟨⟨yd, c8⟩, e11, e7⟩ := Res.bind_ok e7
    obtain ⟨c9', ew, e7⟩ := Res.bind_ok e7
    obtain ⟨_, es, e7⟩ := Res.bind_ok e7
    cases e7
    refine ⟨c6, Z6, L6, o, c7, b1.sr, e10, fun v H5 Z7 L7 Lr b2 t2 r2 => ?_⟩
    obtain ⟨Z8, L8, g, hyd⟩ := toD_ok b2.sr t2.dj t2.ld r2 e11
    have b3 := b1.trans (b2.gh t2.sub g)
    obtain ⟨L9, k5, k6⟩ := fin b3 ew es
    exact hy _ _ _ _ _ rfl k5 hyd k6
/-- the consumer's own list is written -/
theorem LcI.wr {qb : Bool} {wk : Wk} {D : Addr} {xs ys : List V} (iv : LcI E qb wk ow L1 H1 Z1 σ c2 H2 Z2 L2) (hD : H1 D = none) (e : H2 D = some (.lst xs)) (hL : D ∉ L2) (hZ : ¬ Z2 D) :
    LcI E qb wk ow L1 H1 Z1 σ c2 (upd H2 D (.lst ys)) Z2 L2 ∧ ∀ ds vs, RDs E.K H2 Z2 ds vs → RDs E.K (upd H2 D (.lst ys)) Z2 ds vs := by
  have s : ∀ {M : List Addr}, Stp [D] M H2 Z2 (upd H2 D (.lst ys)) Z2 := .upd e rfl
  have nz : ∀ b, Z2 b → b ∉ [D] := fun b z hb => by
    have : b = D := by simpa using hb
    subst this
    exact hZ z
  have n9 : ∀ b ∈ L2, b ∉ [D] := fun b h9 hb => by
    have : b = D := by simpa using hb
    subst this
    exact hL h9
  have sr := iv.af.sr
  exact ⟨⟨⟨stp_new iv.af.st hD, ⟨RS.stp (s (M := [])) nz n9 sr.rs, sr.nd, sr.nz, fun b z => (s (M := [])).dom b (sr.zd b z), fun b z => (s (M := [])).dom b (sr.ld b z), fun P h => TabG.upd e rfl (sr.tb P h)⟩, iv.af.sub, iv.af.un⟩, fun h => stp_new (iv.qt h) hD, iv.st, iv.nl⟩,
    fun ds vs h => RDs.stp (s (M := [])) nz _ _ h⟩
/-- the start: the table may have grown, a new list at D -/
theorem lcI_start {qb : Bool} {wk : Wk} (sr : SR E c1 σ H1 Z1 L1) (e2 : wipeO c1 ow = .ok c2) (es : wk.still c2 = .ok ()) (hP : GxR.TabG H1 P) (hT : GxR.Tabbed P H1 H0) : ∃ L2, LcI E qb wk ow L1 H1 Z1 σ c2 H0 Z1 L2 ∧ ∀ a ∈ L2, a ∈ L1 := by
  obtain ⟨L2, sr2, m2⟩ := sr.wipe e2
  exact ⟨L2, ⟨⟨stp_tab hT hP, sr2.tab hT hP, fun b hb => .inl (m2 b hb), fun i hi => wipe_out hi⟩, fun _ => stp_tab hT hP, es, fun j hj => wipeO_nil e2 hj⟩, m2⟩
theorem LcI.fr {qb : Bool} {wk : Wk} {H' : Hp} {Lz : List Addr} (iv : LcI E qb wk ow L1 H1 Z1 σ c2 H2 Z2 L2) (f : Fr H2 H' Lz) : LcI E qb wk ow L1 H1 Z1 σ c2 H' Z2 L2 :=
  ⟨⟨stp_LL iv.af.st iv.af.sub f.stp, iv.af.sr.fr f, iv.af.sub, iv.af.un⟩, fun h => stp_emp (iv.qt h) iv.af.sub f.stp, iv.st, iv.nl⟩
/-- the end: the value comes, the own slots as they were -/
theorem fin_rd {qb : Bool} {wk : Wk} {x : At} {c3 : Loc} {Q : VK} (a : Aft E q L H Z σ c1 H1 Z1 L1) (e2 : wipeO c1 ow = .ok c2) (iv : LcI E qb wk ow L1 H1 Z1 σ c3 H2 Z2 L2) (ok : OkO E false L H Z σ (.v (.a x)) (backO c1 c3 ow) Q) :
    ∀ r H' Lz, Fr H2 H' Lz → RA E.K H' Z2 x r Lz → Q r H' := by
  obtain ⟨L', sr', m'⟩ := back_sr (c0 := c1) (σ0 := σ) (own := ow) iv.af.sr (fun j hj => by
    have hn := iv.nl j hj
    refine ⟨(List.getElem?_eq_some_iff.mp hn).1, ?_⟩
    rcases wipeO_was e2 hj with h | ⟨d, h⟩
    · rw [List.getD_eq_getElem?_getD, h]
      rfl
    · obtain ⟨oo, Li, Lo, g1, g2, _⟩ := a.sr.rs.split h
      obtain ⟨v, rfl, g3⟩ := g2
      have g3 : RA E.K H1 Z1 (.d d) v Li := g3
      rw [List.getD_eq_getElem?_getD, List.getD_eq_getElem?_getD, h, g1]
      exact ⟨v, rfl, rfl, RD.stp iv.af.st (fun b hb hw => a.sr.nz b hw hb) _ _ g3.2⟩) (fun j hj => wipe_out hj) (wipe_length _ _)
  have af : Aft E false L H Z σ (backO c1 c3 ow) H2 Z2 L' := ⟨stp_LL a.st.toL a.sub iv.af.st, sr', fun b hb => (a.sub.trans a.st.dom iv.af.sub) b (m' b hb)⟩
  exact ok.fin af
end
/-! ### the evaluator's parts -/
def gnF {α : Type} (qb : Bool) (own : List Nat) (fs : Loc → Res (Wk × Loc)) (fold : Wk → Loc → Res (α × Loc)) (out : α → Res D) : Loc → Res (Opd × Loc) := fun c =>
  (fs c).bind fun (wk, c1) => (gd (wk.free qb own)).bind fun _ => (wipeO c1 own).bind fun c2 => (wk.still c2).bind fun _ =>
    (fold wk c2).bind fun (a, c3) => (out a).bind fun d => .ok (.v (.d d), backO c1 c3 own)
section
variable {E : Ev} {q q1 q2 : Bool} {as ow : List Nat} {L L1 L2 Lr : List Addr} {H H0 H1 H2 : Hp} {Z Z1 Z2 : Addr → Prop} {σ σ1 σ2 : Sg} {c c1 c2 c' : Loc} {P : Addr} {fs : Loc → Res (Wk × Loc)} {ft : Loc → Res (Bool × Loc)} {fe : Loc → Res (Opd × Loc)} {t : D → Loc → Res Loc}
theorem genT_rd (hP : P ∈ E.tabs) (has : ∀ i ∈ as, i ∈ ow) (htl : ∀ d c c', t d c = .ok c' → c'.length = c.length) {Q : VK} (h : rdE E false (gnF (q1 && q2) ow fs (fun wk => compL (turnF wk ow ft fe) t wk.its) outT) σ H Q) :
    tGD P (rdI E q fs) (rdG E as t) (rdT E q1 ft) (rdE E q2 fe) ow (fun _ => Ck0) PutL (fun D H' => ∃ xs, H' D = some (.lst xs) ∧ ∀ p, H' p = none → Q (.ref p) (upd H' p (.tup xs))) σ H := by
  obtain ⟨c, Z, L, o, c', sr, ev, ok⟩ := h
  obtain ⟨⟨wk, c1⟩, e1, ev⟩ := Res.bind_ok ev
  obtain ⟨_, hf, ev⟩ := Res.bind_ok ev
  obtain ⟨c2, e2, ev⟩ := Res.bind_ok ev
  obtain ⟨_, e3, ev⟩ := Res.bind_ok ev
  obtain ⟨⟨ys, c3⟩, e4, ev⟩ := Res.bind_ok ev
  obtain ⟨d, e5, ev⟩ := Res.bind_ok ev
  obtain ⟨_, e5g, e6⟩ := Res.bind_ok e5
  cases e6
  cases ev
  have hf := gd_ok hf
  have hfit := fits_le (gd_ok e5g)
  refine ⟨c, Z, L, wk, c1, sr, e1, fun J H1 Z1 L1 a jo => ⟨a.sr.tb P hP, fun H0 hT D hD => ?_⟩⟩
  have hD1 : H1 D = none := by
    cases z : H1 D with
    | none => rfl
    | some o => exact absurd hD ((stp_tab (W := []) (M := []) (Z := Z1) hT (a.sr.tb P hP)).dom D (by rw [z]; simp))
  obtain ⟨L2, i0, m2⟩ := lcI_start (qb := q1 && q2) a.sr e2 e3 (a.sr.tb P hP) hT
  have new : Fr H0 (upd H0 D (.lst [])) [] := .new0 hD
  refine ⟨fun i m H2 => m = wk.its.length - i ∧ i ≤ wk.its.length ∧ ∃ c4 Z4 L4 xs vs zs, LcI E (q1 && q2) wk ow L1 H1 Z1 σ c4 H2 Z4 L4 ∧ D ∉ L4 ∧ ¬ Z4 D ∧ H2 D = some (.lst vs) ∧ RDs E.K H2 Z4 xs vs ∧ compL (turnF wk ow ft fe) t (wk.its.drop i) c4 = .ok (zs, c3) ∧ xs ++ zs = ys,
    _, ?_, rfl, Nat.zero_le _, c2, Z1, L2, [], [], ys, i0.fr new, fun z => a.sr.ld D (m2 D z) hD1, fun z => a.sr.zd D z hD1, upd_same, RDs.nil.mpr rfl, e4, rfl⟩
  rintro i m H2 ⟨rfl, hle, c4, Z4, L4, xs, vs, zs, iv, hDL, hDZ, hDv, hxs, ec, exs⟩
  by_cases hlt : i < wk.its.length
  · rw [List.drop_eq_getElem_cons hlt] at ec
    unfold compL at ec
    obtain ⟨c5, e6, ec⟩ := Res.bind_ok ec
    obtain ⟨⟨yo, c9⟩, e7, ec⟩ := Res.bind_ok ec
    obtain ⟨⟨zs', c3'⟩, e8, ec⟩ := Res.bind_ok ec
    cases ec
    have tr := fun K1 K0 => turn_rd (K1 := K1) (K0 := K0) has htl jo hf hlt iv e6 e7
    obtain ⟨g1, g2⟩ := tr (fun y H4 => Ck0 H2 H4 ∧ PutL D y H4 fun H' => wk.its.length - (i + 1) = wk.its.length - (i + 1) ∧ i + 1 ≤ wk.its.length ∧ ∃ c4 Z4 L4 xs vs zs, LcI E (q1 && q2) wk ow L1 H1 Z1 σ c4 H' Z4 L4 ∧ D ∉ L4 ∧ ¬ Z4 D ∧ H' D = some (.lst vs) ∧ RDs E.K H' Z4 xs vs ∧ compL (turnF wk ow ft fe) t (wk.its.drop (i + 1)) c4 = .ok (zs, c3) ∧ xs ++ zs = ys)
      (fun H' => Ck0 H2 H' ∧ wk.its.length - (i + 1) = wk.its.length - (i + 1) ∧ i + 1 ≤ wk.its.length ∧ ∃ c4 Z4 L4 xs vs zs, LcI E (q1 && q2) wk ow L1 H1 Z1 σ c4 H' Z4 L4 ∧ D ∉ L4 ∧ ¬ Z4 D ∧ H' D = some (.lst vs) ∧ RDs E.K H' Z4 xs vs ∧ compL (turnF wk ow ft fe) t (wk.its.drop (i + 1)) c4 = .ok (zs, c3) ∧ xs ++ zs = ys)
      (fun yd v H5 Z8 L9 ey k5 hyd kp => by
        subst ey
        obtain ⟨k1, k2, k3⟩ := kp.obj D _ hDv rfl hDL hDZ
        have hlen : vs.length < sizeLine := by
          rw [← hxs.len]
          have : (xs ++ yd :: zs').length ≤ sizeLine := by rw [exs]; exact hfit
          simp only [List.length_append, List.length_cons] at this
          omega
        obtain ⟨w1, w2⟩ := k5.wr (ys := vs ++ [v]) hD1 k1 k2 k3
        exact ⟨trivial, vs, k1, hlen, rfl, hlt, _, _, _, xs ++ [yd], vs ++ [v], zs', w1, k2, k3, upd_same, w2 _ _ ((kp.rds _ _ hxs).append (RDs.cons.mpr ⟨v, [], rfl, hyd, RDs.nil.mpr rfl⟩)), e8, by simpa using exs⟩)
      (fun H5 Z8 L9 ey k5 kp => by
        subst ey
        obtain ⟨k1, k2, k3⟩ := kp.obj D _ hDv rfl hDL hDZ
        exact ⟨trivial, rfl, hlt, _, _, _, xs, vs, _, k5, k2, k3, k1, kp.rds _ _ hxs, e8, exs⟩)
    exact .inr ⟨g1, _, fun H' n => ⟨wk.its.length - (i + 1), by omega, n⟩, g2⟩
  · have hi : i = wk.its.length := by omega
    refine .inl ⟨jo.stop (q1 && q2) ow c4 (wipe σ ow) H2 Z4 L4 i hf iv.af iv.qt iv.st hi, trivial, vs, hDv, fun p hp => ?_⟩
    subst hi
    rw [List.drop_of_length_le (Nat.le_refl _)] at ec
    cases ec
    rw [List.append_nil] at exs
    subst exs
    have f : Fr H2 (upd H2 p (.tup vs)) [] := .new0 hp
    exact fin_rd a e2 iv ok _ _ [] f ⟨rfl, RD.tupI.mpr ⟨p, vs, rfl, .inl (.inl upd_same), f.rds hxs⟩⟩
/-- any(..), all(..): stops at st -/
theorem genB_rd {st : Bool} (hP : P ∈ E.tabs) (has : ∀ i ∈ as, i ∈ ow) (htl : ∀ d c c', t d c = .ok c' → c'.length = c.length) {Q : VK} (h : rdE E false (gnF (q1 && q2) ow fs (fun wk => compS st (turnF wk ow ft fe) t wk.its) fun b => .ok (.bl b)) σ H Q) :
    tGN P (rdI E q fs) (rdG E as t) (rdT E q1 ft) (rdE E q2 fe) ow (PutB st fun b H' => Q (.bl b) H') (fun H' => Q (.bl (!st)) H') σ H := by
  obtain ⟨c, Z, L, o, c', sr, ev, ok⟩ := h
  obtain ⟨⟨wk, c1⟩, e1, ev⟩ := Res.bind_ok ev
  obtain ⟨_, hf, ev⟩ := Res.bind_ok ev
  obtain ⟨c2, e2, ev⟩ := Res.bind_ok ev
  obtain ⟨_, e3, ev⟩ := Res.bind_ok ev
  obtain ⟨⟨b, c3⟩, e4, ev⟩ := Res.bind_ok ev
  cases ev
  have hf := gd_ok hf
  refine ⟨c, Z, L, wk, c1, sr, e1, fun J H1 Z1 L1 a jo => ⟨a.sr.tb P hP, fun H0 hT => ?_⟩⟩
  obtain ⟨L2, i0, m2⟩ := lcI_start (qb := q1 && q2) a.sr e2 e3 (a.sr.tb P hP) hT
  refine ⟨fun i m H2 => m = wk.its.length - i ∧ i ≤ wk.its.length ∧ ∃ c4 Z4 L4, LcI E (q1 && q2) wk ow L1 H1 Z1 σ c4 H2 Z4 L4 ∧ compS st (turnF wk ow ft fe) t (wk.its.drop i) c4 = .ok (b, c3), _, ?_, rfl, Nat.zero_le _, c2, Z1, L2, i0, e4⟩
  rintro i m H2 ⟨rfl, hle, c4, Z4, L4, iv, ec⟩
  by_cases hlt : i < wk.its.length
  · rw [List.drop_eq_getElem_cons hlt] at ec
    unfold compS at ec
    obtain ⟨c5, e6, ec⟩ := Res.bind_ok ec
    obtain ⟨⟨yo, c9⟩, e7, ec⟩ := Res.bind_ok ec
    have tr := fun K1 K0 => turn_rd (K1 := K1) (K0 := K0) has htl jo hf hlt iv e6 e7
    obtain ⟨g1, g2⟩ := tr (fun y H4 => Ck0 H2 H4 ∧ PutB st (fun b H' => Q (.bl b) H') y H4 fun H' => wk.its.length - (i + 1) = wk.its.length - (i + 1) ∧ i + 1 ≤ wk.its.length ∧ ∃ c4 Z4 L4, LcI E (q1 && q2) wk ow L1 H1 Z1 σ c4 H' Z4 L4 ∧ compS st (turnF wk ow ft fe) t (wk.its.drop (i + 1)) c4 = .ok (b, c3))
      (fun H' => Ck0 H2 H' ∧ wk.its.length - (i + 1) = wk.its.length - (i + 1) ∧ i + 1 ≤ wk.its.length ∧ ∃ c4 Z4 L4, LcI E (q1 && q2) wk ow L1 H1 Z1 σ c4 H' Z4 L4 ∧ compS st (turnF wk ow ft fe) t (wk.its.drop (i + 1)) c4 = .ok (b, c3))
      (fun yd v H5 Z8 L9 ey k5 hyd kp => by
        subst ey
        cases yd with
        | bl b1 =>
          have ev' : v = .bl b1 := by unfold RD at hyd; exact hyd
          subst ev'
          refine ⟨trivial, b1, rfl, ?_⟩
          by_cases hb : b1 = st
          · subst hb
            have ec : (if b1 = b1 then Res.ok (b1, c9) else compS b1 (turnF wk ow ft fe) t (wk.its.drop (i + 1)) c9) = .ok (b, c3) := ec
            rw [if_pos rfl] at ec
            cases ec
            exact .inl ⟨rfl, fin_rd a e2 k5 ok _ _ [] .refl ⟨rfl, by unfold RD; rfl⟩⟩
          · have ec : (if b1 = st then Res.ok (st, c9) else compS st (turnF wk ow ft fe) t (wk.its.drop (i + 1)) c9) = .ok (b, c3) := ec
            rw [if_neg hb] at ec
            exact .inr ⟨hb, rfl, hlt, _, _, _, k5, ec⟩
        | _ => cases ec)
      (fun H5 Z8 L9 ey k5 kp => by
        subst ey
        exact ⟨trivial, rfl, hlt, _, _, _, k5, ec⟩)
    exact .inr ⟨g1, _, fun H' n => ⟨wk.its.length - (i + 1), by omega, n⟩, g2⟩
  · have hi : i = wk.its.length := by omega
    refine .inl ⟨jo.stop (q1 && q2) ow c4 (wipe σ ow) H2 Z4 L4 i hf iv.af iv.qt iv.st hi, trivial, ?_⟩
    subst hi
    rw [List.drop_of_length_le (Nat.le_refl _)] at ec
    cases ec
    exact fin_rd a e2 iv ok _ _ [] .refl ⟨rfl, by unfold RD; rfl⟩
theorem allI_app : ∀ {xs ys : List D}, allI (xs ++ ys) = (allI xs).bind fun a => (allI ys).map fun b => a ++ b
  | [], ys => by simp [allI]
  | .int i :: xs, ys => by
    simp only [List.cons_append, allI, allI_app]
    cases allI xs with
    | none => rfl
    | some a => cases allI ys <;> simp
  | .non :: _, _ => rfl
  | .bl _ :: _, _ => rfl
  | .str _ :: _, _ => rfl
  | .tup _ :: _, _ => rfl
  | .lst _ :: _, _ => rfl
  | .dic _ :: _, _ => rfl
theorem maxI_snoc {ns : List Int} {i : Int} : maxI (ns ++ [i]) = some (match maxI ns with | none => i | some m => if m < i then i else m) := by
  cases ns with
  | nil => rfl
  | cons n ns =>
    show some ((ns ++ [i]).foldl _ n) = _
    rw [List.foldl_append]
    rfl
theorem genM_rd (hP : P ∈ E.tabs) (has : ∀ i ∈ as, i ∈ ow) (htl : ∀ d c c', t d c = .ok c' → c'.length = c.length) {Q : VK} (h : rdE E false (gnF (q1 && q2) ow fs (fun wk => compL (turnF wk ow ft fe) t wk.its) outM) σ H Q) :
    tGD P (rdI E q fs) (rdG E as t) (rdT E q1 ft) (rdE E q2 fe) ow CkD PutM (fun D => DoneM D Q) σ H := by
  obtain ⟨c, Z, L, o, c', sr, ev, ok⟩ := h
  obtain ⟨⟨wk, c1⟩, e1, ev⟩ := Res.bind_ok ev
  obtain ⟨_, hf, ev⟩ := Res.bind_ok ev
  obtain ⟨c2, e2, ev⟩ := Res.bind_ok ev
  obtain ⟨_, e3, ev⟩ := Res.bind_ok ev
  obtain ⟨⟨ys, c3⟩, e4, ev⟩ := Res.bind_ok ev
  obtain ⟨d, e5, ev⟩ := Res.bind_ok ev
  obtain ⟨ns, e5g, e6⟩ := Res.bind_ok e5
  obtain ⟨mx, e7, e6⟩ := Res.bind_ok e6
  cases e6
  cases ev
  have hf := gd_ok hf
  have e5 := isOk_ok e5g
  have e7 := isOk_ok e7
  refine ⟨c, Z, L, wk, c1, sr, e1, fun J H1 Z1 L1 a jo => ⟨a.sr.tb P hP, fun H0 hT D hD => ?_⟩⟩
  have hD1 : H1 D = none := by
    cases z : H1 D with
    | none => rfl
    | some o => exact absurd hD ((stp_tab (W := []) (M := []) (Z := Z1) hT (a.sr.tb P hP)).dom D (by rw [z]; simp))
  obtain ⟨L2, i0, m2⟩ := lcI_start (qb := q1 && q2) a.sr e2 e3 (a.sr.tb P hP) hT
  have new : Fr H0 (upd H0 D (.lst [])) [] := .new0 hD
  refine ⟨fun i m H2 => m = wk.its.length - i ∧ i ≤ wk.its.length ∧ ∃ c4 Z4 L4 xs ks zs, LcI E (q1 && q2) wk ow L1 H1 Z1 σ c4 H2 Z4 L4 ∧ D ∉ L4 ∧ ¬ Z4 D ∧ H2 D = some (.lst (match maxI ks with | none => [] | some j => [.int j, .int j])) ∧ allI xs = some ks ∧ compL (turnF wk ow ft fe) t (wk.its.drop i) c4 = .ok (zs, c3) ∧ xs ++ zs = ys,
    _, ?_, rfl, Nat.zero_le _, c2, Z1, L2, [], [], ys, i0.fr new, fun z => a.sr.ld D (m2 D z) hD1, fun z => a.sr.zd D z hD1, upd_same, rfl, e4, rfl⟩
  rintro i m H2 ⟨rfl, hle, c4, Z4, L4, xs, ks, zs, iv, hDL, hDZ, hDv, hks, ec, exs⟩
  by_cases hlt : i < wk.its.length
  · rw [List.drop_eq_getElem_cons hlt] at ec
    unfold compL at ec
    obtain ⟨c5, e6, ec⟩ := Res.bind_ok ec
    obtain ⟨⟨yo, c9⟩, e8', ec⟩ := Res.bind_ok ec
    obtain ⟨⟨zs', c3'⟩, e8, ec⟩ := Res.bind_ok ec
    cases ec
    have tr := fun K1 K0 => turn_rd (K1 := K1) (K0 := K0) has htl jo hf hlt iv e6 e8'
    obtain ⟨g1, g2⟩ := tr (fun y H4 => CkD D H2 H4 ∧ PutM D y H4 fun H' => wk.its.length - (i + 1) = wk.its.length - (i + 1) ∧ i + 1 ≤ wk.its.length ∧ ∃ c4 Z4 L4 xs ks zs, LcI E (q1 && q2) wk ow L1 H1 Z1 σ c4 H' Z4 L4 ∧ D ∉ L4 ∧ ¬ Z4 D ∧ H' D = some (.lst (match maxI ks with | none => [] | some j => [.int j, .int j])) ∧ allI xs = some ks ∧ compL (turnF wk ow ft fe) t (wk.its.drop (i + 1)) c4 = .ok (zs, c3) ∧ xs ++ zs = ys)
      (fun H' => CkD D H2 H' ∧ wk.its.length - (i + 1) = wk.its.length - (i + 1) ∧ i + 1 ≤ wk.its.length ∧ ∃ c4 Z4 L4 xs ks zs, LcI E (q1 && q2) wk ow L1 H1 Z1 σ c4 H' Z4 L4 ∧ D ∉ L4 ∧ ¬ Z4 D ∧ H' D = some (.lst (match maxI ks with | none => [] | some j => [.int j, .int j])) ∧ allI xs = some ks ∧ compL (turnF wk ow ft fe) t (wk.its.drop (i + 1)) c4 = .ok (zs, c3) ∧ xs ++ zs = ys)
      (fun yd v H5 Z8 L9 ey k5 hyd kp => by
        subst ey
        obtain ⟨k1, k2, k3⟩ := kp.obj D _ hDv rfl hDL hDZ
        have hyi : ∃ y, yd = .int y := by
          rw [← exs, allI_app, hks] at e5
          cases yd with
          | int y => exact ⟨y, rfl⟩
          | _ => simp [allI] at e5
        obtain ⟨y, rfl⟩ := hyi
        have ev' : v = .int y := by unfold RD at hyd; exact hyd
        subst ev'
        have hks' : allI (xs ++ [.int y]) = some (ks ++ [y]) := by rw [allI_app, hks]; rfl
        refine ⟨⟨_, hDv, k1⟩, y, rfl, ?_⟩
        cases hm : maxI ks with
        | none =>
          rw [hm] at k1
          obtain ⟨w1, w2⟩ := k5.wr (ys := [.int y, .int y]) hD1 k1 k2 k3
          exact .inl ⟨k1, rfl, hlt, _, _, _, _, _, zs', w1, k2, k3, by rw [maxI_snoc, hm]; exact upd_same, hks', e8, by simpa using exs⟩
        | some j =>
          rw [hm] at k1
          refine .inr ⟨j, k1, fun hj => ?_, fun hj => ?_⟩
          · obtain ⟨w1, w2⟩ := k5.wr (ys := [.int y, .int y]) hD1 k1 k2 k3
            exact ⟨rfl, hlt, _, _, _, _, _, zs', w1, k2, k3, by rw [maxI_snoc, hm]; simp only [hj, if_true]; exact upd_same, hks', e8, by simpa using exs⟩
          · exact ⟨rfl, hlt, _, _, _, _, _, zs', k5, k2, k3, by rw [maxI_snoc, hm]; simp only [hj, if_false]; exact k1, hks', e8, by simpa using exs⟩)
      (fun H5 Z8 L9 ey k5 kp => by
        subst ey
        obtain ⟨k1, k2, k3⟩ := kp.obj D _ hDv rfl hDL hDZ
        exact ⟨⟨_, hDv, k1⟩, rfl, hlt, _, _, _, xs, ks, _, k5, k2, k3, k1, hks, e8, exs⟩)
    exact .inr ⟨g1, _, fun H' n => ⟨wk.its.length - (i + 1), by omega, n⟩, g2⟩
  · have hi : i = wk.its.length := by omega
    subst hi
    rw [List.drop_of_length_le (Nat.le_refl _)] at ec
    cases ec
    rw [List.append_nil] at exs
    subst exs
    rw [hks] at e5
    cases e5
    rw [e7] at hDv
    obtain ⟨w1, w2⟩ := iv.wr (ys := []) hD1 hDv hDL hDZ
    exact .inl ⟨jo.stop (q1 && q2) ow _ (wipe σ ow) H2 Z4 L4 _ hf iv.af iv.qt iv.st rfl, ⟨_, hDv, hDv⟩, mx, hDv, fin_rd a e2 w1 ok _ _ [] .refl ⟨rfl, by unfold RD; rfl⟩⟩
end
end G
namespace G
open PySem L2
/-! ### the text of a def is that of the IR -/
structure Tab where
  fns : List (Str × Nat)
  cons : List (Str × D)
def visC (sc : Scope) (x : Str) : Bool := match sc.names.lookup x with
  | some .local => true | some .cell => true | some .free => true | _ => false
/-- a name that may be stored -/
def stoC (sc : Scope) (fx : Str → Bool) (x : Str) : Bool := match sc.names.lookup x with
  | some .local => true | some .cell => fx x | _ => false
def glC (sc : Scope) (x : Str) : Bool := match sc.names.lookup x with
  | some .globalImplicit => true | _ => false
def okN (x : Str) : Bool := !(x == ("__debug__" : Str)) && !(x == ("__classdict__" : Str)) && decide (x ≠ ("__name__" : Str))
def slotC (N : List Str) (i : Nat) (x : Str) : Bool := decide (N[i]? = some x)
def plain : Expr → Bool
  | .Starred _ _ => false | _ => true
def noSet : Expr → Bool
  | .Set _ _ _ => false | _ => true
def plainIxC : Expr → Bool
  | .Slice _ _ _ _ => false | _ => true
def noComp : Expr → Bool
  | .ListComp _ _ _ _ => false | .SetComp _ _ _ _ => false | .DictComp _ _ _ _ _ => false | _ => true
def noSuper : Expr → Bool
  | .Call (.Name _ _) [] [] _ => false | _ => true
/-- a test by its value -/
def plainT : Expr → Bool
  | .UnaryOp .Not _ _ => false | .BoolOp _ _ _ => false | .IfExp _ _ _ _ => false | .Compare _ _ _ _ => false | _ => true
def conC : D → Const → Bool
  | .non, .none => true
  | .bl a, .bool b => a == b
  | .int a, .int b => decide (a = b)
  | .str a, .str b => decide (a = b)
  | _, _ => false
def opC : BOp → Operator → Bool
  | .add, .Add => true | .sub, .Sub => true | .mul, .Mult => true | .fdiv, .FloorDiv => true | .mod, .Mod => true | .pow, .Pow => true | _, _ => false
def copC : COp → CmpOp → Bool
  | .eq, .Eq => true | .ne, .NotEq => true | .lt, .Lt => true | .le, .LtE => true | .gt, .Gt => true | .ge, .GtE => true | .isin, .In => true | .notin, .NotIn => true | _, _ => false
def isC : Bool → CmpOp → Bool
  | true, .IsNot => true | false, .Is => true | _, _ => false
theorem opC_eq {o : BOp} {p : Operator} (h : opC o p = true) : p = opOf o := by
  cases o <;> cases p <;> first | rfl | cases h
theorem copC_eq {o : COp} {p : CmpOp} (h : copC o p = true) : p = copOf o := by
  cases o <;> cases p <;> first | rfl | cases h
theorem isC_eq {n : Bool} {p : CmpOp} (h : isC n p = true) : p = if n then .IsNot else .Is := by
  cases n <;> cases p <;> first | rfl | cases h
theorem star_plain {e : Expr} {es : List Expr} {env : Env} (h : plain e = true) : starEach (e :: es) env = (false, eval e env) :: starEach es env := by
  cases e <;> first | rfl | cases h
theorem star_all {env : Env} : ∀ {es : List Expr}, es.all plain = true → ∀ p ∈ starEach es env, p.1 = false
  | [], _, p, hp => by
    have : starEach [] env = [] := rfl
    rw [this] at hp
    cases hp
  | e :: es, h, p, hp => by
    rw [List.all_cons, Bool.and_eq_true] at h
    rw [star_plain h.1] at hp
    rcases List.mem_cons.mp hp with h' | h'
    · rw [h']
    · exact star_all h.2 p h'
theorem back_plain {es : List Expr} {env : Env} {pos : Pos} (h : es.all plain = true) : (backTo pos (starEach es env)).any (·.1) = false := by
  rw [List.any_eq_false]
  intro p hp
  unfold backTo at hp
  obtain ⟨q, hq, e⟩ := List.mem_map.mp hp
  obtain ⟨b, t⟩ := q
  have := star_all h _ hq
  cases e
  simpa using this
theorem set_no {e : Expr} {env : Env} (h : noSet e = true) : ∀ x, foldedSetIterable e env x = pure x := by
  intro x
  cases e <;> first | rfl | cases h
theorem ix_plain {e : Expr} (h : plainIxC e = true) : PlainIx e := by
  intro o i
  cases e <;> first | rfl | cases h
theorem true_plain {e : Expr} {env : Env} (h : plainT e = true) : ∀ whole, isTrue e env whole = (do let v ← whole; standAt e.pos; holding [v] (truthy v)) := by
  intro w
  cases e with
  | UnaryOp op x p => cases op <;> first | rfl | cases h
  | BoolOp _ _ _ => cases h
  | IfExp _ _ _ _ => cases h
  | Compare _ _ _ _ => cases h
  | _ => rfl
theorem super_no {o : Expr} {m : Str} {env : Env} (h : noSuper o = true) : attributeBase o m env (eval o env) = eval o env := by
  unfold attributeBase
  split
  · cases h
  · rfl
theorem sw_none {e : Expr} {t : Option Expr} {l : Nat} {env : Env} (h : noComp e = true) : swapsWith e t l env = pure false := by
  cases e <;> first | rfl | cases h
end G
namespace G
open PySem L2
section
variable (T : Tab) (N : List Str)
mutual
def chkG : Tg → Scope → (Str → Bool) → Expr → Bool
  | .nm i, sc, fx, e => (match e with
    | .Name x _ => slotC N i x && stoC sc fx x
    | _ => false)
  | .tp ts, sc, fx, e => (match e with
    | .Tuple es _ _ => chkGs ts sc fx es
    | _ => false)
def chkGs : List Tg → Scope → (Str → Bool) → List Expr → Bool
  | [], _, _, es => es.isEmpty
  | t :: ts, sc, fx, es => (match es with
    | e :: r => plain e && chkG t sc fx e && chkGs ts sc fx r
    | _ => false)
end
/-- a def's own scope: no walk's name in it -/
def topS (sc : Scope) : Bool := (sc.names.lookup (".0" : Str)).isNone
def isLocK : Option NameKind → Bool
  | some .local => true
  | _ => false
def gscC (scope : Scope) : Bool := !scope.isCoroutine && (scope.names.all fun y => match y.2 with | .cell => false | _ => true) && isLocK (scope.names.lookup (".0" : Str))
def noSetL : Expr → Bool
  | .Set _ _ _ => false | .List _ _ => false | _ => true
def genN : GK → Option String
  | .tup => some "tuple" | .all => some "all" | .any => some "any" | .max => some "max" | _ => none
def isTup : Expr → Bool
  | .Tuple _ _ _ => true | _ => false
def subM (m : Mut) : Bool := match m with
  | .append => true | .extend => true | .pop => true | _ => false
mutual
def chkE : Ex → Scope → (Str → Bool) → Expr → Bool
  | .loc i, sc, fx, e => (match e with
    | .Name x _ => slotC N i x && visC sc x && okN x
    | _ => false)
  | .gcon y d, sc, fx, e => (match e with
    | .Name x _ => glC sc x && okN x && (T.cons.any fun p => decide (p.1 = x) && D.beq p.2 d)
    | _ => false)
  | .cst d, sc, fx, e => (match e with
    | .Constant v _ _ => conC d v
    | _ => false)
  | .tup es, sc, fx, e => (match e with
    | .Tuple xs _ _ => chkA es sc fx xs
    | _ => false)
  | .lst es, sc, fx, e => (match e with
    | .List xs _ => chkA es sc fx xs
    | _ => false)
  | .bin o a b, sc, fx, e => (match e with
    | .BinOp l op r _ => opC o op && chkE a sc fx l && chkE b sc fx r
    | _ => false)
  | .neg a, sc, fx, e => (match e with
    | .UnaryOp .USub x _ => chkE a sc fx x
    | _ => false)
  | .not a, sc, fx, e => (match e with
    | .UnaryOp .Not x _ => chkE a sc fx x
    | _ => false)
  | .and a b, sc, fx, e => (match e with
    | .BoolOp .And [x, y] p => chkE a sc fx x && chkE b sc fx y
    | .BoolOp .And (x :: y :: z :: r) p => chkE a sc fx x && chkE b sc fx (.BoolOp .And (y :: z :: r) p)
    | _ => false)
  | .or a b, sc, fx, e => (match e with
    | .BoolOp .Or [x, y] p => chkE a sc fx x && chkE b sc fx y
    | .BoolOp .Or (x :: y :: z :: r) p => chkE a sc fx x && chkE b sc fx (.BoolOp .Or (y :: z :: r) p)
    | _ => false)
  | .ite q a b, sc, fx, e => (match e with
    | .IfExp t x y _ => chkT q sc fx t (chkE q sc fx t) && chkE a sc fx x && chkE b sc fx y
    | _ => false)
  | .cmp o a b, sc, fx, e => (match e with
    | .Compare l [op] [r] _ => copC o op && !behindInMarks op r && chkE a sc fx l && chkE b sc fx r
    | _ => false)
  | .chn o o' a b c, sc, fx, e => (match e with
    | .Compare l [op, op'] [m, r] _ => copC o op && copC o' op' && !lastMarks [op, op'] [m, r] && chkE a sc fx l && chkE b sc fx m && chkE c sc fx r
    | _ => false)
  | .isN n a, sc, fx, e => (match e with
    | .Compare l [op] [.Constant .none _ _] _ => isC n op && chkE a sc fx l
    | _ => false)
  | .isC n b a, sc, fx, e => (match e with
    | .Compare l [op] [.Constant (.bool b') _ _] _ => isC n op && (b == b') && chkE a sc fx l
    | _ => false)
  | .call f es, sc, fx, e => (match e with
    | .Call (.Name x _) args [] _ => glC sc x && okN x && (T.fns.any fun p => decide (p.1 = x) && decide (p.2 = f)) && args.all plain && chkA es sc fx args
    | _ => false)
  | .ix a b, sc, fx, e => (match e with
    | .Subscript l r _ => plainIxC r && chkE a sc fx l && chkE b sc fx r
    | _ => false)
  | .sl a lo hi, sc, fx, e => (match e with
    | .Subscript l (.Slice lo' hi' none _) _ => chkE a sc fx l && chkP lo sc fx lo' && chkP hi sc fx hi'
    | _ => false)
  | .rsl a, sc, fx, e => (match e with
    | .Subscript l (.Slice none none (some (.UnaryOp .USub (.Constant (.int n) _ _) _)) _) _ => decide (n = 1) && chkE a sc fx l
    | _ => false)
  | .blt b es, sc, fx, e => (match e with
    | .Call (.Name x _) args [] _ => (match bltN b with
      | some p => decide (x = (p.1 : Str)) && glC sc x && args.all plain && !args.isEmpty && chkA es sc fx args
      | none => false) || (match isiN b, es, args with
      | some Tn, .cons a .nil, [y, .Name t _] => decide (x = ("isinstance" : Str)) && decide (t = (Tn : Str)) && glC sc x && glC sc t && plain y && chkE a sc fx y
      | _, _, _ => false)
    | _ => false)
  | .mut m o es, sc, fx, e => (match e with
    | .Call (.Attribute ob mn ap) args [] cp => subM m && decide (mn = (mutName m : Str)) && noSuper ob && (ap.endLine == cp.line) && args.all plain && decide (args.length < 30) && chkE o sc fx ob && chkA es sc fx args
    | _ => false)
  | .lc own a t s ifs, sc, fx, e => (match e with
    | .ListComp elt [⟨tg, iter, cs, n⟩] scope _ => decide (n = 0) && (topS sc || !topS (relS scope sc)) && noSet iter && chkS s sc fx tg iter && blkC N sc scope (own.map fun i => (N.getD i default, i)) && (t.slots.all fun i => decide (i ∈ own)) &&
        chkG N t (relS scope sc) (fun x => scope.names.lookup x == some .cell) tg && chkI ifs (relS scope sc) (fun x => scope.names.lookup x == some .cell) cs && chkE a (relS scope sc) (fun x => scope.names.lookup x == some .cell) elt
    | _ => false)
  | .gen g own a t s ifs, sc, fx, e => (match e with
    | .Call (.Name x _) [.GeneratorExp elt [⟨tg, iter, cs, n⟩] scope _] [] _ => decide (n = 0) && (match genN g with | some nm => decide (x = (nm : Str)) | none => false) && glC sc x && topS sc && gscC scope && noSetL iter && chkS s sc fx tg iter && blkC N sc scope (own.map fun i => (N.getD i default, i)) && (t.slots.all fun i => decide (i ∈ own)) &&
        chkG N t scope (fun x => scope.names.lookup x == some .cell) tg && chkI ifs scope (fun x => scope.names.lookup x == some .cell) cs && chkE a scope (fun x => scope.names.lookup x == some .cell) elt
    | _ => false)
  | _, _, _, _ => false
def chkA : Exs → Scope → (Str → Bool) → List Expr → Bool
  | .nil, sc, fx, xs => xs.isEmpty
  | .cons e es, sc, fx, xs => (match xs with
    | x :: r => plain x && chkE e sc fx x && chkA es sc fx r
    | _ => false)
def chkP : Option Ex → Scope → (Str → Bool) → Option Expr → Bool
  | none, sc, fx, x => x.isNone
  | some e, sc, fx, x => (match x with
    | some y => chkE e sc fx y
    | none => false)
/-- as a test; w: it holds as a value -/
def chkT : Ex → Scope → (Str → Bool) → Expr → Bool → Bool
  | .not a, sc, fx, e, _ => (match e with
    | .UnaryOp .Not x _ => chkT a sc fx x (chkE a sc fx x)
    | _ => false)
  | .and a b, sc, fx, e, _ => (match e with
    | .BoolOp .And [x, y] p => chkT a sc fx x (chkE a sc fx x) && chkT b sc fx y (chkE b sc fx y)
    | .BoolOp .And (x :: y :: z :: r) p => chkT a sc fx x (chkE a sc fx x) && chkT b sc fx (.BoolOp .And (y :: z :: r) p) (chkE b sc fx (.BoolOp .And (y :: z :: r) p))
    | _ => false)
  | .or a b, sc, fx, e, _ => (match e with
    | .BoolOp .Or [x, y] p => chkT a sc fx x (chkE a sc fx x) && chkT b sc fx y (chkE b sc fx y)
    | .BoolOp .Or (x :: y :: z :: r) p => chkT a sc fx x (chkE a sc fx x) && chkT b sc fx (.BoolOp .Or (y :: z :: r) p) (chkE b sc fx (.BoolOp .Or (y :: z :: r) p))
    | _ => false)
  | .cmp _ _ _, sc, fx, e, w => w
  | .chn _ _ _ _ _, sc, fx, e, w => w
  | .isN _ _, sc, fx, e, w => w
  | .isC _ _ _, sc, fx, e, w => w
  | _, sc, fx, e, w => plainT e && w
def chkI : Exs → Scope → (Str → Bool) → List Expr → Bool
  | .nil, sc, fx, xs => xs.isEmpty
  | .cons e es, sc, fx, xs => (match xs with
    | [x] => chkT e sc fx x (chkE e sc fx x) && (match es with | .nil => true | _ => false)
    | _ => false)
def chkS : Sr → Scope → (Str → Bool) → Expr → Expr → Bool
  | .seq a, sc, fx, tg, e => chkE a sc fx e
  | .rng es, sc, fx, tg, e => (match e with
    | .Call (.Name x _) args [] _ => decide (x = ("range" : Str)) && glC sc x && args.all plain && (decide (args.length = 1) || decide (args.length = 2)) && chkA es sc fx args
    | _ => false)
  | .enum a, sc, fx, tg, e => (match e with
    | .Call (.Name x _) [y] [] _ => decide (x = ("enumerate" : Str)) && glC sc x && isTup tg && plain y && chkE a sc fx y
    | _ => false)
  | .zip a b, sc, fx, tg, e => (match e with
    | .Call (.Name x _) [y, z] [] _ => decide (x = ("zip" : Str)) && glC sc x && isTup tg && plain y && plain z && chkE a sc fx y && chkE b sc fx z
    | _ => false)
  | .rev a, sc, fx, tg, e => (match e with
    | .Call (.Name x _) [y] [] _ => decide (x = ("reversed" : Str)) && glC sc x && plain y && chkE a sc fx y
    | _ => false)
end
end
/-! ### what is known of a frame -/
def blNames : List String := ["len", "int", "str", "max", "tuple", "list", "sum", "bool", "isinstance", "range", "enumerate", "zip", "reversed", "all", "any", "sorted", "dict", "set"]
structure XF (E : Ev) (T : Tab) (C : Cf) (k : Nat) (N : List Str) (sc : Scope) (fx : Str → Bool) (X : Cx) : Prop where
  esc : X.env.scope = sc
  hK : X.K = E.K
  calm : X.calm = true
  units : X.A.units + 65 < cLine
  nd : X.N.Nodup
  eN : X.N = N
  fn : X.fn = fx
  fk : sc.kind = .function
  con : ∀ p ∈ T.cons, ∃ v u, X.mg p.1 = some u ∧ RelV v u ∧ ∀ H Z, RD E.K H Z p.2 v
  blt : ∀ x ∈ blNames, X.mg (x : Str) = none
  room : Room k X.A
  fns : ∀ j, j ≤ k → ∀ p ∈ T.fns, ∃ f fd ps, X.mg p.1 = some (.ref f) ∧ PySem.W.keepIn X.K (.ref f) = true ∧ Binds X.K fd ps [] ∧ FnOk X.prog X.w X.K X.mg X.base CX0 j f fd ps (spF E (C j p.2))
  tb : topS sc = true → ∃ c P, X.env.code = .ref c ∧ GxR.TabB X.base X.mg c P ∧ P ∈ E.tabs
section
variable {E : Ev} {T : Tab} {C : Cf} {k : Nat} {N : List Str} {sc : Scope} {fx : Str → Bool} {X : Cx}
theorem XF.vis (F : XF E T C k N sc fx X) {x : Str} (h : visC sc x = true) : Vis X.env.scope x := by
  rw [F.esc]
  unfold visC at h
  split at h
  · rename_i q; exact .inl q
  · rename_i q; exact .inr (.inl q)
  · rename_i q; exact .inr (.inr q)
  · cases h
theorem XF.sto (F : XF E T C k N sc fx X) {x : Str} (h : stoC sc fx x = true) : _root_.L2.Loc X.env.scope x ∧ (X.fn x = true ∨ X.env.scope.names.lookup x = some .local) := by
  rw [F.esc, F.fn]
  unfold stoC at h
  split at h
  · rename_i q; exact ⟨.inl q, .inr q⟩
  · rename_i q; exact ⟨.inr q, .inl h⟩
  · cases h
theorem XF.gl (F : XF E T C k N sc fx X) {x : Str} (h : glC sc x = true) : Gl X x := by
  unfold glC at h
  split at h
  · rename_i q
    show X.env.scope.names.lookup x = _
    rw [F.esc]; exact q
  · cases h
theorem okN_ok {x : Str} (h : okN x = true) : (x == ("__debug__" : Str)) = false ∧ (x == ("__classdict__" : Str)) = false ∧ x ≠ ("__name__" : Str) := by
  unfold okN at h
  simp only [Bool.and_eq_true, Bool.not_eq_true', decide_eq_true_eq] at h
  exact ⟨h.1.1, h.1.2, h.2⟩
theorem XF.slot (F : XF E T C k N sc fx X) {i : Nat} {x : Str} (h : slotC N i x = true) : X.N[i]? = some x := by
  rw [F.eN]; exact of_decide_eq_true h
theorem XF.blk (F : XF E T C k N sc fx X) {scope : Scope} (ht : (topS sc || !topS (relS scope sc)) = true) (hk : scope.kind = .function) (s : Shared) (H : Hp) (Ca : Addr) (cl : List (Str × Addr)) (fp : List Addr) :
    XF E T C k N (relS scope sc) (fun x => scope.names.lookup x == some .cell) (X.blk s H scope (compEnvC scope cl Ca X.env) fp) :=
  ⟨by show relS scope X.env.scope = _; rw [F.esc], F.hK, F.calm, F.units, F.nd, F.eN, rfl, hk, F.con, F.blt, F.room, F.fns, fun h => by
    rw [Bool.or_eq_true] at ht
    rcases ht with ht | ht
    · exact F.tb ht
    · rw [h] at ht; cases ht⟩
theorem gsc_ok {scope : Scope} (h : gscC scope = true) : GScp scope ∧ topS scope = false := by
  unfold gscC at h
  simp only [Bool.and_eq_true, Bool.not_eq_true'] at h
  have h3 : scope.names.lookup (".0" : Str) = some NameKind.local := by
    have := h.2
    unfold isLocK at this
    split at this
    · rename_i q; exact q
    · cases this
  refine ⟨⟨h.1.1, fun y hy e => ?_, h3⟩, by unfold topS; rw [h3]; rfl⟩
  have := List.all_eq_true.mp h.1.2 y hy
  rw [e] at this
  cases this
theorem XF.gblk (F : XF E T C k N sc fx X) (h4 : 4 ≤ k) {scope : Scope} (hk : scope.kind = .function) (ht : topS scope = false) (A : Around) (s : Shared) (H : Hp) (Ca : Addr) (code : Value) (fp : List Addr) (ga : GA X (gEnv X scope Ca code) A) :
    XF E T C (k - 4) N scope (fun x => scope.names.lookup x == some .cell) (G.gblk X A s H scope (gEnv X scope Ca code) fp) where
  esc := rfl
  hK := F.hK
  calm := rfl
  units := by
    have h1 := ga.un
    have h2 := F.room.un
    show A.units + 65 < cLine
    omega
  nd := F.nd
  eN := F.eN
  fn := rfl
  fk := hk
  con := F.con
  blt := F.blt
  room := ⟨ga.hd, by
    have h1 := ga.dp
    have h2 := F.room.dp
    show A.depth + 3 * (k - 4) + 5 < recursionLimit
    omega, by
    have h1 := ga.un
    have h2 := F.room.un
    show A.units + 16 * (k - 4) + 200 < cLine
    omega⟩
  fns := fun j hj => F.fns j (Nat.le_trans hj (Nat.sub_le _ _))
  tb := fun h => by rw [ht] at h; cases h
theorem genF_no {e : Expr} {env : Env} (h : noSetL e = true) : ∀ x, PySem.genFold e env x = pure x := by
  intro x
  cases e <;> first | rfl | cases h
theorem genN_in {g : GK} {nm : String} (h : genN g = some nm) : nm ∈ blNames := by
  cases g <;> cases h <;> decide
theorem loudE {e : Expr} {q : Bool} {f : Loc → Res (Opd × Loc)} (h : PE X e (rdE E q f)) : PE X e (rdE E false f) := h.weak fun σ H Q ⟨c, Z, L, o, c', sr, ev, ok⟩ => ⟨c, Z, L, o, c', sr, ev, fun v H' Z' L' Lr a t r => ok v H' Z' L' Lr a.loud t r⟩
theorem eqE {e : Expr} {q q' : Bool} {f g : Loc → Res (Opd × Loc)} (h : PE X e (rdE E q f)) (eq : q = q') (ef : f = g) : PE X e (rdE E q' g) := by rw [← eq, ← ef]; exact h
theorem eqT {e : Expr} {q q' : Bool} {f g : Loc → Res (Bool × Loc)} (h : PT X e (rdT E q f)) (eq : q = q') (ef : f = g) : PT X e (rdT E q' g) := by rw [← eq, ← ef]; exact h
end
end G
namespace G
open PySem L2
section
variable {E : Ev} {T : Tab} {C : Cf} {P : Prg} {k : Nat} {N : List Str}
theorem PT.pw {X : Cx} {op : BoolOp} {vs : List Expr} {p : Pos} {t : TT} (h : PT X (.BoolOp op vs p) t) : PW X (.BoolOp op vs p) t := ⟨fun wh pins s σ H Q I hw => h.run pins s σ H Q I hw⟩
theorem all_nd {N : List Str} {own : List Nat} : (own.map fun i => (N.getD i default, i)).map (·.2) = own := by
  rw [List.map_map]
  exact List.map_id'' (fun _ => rfl) own
theorem bltN_in {b : Blt} {p : String × Bool} (h : bltN b = some p) : p.1 ∈ blNames ∧ bootBuiltins p.1 = some (bltV p) ∧ (p.1 : Str) ≠ "__name__" ∧ ((p.1 : Str) == ("__debug__" : Str)) = false := by
  cases b <;> cases h <;> exact ⟨by decide, by rfl, by decide, by decide⟩
theorem isiN_in {b : Blt} {t : String} (h : isiN b = some t) : t ∈ blNames ∧ bootBuiltins t = some (.type t) ∧ (t : Str) ≠ "__name__" ∧ ((t : Str) == ("__debug__" : Str)) = false := by
  cases b <;> cases h <;> exact ⟨by decide, by rfl, by decide, by decide⟩
theorem few_ok {es : List Expr} {env : Env} {cpos : Pos} (h : es.all plain = true) (hl : es.length < 30) : ((backTo cpos (starEach es env)).all (fun x => !x.1) && (backToKw cpos (keywordEach [] env)).all (fun x => x.1.isSome)
      && decide (es.length + ([] : List Keyword).length + (if ([] : List Keyword).isEmpty then 0 else 1) < 30)) = true := by
  have h1 : (backTo cpos (starEach es env)).all (fun x => !x.1) = true := by
    rw [List.all_eq_true]
    intro p hp
    have := (List.any_eq_false.mp (back_plain (pos := cpos) (env := env) h)) p hp
    simpa using this
  rw [h1]
  have h2 : (backToKw cpos (keywordEach [] env)).all (fun x => x.1.isSome) = true := rfl
  rw [h2]
  simpa using hl
theorem eqG {X : Cx} {e : Expr} {as bs : List Nat} {f g : D → Loc → Res Loc} (h : PG X e (rdG E as f)) (ea : as = bs) (ef : f = g) : PG X e (rdG E bs g) := by rw [← ea, ← ef]; exact h
theorem eqGs {X : Cx} {e : List Expr} {as bs : List Nat} {f g : List D → Loc → Res Loc} (h : PGs X e (rdGs E as f)) (ea : as = bs) (ef : f = g) : PGs X e (rdGs E bs g) := by rw [← ea, ← ef]; exact h
mutual
theorem sndG : ∀ (t : Tg) (sc : Scope) (fx : Str → Bool) (e : Expr) (X : Cx), XF E T C k N sc fx X → chkG N t sc fx e = true → PG X e (rdG E t.slots (asgT t))
  | .nm i, sc, fx, e, X, F, h => by
    unfold chkG at h
    split at h
    · rename_i x p
      rw [Bool.and_eq_true] at h
      obtain ⟨h1, h2⟩ := F.sto h.2
      have := g_nm (E := E) (pos := p) F.nd (F.slot h.1) h1 h2
      exact eqG this (by simp only [Tg.slots]) (by funext d c; rw [asgT])
    · cases h
  | .tp ts, sc, fx, e, X, F, h => by
    unfold chkG at h
    split at h
    · rename_i es kk p
      obtain ⟨h1, h2, h3⟩ := sndGs ts sc fx es X F h
      have := g_tp (k := kk) (pos := p) (n := es.length) F.hK F.calm h1 (fun ds c c' ev => by
        have : ∀ (ts : List Tg) (ds : List D) (c c' : Loc), asgTs ts ds c = .ok c' → ds.length = ts.length := by
          intro ts
          induction ts with
          | nil =>
            intro ds c c' ev
            cases ds with
            | nil => rfl
            | cons d ds => cases ev
          | cons t ts ih =>
            intro ds c c' ev
            cases ds with
            | nil => cases ev
            | cons d ds =>
              unfold asgTs at ev
              obtain ⟨c1, _, ev⟩ := Res.bind_ok ev
              simp [ih _ _ _ ev]
        rw [this _ _ _ _ ev]; exact h2) (by
        have : ∀ es : List Expr, (assignEach es X.env).length = es.length := by
          intro es
          induction es with
          | nil => rfl
          | cons e es ih => cases e <;> simp [assignEach, ih]
        exact this es) h3
      exact eqG this (by simp only [Tg.slots]) (by funext d c; cases d <;> simp only [asgT])
    · cases h
theorem sndGs : ∀ (ts : List Tg) (sc : Scope) (fx : Str → Bool) (es : List Expr) (X : Cx), XF E T C k N sc fx X → chkGs N ts sc fx es = true → PGs X es (rdGs E (Tg.slotsL ts) (asgTs ts)) ∧ ts.length = es.length ∧ (assignEach es X.env).findIdx? (·.1) = none
  | [], sc, fx, es, X, F, h => by
    unfold chkGs at h
    have : es = [] := by simpa using h
    subst this
    exact ⟨eqGs gs_nil (by simp only [Tg.slotsL]) (by funext ds c; cases ds <;> simp only [asgTs]), rfl, rfl⟩
  | t :: ts, sc, fx, es, X, F, h => by
    unfold chkGs at h
    split at h
    · rename_i e r
      rw [Bool.and_eq_true, Bool.and_eq_true] at h
      obtain ⟨h1, h2, h3⟩ := sndGs ts sc fx r X F h.2
      have hs : assignEach (e :: r) X.env = (false, assign e X.env) :: assignEach r X.env := by
        have hp := h.1.1
        cases e <;> first | rfl | cases hp
      have := gs_cons (sndG t sc fx e X F h.1.2) h1 (by rw [hs]; rfl)
      refine ⟨eqGs this (by simp only [Tg.slotsL]) (by funext ds c; cases ds <;> simp only [asgTs]), by simp [h2], ?_⟩
      rw [hs, List.findIdx?_cons]
      simp [h3]
    · cases h
end
end
end G
set_option maxHeartbeats 4000000
namespace G
open PySem L2
section
variable {E : Ev} {T : Tab} {C : Cf} {P : Prg} {N : List Str}
theorem eqA {X : Cx} {es : List Expr} {q q' : Bool} {f g : Loc → Res (List Opd × Loc)} (h : PA X es (rdAs E q f)) (eq : q = q') (ef : f = g) : PA X es (rdAs E q' g) := by rw [← eq, ← ef]; exact h
theorem eqI {X : Cx} {tg e : Expr} {q q' : Bool} {f g : Loc → Res (Wk × Loc)} (h : PI X tg e (rdI E q f)) (eq : q = q') (ef : f = g) : PI X tg e (rdI E q' g) := by rw [← eq, ← ef]; exact h
theorem eqP {X : Cx} {e : Option Expr} {q q' : Bool} {f g : Loc → Res (Option Int × Loc)} (h : PO X e (rdP E q f)) (eq : q = q') (ef : f = g) : PO X e (rdP E q' g) := by rw [← eq, ← ef]; exact h
theorem evOs_len {k : Nat} : ∀ (es : Exs) (c : Loc) (os : List Opd) (c' : Loc) (xs : List Expr) (sc : Scope) (fx : Str → Bool), chkA T N es sc fx xs = true → evOs P C k es c = .ok (os, c') → os.length = xs.length
  | .nil, c, os, c', xs, sc, fx, h, ev => by
    unfold chkA at h
    have : xs = [] := by simpa using h
    subst this
    rw [evOs] at ev
    cases ev
    rfl
  | .cons e es, c, os, c', xs, sc, fx, h, ev => by
    unfold chkA at h
    split at h
    · rename_i x r
      rw [Bool.and_eq_true] at h
      rw [evOs] at ev
      obtain ⟨⟨o, c1⟩, _, ev⟩ := Res.bind_ok ev
      obtain ⟨_, _, ev⟩ := Res.bind_ok ev
      obtain ⟨⟨os', c2⟩, e2, ev⟩ := Res.bind_ok ev
      cases ev
      simp [evOs_len es _ _ _ _ _ _ h.2 e2]
    · cases h
theorem subM_ok {m : Mut} (h : subM m = true) : m = .append ∨ m = .extend ∨ m = .pop := by
  cases m
  · exact .inl rfl
  · exact .inr (.inl rfl)
  · exact .inr (.inr rfl)
  · cases h
  · cases h
theorem isTup_ok {e : Expr} (h : isTup e = true) : ∃ es k p, e = .Tuple es k p := by
  cases e <;> first | exact ⟨_, _, _, rfl⟩ | cases h
mutual
theorem sndE : ∀ {k : Nat} (ir : Ex) (sc : Scope) (fx : Str → Bool) (e : Expr) (X : Cx), XF E T C k N sc fx X → chkE T N ir sc fx e = true → PE X e (rdE E ir.quiet (evO P C k ir))
  | k, .loc i, sc, fx, e, X, F, h => by
    unfold chkE at h
    split at h
    · rename_i x p
      rw [Bool.and_eq_true, Bool.and_eq_true] at h
      obtain ⟨k1, k2, _⟩ := okN_ok h.2
      exact eqE (s_loc F.hK (pe_var (F.slot h.1.1) (F.vis h.1.2) k1 k2)) (by simp only [Ex.quiet]) (by funext c; rw [evO] <;> rfl)
    · cases h
  | k, .gcon y d, sc, fx, e, X, F, h => by
    unfold chkE at h
    split at h
    · rename_i x p
      rw [Bool.and_eq_true, Bool.and_eq_true] at h
      obtain ⟨k1, k2, _⟩ := okN_ok h.1.2
      obtain ⟨pr, hp, hq⟩ := List.any_eq_true.mp h.2
      rw [Bool.and_eq_true] at hq
      obtain ⟨v, u, m1, m2, m3⟩ := F.con pr hp
      have e1 := of_decide_eq_true hq.1
      have e2 := D.beq_eq hq.2
      subst e1 e2
      exact eqE (s_const F.hK (pe_glob (F.gl h.1.1) m1 m2 k1) m3) (by simp only [Ex.quiet]) (by funext c; rw [evO] <;> rfl)
    · cases h
  | k, .cst d, sc, fx, e, X, F, h => by
    unfold chkE at h
    split at h
    · rename_i v j p
      have fin : ∀ {w : V}, PE X (.Constant v j p) (tC w) → (∀ H Z, RD E.K H Z d w) → PE X (.Constant v j p) (rdE E (Ex.cst d).quiet (evO P C k (.cst d))) := fun h1 h2 => eqE (s_const F.hK h1 h2) (by simp only [Ex.quiet]) (by funext c; rw [evO] <;> rfl)
      unfold conC at h
      split at h
      · exact fin pe_non fun H Z => by unfold RD; rfl
      · have := eq_of_beq h
        subst this
        exact fin pe_bl fun H Z => by unfold RD; rfl
      · have := of_decide_eq_true h
        subst this
        exact fin pe_int fun H Z => by unfold RD; rfl
      · have := of_decide_eq_true h
        subst this
        exact fin pe_str fun H Z => by unfold RD; rfl
      · cases h
    · cases h
  | k, .tup es, sc, fx, e, X, F, h => by
    unfold chkE at h
    split at h
    · exact eqE (s_tup (sndA es sc fx _ X F h)) (by simp only [Ex.quiet]) (by funext c; rw [evO] <;> rfl)
    · cases h
  | k, .lst es, sc, fx, e, X, F, h => by
    unfold chkE at h
    split at h
    · exact eqE (s_lst (sndA es sc fx _ X F h)) (by simp only [Ex.quiet]) (by funext c; rw [evO] <;> rfl)
    · cases h
  | k, .dic, sc, fx, e, X, F, h => by simp [chkE] at h
  | k, .bin o a b, sc, fx, e, X, F, h => by
    unfold chkE at h
    split at h
    · rw [Bool.and_eq_true, Bool.and_eq_true] at h
      have := opC_eq h.1.1
      subst this
      exact eqE (s_bin F.hK (sndE a sc fx _ X F h.1.2) (sndE b sc fx _ X F h.2)) (by simp only [Ex.quiet]) (by funext c; rw [evO] <;> rfl)
    · cases h
  | k, .neg a, sc, fx, e, X, F, h => by
    unfold chkE at h
    split at h
    · exact eqE (s_neg (sndE a sc fx _ X F h)) (by simp only [Ex.quiet]) (by funext c; rw [evO] <;> rfl)
    · cases h
  | k, .not a, sc, fx, e, X, F, h => by
    unfold chkE at h
    split at h
    · exact eqE (s_not F.hK (sndE a sc fx _ X F h)) (by simp only [Ex.quiet]) (by funext c; rw [evO] <;> rfl)
    · cases h
  | k, .and a b, sc, fx, e, X, F, h => by
    unfold chkE at h
    split at h
    · rw [Bool.and_eq_true] at h
      exact eqE (s_and (sndE a sc fx _ X F h.1) (pe_one (sndE b sc fx _ X F h.2))) (by simp only [Ex.quiet]) (by funext c; rw [evO] <;> rfl)
    · rw [Bool.and_eq_true] at h
      exact eqE (s_and (sndE a sc fx _ X F h.1) (sndE b sc fx _ X F h.2)) (by simp only [Ex.quiet]) (by funext c; rw [evO] <;> rfl)
    · cases h
  | k, .or a b, sc, fx, e, X, F, h => by
    unfold chkE at h
    split at h
    · rw [Bool.and_eq_true] at h
      exact eqE (s_or (sndE a sc fx _ X F h.1) (pe_one (sndE b sc fx _ X F h.2))) (by simp only [Ex.quiet]) (by funext c; rw [evO] <;> rfl)
    · rw [Bool.and_eq_true] at h
      exact eqE (s_or (sndE a sc fx _ X F h.1) (sndE b sc fx _ X F h.2)) (by simp only [Ex.quiet]) (by funext c; rw [evO] <;> rfl)
    · cases h
  | k, .ite q a b, sc, fx, e, X, F, h => by
    unfold chkE at h
    split at h
    · rw [Bool.and_eq_true, Bool.and_eq_true] at h
      exact eqE (s_ite (sndT q sc fx _ _ X F h.1.1 fun w => ⟨w, sndE q sc fx _ X F w⟩) (sndE a sc fx _ X F h.1.2) (sndE b sc fx _ X F h.2)) (by simp only [Ex.quiet]) (by funext c; rw [evO] <;> rfl)
    · cases h
  | k, .cmp o a b, sc, fx, e, X, F, h => by
    unfold chkE at h
    split at h
    · simp only [Bool.and_eq_true, Bool.not_eq_true'] at h
      have := copC_eq h.1.1.1
      subst this
      exact eqE (s_cmp F.hK F.units h.1.1.2 (sndE a sc fx _ X F h.1.2) (sndE b sc fx _ X F h.2)) (by simp only [Ex.quiet]) (by funext c; rw [evO] <;> rfl)
    · cases h
  | k, .chn o o' a b c', sc, fx, e, X, F, h => by
    unfold chkE at h
    split at h
    · simp only [Bool.and_eq_true, Bool.not_eq_true'] at h
      have e1 := copC_eq h.1.1.1.1.1
      have e2 := copC_eq h.1.1.1.1.2
      subst e1 e2
      exact eqE (s_chn F.hK F.units h.1.1.1.2 (sndE a sc fx _ X F h.1.1.2) (sndE b sc fx _ X F h.1.2) (sndE c' sc fx _ X F h.2)) (by simp only [Ex.quiet]) (by funext c; rw [evO] <;> rfl)
    · cases h
  | k, .isN n a, sc, fx, e, X, F, h => by
    unfold chkE at h
    split at h
    · rw [Bool.and_eq_true] at h
      have := isC_eq h.1
      subst this
      exact eqE (s_isN (sndE a sc fx _ X F h.2)) (by simp only [Ex.quiet]) (by funext c; rw [evO] <;> rfl)
    · cases h
  | k, .isC n b a, sc, fx, e, X, F, h => by
    unfold chkE at h
    split at h
    · simp only [Bool.and_eq_true] at h
      have := isC_eq h.1.1
      subst this
      have := eq_of_beq h.1.2
      subst this
      exact eqE (s_isC (sndE a sc fx _ X F h.2)) (by simp only [Ex.quiet]) (by funext c; rw [evO] <;> rfl)
    · cases h
  | k, .call f es, sc, fx, e, X, F, h => by
    unfold chkE at h
    split at h
    · rename_i x p args pos
      simp only [Bool.and_eq_true] at h
      obtain ⟨k1, k2, _⟩ := okN_ok h.1.1.1.2
      obtain ⟨pr, hp, hq⟩ := List.any_eq_true.mp h.1.1.2
      rw [Bool.and_eq_true] at hq
      have e1 := of_decide_eq_true hq.1
      have e2 := of_decide_eq_true hq.2
      subst e1 e2
      obtain ⟨fa, fd, ps, m1, m2, m3, m4⟩ := F.fns k (Nat.le_refl _) pr hp
      have ha := sndA es sc fx _ X F h.2
      cases args with
      | nil =>
        have he : es = .nil := by
          cases es with
          | nil => rfl
          | cons _ _ => simp [chkA] at h
        subst he
        exact eqE (s_call0 m4 F.room (F.gl h.1.1.1.1) m1 m2 m3 k1) (by simp only [Ex.quiet]) (by funext c; rw [evO]; unfold callF; rw [evOs])
      | cons y r =>
        have hpl := h.1.2
        rw [List.all_cons, Bool.and_eq_true] at hpl
        exact eqE (s_call m4 F.room (F.gl h.1.1.1.1) m1 m2 m3 ha k1 (star_plain hpl.1) (back_plain hpl.2)) (by simp only [Ex.quiet]) (by funext c; rw [evO] <;> rfl)
    · cases h
  | k, .mk _ _, sc, fx, e, X, F, h => by simp [chkE] at h
  | k, .meth _ _ _, sc, fx, e, X, F, h => by simp [chkE] at h
  | k, .fld _ _, sc, fx, e, X, F, h => by simp [chkE] at h
  | k, .mrd _ _ _, sc, fx, e, X, F, h => by simp [chkE] at h
  | k, .gen g own a t s ifs, sc, fx, e, X, F, h => by
    unfold chkE at h
    split at h
    · rename_i x p elt tg iter cs n scope gp pos
      simp only [Bool.and_eq_true] at h
      obtain ⟨⟨⟨⟨⟨⟨⟨⟨⟨⟨⟨h0, hx⟩, hgl⟩, htop⟩, hgs⟩, h1⟩, h2⟩, h3⟩, h4⟩, h5⟩, h6⟩, h7⟩ := h
      have := of_decide_eq_true h0
      subst this
      have ok := blkOk_by h3
      obtain ⟨gS, gt⟩ := gsc_ok hgs
      obtain ⟨cd, Pt, hcode, TB, hPt⟩ := F.tb htop
      by_cases hk : 4 ≤ k
      · have FB := fun A s H Ca code fp ga => F.gblk hk ok.kind gt A s H Ca code fp ga
        obtain ⟨qs, hsrc⟩ := sndS s sc fx tg iter X F h2
        have hsl : ∀ i ∈ t.slots, i ∈ (own.map fun i => (N.getD i default, i)).map (·.2) := by
          rw [all_nd]
          intro i hi
          exact of_decide_eq_true (List.all_eq_true.mp h4 i hi)
        have GP : GPre X cd Pt (own.map fun i => (N.getD i default, i)) _ _ _ _ elt tg iter cs scope := ⟨F.calm, by have := F.room.dp; omega, TB, hcode, by rw [F.esc, F.eN]; exact ok, gS, F.nd, hsrc, fun A s H Ca code fp ga => sndG t _ _ tg _ (FB A s H Ca code fp ga) h5, fun A s H Ca code fp ga => sndI ifs _ _ cs _ (FB A s H Ca code fp ga) h6, fun A s H Ca code fp ga => sndE a _ _ elt _ (FB A s H Ca code fp ga) h7, genF_no h1⟩
        have hk' : gd (decide (4 ≤ k)) = .ok () := by rw [decide_eq_true hk]; rfl
        split at hx
        · rename_i nm hnm
          have := of_decide_eq_true hx
          subst this
          have hbl := F.blt _ (genN_in hnm)
          have hG := F.gl hgl
          cases g with
          | tup =>
            cases hnm
            have := (pe_genT (p := p) (pos := pos) (gpos := gp) GP hG hbl).weak fun σ H Q h => genT_rd hPt hsl (asgT_len t) h
            rw [all_nd] at this
            exact eqE this (by simp only [Ex.quiet]) (by funext c; rw [evO, hk']; rfl)
          | all =>
            cases hnm
            have := (pe_genAll (p := p) (pos := pos) (gpos := gp) GP hG hbl).weak fun σ H Q h => genB_rd (st := false) hPt hsl (asgT_len t) h
            rw [all_nd] at this
            exact eqE this (by simp only [Ex.quiet]) (by funext c; rw [evO, hk']; rfl)
          | any =>
            cases hnm
            have := (pe_genAny (p := p) (pos := pos) (gpos := gp) GP hG hbl).weak fun σ H Q h => genB_rd (st := true) hPt hsl (asgT_len t) h
            rw [all_nd] at this
            exact eqE this (by simp only [Ex.quiet]) (by funext c; rw [evO, hk']; rfl)
          | max =>
            cases hnm
            have := (pe_genMax (p := p) (pos := pos) (gpos := gp) GP hG hbl).weak fun σ H Q h => genM_rd hPt hsl (asgT_len t) h
            rw [all_nd] at this
            exact eqE this (by simp only [Ex.quiet]) (by funext c; rw [evO, hk']; rfl)
          | sum => cases hnm
          | sorted => cases hnm
          | lst => cases hnm
        · cases hx
      · refine ⟨fun pins s σ H Q I ⟨c, Z, L, o, c', sr, ev, ok⟩ => ?_⟩
        rw [evO, decide_eq_false hk] at ev
        cases ev
    · cases h
  | k, .never, sc, fx, e, X, F, h => by simp [chkE] at h
  | k, .ix a b, sc, fx, e, X, F, h => by
    unfold chkE at h
    split at h
    · rw [Bool.and_eq_true, Bool.and_eq_true] at h
      exact eqE (s_ix F.hK (ix_plain h.1.1) (sndE a sc fx _ X F h.1.2) (sndE b sc fx _ X F h.2)) (by simp only [Ex.quiet]) (by funext c; rw [evO] <;> rfl)
    · cases h
  | k, .sl a lo hi, sc, fx, e, X, F, h => by
    unfold chkE at h
    split at h
    · rw [Bool.and_eq_true, Bool.and_eq_true] at h
      obtain ⟨q1, p1⟩ := sndP lo sc fx _ X F h.1.2
      obtain ⟨q2, p2⟩ := sndP hi sc fx _ X F h.2
      exact eqE (s_sl F.hK (sndE a sc fx _ X F h.1.1) p1 p2) (by simp only [Ex.quiet]) (by funext c; rw [evO] <;> rfl)
    · cases h
  | k, .rsl a, sc, fx, e, X, F, h => by
    unfold chkE at h
    split at h
    · rw [Bool.and_eq_true] at h
      have := of_decide_eq_true h.1
      subst this
      exact eqE (loudE (s_rsl F.hK (sndE a sc fx _ X F h.2))) (by simp only [Ex.quiet]) (by funext c; rw [evO] <;> rfl)
    · cases h
  | k, .blt b es, sc, fx, e, X, F, h => by
    unfold chkE at h
    split at h
    · rename_i x p args pos
      rw [Bool.or_eq_true] at h
      rcases h with h | h
      · split at h
        · rename_i pr hb
          simp only [Bool.and_eq_true] at h
          have e1 := of_decide_eq_true h.1.1.1.1
          subst e1
          obtain ⟨k1, k2, k3, k4⟩ := bltN_in hb
          cases args with
          | nil => simp at h
          | cons y r =>
            have hpl := h.1.1.2
            rw [List.all_cons, Bool.and_eq_true] at hpl
            exact eqE (s_blt F.hK F.calm hb (F.gl h.1.1.1.2) (F.blt _ k1) k2 k3 k4 (sndA es sc fx _ X F h.2) (star_plain hpl.1) (back_plain hpl.2)) (by simp only [Ex.quiet]) (by funext c; rw [evO] <;> rfl)
        · cases h
      · split at h
        · rename_i Tn a y t p2 hb
          simp only [Bool.and_eq_true] at h
          have e1 := of_decide_eq_true h.1.1.1.1.1
          have e2 := of_decide_eq_true h.1.1.1.1.2
          subst e1 e2
          obtain ⟨k1, k2, k3, k4⟩ := isiN_in hb
          exact eqE (s_isi F.hK hb (F.gl h.1.1.1.2) (F.blt _ (by decide)) (F.gl h.1.1.2) (F.blt _ k1) k2 k3 k4 (sndE a sc fx _ X F h.2) (star_plain h.1.2)) (by simp only [Ex.quiet, Exs.quiet, Bool.and_true]) (by funext c; rw [evO, evOs]; rfl)
        · cases h
    · cases h
  | k, .mut m o es, sc, fx, e, X, F, h => by
    unfold chkE at h
    split at h
    · rename_i ob mn ap args cp
      simp only [Bool.and_eq_true] at h
      have e1 := of_decide_eq_true h.1.1.1.1.1.1.2
      subst e1
      have hm := subM_ok h.1.1.1.1.1.1.1
      have ha := sndA es sc fx _ X F h.2
      cases args with
      | nil =>
        have he : es = .nil := by
          cases es with
          | nil => rfl
          | cons _ _ => simp [chkA] at h
        subst he
        exact eqE (s_mut0 F.hK hm (sndE o sc fx _ X F h.1.2) (super_no h.1.1.1.1.1.2) h.1.1.1.1.2) (by simp only [Ex.quiet]) (by funext c; rw [evO] <;> rfl)
      | cons y r =>
        have hpl := h.1.1.1.2
        have hpl' := hpl
        rw [List.all_cons, Bool.and_eq_true] at hpl
        exact eqE (s_mut F.hK hm (sndE o sc fx _ X F h.1.2) ha (super_no h.1.1.1.1.1.2) h.1.1.1.1.2 (few_ok hpl' (of_decide_eq_true h.1.1.2)) (star_plain hpl.1) (back_plain hpl.2)) (by simp only [Ex.quiet]) (by funext c; rw [evO] <;> rfl)
    · cases h
  | k, .lc own a t s ifs, sc, fx, e, X, F, h => by
    unfold chkE at h
    split at h
    · rename_i elt tg iter cs n scope p
      simp only [Bool.and_eq_true] at h
      obtain ⟨⟨⟨⟨⟨⟨⟨⟨h0, ht⟩, h1⟩, h2⟩, h3⟩, h4⟩, h5⟩, h6⟩, h7⟩ := h
      have := of_decide_eq_true h0
      subst this
      have ok := blkOk_by h3
      have FB := fun s H Ca cl fp => F.blk ht ok.kind s H Ca cl fp
      obtain ⟨qs, hsrc⟩ := sndS s sc fx tg iter X F h2
      have := s_lc (E := E) (as := t.slots) (pos := p) (own := own.map fun i => (N.getD i default, i)) F.calm F.nd hsrc (by rw [F.esc, F.eN]; exact ok) (by
        rw [all_nd]
        intro i hi
        exact of_decide_eq_true (List.all_eq_true.mp h4 i hi)) (asgT_len t) (fun s H Ca cl fp => sndG t _ _ tg _ (FB s H Ca cl fp) h5) (fun s H Ca cl fp => sndI ifs _ _ cs _ (FB s H Ca cl fp) h6) (fun s H Ca cl fp => sndE a _ _ elt _ (FB s H Ca cl fp) h7) (set_no h1)
      rw [all_nd] at this
      exact eqE this (by simp only [Ex.quiet]) (by funext c; rw [evO] <;> rfl)
    · cases h
theorem sndA : ∀ {k : Nat} (es : Exs) (sc : Scope) (fx : Str → Bool) (xs : List Expr) (X : Cx), XF E T C k N sc fx X → chkA T N es sc fx xs = true → PA X xs (rdAs E es.quiet (evOs P C k es))
  | k, .nil, sc, fx, xs, X, F, h => by
    unfold chkA at h
    have : xs = [] := by simpa using h
    subst this
    exact eqA a_nil (by simp only [Exs.quiet]) (by funext c; rw [evOs])
  | k, .cons e es, sc, fx, xs, X, F, h => by
    unfold chkA at h
    split at h
    · rename_i x r
      rw [Bool.and_eq_true, Bool.and_eq_true] at h
      exact eqA (a_cons (star_plain h.1.1) (sndE e sc fx x X F h.1.2) (sndA es sc fx r X F h.2)) (by simp only [Exs.quiet]) (by funext c; rw [evOs])
    · cases h
theorem sndP : ∀ {k : Nat} (o : Option Ex) (sc : Scope) (fx : Str → Bool) (x : Option Expr) (X : Cx), XF E T C k N sc fx X → chkP T N o sc fx x = true → ∃ q, PO X x (rdP E q (evPt P C k o))
  | k, none, sc, fx, x, X, F, h => by
    unfold chkP at h
    have : x = none := by simpa using h
    subst this
    exact ⟨true, eqP p_none rfl (by funext c; rw [evPt] <;> rfl)⟩
  | k, some e, sc, fx, x, X, F, h => by
    unfold chkP at h
    split at h
    · rename_i y
      exact ⟨_, eqP (p_some (sndE e sc fx y X F h)) rfl (by funext c; rw [evPt] <;> rfl)⟩
    · cases h
theorem sndT : ∀ {k : Nat} (ir : Ex) (sc : Scope) (fx : Str → Bool) (e : Expr) (w : Bool) (X : Cx), XF E T C k N sc fx X → chkT T N ir sc fx e w = true → (w = true → chkE T N ir sc fx e = true ∧ PE X e (rdE E ir.quiet (evO P C k ir))) → PT X e (rdT E ir.quiet fun c => evT P C k ir c (evO P C k ir c))
  | k, .not a, sc, fx, e, w, X, F, h, hw => by
    unfold chkT at h
    split at h
    · exact eqT (t_not (sndT a sc fx _ _ X F h fun w => ⟨w, sndE a sc fx _ X F w⟩)) (by simp only [Ex.quiet]) (by funext c; rw [evT])
    · cases h
  | k, .and a b, sc, fx, e, w, X, F, h, hw => by
    unfold chkT at h
    split at h
    · rw [Bool.and_eq_true] at h
      exact eqT (w_and (sndT a sc fx _ _ X F h.1 fun w => ⟨w, sndE a sc fx _ X F w⟩) (pw_and1 (sndT b sc fx _ _ X F h.2 fun w => ⟨w, sndE b sc fx _ X F w⟩))).pt (by simp only [Ex.quiet]) (by funext c; rw [evT])
    · rw [Bool.and_eq_true] at h
      exact eqT (w_and (sndT a sc fx _ _ X F h.1 fun w => ⟨w, sndE a sc fx _ X F w⟩) (PT.pw (sndT b sc fx _ _ X F h.2 fun w => ⟨w, sndE b sc fx _ X F w⟩))).pt (by simp only [Ex.quiet]) (by funext c; rw [evT])
    · cases h
  | k, .or a b, sc, fx, e, w, X, F, h, hw => by
    unfold chkT at h
    split at h
    · rw [Bool.and_eq_true] at h
      exact eqT (w_or (sndT a sc fx _ _ X F h.1 fun w => ⟨w, sndE a sc fx _ X F w⟩) (pw_or1 (sndT b sc fx _ _ X F h.2 fun w => ⟨w, sndE b sc fx _ X F w⟩))).pt (by simp only [Ex.quiet]) (by funext c; rw [evT])
    · rw [Bool.and_eq_true] at h
      exact eqT (w_or (sndT a sc fx _ _ X F h.1 fun w => ⟨w, sndE a sc fx _ X F w⟩) (PT.pw (sndT b sc fx _ _ X F h.2 fun w => ⟨w, sndE b sc fx _ X F w⟩))).pt (by simp only [Ex.quiet]) (by funext c; rw [evT])
    · cases h
  | k, .cmp o a b, sc, fx, e, w, X, F, h, hw => by
    have h := (hw h).1
    unfold chkE at h
    split at h
    · simp only [Bool.and_eq_true, Bool.not_eq_true'] at h
      have := copC_eq h.1.1.1
      subst this
      exact eqT (t_cmp F.hK F.units h.1.1.2 (sndE a sc fx _ X F h.1.2) (sndE b sc fx _ X F h.2)) (by simp only [Ex.quiet]) (by funext c; rfl)
    · cases h
  | k, .chn o o' a b c', sc, fx, e, w, X, F, h, hw => by
    have h := (hw h).1
    unfold chkE at h
    split at h
    · simp only [Bool.and_eq_true, Bool.not_eq_true'] at h
      have e1 := copC_eq h.1.1.1.1.1
      have e2 := copC_eq h.1.1.1.1.2
      subst e1 e2
      exact eqT (t_chn F.hK F.units h.1.1.1.2 (sndE a sc fx _ X F h.1.1.2) (sndE b sc fx _ X F h.1.2) (sndE c' sc fx _ X F h.2)) (by simp only [Ex.quiet]) (by funext c; rfl)
    · cases h
  | k, .isN n a, sc, fx, e, w, X, F, h, hw => by
    have h := (hw h).1
    unfold chkE at h
    split at h
    · rw [Bool.and_eq_true] at h
      have := isC_eq h.1
      subst this
      exact eqT (t_isN (sndE a sc fx _ X F h.2)) (by simp only [Ex.quiet]) (by funext c; rfl)
    · cases h
  | k, .isC n b a, sc, fx, e, w, X, F, h, hw => by
    have h := (hw h).1
    unfold chkE at h
    split at h
    · simp only [Bool.and_eq_true] at h
      have := isC_eq h.1.1
      subst this
      have := eq_of_beq h.1.2
      subst this
      exact eqT (t_isC (sndE a sc fx _ X F h.2)) (by simp only [Ex.quiet]) (by funext c; rfl)
    · cases h
  | k, .loc i, sc, fx, e, w, X, F, h, hw => by
    have h : (plainT e && w) = true := h
    rw [Bool.and_eq_true] at h
    exact eqT (t_val F.hK (true_plain h.1) (hw h.2).2) rfl (by funext c; rfl)
  | k, .gcon y d, sc, fx, e, w, X, F, h, hw => by
    have h : (plainT e && w) = true := h
    rw [Bool.and_eq_true] at h
    exact eqT (t_val F.hK (true_plain h.1) (hw h.2).2) rfl (by funext c; rfl)
  | k, .cst d, sc, fx, e, w, X, F, h, hw => by
    have h : (plainT e && w) = true := h
    rw [Bool.and_eq_true] at h
    exact eqT (t_val F.hK (true_plain h.1) (hw h.2).2) rfl (by funext c; rfl)
  | k, .tup es, sc, fx, e, w, X, F, h, hw => by
    have h : (plainT e && w) = true := h
    rw [Bool.and_eq_true] at h
    exact eqT (t_val F.hK (true_plain h.1) (hw h.2).2) rfl (by funext c; rfl)
  | k, .lst es, sc, fx, e, w, X, F, h, hw => by
    have h : (plainT e && w) = true := h
    rw [Bool.and_eq_true] at h
    exact eqT (t_val F.hK (true_plain h.1) (hw h.2).2) rfl (by funext c; rfl)
  | k, .dic, sc, fx, e, w, X, F, h, hw => by
    have h : (plainT e && w) = true := h
    rw [Bool.and_eq_true] at h
    exact eqT (t_val F.hK (true_plain h.1) (hw h.2).2) rfl (by funext c; rfl)
  | k, .bin o a b, sc, fx, e, w, X, F, h, hw => by
    have h : (plainT e && w) = true := h
    rw [Bool.and_eq_true] at h
    exact eqT (t_val F.hK (true_plain h.1) (hw h.2).2) rfl (by funext c; rfl)
  | k, .neg a, sc, fx, e, w, X, F, h, hw => by
    have h : (plainT e && w) = true := h
    rw [Bool.and_eq_true] at h
    exact eqT (t_val F.hK (true_plain h.1) (hw h.2).2) rfl (by funext c; rfl)
  | k, .ite q a b, sc, fx, e, w, X, F, h, hw => by
    have h : (plainT e && w) = true := h
    rw [Bool.and_eq_true] at h
    exact eqT (t_val F.hK (true_plain h.1) (hw h.2).2) rfl (by funext c; rfl)
  | k, .call f es, sc, fx, e, w, X, F, h, hw => by
    have h : (plainT e && w) = true := h
    rw [Bool.and_eq_true] at h
    exact eqT (t_val F.hK (true_plain h.1) (hw h.2).2) rfl (by funext c; rfl)
  | k, .mk cl es, sc, fx, e, w, X, F, h, hw => by
    have h : (plainT e && w) = true := h
    rw [Bool.and_eq_true] at h
    exact eqT (t_val F.hK (true_plain h.1) (hw h.2).2) rfl (by funext c; rfl)
  | k, .meth i m es, sc, fx, e, w, X, F, h, hw => by
    have h : (plainT e && w) = true := h
    rw [Bool.and_eq_true] at h
    exact eqT (t_val F.hK (true_plain h.1) (hw h.2).2) rfl (by funext c; rfl)
  | k, .fld i f, sc, fx, e, w, X, F, h, hw => by
    have h : (plainT e && w) = true := h
    rw [Bool.and_eq_true] at h
    exact eqT (t_val F.hK (true_plain h.1) (hw h.2).2) rfl (by funext c; rfl)
  | k, .ix a b, sc, fx, e, w, X, F, h, hw => by
    have h : (plainT e && w) = true := h
    rw [Bool.and_eq_true] at h
    exact eqT (t_val F.hK (true_plain h.1) (hw h.2).2) rfl (by funext c; rfl)
  | k, .sl a lo hi, sc, fx, e, w, X, F, h, hw => by
    have h : (plainT e && w) = true := h
    rw [Bool.and_eq_true] at h
    exact eqT (t_val F.hK (true_plain h.1) (hw h.2).2) rfl (by funext c; rfl)
  | k, .rsl a, sc, fx, e, w, X, F, h, hw => by
    have h : (plainT e && w) = true := h
    rw [Bool.and_eq_true] at h
    exact eqT (t_val F.hK (true_plain h.1) (hw h.2).2) rfl (by funext c; rfl)
  | k, .blt b es, sc, fx, e, w, X, F, h, hw => by
    have h : (plainT e && w) = true := h
    rw [Bool.and_eq_true] at h
    exact eqT (t_val F.hK (true_plain h.1) (hw h.2).2) rfl (by funext c; rfl)
  | k, .mut m o es, sc, fx, e, w, X, F, h, hw => by
    have h : (plainT e && w) = true := h
    rw [Bool.and_eq_true] at h
    exact eqT (t_val F.hK (true_plain h.1) (hw h.2).2) rfl (by funext c; rfl)
  | k, .mrd m o es, sc, fx, e, w, X, F, h, hw => by
    have h : (plainT e && w) = true := h
    rw [Bool.and_eq_true] at h
    exact eqT (t_val F.hK (true_plain h.1) (hw h.2).2) rfl (by funext c; rfl)
  | k, .lc own a t s ifs, sc, fx, e, w, X, F, h, hw => by
    have h : (plainT e && w) = true := h
    rw [Bool.and_eq_true] at h
    exact eqT (t_val F.hK (true_plain h.1) (hw h.2).2) rfl (by funext c; rfl)
  | k, .gen g own a t s ifs, sc, fx, e, w, X, F, h, hw => by
    have h : (plainT e && w) = true := h
    rw [Bool.and_eq_true] at h
    exact eqT (t_val F.hK (true_plain h.1) (hw h.2).2) rfl (by funext c; rfl)
  | k, .never, sc, fx, e, w, X, F, h, hw => by
    have h : (plainT e && w) = true := h
    rw [Bool.and_eq_true] at h
    exact eqT (t_val F.hK (true_plain h.1) (hw h.2).2) rfl (by funext c; rfl)
theorem sndI : ∀ {k : Nat} (es : Exs) (sc : Scope) (fx : Str → Bool) (xs : List Expr) (X : Cx), XF E T C k N sc fx X → chkI T N es sc fx xs = true → PTs X xs (rdT E es.quiet (evIf P C k es))
  | k, .nil, sc, fx, xs, X, F, h => by
    unfold chkI at h
    have : xs = [] := by simpa using h
    subst this
    refine ⟨fun pins s σ H Q I ⟨c, Z, L, b, c', sr, ev, ok⟩ => pts_nil.run pins s σ H Q I ?_⟩
    rw [evIf] at ev
    cases ev
    exact ok H Z L (.refl sr)
  | k, .cons e es, sc, fx, xs, X, F, h => by
    unfold chkI at h
    split at h
    · rename_i x
      rw [Bool.and_eq_true] at h
      have he : es = .nil := by
        have h2 := h.2
        cases es with
        | nil => rfl
        | cons _ _ => cases h2
      subst he
      have ht := sndT e sc fx x _ X F h.1 fun w => ⟨w, sndE e sc fx x X F w⟩
      refine ⟨fun pins s σ H Q I ⟨c, Z, L, b, c', sr, ev, ok⟩ => (pts_one ht).run pins s σ H Q I ⟨c, Z, L, b, c', sr, ?_, ?_⟩⟩
      · rw [evIf] at ev
        obtain ⟨⟨b1, c1⟩, e1, ev⟩ := Res.bind_ok ev
        show evT P C k e c (evO P C k e c) = _
        rw [e1]
        cases b1 with
        | true =>
          have ev : evIf P C k .nil c1 = .ok (b, c') := ev
          rw [evIf] at ev
          cases ev; rfl
        | false =>
          have ev : Res.ok (false, c1) = .ok (b, c') := ev
          cases ev; rfl
      · have eq : (Exs.cons e .nil).quiet = e.quiet := by simp only [Exs.quiet, Bool.and_true]
        rw [eq] at ok
        exact ok
    · cases h
theorem sndS : ∀ {k : Nat} (s : Sr) (sc : Scope) (fx : Str → Bool) (tg e : Expr) (X : Cx), XF E T C k N sc fx X → chkS T N s sc fx tg e = true → ∃ q, PI X tg e (rdI E q (evSr P C k s))
  | k, .seq a, sc, fx, tg, e, X, F, h => by
    unfold chkS at h
    exact ⟨_, eqI (i_seq F.hK (sndE a sc fx e X F h)) rfl (by funext c; rw [evSr] <;> rfl)⟩
  | k, .rng es, sc, fx, tg, e, X, F, h => by
    unfold chkS at h
    split at h
    · rename_i x p args pos
      simp only [Bool.and_eq_true] at h
      have e1 := of_decide_eq_true h.1.1.1.1
      subst e1
      have ha := sndA es sc fx args X F h.2
      have hn : X.mg "range" = none := F.blt _ (by decide)
      rcases args with _ | ⟨a1, _ | ⟨a2, _ | ⟨a3, r⟩⟩⟩
      · simp at h
      · have hpl := h.1.1.2
        simp only [List.all_cons, Bool.and_eq_true] at hpl
        exact ⟨_, eqI (i_rng1 (F.gl h.1.1.1.2) hn ha (fun c os c' ev => evOs_len es c os c' _ _ _ h.2 ev) (star_plain hpl.1)) rfl (by funext c; rw [evSr] <;> rfl)⟩
      · have hpl := h.1.1.2
        simp only [List.all_cons, Bool.and_eq_true] at hpl
        exact ⟨_, eqI (i_rng2 (F.gl h.1.1.1.2) hn ha (fun c os c' ev => evOs_len es c os c' _ _ _ h.2 ev) (by rw [star_plain hpl.1, star_plain hpl.2.1]; rfl) (star_plain hpl.2.1)) rfl (by funext c; rw [evSr] <;> rfl)⟩
      · simp at h
    · cases h
  | k, .enum a, sc, fx, tg, e, X, F, h => by
    unfold chkS at h
    split at h
    · simp only [Bool.and_eq_true] at h
      have e1 := of_decide_eq_true h.1.1.1.1
      subst e1
      obtain ⟨ts, kk, tp, rfl⟩ := isTup_ok h.1.1.2
      exact ⟨_, eqI (i_enum F.hK (F.gl h.1.1.1.2) (F.blt _ (by decide)) (sndE a sc fx _ X F h.2) (star_plain h.1.2)) rfl (by funext c; rw [evSr] <;> rfl)⟩
    · cases h
  | k, .zip a b, sc, fx, tg, e, X, F, h => by
    unfold chkS at h
    split at h
    · simp only [Bool.and_eq_true] at h
      have e1 := of_decide_eq_true h.1.1.1.1.1.1
      subst e1
      obtain ⟨ts, kk, tp, rfl⟩ := isTup_ok h.1.1.1.1.2
      have hp2 := h.1.1.2
      exact ⟨_, eqI (i_zip F.hK (F.gl h.1.1.1.1.1.2) (F.blt _ (by decide)) (sndE a sc fx _ X F h.1.2) (sndE b sc fx _ X F h.2) (star_plain h.1.1.1.2) (star_plain hp2) (back_plain (by simp [hp2]))) rfl (by funext c; rw [evSr] <;> rfl)⟩
    · cases h
  | k, .rev a, sc, fx, tg, e, X, F, h => by
    unfold chkS at h
    split at h
    · simp only [Bool.and_eq_true] at h
      have e1 := of_decide_eq_true h.1.1.1
      subst e1
      exact ⟨_, eqI (i_rev F.hK (F.gl h.1.1.2) (F.blt _ (by decide)) (sndE a sc fx _ X F h.2) (star_plain h.1.2)) rfl (by funext c; rw [evSr] <;> rfl)⟩
    · cases h
end
end
end G
namespace G
open PySem L2
def isTupE : Expr → Bool
  | .Tuple _ _ _ => true | .List _ _ => true | _ => false
/-- name = [..] on one line: the store within the comprehension -/
def lcLine (sc : Scope) (x : Str) (py : Pos) (v : Expr) : Bool := match v with
  | .ListComp _ _ scope p => (py.line == p.line) && (match sc.names.lookup x with | some .local => true | _ => false) && !(scope.names.any fun (n, k) => n == x && (k == .local || k == .cell))
  | _ => false
def isLc : Ex → Bool
  | .lc _ _ _ _ _ => true | _ => false
section
variable (T : Tab) (N : List Str)
mutual
def chkSt : St → Scope → (Str → Bool) → Stmt → Bool
  | .asg t e, sc, fx, s => (match s with
    | .Assign [tg] v _ => (match t, tg with
      | .nm i, .Name x py => slotC N i x && stoC sc fx x && chkE T N e sc fx v && (noComp v || (isLc e && lcLine sc x py v))
      | .tp ts, .Tuple es kk p => chkG N (.tp ts) sc fx (.Tuple es kk p) && chkE T N e sc fx v && noComp v && !isTupE v
      | _, _ => false)
    | _ => false)
  | .setI o i e, sc, fx, s => (match s with
    | .Assign [.Subscript ob ix _] v _ => chkE T N o sc fx ob && chkE T N i sc fx ix && chkE T N e sc fx v && noComp v && plainIxC ix
    | _ => false)
  | .aug i o e, sc, fx, s => (match s with
    | .AugAssign (.Name x _) op v _ => slotC N i x && stoC sc fx x && opC o op && chkE T N e sc fx v && (match o with | .add => true | .sub => true | _ => false)
    | _ => false)
  | .ex e, sc, fx, s => (match s with
    | .Expr v _ => chkE T N e sc fx v && noComp v
    | _ => false)
  | .ret e, sc, fx, s => (match s with
    | .Return (some v) _ => chkE T N e sc fx v
    | _ => false)
  | .retN, sc, fx, s => (match s with
    | .Return none _ => true
    | _ => false)
  | .iff q a b, sc, fx, s => (match s with
    | .If t x y _ => chkT T N q sc fx t (chkE T N q sc fx t) && chkSts a sc fx x && chkSts b sc fx y
    | _ => false)
  | .whl q b, sc, fx, s => (match s with
    | .While t x [] _ => chkT T N q sc fx t (chkE T N q sc fx t) && chkSts b sc fx x
    | _ => false)
  | .fr t sr b, sc, fx, s => (match s with
    | .For tg iter x [] _ => chkS T N sr sc fx tg iter && noSet iter && chkG N t sc fx tg && chkSts b sc fx x
    | _ => false)
  | .brk, sc, fx, s => (match s with | .Break _ => true | _ => false)
  | .cnt, sc, fx, s => (match s with | .Continue _ => true | _ => false)
  | .pass, sc, fx, s => (match s with | .Pass _ => true | .Expr (.Constant (.str _) _ _) _ => true | _ => false)
  | .never, sc, fx, s => true
  | _, _, _, _ => false
def chkSts : Sts → Scope → (Str → Bool) → List Stmt → Bool
  | .nil, sc, fx, ss => ss.isEmpty
  | .cons s r, sc, fx, ss => (match ss with
    | x :: xs => chkSt s sc fx x && chkSts r sc fx xs
    | _ => false)
end
end
section
variable {E : Ev} {T : Tab} {C : Cf} {P : Prg} {k w np : Nat} {N : List Str}
theorem eqS {X : Cx} {s : Stmt} {as bs : List Nat} {f g : Loc → Fl} (h : PS X s (rdS E as f)) (ea : as = bs) (ef : f = g) : PS X s (rdS E bs g) := by rw [← ea, ← ef]; exact h
theorem eqSs {X : Cx} {s : List Stmt} {as bs : List Nat} {f g : Loc → Fl} (h : PSs X s (rdS E as f)) (ea : as = bs) (ef : f = g) : PSs X s (rdS E bs g) := by rw [← ea, ← ef]; exact h
theorem sole_none {t v : Expr} {l : Nat} {env : Env} (h : noComp v = true) : swapsWithSole [t] v l env = pure false := sw_none (t := some t) h
theorem sw_stores {tg v : Expr} {env : Env} (h : isTupE v = false) : swappedStores [tg] v env = pure none := by
  unfold swappedStores
  cases v <;> first | (cases tg <;> rfl) | cases h
theorem asg_sub {o i : Expr} {tpos : Pos} {env : Env} (h : plainIxC i = true) : ∀ v, assign (.Subscript o i tpos) env v = (do
      let ov ← holding [v] (eval o env)
      let iv ← holding [v, ov] (eval i env)
      standAt tpos
      holding [v, ov, iv] (setItem ov iv v)
      release [v, ov, iv] []) := by
  intro v
  cases i <;> first | rfl | cases h
mutual
theorem sndSt : ∀ (st : St) (sc : Scope) (fx : Str → Bool) (s : Stmt) (X : Cx), XF E T C k N sc fx X → PassesOwn (model X.prog X.w) X.A X.env X.xe → chkSt T N st sc fx s = true → PS X s (rdS E st.asgd (exS P C w k np st))
  | .asg t e, sc, fx, s, X, F, hp, h => by
    unfold chkSt at h
    split at h
    · rename_i tg v pos
      split at h
      · rename_i i x py
        simp only [Bool.and_eq_true] at h
        obtain ⟨h1, h2⟩ := F.sto h.1.1.2
        have he := sndE (P := P) e sc fx v X F h.1.2
        rcases (Bool.or_eq_true _ _).mp h.2 with hc | hc
        · exact eqS (s_asg F.nd (F.slot h.1.1.1) h1 (sw_none hc) h2 he) (by simp only [St.asgd, Tg.slots]) (by funext c; rw [exS] <;> rfl)
        · rw [Bool.and_eq_true] at hc
          cases e with
          | lc own a t s ifs =>
            have h3 := h.1.2
            have h4 := hc.2
            unfold chkE at h3
            split at h3
            · rename_i elt tg iter cs n scope p
              simp only [lcLine, Bool.and_eq_true, Bool.not_eq_true'] at h4
              obtain ⟨⟨l1, l2⟩, l3⟩ := h4
              have hl : X.env.scope.names.lookup x = some .local := by
                rw [F.esc]
                split at l2
                · rename_i q; exact q
                · cases l2
              simp only [Bool.and_eq_true] at h3
              obtain ⟨⟨⟨⟨⟨⟨⟨⟨h0, ht⟩, h1'⟩, h2'⟩, h3'⟩, h4'⟩, h5⟩, h6⟩, h7⟩ := h3
              have := of_decide_eq_true h0
              subst this
              have ok := blkOk_by h3'
              have FB := fun s H Ca cl fp => F.blk ht ok.kind s H Ca cl fp
              obtain ⟨qs, hsrc⟩ := sndS (P := P) s sc fx tg iter X F h2'
              have := s_asgLc (E := E) (as := t.slots) (pos := p) (py := py) (spos := pos) (own := own.map fun i => (N.getD i default, i)) F.calm F.nd (F.slot h.1.1.1) hl (sw_true (by rw [F.esc]; exact F.fk) hl l1 l3) hsrc (by rw [F.esc, F.eN]; exact ok) (by
                rw [all_nd]
                intro i hi
                exact of_decide_eq_true (List.all_eq_true.mp h4' i hi)) (asgT_len t) (fun s H Ca cl fp => sndG t _ _ tg _ (FB s H Ca cl fp) h5) (fun s H Ca cl fp => sndI (P := P) ifs _ _ cs _ (FB s H Ca cl fp) h6) (fun s H Ca cl fp => sndE (P := P) a _ _ elt _ (FB s H Ca cl fp) h7) (set_no h1')
              rw [all_nd] at this
              exact eqS this (by simp only [St.asgd, Tg.slots]) (by funext c; rw [exS] <;> (unfold asgF; rw [evO] <;> rfl))
            · cases h3
          | _ => cases hc.1
      · rename_i ts es kk p
        simp only [Bool.and_eq_true, Bool.not_eq_true'] at h
        exact eqS (s_asgT (sndE (P := P) e sc fx v X F h.1.1.2) (sndG (.tp ts) sc fx _ X F h.1.1.1) (sole_none h.1.2) (sw_stores h.2) rfl) (by simp only [St.asgd]) (by funext c; rw [exS] <;> first | rfl | simp)
      · cases h
    · cases h
  | .setI o i e, sc, fx, s, X, F, hp, h => by
    unfold chkSt at h
    split at h
    · simp only [Bool.and_eq_true] at h
      exact eqS (s_setI (sndE (P := P) e sc fx _ X F h.1.1.2) (sndE (P := P) o sc fx _ X F h.1.1.1.1) (sndE (P := P) i sc fx _ X F h.1.1.1.2) (asg_sub h.2) (sole_none h.1.2) (by
        unfold swappedStores
        rfl) rfl) (by simp only [St.asgd]) (by funext c; rw [exS] <;> rfl)
    · cases h
  | .aug i o e, sc, fx, s, X, F, hp, h => by
    unfold chkSt at h
    split at h
    · simp only [Bool.and_eq_true] at h
      obtain ⟨h1, h2⟩ := F.sto h.1.1.1.2
      have e1 := opC_eq h.1.1.2
      subst e1
      have ho : o = .add ∨ o = .sub := by
        have := h.2
        cases o <;> first | exact .inl rfl | exact .inr rfl | cases this
      exact eqS (s_aug ho F.nd (F.slot h.1.1.1.1) h1 h2 (sndE (P := P) e sc fx _ X F h.1.2)) (by simp only [St.asgd]) (by funext c; rw [exS] <;> rfl)
    · cases h
  | .ex e, sc, fx, s, X, F, hp, h => by
    unfold chkSt at h
    split at h
    · rw [Bool.and_eq_true] at h
      exact eqS (s_ex (sw_none h.2) (sndE (P := P) e sc fx _ X F h.1)) (by simp only [St.asgd]) (by funext c; rw [exS] <;> rfl)
    · cases h
  | .ret e, sc, fx, s, X, F, hp, h => by
    unfold chkSt at h
    split at h
    · exact eqS (s_ret (np := np) (sndE (P := P) e sc fx _ X F h)) (by simp only [St.asgd]) (by funext c; rw [exS] <;> rfl)
    · cases h
  | .retN, sc, fx, s, X, F, hp, h => by
    unfold chkSt at h
    split at h
    · exact eqS s_retN (by simp only [St.asgd]) (by funext c; rw [exS] <;> rfl)
    · cases h
  | .iff q a b, sc, fx, s, X, F, hp, h => by
    unfold chkSt at h
    split at h
    · rw [Bool.and_eq_true, Bool.and_eq_true] at h
      exact eqS (s_if (sndT (P := P) q sc fx _ _ X F h.1.1 fun w => ⟨w, sndE (P := P) q sc fx _ X F w⟩) (sndSts a sc fx _ X F hp h.1.2) (sndSts b sc fx _ X F hp h.2)) (by simp only [St.asgd]) (by funext c; rw [exS] <;> rfl)
    · cases h
  | .whl q b, sc, fx, s, X, F, hp, h => by
    unfold chkSt at h
    split at h
    · rw [Bool.and_eq_true] at h
      exact eqS (s_whl (n := w) hp (sndT (P := P) q sc fx _ _ X F h.1 fun w => ⟨w, sndE (P := P) q sc fx _ X F w⟩) (sndSts b sc fx _ X F hp h.2)) (by simp only [St.asgd]) (by funext c; rw [exS] <;> rfl)
    · cases h
  | .fr t sr b, sc, fx, s, X, F, hp, h => by
    unfold chkSt at h
    split at h
    · simp only [Bool.and_eq_true] at h
      obtain ⟨qs, hsrc⟩ := sndS (P := P) sr sc fx _ _ X F h.1.1.1
      exact eqS (s_fr hp F.calm hsrc (sndG t sc fx _ X F h.1.2) (sndSts b sc fx _ X F hp h.2) (set_no h.1.1.2)) (by simp only [St.asgd]) (by funext c; rw [exS] <;> rfl)
    · cases h
  | .brk, sc, fx, s, X, F, hp, h => by
    unfold chkSt at h
    split at h
    · exact eqS s_brk (by simp only [St.asgd]) (by funext c; rw [exS] <;> rfl)
    · cases h
  | .cnt, sc, fx, s, X, F, hp, h => by
    unfold chkSt at h
    split at h
    · exact eqS s_cnt (by simp only [St.asgd]) (by funext c; rw [exS] <;> rfl)
    · cases h
  | .pass, sc, fx, s, X, F, hp, h => by
    unfold chkSt at h
    split at h
    · exact eqS s_pass (by simp only [St.asgd]) (by funext c; rw [exS] <;> rfl)
    · exact eqS s_doc (by simp only [St.asgd]) (by funext c; rw [exS] <;> rfl)
    · cases h
  | .never, sc, fx, s, X, F, hp, h => eqS s_never (by simp only [St.asgd]) (by funext c; rw [exS] <;> rfl)
  | .par _ _ _ _, sc, fx, s, X, F, hp, h => by simp [chkSt] at h
  | .setF _ _ _, sc, fx, s, X, F, hp, h => by simp [chkSt] at h
  | .augF _ _ _ _, sc, fx, s, X, F, hp, h => by simp [chkSt] at h
theorem sndSts : ∀ (ss : Sts) (sc : Scope) (fx : Str → Bool) (l : List Stmt) (X : Cx), XF E T C k N sc fx X → PassesOwn (model X.prog X.w) X.A X.env X.xe → chkSts T N ss sc fx l = true → PSs X l (rdS E ss.asgd (exSs P C w k np ss))
  | .nil, sc, fx, l, X, F, hp, h => by
    unfold chkSts at h
    have : l = [] := by simpa using h
    subst this
    exact eqSs ss_nil (by simp only [Sts.asgd]) (by funext c; rw [exSs])
  | .cons s r, sc, fx, l, X, F, hp, h => by
    unfold chkSts at h
    split at h
    · rw [Bool.and_eq_true] at h
      exact eqSs (ss_cons (sndSt s sc fx _ X F hp h.1) (sndSts r sc fx _ X F hp h.2)) (by simp only [Sts.asgd]) (by funext c; rw [exSs] <;> rfl)
    · cases h
end
end
end G
namespace G
open PySem L2
/-- a def of the program is the IR's; cs: the code objects with their tables -/
def FnFact (K : PySem.W.Frag) (T : Tab) (cs : List (Addr × Addr)) (fi : FnI) (a : Addr) (fd : FuncData) (ps : List Str) : Prop :=
  ∃ qual st, _root_.L2.FunD K fi.name qual (defArgs st) (defBody st) (defScope st) [] [] a fd ∧ FnScope fi.N ps (defScope st) ∧ ps.length = fi.np ∧ fi.np ≤ fi.N.length ∧ Binds K fd ps [] ∧ chkSts T fi.N fi.body (defScope st) (fun _ => true) (defBody st) = true ∧
    ∀ c, fd.code = .ref c → ∃ P, (c, P) ∈ cs
/-- what is known of a program's globals -/
structure PF (E : Ev) (T : Tab) (cs : List (Addr × Addr)) (Pg : Prg) (K : PySem.W.Frag) (mg : Str → Option Value) : Prop where
  hK : K = E.K
  hT : ∀ p ∈ cs, p.2 ∈ E.tabs
  con : ∀ p ∈ T.cons, ∃ v u, mg p.1 = some u ∧ RelV v u ∧ ∀ H Z, RD E.K H Z p.2 v
  blt : ∀ x ∈ blNames, mg (x : Str) = none
  fns : ∀ p ∈ T.fns, ∃ fi a fd ps, Pg.fns[p.2]? = some fi ∧ mg p.1 = some (.ref a) ∧ FnFact K T cs fi a fd ps
theorem all_fns {E : Ev} {T : Tab} {cs : List (Addr × Addr)} {Pg : Prg} {K : PySem.W.Frag} {mg : Str → Option Value} {P : Program} {w : World} {base : Heap} {ww : Nat} (F : PF E T cs Pg K mg) (hB : ∀ p ∈ cs, GxR.TabB base mg p.1 p.2) : ∀ (n k : Nat), k ≤ n → ∀ (f : Nat) (fi : FnI) (a : Addr) (fd : FuncData) (ps : List Str), Pg.fns[f]? = some fi → FnFact K T cs fi a fd ps →
    FnOk P w K mg base CX0 k a fd ps (spF E (run Pg ww k f)) := by
  intro n
  induction n with
  | zero =>
    intro k hk f fi a fd ps hf h
    have : k = 0 := by omega
    subst this
    exact ⟨fun vs H Q E0 ⟨cs, Z, L, cr, _, ev, _⟩ => (by cases ev), fun A outer s H args us vs Q E0 _ _ _ _ ⟨cs, Z, L, cr, _, ev, _⟩ => by cases ev⟩
  | succ n ih =>
    intro k hk f fi a fd ps hf ⟨qual, st, h1, h2, h3, h4, h5, h6, h7⟩
    cases k with
    | zero => exact ⟨fun vs H Q E0 ⟨cs, Z, L, cr, _, ev, _⟩ => (by cases ev), fun A outer s H args us vs Q E0 _ _ _ _ ⟨cs, Z, L, cr, _, ev, _⟩ => by cases ev⟩
    | succ k =>
    refine fn_ok (as := fi.body.asgd) (body := exSs Pg (callN Pg ww k) ww k fi.np fi.body) h1 h2 (by rw [h3]; exact h4) (fun args cr ev => ?_) fun c A outer s H E0 hc hr => ?_
    · rw [run_succ] at ev
      unfold runF at ev
      rw [hf] at ev
      simp only at ev
      split at ev
      · rename_i hl
        refine ⟨by rw [h3]; exact hl, ?_⟩
        unfold bodyF
        rw [h3]
        split at ev
        · rename_i r c e; first | exact ev | (rw [e]; exact ev)
        · rename_i c e; first | exact ev | (rw [e]; exact ev)
        · cases ev
        · cases ev
      · cases ev
    · refine sndSts (T := T) (N := fi.N) (k := k) (C := callN Pg ww k) fi.body (defScope st) (fun _ => true) (defBody st) _ ⟨rfl, F.hK, rfl, ?_, h2.nd, rfl, rfl, h2.kind, F.con, F.blt, hr, fun j hj p hp => ?_, fun _ => ?_⟩ PassesOwn.never h6
      · have := hr.un
        show (A.deeper _).units + 65 < cLine
        omega
      · obtain ⟨fi', a', fd', ps', g1, g2, g3⟩ := F.fns p hp
        have g4 := g3
        obtain ⟨qual', st', k1, _, _, _, k5, _⟩ := g3
        rw [callN_le hj]
        exact ⟨a', fd', ps', g2, k1.kp, k5, ih j (by omega) p.2 fi' a' fd' ps' g1 g4⟩
      · obtain ⟨Pt, hP⟩ := h7 c hc
        exact ⟨c, Pt, rfl, hB _ hP, F.hT _ hP⟩
end G
namespace G
open PySem L2
/-- law's promise: at most 63 ints come in, True comes out -/
def spLaw (K : PySem.W.Frag) (tabs : List Addr) : Sp := fun vs H Q _ => ∃ (a : Addr) (ns : List Int), vs = [.ref a] ∧ SqL K H a (ns.map V.int) ∧ ns.length ≤ 63 ∧ (∀ P ∈ tabs, H P = some (.tbl #[])) ∧ ∀ H', Q (.bl true) H'
theorem RDs.ofInts {K : PySem.W.Frag} {H : Hp} {Z : Addr → Prop} : ∀ ns : List Int, RDs K H Z (ns.map D.int) (ns.map V.int)
  | [] => RDs.nil.mpr rfl
  | n :: ns => RDs.cons.mpr ⟨_, _, rfl, by unfold RD; rfl, RDs.ofInts ns⟩
theorem sp_law {E : Ev} {cf : List Vl → Res CR} (h : ∀ ns : List Int, ns.length ≤ 63 → ∃ outs, cf [.d (.lst (ns.map .int))] = .ok ⟨.v (.d (.bl true)), outs⟩) {vs : List V} {H : Hp} {Q : VK} {E0 : XK} (hs : spLaw E.K E.tabs vs H Q E0) : spF E cf vs H Q E0 := by
  obtain ⟨a, ns, rfl, q, hl, htb, hQ⟩ := hs
  obtain ⟨outs, ev⟩ := h ns hl
  refine ⟨[.d (.lst (ns.map .int))], fun b => b = a ∧ Rd H a (.lst (ns.map V.int)), [], _, ⟨⟨_, _, [], [], rfl, rfl, ⟨.ref a, rfl, rfl, ?_⟩, rfl, rfl⟩, .nil, fun _ h => absurd h (by simp), fun b hb => ?_, fun _ h => absurd h (by simp), fun P hP => ⟨#[], htb P hP, trivial⟩⟩, ev, fun v H' Z' L' Lr _ _ _ _ rr => ?_⟩
  · refine RD.lstI.mpr ⟨a, _, rfl, ?_, RDs.ofInts ns⟩
    rcases q with q | q
    · exact .inl ⟨⟨rfl, q⟩, q⟩
    · exact .inr q
  · obtain ⟨rfl, q⟩ := hb
    rcases q with q | ⟨o, q⟩
    · rw [q]; simp
    · rw [q]; simp
  · have rr : RA E.K H' Z' (.d (.bl true)) v Lr := rr
    rw [blE rr]
    exact hQ H'
/-- the end: what the top has left, the plain law of the IR -/
theorem law_end {E : Ev} {T : Tab} {cs : List (Addr × Addr)} {Pg : Prg} {K : PySem.W.Frag} {mg : Str → Option Value} {P : Program} {w : World} {base : Heap} {ww k f : Nat} {fi : FnI} {a : Addr} {fd : FuncData} {ps : List Str} (F : PF E T cs Pg K mg) (hB : ∀ p ∈ cs, GxR.TabB base mg p.1 p.2) (hf : Pg.fns[f]? = some fi) (hF : FnFact K T cs fi a fd ps)
    (h : ∀ ns : List Int, ns.length ≤ 63 → ∃ outs, run Pg ww k f [.d (.lst (ns.map .int))] = .ok ⟨.v (.d (.bl true)), outs⟩) : FnOk P w K mg base CX0 k a fd ps (spLaw K E.tabs) :=
  (all_fns F hB k k (Nat.le_refl _) f fi a fd ps hf hF).imp fun vs H Q E0 hs => sp_law h (by rw [← F.hK]; exact hs)
end G
/-! from the head's facts to what the checker's soundness wants -/
namespace G
open PySem L2
section
variable (K : PySem.W.Frag)
mutual
def valK : D → Value → Bool
  | .non, u => (match u with | .none => true | _ => false)
  | .bl b, u => (match u with | .bool c => b == c | _ => false)
  | .int i, u => (match u with | .int j _ => decide (i = j) | _ => false)
  | .str x, u => (match u with | .str y _ => decide (x = y) | _ => false)
  | .tup ds, u => (match u with
    | .ref a => (match K.lookup a with
      | some ⟨.type c, _, .seq its _, _⟩ => decide (c = "tuple") && decide (its.size ≤ sizeLine) && valsK ds its.toList
      | _ => false)
    | _ => false)
  | _, _ => false
def valsK : List D → List Value → Bool
  | [], us => us.isEmpty
  | d :: ds, us => (match us with
    | u :: r => valK d u && valsK ds r
    | [] => false)
end
end
mutual
theorem valK_ok {K : PySem.W.Frag} : ∀ (d : D) (u : Value), valK K d u = true → ∃ v, RelV v u ∧ ∀ H Z, RD K H Z d v
  | .non, u, h => by
    unfold valK at h
    split at h
    · exact ⟨.non, rfl, fun H Z => by unfold RD; rfl⟩
    · cases h
  | .bl b, u, h => by
    unfold valK at h
    split at h
    · have := eq_of_beq h
      subst this
      exact ⟨.bl b, rfl, fun H Z => by unfold RD; rfl⟩
    · cases h
  | .int b, u, h => by
    unfold valK at h
    split at h
    · have := of_decide_eq_true h
      subst this
      exact ⟨.int b, ⟨_, rfl⟩, fun H Z => by unfold RD; rfl⟩
    · cases h
  | .str b, u, h => by
    unfold valK at h
    split at h
    · have := of_decide_eq_true h
      subst this
      exact ⟨.str b, ⟨_, rfl⟩, fun H Z => by unfold RD; rfl⟩
    · cases h
  | .tup ds, u, h => by
    unfold valK at h
    split at h
    · rename_i a
      split at h
      · rename_i c od its n sl lk
        simp only [Bool.and_eq_true] at h
        obtain ⟨vs, hv, hr⟩ := valsK_ok ds its.toList h.2
        have e := of_decide_eq_true h.1.1
        subst e
        exact ⟨.ref a, rfl, fun H Z => RD.tupI.mpr ⟨a, vs, rfl, .inr ⟨_, its, n, lk, rfl, rfl, of_decide_eq_true h.1.2, hv⟩, hr H Z⟩⟩
      · cases h
    · cases h
  | .lst _, u, h => by simp [valK] at h
  | .dic _, u, h => by simp [valK] at h
theorem valsK_ok {K : PySem.W.Frag} : ∀ (ds : List D) (us : List Value), valsK K ds us = true → ∃ vs, Vals vs us ∧ ∀ H Z, RDs K H Z ds vs
  | [], us, h => by
    unfold valsK at h
    have : us = [] := by simpa using h
    subst this
    exact ⟨[], .nil, fun H Z => RDs.nil.mpr rfl⟩
  | d :: ds, us, h => by
    unfold valsK at h
    split at h
    · rename_i u r
      rw [Bool.and_eq_true] at h
      obtain ⟨v, h1, h2⟩ := valK_ok d u h.1
      obtain ⟨vs, h3, h4⟩ := valsK_ok ds r h.2
      exact ⟨v :: vs, .cons h1 h3, fun H Z => RDs.cons.mpr ⟨v, vs, rfl, h2 H Z, h4 H Z⟩⟩
    · cases h
end
def conK (K : PySem.W.Frag) (p : Str × D) : Bool := match PySem.W.nsIn K PySem.mainGlobals p.1 with
  | some (some u) => valK K p.2 u
  | _ => false
theorem conK_ok {K : PySem.W.Frag} {h : Heap} {mg : Str → Option Value} (X : K.In h) (G : h.Ns PySem.mainGlobals mg) {p : Str × D} (c : conK K p = true) : ∃ v u, mg p.1 = some u ∧ RelV v u ∧ ∀ H Z, RD K H Z p.2 v := by
  unfold conK at c
  split at c
  · rename_i u hu
    obtain ⟨v, h1, h2⟩ := valK_ok _ _ c
    exact ⟨v, u, PySem.W.mg_of X G hu, h1, h2⟩
  · cases c
theorem tab_mem {K : PySem.W.Frag} {tf : List He.Defn} {x qual : Str} {params : Arguments} {body : List Stmt} {scope : Scope} {p : He.Defn} {fd : FuncData} {c : Addr} (F : FunD K x qual params body scope [] [] (He.fAd K p) fd) (hp : p ∈ tf) (hc : fd.code = .ref c) : ∃ P, (c, P) ∈ tf.map (He.cT K) := by
  obtain ⟨oc, od, dV, kV, doc, pm, an, cdv, ct, osl, _, lk, _⟩ := F.ex
  exact ⟨(He.cT K p).2, List.mem_map.mpr ⟨p, hp, by
    have := He.codeOf_eq lk hc
    show (He.codeOf K p, He.tabOf K (He.codeOf K p)) = _
    rw [← this]
    rfl⟩⟩
/-- the law's promise at the head -/
theorem law_at {l : PySem.W.OpenLaw} {w : World} {K : PySem.W.Frag} {T : Tab} {Pg : Prg} {k f ww : Nat} {fi : FnI} {x : Str} {mg : Str → Option Value} {fa : Addr} {h : Heap} {fas : List He.Fa} {fns : List He.DefD} {tf : List He.Defn} {ex : PySem.W.Frag → Bool} {fd : FuncData}
    (X : K.In h) (G : h.Ns PySem.mainGlobals mg) (c : He.SaysX fas fns [] tf ex w h K) (ca : Nat → Option Addr)
    (PFk : PF ⟨K, ca, (tf.map (He.cT K)).map (·.2)⟩ T (tf.map (He.cT K)) Pg K mg) (hf : Pg.fns[f]? = some fi) (hF : FnFact K T (tf.map (He.cT K)) fi fa fd [x]) (hb : ∀ (s : Shared) (u : Value), BindsTo s fd ⟨[u], []⟩ [(x, u)])
    (hp : ∀ ns : List Int, ns.length ≤ 63 → ∃ outs, run Pg ww k f [.d (.lst (ns.map .int))] = .ok ⟨.v (.d (.bl true)), outs⟩) : LamX.LawAtS l w K CX0 k 63 x mg fa h := by
  refine ⟨fd, tf.map (He.cT K), spLaw K ((tf.map (He.cT K)).map (·.2)), fun p hp => ?_, fun p hp => ?_, fun p hp => ?_, hb, fun H a ns hl _ hH hS => ⟨a, ns, rfl, hS, hl, fun P hP => ?_, fun _ => rfl⟩, fun base hK hn hB => law_end PFk (fun p hp => ⟨(hB p hp).code, (hB p hp).bm, (hB p hp).gP⟩) hf hF hp⟩
  · obtain ⟨q, hq, rfl⟩ := List.mem_map.mp hp
    exact c.empty q hq
  · obtain ⟨q, hq, rfl⟩ := List.mem_map.mp hp
    exact c.out q hq
  · obtain ⟨q, hq, rfl⟩ := List.mem_map.mp hp
    exact PySem.W.codeHd_of_K X (c.hd q hq)
  · obtain ⟨q, hq, rfl⟩ := List.mem_map.mp hP
    exact hH q hq
end G
/-! what the evaluator reaches, one goal at a time -/
namespace G
open PySem
def WR {α : Type} (r : Res α) (Q : α → Prop) : Prop := ∃ a, r = .ok a ∧ Q a
def WE (r : Res (Opd × Loc)) (Q : Opd → Loc → Prop) : Prop := ∃ o c, r = .ok (o, c) ∧ Q o c
def WA (r : Res (List Opd × Loc)) (Q : List Opd → Loc → Prop) : Prop := ∃ o c, r = .ok (o, c) ∧ Q o c
def WT (r : Res (Bool × Loc)) (Q : Bool → Loc → Prop) : Prop := ∃ o c, r = .ok (o, c) ∧ Q o c
def WI (r : Res (Wk × Loc)) (Q : Wk → Loc → Prop) : Prop := ∃ o c, r = .ok (o, c) ∧ Q o c
def WF (f : Fl) (N : Loc → Prop) (R : Rv → Loc → Prop) (B : Loc → Prop) (Ct : Loc → Prop) : Prop := match f with
  | .nx c => N c | .rt r c => R r c | .bk c => B c | .ct c => Ct c | _ => False
theorem bnd {α β : Type} {r : Res α} {f : α → Res β} {a : α} {b : β} (h : r = .ok a) (h2 : f a = .ok b) : r.bind f = .ok b := by rw [h]; exact h2
theorem gdT {b : Bool} (h : b = true) : gd b = .ok () := by rw [h]; rfl
theorem isOkT {α : Type} {o : Option α} {a : α} (h : o = some a) : isOk o = .ok a := by rw [h]; rfl
section
variable {P : Prg} {C : Cf} {k : Nat} {c : Loc} {Q : Opd → Loc → Prop}
theorem we_d {i : Nat} {x : D} (h : c[i]? = some (some (.a (.d x)))) (q : Q (.v (.d x)) c) : WE (evO P C k (.loc i) c) Q := ⟨_, _, by rw [evO]; unfold evLoc; rw [h], q⟩
theorem we_l {i : Nat} {x : List D} (h : c[i]? = some (some (.l x))) (q : Q (.p i) c) : WE (evO P C k (.loc i) c) Q := ⟨_, _, by rw [evO]; unfold evLoc; rw [h], q⟩
theorem we_cst {d : D} (q : Q (.v (.d d)) c) : WE (evO P C k (.cst d) c) Q := ⟨_, _, by rw [evO], q⟩
theorem we_gcon {x : Str} {d : D} (q : Q (.v (.d d)) c) : WE (evO P C k (.gcon x d) c) Q := ⟨_, _, by rw [evO], q⟩
theorem wa_nil {Q : List Opd → Loc → Prop} (q : Q [] c) : WA (evOs P C k .nil c) Q := ⟨_, _, by rw [evOs], q⟩
theorem wa_cons {e : Ex} {es : Exs} {Q : List Opd → Loc → Prop} (q : WE (evO P C k e c) fun o c1 => lateO o es.quiet = true ∧ WA (evOs P C k es c1) fun os c2 => Q (o :: os) c2) : WA (evOs P C k (.cons e es) c) Q := by
  obtain ⟨o, c1, e1, l, os, c2, e2, q⟩ := q
  exact ⟨_, _, by rw [evOs]; exact bnd e1 (bnd (gdT l) (bnd e2 rfl)), q⟩
theorem we_tup {es : Exs} (q : WA (evOs P C k es c) fun os c1 => ∃ xs c2, toDs os c1 = .ok (xs, c2) ∧ fits xs.length = true ∧ Q (.v (.d (.tup xs))) c2) : WE (evO P C k (.tup es) c) Q := by
  obtain ⟨os, c1, e1, xs, c2, e2, l, q⟩ := q
  exact ⟨_, _, by rw [evO]; exact bnd e1 (bnd e2 (bnd (gdT l) rfl)), q⟩
theorem we_lst {es : Exs} (q : WA (evOs P C k es c) fun os c1 => ∃ xs c2, toDs os c1 = .ok (xs, c2) ∧ fits xs.length = true ∧ Q (.v (.l xs)) c2) : WE (evO P C k (.lst es) c) Q := by
  obtain ⟨os, c1, e1, xs, c2, e2, l, q⟩ := q
  exact ⟨_, _, by rw [evO]; exact bnd e1 (bnd e2 (bnd (gdT l) rfl)), q⟩
theorem we_bin {o : BOp} {a b : Ex} (q : WE (evO P C k a c) fun x c1 => lateO x b.quiet = true ∧ WE (evO P C k b c1) fun y c2 => ∃ u v z, rdA x c2 = .ok u ∧ rdA y c2 = .ok v ∧ bop o u v = .ok z ∧ Q (.v (.a z)) c2) : WE (evO P C k (.bin o a b) c) Q := by
  obtain ⟨x, c1, e1, l, y, c2, e2, u, v, z, e3, e4, e5, q⟩ := q
  exact ⟨_, _, by rw [evO]; exact bnd e1 (bnd (gdT l) (bnd e2 (bnd e3 (bnd e4 (bnd e5 rfl))))), q⟩
theorem we_neg {a : Ex} (q : WE (evO P C k a c) fun x c1 => ∃ i, x = .v (.d (.int i)) ∧ Q (.v (.d (.int (-i)))) c1) : WE (evO P C k (.neg a) c) Q := by
  obtain ⟨x, c1, e1, i, rfl, q⟩ := q
  exact ⟨_, _, by rw [evO]; exact bnd e1 rfl, q⟩
theorem we_not {a : Ex} (q : WE (evO P C k a c) fun x c1 => ∃ u b, rdO x c1 = .ok u ∧ truth u = .ok b ∧ Q (.v (.d (.bl (!b)))) c1) : WE (evO P C k (.not a) c) Q := by
  obtain ⟨x, c1, e1, u, b, e2, e3, q⟩ := q
  exact ⟨_, _, by rw [evO]; exact bnd e1 (bnd e2 (bnd e3 rfl)), q⟩
theorem we_and {a b : Ex} (q : WE (evO P C k a c) fun x c1 => ∃ t, x = .v (.d (.bl t)) ∧ (t = true → WE (evO P C k b c1) Q) ∧ (t = false → Q (.v (.d (.bl false))) c1)) : WE (evO P C k (.and a b) c) Q := by
  obtain ⟨x, c1, e1, t, rfl, q1, q2⟩ := q
  cases t with
  | true =>
    obtain ⟨o, c2, e2, q⟩ := q1 rfl
    exact ⟨_, _, by rw [evO]; exact bnd e1 e2, q⟩
  | false => exact ⟨_, _, by rw [evO]; exact bnd e1 rfl, q2 rfl⟩
theorem we_or {a b : Ex} (q : WE (evO P C k a c) fun x c1 => ∃ t, x = .v (.d (.bl t)) ∧ (t = true → Q (.v (.d (.bl true))) c1) ∧ (t = false → WE (evO P C k b c1) Q)) : WE (evO P C k (.or a b) c) Q := by
  obtain ⟨x, c1, e1, t, rfl, q1, q2⟩ := q
  cases t with
  | true => exact ⟨_, _, by rw [evO]; exact bnd e1 rfl, q1 rfl⟩
  | false =>
    obtain ⟨o, c2, e2, q⟩ := q2 rfl
    exact ⟨_, _, by rw [evO]; exact bnd e1 e2, q⟩
theorem we_ite {q a b : Ex} (h : WT (evT P C k q c (evO P C k q c)) fun t c1 => (t = true → WE (evO P C k a c1) Q) ∧ (t = false → WE (evO P C k b c1) Q)) : WE (evO P C k (.ite q a b) c) Q := by
  obtain ⟨t, c1, e1, q1, q2⟩ := h
  cases t with
  | true =>
    obtain ⟨o, c2, e2, q⟩ := q1 rfl
    exact ⟨_, _, by rw [evO]; exact bnd e1 e2, q⟩
  | false =>
    obtain ⟨o, c2, e2, q⟩ := q2 rfl
    exact ⟨_, _, by rw [evO]; exact bnd e1 e2, q⟩
theorem we_cmp {o : COp} {a b : Ex} (q : WE (evO P C k a c) fun x c1 => lateO x b.quiet = true ∧ WE (evO P C k b c1) fun y c2 => ∃ u v z, rdA x c2 = .ok u ∧ rdA y c2 = .ok v ∧ cop o u v = .ok z ∧ Q (.v (.d (.bl z))) c2) : WE (evO P C k (.cmp o a b) c) Q := by
  obtain ⟨x, c1, e1, l, y, c2, e2, u, v, z, e3, e4, e5, q⟩ := q
  exact ⟨_, _, by rw [evO]; exact bnd e1 (bnd (gdT l) (bnd e2 (bnd e3 (bnd e4 (bnd e5 rfl))))), q⟩
theorem we_chn {o o' : COp} {a b d : Ex} (q : WE (evO P C k a c) fun x c1 => lateO x b.quiet = true ∧ WE (evO P C k b c1) fun y c2 => lateO y d.quiet = true ∧ ∃ u v z, rdA x c2 = .ok u ∧ rdA y c2 = .ok v ∧ cop o u v = .ok z ∧
    (z = true → WE (evO P C k d c2) fun y' c3 => ∃ v' v2 z', rdA y c3 = .ok v' ∧ rdA y' c3 = .ok v2 ∧ cop o' v' v2 = .ok z' ∧ Q (.v (.d (.bl z'))) c3) ∧ (z = false → Q (.v (.d (.bl false))) c2)) : WE (evO P C k (.chn o o' a b d) c) Q := by
  obtain ⟨x, c1, e1, l, y, c2, e2, l2, u, v, z, e3, e4, e5, q1, q2⟩ := q
  cases z with
  | true =>
    obtain ⟨y', c3, e6, v', v2, z', e7, e8, e9, q⟩ := q1 rfl
    exact ⟨_, _, by rw [evO]; exact bnd e1 (bnd (gdT l) (bnd e2 (bnd (gdT l2) (bnd e3 (bnd e4 (bnd e5 (by exact bnd e6 (bnd e7 (bnd e8 (bnd e9 rfl)))))))))), q⟩
  | false => exact ⟨_, _, by rw [evO]; exact bnd e1 (bnd (gdT l) (bnd e2 (bnd (gdT l2) (bnd e3 (bnd e4 (bnd e5 rfl)))))), q2 rfl⟩
theorem we_isN {n : Bool} {a : Ex} (q : WE (evO P C k a c) fun x c1 => ∃ u, rdO x c1 = .ok u ∧ Q (.v (.d (.bl (if n then !u.isNon else u.isNon)))) c1) : WE (evO P C k (.isN n a) c) Q := by
  obtain ⟨x, c1, e1, u, e2, q⟩ := q
  exact ⟨_, _, by rw [evO]; exact bnd e1 (bnd e2 rfl), q⟩
theorem we_isC {n b : Bool} {a : Ex} (q : WE (evO P C k a c) fun x c1 => ∃ b', rdO x c1 = .ok (.d (.bl b')) ∧ Q (.v (.d (.bl (n != decide (b' = b))))) c1) : WE (evO P C k (.isC n b a) c) Q := by
  obtain ⟨x, c1, e1, b', e2, q⟩ := q
  exact ⟨_, _, by rw [evO]; exact bnd e1 (bnd e2 rfl), q⟩
theorem we_ix {a b : Ex} (q : WE (evO P C k a c) fun x c1 => lateO x b.quiet = true ∧ WE (evO P C k b c1) fun y c2 => ∃ u v z, rdA x c2 = .ok u ∧ rdA y c2 = .ok v ∧ idx u v = .ok z ∧ Q (.v (.d z)) c2) : WE (evO P C k (.ix a b) c) Q := by
  obtain ⟨x, c1, e1, l, y, c2, e2, u, v, z, e3, e4, e5, q⟩ := q
  exact ⟨_, _, by rw [evO]; exact bnd e1 (bnd (gdT l) (bnd e2 (bnd e3 (bnd e4 (bnd e5 rfl))))), q⟩
def WP (r : Res (Option Int × Loc)) (Q : Option Int → Loc → Prop) : Prop := ∃ o c, r = .ok (o, c) ∧ Q o c
theorem wp_none {Q : Option Int → Loc → Prop} (q : Q none c) : WP (evPt P C k none c) Q := ⟨_, _, by rw [evPt], q⟩
theorem wp_some {e : Ex} {Q : Option Int → Loc → Prop} (q : WE (evO P C k e c) fun x c1 => ∃ i, x = .v (.d (.int i)) ∧ Q (some i) c1) : WP (evPt P C k (some e) c) Q := by
  obtain ⟨x, c1, e1, i, rfl, q⟩ := q
  exact ⟨_, _, by rw [evPt]; exact bnd e1 rfl, q⟩
theorem we_sl {a : Ex} {lo hi : Option Ex} (q : WE (evO P C k a c) fun x c1 => lateO x false = true ∧ WP (evPt P C k lo c1) fun l c2 => WP (evPt P C k hi c2) fun h c3 => ∃ u z, rdA x c3 = .ok u ∧ slc u l h = .ok z ∧ Q (.v (.a z)) c3) : WE (evO P C k (.sl a lo hi) c) Q := by
  obtain ⟨x, c1, e1, l0, l, c2, e2, h, c3, e3, u, z, e4, e5, q⟩ := q
  exact ⟨_, _, by rw [evO]; exact bnd e1 (bnd (gdT l0) (bnd e2 (bnd e3 (bnd e4 (bnd e5 rfl))))), q⟩
theorem we_blt {b : Blt} {es : Exs} (q : WA (evOs P C k es c) fun os c1 => ∃ vs xs z, rdOs os c1 = .ok vs ∧ (vs.mapM fun | .a x => some x | _ => none) = some xs ∧ blt b xs = .ok z ∧ Q (.v (.a z)) c1) : WE (evO P C k (.blt b es) c) Q := by
  obtain ⟨os, c1, e1, vs, xs, z, e2, e3, e4, q⟩ := q
  refine ⟨_, _, ?_, q⟩
  rw [evO]
  refine bnd e1 (bnd e2 ?_)
  have e3' : (vs.mapM fun | .a x => some x | _ => none) = some xs := e3
  split
  · rename_i xs' h
    cases e3'.symm.trans h
    exact bnd e4 rfl
  · rename_i h
    cases e3'.symm.trans h
theorem we_mut {m : Mut} {o : Ex} {es : Exs} (q : WE (evO P C k o c) fun x c0 => lateO x es.quiet = true ∧ ∃ u0, rdA x c0 = .ok u0 ∧ u0.own = true ∧ WA (evOs P C k es c0) fun os c1 => ∃ ys c2 xs z xs' c3, toDs os c1 = .ok (ys, c2) ∧ rdA x c2 = .ok (.l xs) ∧ mutL m xs ys = .ok (z, xs') ∧ putO x xs' c2 = .ok c3 ∧ Q (.v (.d z)) c3) :
    WE (evO P C k (.mut m o es) c) Q := by
  obtain ⟨x, c0, e1, l, u0, e2, l2, os, c1, e3, ys, c2, xs, z, xs', c3, e4, e5, e6, e7, q⟩ := q
  exact ⟨_, _, by rw [evO]; exact bnd e1 (bnd (gdT l) (bnd e2 (bnd (gdT l2) (bnd e3 (bnd e4 (bnd e5 (bnd e6 (bnd e7 rfl)))))))), q⟩
theorem we_call {f : Nat} {es : Exs} (q : WA (evOs P C k es c) fun os c1 => WE (callO (C k f) os c1) Q) : WE (evO P C k (.call f es) c) Q := by
  obtain ⟨os, c1, e1, o, c2, e2, q⟩ := q
  exact ⟨_, _, by rw [evO]; exact bnd e1 e2, q⟩
theorem we_callV {cf : List Vl → Res CR} {os : List Opd} {vs : List Vl} {x : Vl} {outs : List (Option Vl)} {c2 : Loc} (h3 : cf vs = .ok ⟨.v x, outs⟩) (h1 : (noQ os && decide (ownP os).Nodup) = true) (h2 : rdOs os c = .ok vs) (h4 : backP os outs c = .ok c2) (q : Q (.v x) c2) : WE (callO cf os c) Q :=
  ⟨_, _, bnd (gdT h1) (bnd h2 (bnd h3 (bnd h4 rfl))), q⟩
/-! tests -/
theorem wt_not {a : Ex} {wh : Res (Opd × Loc)} {Q : Bool → Loc → Prop} (q : WT (evT P C k a c (evO P C k a c)) fun b c1 => Q (!b) c1) : WT (evT P C k (.not a) c wh) Q := by
  obtain ⟨b, c1, e1, q⟩ := q
  exact ⟨_, _, by rw [evT]; exact bnd e1 rfl, q⟩
theorem wt_and {a b : Ex} {wh : Res (Opd × Loc)} {Q : Bool → Loc → Prop} (q : WT (evT P C k a c (evO P C k a c)) fun t c1 => (t = true → WT (evT P C k b c1 (evO P C k b c1)) Q) ∧ (t = false → Q false c1)) : WT (evT P C k (.and a b) c wh) Q := by
  obtain ⟨t, c1, e1, q1, q2⟩ := q
  cases t with
  | true =>
    obtain ⟨o, c2, e2, q⟩ := q1 rfl
    exact ⟨_, _, by rw [evT]; exact bnd e1 e2, q⟩
  | false => exact ⟨_, _, by rw [evT]; exact bnd e1 rfl, q2 rfl⟩
theorem wt_or {a b : Ex} {wh : Res (Opd × Loc)} {Q : Bool → Loc → Prop} (q : WT (evT P C k a c (evO P C k a c)) fun t c1 => (t = true → Q true c1) ∧ (t = false → WT (evT P C k b c1 (evO P C k b c1)) Q)) : WT (evT P C k (.or a b) c wh) Q := by
  obtain ⟨t, c1, e1, q1, q2⟩ := q
  cases t with
  | true => exact ⟨_, _, by rw [evT]; exact bnd e1 rfl, q1 rfl⟩
  | false =>
    obtain ⟨o, c2, e2, q⟩ := q2 rfl
    exact ⟨_, _, by rw [evT]; exact bnd e1 e2, q⟩
def plT : Ex → Bool
  | .not _ => false | .and _ _ => false | .or _ _ => false | _ => true
theorem wt_val {a : Ex} {Q : Bool → Loc → Prop} (h : plT a = true) (q : WE (evO P C k a c) fun x c1 => ∃ u b, rdO x c1 = .ok u ∧ truth u = .ok b ∧ Q b c1) : WT (evT P C k a c (evO P C k a c)) Q := by
  obtain ⟨x, c1, e1, u, b, e2, e3, q⟩ := q
  refine ⟨_, _, ?_, q⟩
  have : ∀ wh, evT P C k a c wh = wh.bind fun (x, c1) => (rdO x c1).bind fun u => (truth u).bind fun b => .ok (b, c1) := by
    intro wh
    cases a <;> first | rfl | cases h
  rw [this]
  exact bnd e1 (bnd e2 (bnd e3 rfl))
/-! sources -/
theorem wi_seq {a : Ex} {Q : Wk → Loc → Prop} (q : WE (evO P C k a c) fun x c1 => ∃ u its, rdA x c1 = .ok u ∧ items u = .ok its ∧ Q ⟨its, lkOf x u⟩ c1) : WI (evSr P C k (.seq a) c) Q := by
  obtain ⟨x, c1, e1, u, its, e2, e3, q⟩ := q
  exact ⟨_, _, by rw [evSr]; exact bnd e1 (bnd e2 (bnd e3 rfl)), q⟩
theorem wi_rng {es : Exs} {Q : Wk → Loc → Prop} (q : WA (evOs P C k es c) fun os c1 => ∃ vs xs its, rdOs os c1 = .ok vs ∧ (vs.mapM fun | .a x => some x | _ => none) = some xs ∧ rng xs = .ok its ∧ Q ⟨its, []⟩ c1) : WI (evSr P C k (.rng es) c) Q := by
  obtain ⟨os, c1, e1, vs, xs, z, e2, e3, e4, q⟩ := q
  refine ⟨_, _, ?_, q⟩
  rw [evSr]
  refine bnd e1 (bnd e2 ?_)
  have e3' : (vs.mapM fun | .a x => some x | _ => none) = some xs := e3
  split
  · rename_i xs' h
    cases e3'.symm.trans h
    exact bnd e4 rfl
  · rename_i h
    cases e3'.symm.trans h
theorem wi_enum {a : Ex} {Q : Wk → Loc → Prop} (q : WE (evO P C k a c) fun x c1 => ∃ u its, rdA x c1 = .ok u ∧ u.seq? = some its ∧ Q ⟨enumD 0 its, lkOf x u⟩ c1) : WI (evSr P C k (.enum a) c) Q := by
  obtain ⟨x, c1, e1, u, its, e2, e3, q⟩ := q
  exact ⟨_, _, by rw [evSr]; exact bnd e1 (bnd e2 (bnd (isOkT e3) rfl)), q⟩
theorem wi_zip {a b : Ex} {Q : Wk → Loc → Prop} (q : WE (evO P C k a c) fun x c1 => lateO x b.quiet = true ∧ WE (evO P C k b c1) fun y c2 => ∃ u v xs ys, rdA x c2 = .ok u ∧ rdA y c2 = .ok v ∧ u.seq? = some xs ∧ v.seq? = some ys ∧ Q ⟨zipD xs ys, lkOf x u ++ lkOf y v⟩ c2) : WI (evSr P C k (.zip a b) c) Q := by
  obtain ⟨x, c1, e1, l, y, c2, e2, u, v, xs, ys, e3, e4, e5, e6, q⟩ := q
  exact ⟨_, _, by rw [evSr]; exact bnd e1 (bnd (gdT l) (bnd e2 (bnd e3 (bnd e4 (bnd (isOkT e5) (bnd (isOkT e6) rfl)))))), q⟩
theorem wi_rev {a : Ex} {Q : Wk → Loc → Prop} (q : WE (evO P C k a c) fun x c1 => ∃ u its, rdA x c1 = .ok u ∧ u.seq? = some its ∧ Q ⟨its.reverse, lkOf x u⟩ c1) : WI (evSr P C k (.rev a) c) Q := by
  obtain ⟨x, c1, e1, u, its, e2, e3, q⟩ := q
  exact ⟨_, _, by rw [evSr]; exact bnd e1 (bnd e2 (bnd (isOkT e3) rfl)), q⟩
/-! comprehensions -/
/-- turns: I by the turn, what came so far, the slots -/
theorem compL_inv {f : Loc → Res (Option D × Loc)} {tg : D → Loc → Res Loc} : ∀ {its : List D} {c : Loc} (I : Nat → List D → Loc → Prop) {n0 : Nat} {ys0 : List D}, I n0 ys0 c →
    (∀ i d ys c, its[i]? = some d → I (n0 + i) ys c → ∃ c1 y c2, tg d c = .ok c1 ∧ f c1 = .ok (y, c2) ∧ I (n0 + i + 1) (match y with | some y => ys ++ [y] | none => ys) c2) → ∃ ys c', compL f tg its c = .ok (ys, c') ∧ I (n0 + its.length) (ys0 ++ ys) c'
  | [], c, I, n0, ys0, h0, _ => ⟨[], c, rfl, by simpa using h0⟩
  | x :: r, c, I, n0, ys0, h0, hs => by
    obtain ⟨c1, y, c2, e1, e2, i1⟩ := hs 0 x ys0 c rfl h0
    obtain ⟨ys, c', e3, i2⟩ := compL_inv (its := r) (n0 := n0 + 1) I i1 fun i d ys c hi hI => by
      obtain ⟨c1, y, c2, k1, k2, k3⟩ := hs (i + 1) d ys c (by simpa using hi) (by rw [show n0 + (i + 1) = n0 + 1 + i by omega]; exact hI)
      exact ⟨c1, y, c2, k1, k2, by rw [show n0 + 1 + i + 1 = n0 + (i + 1) + 1 by omega]; exact k3⟩
    refine ⟨_, c', bnd e1 (bnd e2 (bnd e3 rfl)), ?_⟩
    rw [show n0 + (x :: r).length = n0 + 1 + r.length by simp; omega]
    cases y with
    | none => exact i2
    | some y => simpa using i2
def WO (r : Res (Option D × Loc)) (Q : Option D → Loc → Prop) : Prop := ∃ o c, r = .ok (o, c) ∧ Q o c
theorem wo_turn {wk : Wk} {own : List Nat} {ifs : Exs} {e : Ex} {Q : Option D → Loc → Prop} (q : WT (evIf P C k ifs c) fun b c1 => (b = true → WE (evO P C k e c1) fun o c2 => ∃ y c3 c4, toD o c2 = .ok (y, c3) ∧ wipeO c3 own = .ok c4 ∧ wk.still c4 = .ok () ∧ Q (some y) c4) ∧ (b = false → ∃ c4, wipeO c1 own = .ok c4 ∧ wk.still c4 = .ok () ∧ Q none c4)) :
    WO (turnF wk own (evIf P C k ifs) (evO P C k e) c) Q := by
  obtain ⟨b, c1, e1, q1, q2⟩ := q
  cases b with
  | true =>
    obtain ⟨o, c2, e2, y, c3, c4, e3, e4, e5, q⟩ := q1 rfl
    exact ⟨_, _, bnd e1 (bnd e2 (bnd e3 (bnd e4 (bnd e5 rfl)))), q⟩
  | false =>
    obtain ⟨c4, e4, e5, q⟩ := q2 rfl
    exact ⟨_, _, bnd e1 (bnd e4 (bnd e5 rfl)), q⟩
theorem wt_nil {Q : Bool → Loc → Prop} (q : Q true c) : WT (evIf P C k .nil c) Q := ⟨_, _, by rw [evIf], q⟩
theorem wt_one {e : Ex} {Q : Bool → Loc → Prop} (q : WT (evT P C k e c (evO P C k e c)) Q) : WT (evIf P C k (.cons e .nil) c) Q := by
  obtain ⟨b, c1, e1, q⟩ := q
  cases b with
  | true => exact ⟨_, _, by rw [evIf]; exact bnd e1 (by show evIf P C k .nil c1 = _; rw [evIf]), q⟩
  | false => exact ⟨_, _, by rw [evIf]; exact bnd e1 rfl, q⟩
theorem we_lc {own : List Nat} {e : Ex} {t : Tg} {s : Sr} {ifs : Exs} (q : WI (evSr P C k s c) fun wk c1 => wk.free (ifs.quiet && e.quiet) own = true ∧ ∃ c2 ys c3, wipeO c1 own = .ok c2 ∧ wk.still c2 = .ok () ∧ compL (turnF wk own (evIf P C k ifs) (evO P C k e)) (asgT t) wk.its c2 = .ok (ys, c3) ∧ fits ys.length = true ∧ Q (.v (.l ys)) (backO c1 c3 own)) :
    WE (evO P C k (.lc own e t s ifs) c) Q := by
  obtain ⟨wk, c1, e1, l, c2, ys, c3, e2, e3, e4, l2, q⟩ := q
  exact ⟨_, _, by rw [evO]; exact bnd e1 (bnd (gdT l) (bnd e2 (bnd e3 (bnd e4 (bnd (gdT l2) rfl))))), q⟩
theorem we_genT {own : List Nat} {e : Ex} {t : Tg} {s : Sr} {ifs : Exs} (hk : 4 ≤ k) (q : WI (evSr P C k s c) fun wk c1 => wk.free (ifs.quiet && e.quiet) own = true ∧ ∃ c2 ys c3, wipeO c1 own = .ok c2 ∧ wk.still c2 = .ok () ∧ compL (turnF wk own (evIf P C (k - 4) ifs) (evO P C (k - 4) e)) (asgT t) wk.its c2 = .ok (ys, c3) ∧ fits ys.length = true ∧ Q (.v (.d (.tup ys))) (backO c1 c3 own)) :
    WE (evO P C k (.gen .tup own e t s ifs) c) Q := by
  obtain ⟨wk, c1, e1, l, c2, ys, c3, e2, e3, e4, l2, q⟩ := q
  exact ⟨_, _, by rw [evO]; exact bnd (gdT (decide_eq_true hk)) (bnd e1 (bnd (gdT l) (bnd e2 (bnd e3 (bnd e4 (bnd (bnd (gdT l2) rfl) rfl)))))), q⟩
theorem we_genM {own : List Nat} {e : Ex} {t : Tg} {s : Sr} {ifs : Exs} (hk : 4 ≤ k) (q : WI (evSr P C k s c) fun wk c1 => wk.free (ifs.quiet && e.quiet) own = true ∧ ∃ c2 ys c3 ns m, wipeO c1 own = .ok c2 ∧ wk.still c2 = .ok () ∧ compL (turnF wk own (evIf P C (k - 4) ifs) (evO P C (k - 4) e)) (asgT t) wk.its c2 = .ok (ys, c3) ∧ allI ys = some ns ∧ maxI ns = some m ∧ Q (.v (.d (.int m))) (backO c1 c3 own)) :
    WE (evO P C k (.gen .max own e t s ifs) c) Q := by
  obtain ⟨wk, c1, e1, l, c2, ys, c3, ns, m, e2, e3, e4, l2, l3, q⟩ := q
  exact ⟨_, _, by rw [evO]; exact bnd (gdT (decide_eq_true hk)) (bnd e1 (bnd (gdT l) (bnd e2 (bnd e3 (bnd e4 (bnd (bnd (isOkT l2) (bnd (isOkT l3) rfl)) rfl)))))), q⟩
theorem we_genAll {own : List Nat} {e : Ex} {t : Tg} {s : Sr} {ifs : Exs} (hk : 4 ≤ k) (q : WI (evSr P C k s c) fun wk c1 => wk.free (ifs.quiet && e.quiet) own = true ∧ ∃ c2 b c3, wipeO c1 own = .ok c2 ∧ wk.still c2 = .ok () ∧ compS false (turnF wk own (evIf P C (k - 4) ifs) (evO P C (k - 4) e)) (asgT t) wk.its c2 = .ok (b, c3) ∧ Q (.v (.d (.bl b))) (backO c1 c3 own)) :
    WE (evO P C k (.gen .all own e t s ifs) c) Q := by
  obtain ⟨wk, c1, e1, l, c2, b, c3, e2, e3, e4, q⟩ := q
  exact ⟨_, _, by rw [evO]; exact bnd (gdT (decide_eq_true hk)) (bnd e1 (bnd (gdT l) (bnd e2 (bnd e3 (bnd e4 rfl))))), q⟩
theorem we_genAny {own : List Nat} {e : Ex} {t : Tg} {s : Sr} {ifs : Exs} (hk : 4 ≤ k) (q : WI (evSr P C k s c) fun wk c1 => wk.free (ifs.quiet && e.quiet) own = true ∧ ∃ c2 b c3, wipeO c1 own = .ok c2 ∧ wk.still c2 = .ok () ∧ compS true (turnF wk own (evIf P C (k - 4) ifs) (evO P C (k - 4) e)) (asgT t) wk.its c2 = .ok (b, c3) ∧ Q (.v (.d (.bl b))) (backO c1 c3 own)) :
    WE (evO P C k (.gen .any own e t s ifs) c) Q := by
  obtain ⟨wk, c1, e1, l, c2, b, c3, e2, e3, e4, q⟩ := q
  exact ⟨_, _, by rw [evO]; exact bnd (gdT (decide_eq_true hk)) (bnd e1 (bnd (gdT l) (bnd e2 (bnd e3 (bnd e4 rfl))))), q⟩
end
/-! statements -/
section
variable {P : Prg} {C : Cf} {w k np : Nat} {c : Loc} {N : Loc → Prop} {R : Rv → Loc → Prop} {B Ct : Loc → Prop}
theorem wf_nil (q : N c) : WF (exSs P C w k np .nil c) N R B Ct := by rw [exSs]; exact q
theorem wf_cons {s : St} {r : Sts} (q : WF (exS P C w k np s c) (fun c1 => WF (exSs P C w k np r c1) N R B Ct) R B Ct) : WF (exSs P C w k np (.cons s r) c) N R B Ct := by
  rw [exSs]
  revert q
  cases exS P C w k np s c <;> exact id
theorem wf_asg {i : Nat} {e : Ex} (q : WE (evO P C k e c) fun x c1 => ∃ v c2, toV x c1 = .ok (v, c2) ∧ decide (i < c2.length) = true ∧ N (c2.set i (some v))) : WF (exS P C w k np (.asg (.nm i) e) c) N R B Ct := by
  obtain ⟨x, c1, e1, v, c2, e2, l, q⟩ := q
  rw [exS]
  have : ((evO P C k e c).bind fun (x, c1) => (toV x c1).bind fun (v, c2) => if i < c2.length then Res.ok (c2.set i (some v)) else .no) = .ok (c2.set i (some v)) := bnd e1 (bnd e2 (if_pos (of_decide_eq_true l)))
  rw [this]
  exact q
theorem wf_asgT {ts : List Tg} {e : Ex} (q : WE (evO P C k e c) fun x c1 => ∃ v c2 c3, toD x c1 = .ok (v, c2) ∧ asgT (.tp ts) v c2 = .ok c3 ∧ N c3) : WF (exS P C w k np (.asg (.tp ts) e) c) N R B Ct := by
  obtain ⟨x, c1, e1, v, c2, c3, e2, e3, q⟩ := q
  rw [exS]
  · have : ((evO P C k e c).bind fun (x, c1) => (toD x c1).bind fun (v, c2) => asgT (.tp ts) v c2) = .ok c3 := bnd e1 (bnd e2 e3)
    rw [this]
    exact q
  · intro i h
    cases h
theorem wf_setI {o i e : Ex} (q : WE (evO P C k e c) fun x c1 => ∃ v c2, toD x c1 = .ok (v, c2) ∧ WE (evO P C k o c2) fun oo c3 => lateO oo i.quiet = true ∧ WE (evO P C k i c3) fun ii c4 => ∃ j c5, rdA ii c4 = .ok j ∧ setIt oo j v c4 = .ok c5 ∧ N c5) : WF (exS P C w k np (.setI o i e) c) N R B Ct := by
  obtain ⟨x, c1, e1, v, c2, e2, oo, c3, e3, l, ii, c4, e4, j, c5, e5, e6, q⟩ := q
  rw [exS]
  have : ((evO P C k e c).bind fun (x, c1) => (toD x c1).bind fun (v, c2) => (evO P C k o c2).bind fun (oo, c3) => (gd (lateO oo i.quiet)).bind fun _ => (evO P C k i c3).bind fun (ii, c4) => (rdA ii c4).bind fun j => setIt oo j v c4) = .ok c5 :=
    bnd e1 (bnd e2 (bnd e3 (bnd (gdT l) (bnd e4 (bnd e5 e6)))))
  rw [this]
  exact q
theorem wf_ex {e : Ex} (q : WE (evO P C k e c) fun _ c1 => N c1) : WF (exS P C w k np (.ex e) c) N R B Ct := by
  obtain ⟨x, c1, e1, q⟩ := q
  rw [exS]
  have : ((evO P C k e c).bind fun (_, c1) => Res.ok c1) = .ok c1 := bnd e1 rfl
  rw [this]
  exact q
theorem wf_aug {i : Nat} {o : BOp} {e : Ex} (q : WE (evO P C k e c) fun y c1 => ∃ x v z, gets c i = .ok (.d x) ∧ rdA y c1 = .ok v ∧ augV o x v = .ok z ∧ N (c1.set i (some (.d z)))) : WF (exS P C w k np (.aug i o e) c) N R B Ct := by
  obtain ⟨y, c1, e1, x, v, z, e2, e3, e4, q⟩ := q
  rw [exS]
  have : ((evO P C k e c).bind fun (y, c1) => (gets c i).bind fun u => (rdA y c1).bind fun v => match u with
    | .a (.d x) => (augV o x v).bind fun z => Res.ok (c1.set i (some (.d z)))
    | _ => .no) = .ok (c1.set i (some (.d z))) := bnd e1 (bnd e2 (bnd e3 (bnd e4 rfl)))
  have h2 := congrArg (fun r => doNx r c) this
  exact h2 ▸ q
/-- return: a value; a slot of one's own -/
theorem wf_ret {e : Ex} (q : WE (evO P C k e c) fun o c1 => match o with
    | .v x => R (.v x) c1
    | .p i => (i < np → R (.par i) c1) ∧ (np ≤ i → ∃ y, gets c1 i = .ok y ∧ R (.v y) (c1.set i none))
    | .q _ _ => False) : WF (exS P C w k np (.ret e) c) N R B Ct := by
  obtain ⟨o, c1, e1, q⟩ := q
  rw [exS, e1]
  cases o with
  | v x => exact q
  | p i =>
    show WF (if i < np then _ else _) N R B Ct
    by_cases h : i < np
    · rw [if_pos h]; exact q.1 h
    · rw [if_neg h]
      obtain ⟨y, e2, q⟩ := q.2 (by omega)
      rw [e2]
      exact q
  | q i f => exact q.elim
theorem wf_retN (q : R (.v (.d .non)) c) : WF (exS P C w k np .retN c) N R B Ct := by rw [exS]; exact q
theorem wf_iff {q : Ex} {a b : Sts} (h : WT (evT P C k q c (evO P C k q c)) fun t c1 => (t = true → WF (exSs P C w k np a c1) N R B Ct) ∧ (t = false → WF (exSs P C w k np b c1) N R B Ct)) : WF (exS P C w k np (.iff q a b) c) N R B Ct := by
  obtain ⟨t, c1, e1, q1, q2⟩ := h
  rw [exS, e1]
  cases t with
  | true => exact q1 rfl
  | false => exact q2 rfl
theorem wf_brk (q : B c) : WF (exS P C w k np .brk c) N R B Ct := by rw [exS]; exact q
theorem wf_cnt (q : Ct c) : WF (exS P C w k np .cnt c) N R B Ct := by rw [exS]; exact q
theorem wf_pass (q : N c) : WF (exS P C w k np .pass c) N R B Ct := by rw [exS]; exact q
theorem WF.mono {f : Fl} {N' : Loc → Prop} {R' : Rv → Loc → Prop} {B' Ct' : Loc → Prop} (h : WF f N R B Ct) (hN : ∀ c, N c → N' c) (hR : ∀ r c, R r c → R' r c) (hB : ∀ c, B c → B' c) (hC : ∀ c, Ct c → Ct' c) : WF f N' R' B' Ct' := by
  cases f with
  | nx c => exact hN _ h
  | rt r c => exact hR _ _ h
  | bk c => exact hB _ h
  | ct c => exact hC _ h
  | exc _ _ _ => exact h
  | no => exact h
/-- for, by the turn -/
theorem forL_inv {body : Loc → Fl} {tg : D → Loc → Res Loc} : ∀ {its : List D} {c : Loc} (I : Nat → Loc → Prop) {n0 : Nat}, I n0 c →
    (∀ i d c, its[i]? = some d → I (n0 + i) c → ∃ c1, tg d c = .ok c1 ∧ WF (body c1) (I (n0 + i + 1)) R N (I (n0 + i + 1))) → (∀ c, I (n0 + its.length) c → N c) → WF (forL body tg its c) N R B Ct
  | [], c, I, n0, h0, _, hN => hN c (by simpa using h0)
  | x :: r, c, I, n0, h0, hs, hN => by
    obtain ⟨c1, e1, q⟩ := hs 0 x c rfl h0
    have rec' : ∀ c2, I (n0 + 1) c2 → WF (forL body tg r c2) N R B Ct := fun c2 h2 => forL_inv (its := r) (n0 := n0 + 1) I h2 (fun i d c hi hI => by
      obtain ⟨c1, k1, k2⟩ := hs (i + 1) d c (by simpa using hi) (by rw [show n0 + (i + 1) = n0 + 1 + i by omega]; exact hI)
      rw [show n0 + (i + 1) + 1 = n0 + 1 + i + 1 by omega] at k2
      exact ⟨c1, k1, k2⟩) fun c h => hN c (by rw [show n0 + (x :: r).length = n0 + 1 + r.length by simp; omega]; exact h)
    unfold forL
    rw [e1]
    show WF (match body c1 with
      | .nx c2 => forL body tg r c2
      | .ct c2 => forL body tg r c2
      | .bk c2 => .nx c2
      | f => f) N R B Ct
    revert q
    cases body c1 with
    | nx c2 => exact fun q => rec' c2 q
    | ct c2 => exact fun q => rec' c2 q
    | bk c2 => exact fun q => q
    | rt r c2 => exact fun q => q
    | exc _ _ _ => exact fun q => q
    | no => exact fun q => q
theorem wf_fr {t : Tg} {s : Sr} {b : Sts} (q : WI (evSr P C k s c) fun wk c1 => wk.free false (t.slots ++ b.asgd) = true ∧ WF (forL (fun c => stillF wk (exSs P C w k np b c)) (asgT t) wk.its c1) N R B Ct) : WF (exS P C w k np (.fr t s b) c) N R B Ct := by
  obtain ⟨wk, c1, e1, l, q⟩ := q
  rw [exS, e1]
  show WF (if wk.free false (t.slots ++ b.asgd) = true then _ else _) N R B Ct
  rw [if_pos l]
  exact q
theorem stillF_nil {its : List D} {f : Fl} : stillF ⟨its, []⟩ f = f := by cases f <;> rfl
theorem wf_still {wk : Wk} {f : Fl} (q : WF f (fun c => wk.still c = .ok () ∧ N c) R B (fun c => wk.still c = .ok () ∧ Ct c)) : WF (stillF wk f) N R B Ct := by
  cases f with
  | nx c =>
    obtain ⟨h, q⟩ := q
    show WF (match wk.still c with | .ok _ => Fl.nx c | _ => .no) N R B Ct
    rw [h]; exact q
  | ct c =>
    obtain ⟨h, q⟩ := q
    show WF (match wk.still c with | .ok _ => Fl.ct c | _ => .no) N R B Ct
    rw [h]; exact q
  | rt r c => exact q
  | bk c => exact q
  | exc _ _ _ => exact q
  | no => exact q
/-- while, by a measure below the fuel -/
theorem whileL_inv {test : Loc → Res (Bool × Loc)} {body : Loc → Fl} (I : Nat → Loc → Prop) (hs : ∀ m c, I m c → WT (test c) fun b c1 => (b = true → ∃ m', m = m' + 1 ∧ WF (body c1) (fun c => ∃ m2, m2 ≤ m' ∧ I m2 c) R N (fun c => ∃ m2, m2 ≤ m' ∧ I m2 c)) ∧ (b = false → N c1)) :
    ∀ (n m : Nat) (c : Loc), m < n → I m c → WF (whileL test body n c) N R B Ct
  | 0, m, c, hn, _ => by omega
  | n + 1, m, c, hn, h => by
    obtain ⟨b, c1, e1, q1, q2⟩ := hs m c h
    unfold whileL
    rw [e1]
    cases b with
    | false => exact q2 rfl
    | true =>
      obtain ⟨m', rfl, q⟩ := q1 rfl
      show WF (match body c1 with
        | .nx c2 => whileL test body n c2
        | .ct c2 => whileL test body n c2
        | .bk c2 => .nx c2
        | f => f) N R B Ct
      revert q
      cases body c1 with
      | nx c2 => exact fun ⟨m2, h2, q⟩ => whileL_inv I hs n m2 c2 (by omega) q
      | ct c2 => exact fun ⟨m2, h2, q⟩ => whileL_inv I hs n m2 c2 (by omega) q
      | bk c2 => exact fun q => q
      | rt r c2 => exact fun q => q
      | exc _ _ _ => exact fun q => q
      | no => exact fun q => q
theorem wf_whl {q : Ex} {b : Sts} (h : WF (whileL (fun c => evT P C k q c (evO P C k q c)) (fun c => exSs P C w k np b c) w c) N R B Ct) : WF (exS P C w k np (.whl q b) c) N R B Ct := by rw [exS]; exact h
end
theorem for_inv {N : Loc → Prop} {R : Rv → Loc → Prop} {B Ct : Loc → Prop} {body : Loc → Fl} {tg : D → Loc → Res Loc} {its : List D} {c : Loc} (I : Nat → Loc → Prop) (h0 : I 0 c)
    (hs : ∀ i d c, its[i]? = some d → I i c → ∃ c1, tg d c = .ok c1 ∧ WF (body c1) (I (i + 1)) R N (I (i + 1))) (hN : ∀ c, I its.length c → N c) : WF (forL body tg its c) N R B Ct :=
  forL_inv (n0 := 0) I h0 (fun i d c hi h => by rw [Nat.zero_add] at h ⊢; exact hs i d c hi h) fun c h => hN c (by rw [Nat.zero_add] at h; exact h)
theorem lc_inv {f : Loc → Res (Option D × Loc)} {tg : D → Loc → Res Loc} {its : List D} {c : Loc} (I : Nat → List D → Loc → Prop) (h0 : I 0 [] c)
    (hs : ∀ i d ys c, its[i]? = some d → I i ys c → ∃ c1, tg d c = .ok c1 ∧ WO (f c1) fun y c2 => I (i + 1) (match y with | some y => ys ++ [y] | none => ys) c2) : ∃ ys c', compL f tg its c = .ok (ys, c') ∧ I its.length ys c' := by
  obtain ⟨ys, c', e, h⟩ := compL_inv (n0 := 0) (ys0 := []) (f := f) (tg := tg) (its := its) I h0 fun i d ys c hi h => by
    rw [Nat.zero_add] at h ⊢
    obtain ⟨c1, e1, y, c2, e2, h2⟩ := hs i d ys c hi h
    exact ⟨c1, y, c2, e1, e2, h2⟩
  exact ⟨ys, c', e, by simpa using h⟩
/-- a def's answer -/
theorem run_of {P : Prg} {w k f : Nat} {args : List Vl} {fi : FnI} {cr : CR} (hf : P.fns[f]? = some fi) (hl : args.length = fi.np)
    (h : WF (exSs P (callN P w k) w k fi.np fi.body (args.map some ++ List.replicate (fi.N.length - fi.np) none)) (fun c => outR fi.np fi.body.asgd (.v (.d .non)) c = .ok cr) (fun r c => outR fi.np fi.body.asgd r c = .ok cr) (fun _ => False) fun _ => False) : run P w (k + 1) f args = .ok cr := by
  rw [run_succ]
  unfold runF
  rw [hf]
  simp only
  rw [if_pos hl]
  revert h
  cases exSs P (callN P w k) w k fi.np fi.body (args.map some ++ List.replicate (fi.N.length - fi.np) none) with
  | nx c => exact id
  | rt r c => exact id
  | bk c => exact fun h => h.elim
  | ct c => exact fun h => h.elim
  | exc _ _ _ => exact fun h => h.elim
  | no => exact fun h => h.elim
/-- .. of which something is known -/
theorem run_ex {P : Prg} {w k f : Nat} {args : List Vl} {fi : FnI} {Q : CR → Prop} (hf : P.fns[f]? = some fi) (hl : args.length = fi.np)
    (h : WF (exSs P (callN P w k) w k fi.np fi.body (args.map some ++ List.replicate (fi.N.length - fi.np) none)) (fun c => ∃ cr, outR fi.np fi.body.asgd (.v (.d .non)) c = .ok cr ∧ Q cr) (fun r c => ∃ cr, outR fi.np fi.body.asgd r c = .ok cr ∧ Q cr) (fun _ => False) fun _ => False) : ∃ cr, run P w (k + 1) f args = .ok cr ∧ Q cr := by
  have key : ∀ {fl}, WF fl (fun c => ∃ cr, outR fi.np fi.body.asgd (.v (.d .non)) c = .ok cr ∧ Q cr) (fun r c => ∃ cr, outR fi.np fi.body.asgd r c = .ok cr ∧ Q cr) (fun _ => False) (fun _ => False) → ∃ cr, WF fl (fun c => outR fi.np fi.body.asgd (.v (.d .non)) c = .ok cr) (fun r c => outR fi.np fi.body.asgd r c = .ok cr) (fun _ => False) (fun _ => False) ∧ Q cr := by
    intro fl h
    cases fl with
    | nx c => exact h
    | rt r c => exact h
    | bk c => exact h.elim
    | ct c => exact h.elim
    | exc _ _ _ => exact h.elim
    | no => exact h.elim
  obtain ⟨cr, h1, h2⟩ := key h
  exact ⟨cr, run_of hf hl h1, h2⟩
/-! operations -/
theorem atI_nat {α : Type} {xs : List α} {n : Nat} : L2.atI xs (n : Int) = xs[n]? := by
  unfold L2.atI L2.ixN
  by_cases h : n < xs.length
  · rw [if_pos (by omega), if_pos (by omega)]
    simp
  · rw [if_pos (by omega), if_neg (by omega), List.getElem?_eq_none (by omega)]
    rfl
theorem ixN_nat {m n : Nat} (h : n < m) : L2.ixN m (n : Int) = some n := by
  unfold L2.ixN
  rw [if_pos (by omega), if_pos (by omega)]
  simp
theorem idx_l {xs : List D} {n : Nat} {d : D} (h : xs[n]? = some d) : idx (.l xs) (.d (.int n)) = .ok d := isOkT (by rw [atI_nat]; exact h)
theorem idx_lst {xs : List D} {n : Nat} {d : D} (h : xs[n]? = some d) : idx (.d (.lst xs)) (.d (.int n)) = .ok d := isOkT (by rw [atI_nat]; exact h)
theorem idx_tup {xs : List D} {n : Nat} {d : D} (h : xs[n]? = some d) : idx (.d (.tup xs)) (.d (.int n)) = .ok d := isOkT (by rw [atI_nat]; exact h)
theorem mul_r {i j : Int} (h : smallI j = true) : bop .mul (.d (.int i)) (.d (.int j)) = .ok (.d (.int (i * j))) := bnd (gdT (by rw [h, Bool.or_true])) rfl
theorem mul_l {i j : Int} (h : smallI i = true) : bop .mul (.d (.int i)) (.d (.int j)) = .ok (.d (.int (i * j))) := bnd (gdT (by rw [h, Bool.true_or])) rfl
end G
/-! what the laws share: digits of the script, drawing -/
namespace G
open PySem
theorem br_t {A B : Prop} (p : A) : (true = true → A) ∧ (true = false → B) := ⟨fun _ => p, fun h => by cases h⟩
theorem br_f {A B : Prop} (p : B) : (false = true → A) ∧ (false = false → B) := ⟨nofun, fun _ => p⟩
theorem rt_own {i np : Nat} {A B : Prop} (h : decide (i < np) = false) (p : B) : (i < np → A) ∧ (np ≤ i → B) := ⟨fun q => absurd q (of_decide_eq_false h), fun _ => p⟩
def IsFn (P : Prg) (f np n : Nat) (body : Sts) : Prop := ∃ fi, P.fns[f]? = some fi ∧ fi.np = np ∧ fi.N.length = n ∧ fi.body = body
theorem run_fn {P : Prg} {w k f np n : Nat} {body : Sts} {args : List Vl} {Q : CR → Prop} (h : IsFn P f np n body) (hl : args.length = np)
    (hb : WF (exSs P (callN P w k) w k np body (args.map some ++ List.replicate (n - np) none)) (fun c => ∃ cr, outR np body.asgd (.v (.d .non)) c = .ok cr ∧ Q cr) (fun r c => ∃ cr, outR np body.asgd r c = .ok cr ∧ Q cr) (fun _ => False) fun _ => False) : ∃ cr, run P w (k + 1) f args = .ok cr ∧ Q cr := by
  obtain ⟨fi, h1, rfl, rfl, rfl⟩ := h
  exact run_ex h1 hl hb
/-- the same, what is wanted by names -/
theorem run_by {P : Prg} {w k f np n : Nat} {body : Sts} {as : List Nat} {args : List Vl} {Q : CR → Prop} (h : IsFn P f np n body) (hl : args.length = np) (ha : body.asgd = as) (hk : 1 ≤ k)
    (hb : ∀ (k' : Nat) (N : Loc → Prop) (R : Rv → Loc → Prop), k = k' + 1 → (∀ c cr, outR np as (.v (.d .non)) c = .ok cr → Q cr → N c) → (∀ r c cr, outR np as r c = .ok cr → Q cr → R r c) → WF (exSs P (callN P w k') w k' np body (args.map some ++ List.replicate (n - np) none)) N R (fun _ => False) fun _ => False) : ∃ cr, run P w k f args = .ok cr ∧ Q cr := by
  obtain ⟨k', rfl⟩ : ∃ k', k = k' + 1 := ⟨k - 1, by omega⟩
  subst ha
  exact run_fn h hl (hb k' _ _ rfl (fun c cr e q => ⟨cr, e, q⟩) fun r c cr e q => ⟨cr, e, q⟩)
theorem wf_cut {f : Fl} {N : Loc → Prop} {R : Rv → Loc → Prop} {B Ct : Loc → Prop} (I : Loc → Prop) (h : WF f I R B Ct) (hI : ∀ c, I c → N c) : WF f N R B Ct := h.mono hI (fun _ _ q => q) (fun _ q => q) fun _ q => q
theorem rng_get {lo hi : Int} {i : Nat} {d : D} (h : (rngI lo hi)[i]? = some d) : d = .int (lo + i) ∧ i < (hi - lo).toNat := by
  unfold rngI at h
  rw [List.getElem?_map] at h
  cases e : (List.range (hi - lo).toNat)[i]? with
  | none => rw [e] at h; cases h
  | some j =>
    rw [e] at h
    obtain ⟨h1, h2⟩ := List.getElem?_eq_some_iff.mp e
    simp at h1 h2
    subst h2
    cases h
    exact ⟨rfl, by omega⟩
theorem rng_len {lo hi : Int} : (rngI lo hi).length = (hi - lo).toNat := by simp [rngI]
abbrev dis (ns : List Int) : List D := ns.map .int
theorem dis_snoc {ns : List Int} {n : Int} : dis (ns ++ [n]) = dis ns ++ [.int n] := by simp [dis]
theorem fits_of {n : Nat} (h : n ≤ 16777216) : fits n = true := decide_eq_true h
theorem mutA {xs : List D} {y : D} (h : fits (xs.length + 1) = true) : mutL .append xs [y] = .ok (.non, xs ++ [y]) := bnd (gdT h) rfl
theorem mutE {xs ys : List D} {y : D} (hy : (At.d y).seq? = some ys) (h : fits (xs.length + ys.length) = true) : mutL .extend xs [y] = .ok (.non, xs ++ ys) := bnd (isOkT hy) (bnd (gdT h) rfl)
/-! ### the cell -/
def lb_cell : Sts :=
  (.cons (.iff (.cmp .lt (.loc 1) (.blt .len (.cons (.loc 0) .nil)))
  (.cons (.ret (.ix (.loc 0) (.loc 1))) .nil) .nil)
  (.cons (.ret (.cst (.int 0))) .nil))
theorem cell_ok {P : Prg} {w k f : Nat} (h : IsFn P f 2 2 lb_cell) (hk : 1 ≤ k) (ns : List Int) (i : Nat) :
    ∃ cr, run P w k f [.d (.lst (dis ns)), .d (.int i)] = .ok cr ∧ ∃ z, cr = ⟨.v (.d (.int z)), [some (.d (.lst (dis ns))), some (.d (.int i))]⟩ := by
  refine run_by h rfl rfl hk fun k' N R ek hN hR => ?_
  unfold lb_cell
  repeat (first | refine wf_cons ?_ | refine wf_asg ?_ | refine wf_iff ?_ | refine wf_ret ?_ | refine wf_ex ?_ | refine wf_setI ?_ | refine wf_aug ?_ | refine wf_asgT ?_ | refine wf_nil ?_ | refine wf_retN ?_ | refine wf_pass ?_ | refine wf_brk ?_ | refine wf_cnt ?_ | refine we_cst ?_ | refine we_d rfl ?_ | refine we_l rfl ?_ | refine we_bin ?_ | refine we_cmp ?_ | refine we_chn ?_ | refine we_ix ?_ | refine we_sl ?_ | refine we_blt ?_ | refine we_mut ?_ | refine we_call ?_ | refine we_tup ?_ | refine we_lst ?_ | refine we_not ?_ | refine we_and ?_ | refine we_or ?_ | refine we_ite ?_ | refine we_isN ?_ | refine we_isC ?_ | refine we_neg ?_ | refine we_gcon ?_ | refine wa_cons ?_ | refine wa_nil ?_ | refine wp_none ?_ | refine wp_some ?_ | refine wt_not ?_ | refine wt_and ?_ | refine wt_or ?_ | refine wt_nil ?_ | refine wt_one ?_ | refine wi_seq ?_ | refine wi_rng ?_ | refine wi_enum ?_ | refine wi_zip ?_ | refine wi_rev ?_ | refine wo_turn ?_ | refine wt_val rfl ?_ | refine ⟨rfl, ?_⟩ | refine ⟨_, rfl, rfl, ?_⟩ | refine ⟨_, _, rfl, rfl, ?_⟩ | refine ⟨_, _, _, rfl, rfl, rfl, ?_⟩ | refine ⟨_, _, _, rfl, rfl, mul_r (by decide), ?_⟩ | refine ⟨_, _, rfl, ?_⟩ | refine ⟨_, rfl, ?_⟩ | refine br_t ?_ | refine br_f ?_ | refine rt_own rfl ?_)
  refine ⟨fun hb => ?_, fun hb => ?_⟩
  · have hl : i < ns.length := by simpa using hb
    repeat (first | refine wf_cons ?_ | refine wf_asg ?_ | refine wf_iff ?_ | refine wf_ret ?_ | refine wf_ex ?_ | refine wf_setI ?_ | refine wf_aug ?_ | refine wf_asgT ?_ | refine wf_nil ?_ | refine wf_retN ?_ | refine wf_pass ?_ | refine wf_brk ?_ | refine wf_cnt ?_ | refine we_cst ?_ | refine we_d rfl ?_ | refine we_l rfl ?_ | refine we_bin ?_ | refine we_cmp ?_ | refine we_chn ?_ | refine we_ix ?_ | refine we_sl ?_ | refine we_blt ?_ | refine we_mut ?_ | refine we_call ?_ | refine we_tup ?_ | refine we_lst ?_ | refine we_not ?_ | refine we_and ?_ | refine we_or ?_ | refine we_ite ?_ | refine we_isN ?_ | refine we_isC ?_ | refine we_neg ?_ | refine we_gcon ?_ | refine wa_cons ?_ | refine wa_nil ?_ | refine wp_none ?_ | refine wp_some ?_ | refine wt_not ?_ | refine wt_and ?_ | refine wt_or ?_ | refine wt_nil ?_ | refine wt_one ?_ | refine wi_seq ?_ | refine wi_rng ?_ | refine wi_enum ?_ | refine wi_zip ?_ | refine wi_rev ?_ | refine wo_turn ?_ | refine wt_val rfl ?_ | refine ⟨rfl, ?_⟩ | refine ⟨_, rfl, rfl, ?_⟩ | refine ⟨_, _, rfl, rfl, ?_⟩ | refine ⟨_, _, _, rfl, rfl, rfl, ?_⟩ | refine ⟨_, _, _, rfl, rfl, mul_r (by decide), ?_⟩ | refine ⟨_, _, rfl, ?_⟩ | refine ⟨_, rfl, ?_⟩ | refine br_t ?_ | refine br_f ?_ | refine rt_own rfl ?_)
    refine ⟨_, _, _, rfl, rfl, idx_lst (n := i) (d := .int ns[i]) (by simp [hl]), ?_⟩
    repeat (first | refine wf_cons ?_ | refine wf_asg ?_ | refine wf_iff ?_ | refine wf_ret ?_ | refine wf_ex ?_ | refine wf_setI ?_ | refine wf_aug ?_ | refine wf_asgT ?_ | refine wf_nil ?_ | refine wf_retN ?_ | refine wf_pass ?_ | refine wf_brk ?_ | refine wf_cnt ?_ | refine we_cst ?_ | refine we_d rfl ?_ | refine we_l rfl ?_ | refine we_bin ?_ | refine we_cmp ?_ | refine we_chn ?_ | refine we_ix ?_ | refine we_sl ?_ | refine we_blt ?_ | refine we_mut ?_ | refine we_call ?_ | refine we_tup ?_ | refine we_lst ?_ | refine we_not ?_ | refine we_and ?_ | refine we_or ?_ | refine we_ite ?_ | refine we_isN ?_ | refine we_isC ?_ | refine we_neg ?_ | refine we_gcon ?_ | refine wa_cons ?_ | refine wa_nil ?_ | refine wp_none ?_ | refine wp_some ?_ | refine wt_not ?_ | refine wt_and ?_ | refine wt_or ?_ | refine wt_nil ?_ | refine wt_one ?_ | refine wi_seq ?_ | refine wi_rng ?_ | refine wi_enum ?_ | refine wi_zip ?_ | refine wi_rev ?_ | refine wo_turn ?_ | refine wt_val rfl ?_ | refine ⟨rfl, ?_⟩ | refine ⟨_, rfl, rfl, ?_⟩ | refine ⟨_, _, rfl, rfl, ?_⟩ | refine ⟨_, _, _, rfl, rfl, rfl, ?_⟩ | refine ⟨_, _, _, rfl, rfl, mul_r (by decide), ?_⟩ | refine ⟨_, _, rfl, ?_⟩ | refine ⟨_, rfl, ?_⟩ | refine br_t ?_ | refine br_f ?_ | refine rt_own rfl ?_)
    exact hR _ _ _ rfl ⟨_, rfl⟩
  · repeat (first | refine wf_cons ?_ | refine wf_asg ?_ | refine wf_iff ?_ | refine wf_ret ?_ | refine wf_ex ?_ | refine wf_setI ?_ | refine wf_aug ?_ | refine wf_asgT ?_ | refine wf_nil ?_ | refine wf_retN ?_ | refine wf_pass ?_ | refine wf_brk ?_ | refine wf_cnt ?_ | refine we_cst ?_ | refine we_d rfl ?_ | refine we_l rfl ?_ | refine we_bin ?_ | refine we_cmp ?_ | refine we_chn ?_ | refine we_ix ?_ | refine we_sl ?_ | refine we_blt ?_ | refine we_mut ?_ | refine we_call ?_ | refine we_tup ?_ | refine we_lst ?_ | refine we_not ?_ | refine we_and ?_ | refine we_or ?_ | refine we_ite ?_ | refine we_isN ?_ | refine we_isC ?_ | refine we_neg ?_ | refine we_gcon ?_ | refine wa_cons ?_ | refine wa_nil ?_ | refine wp_none ?_ | refine wp_some ?_ | refine wt_not ?_ | refine wt_and ?_ | refine wt_or ?_ | refine wt_nil ?_ | refine wt_one ?_ | refine wi_seq ?_ | refine wi_rng ?_ | refine wi_enum ?_ | refine wi_zip ?_ | refine wi_rev ?_ | refine wo_turn ?_ | refine wt_val rfl ?_ | refine ⟨rfl, ?_⟩ | refine ⟨_, rfl, rfl, ?_⟩ | refine ⟨_, _, rfl, rfl, ?_⟩ | refine ⟨_, _, _, rfl, rfl, rfl, ?_⟩ | refine ⟨_, _, _, rfl, rfl, mul_r (by decide), ?_⟩ | refine ⟨_, _, rfl, ?_⟩ | refine ⟨_, rfl, ?_⟩ | refine br_t ?_ | refine br_f ?_ | refine rt_own rfl ?_)
    exact hR _ _ _ rfl ⟨_, rfl⟩
/-! ### the digits -/
def lb_digits (ic : Nat) : Sts :=
  (.cons (.asg (.nm 3) (.lst .nil))
  (.cons (.fr (.nm 4) (.rng (.cons (.loc 1) (.cons (.loc 2) .nil)))
  (.cons (.asg (.nm 5) (.call ic (.cons (.loc 0) (.cons (.loc 4) .nil))))
  (.cons (.iff (.cmp .lt (.loc 5) (.cst (.int 0)))
  (.cons (.asg (.nm 5) (.bin .sub (.cst (.int 1)) (.bin .mul (.cst (.int 2)) (.loc 5)))) .nil) .nil)
  (.cons (.iff (.cmp .ge (.loc 5) (.bin .pow (.cst (.int 10)) (.cst (.int 18))))
  (.cons (.fr (.nm 6) (.rng (.cons (.cst (.int 60)) .nil))
  (.cons (.iff (.cmp .gt (.loc 5) (.cst (.int 0)))
  (.cons (.ex (.mut .append (.loc 3) (.cons (.bin .mod (.blt .int (.cons (.loc 5) .nil)) (.cst (.int 1000))) .nil)))
  (.cons (.asg (.nm 5) (.bin .fdiv (.loc 5) (.cst (.int 1000)))) .nil)) .nil) .nil)) .nil)
  (.cons (.asg (.nm 7) (.bin .mod (.blt .int (.cons (.bin .add (.bin .add (.bin .mul (.loc 5) (.cst (.int 48271))) (.bin .mul (.loc 4) (.cst (.int 69621)))) (.cst (.int 11))) .nil)) (.cst (.int 2147483647))))
  (.cons (.fr (.nm 6) (.rng (.cons (.cst (.int 12)) .nil))
  (.cons (.asg (.nm 7) (.bin .mod (.blt .int (.cons (.bin .add (.bin .add (.bin .mul (.loc 7) (.cst (.int 16807))) (.bin .mul (.cst (.int 7)) (.loc 6))) (.cst (.int 1))) .nil)) (.cst (.int 2147483647))))
  (.cons (.ex (.mut .append (.loc 3) (.cons (.bin .mod (.blt .int (.cons (.bin .fdiv (.loc 7) (.cst (.int 997))) .nil)) (.cst (.int 1000))) .nil))) .nil))) .nil))) .nil))))
  (.cons (.ret (.loc 3)) .nil)))
/-- the slots between two turns -/
def DgI (ns : List Int) (m : Nat) (c : Loc) : Prop := ∃ (ds : List Int) (a4 a5 a6 a7 : Option Vl), ds.length ≤ m ∧ c = [some (.d (.lst (dis ns))), some (.d (.int 0)), some (.d (.int 62)), some (.l (dis ds)), a4, a5, a6, a7]
theorem digits_ok {P : Prg} {w k f ic : Nat} (hc : IsFn P ic 2 2 lb_cell) (h : IsFn P f 3 8 (lb_digits ic)) (hk : 2 ≤ k) (ns : List Int) :
    ∃ cr, run P w k f [.d (.lst (dis ns)), .d (.int 0), .d (.int 62)] = .ok cr ∧ ∃ ds : List Int, cr = ⟨.v (.l (dis ds)), [some (.d (.lst (dis ns))), some (.d (.int 0)), some (.d (.int 62))]⟩ := by
  refine run_by h rfl rfl (by omega) fun k' N R ek hN hR => ?_
  unfold lb_digits
  repeat (first | refine wf_cons ?_ | refine wf_asg ?_ | refine wf_iff ?_ | refine wf_ret ?_ | refine wf_ex ?_ | refine wf_setI ?_ | refine wf_aug ?_ | refine wf_asgT ?_ | refine wf_nil ?_ | refine wf_retN ?_ | refine wf_pass ?_ | refine wf_brk ?_ | refine wf_cnt ?_ | refine we_cst ?_ | refine we_d rfl ?_ | refine we_l rfl ?_ | refine we_bin ?_ | refine we_cmp ?_ | refine we_chn ?_ | refine we_ix ?_ | refine we_sl ?_ | refine we_blt ?_ | refine we_mut ?_ | refine we_call ?_ | refine we_tup ?_ | refine we_lst ?_ | refine we_not ?_ | refine we_and ?_ | refine we_or ?_ | refine we_ite ?_ | refine we_isN ?_ | refine we_isC ?_ | refine we_neg ?_ | refine we_gcon ?_ | refine wa_cons ?_ | refine wa_nil ?_ | refine wp_none ?_ | refine wp_some ?_ | refine wt_not ?_ | refine wt_and ?_ | refine wt_or ?_ | refine wt_nil ?_ | refine wt_one ?_ | refine wi_seq ?_ | refine wi_rng ?_ | refine wi_enum ?_ | refine wi_zip ?_ | refine wi_rev ?_ | refine wo_turn ?_ | refine wt_val rfl ?_ | refine ⟨rfl, ?_⟩ | refine ⟨_, rfl, rfl, ?_⟩ | refine ⟨_, _, rfl, rfl, ?_⟩ | refine ⟨_, _, _, rfl, rfl, rfl, ?_⟩ | refine ⟨_, _, _, rfl, rfl, mul_r (by decide), ?_⟩ | refine ⟨_, _, rfl, ?_⟩ | refine ⟨_, rfl, ?_⟩ | refine br_t ?_ | refine br_f ?_ | refine rt_own rfl ?_)
  refine wf_fr ?_
  repeat (first | refine wf_cons ?_ | refine wf_asg ?_ | refine wf_iff ?_ | refine wf_ret ?_ | refine wf_ex ?_ | refine wf_setI ?_ | refine wf_aug ?_ | refine wf_asgT ?_ | refine wf_nil ?_ | refine wf_retN ?_ | refine wf_pass ?_ | refine wf_brk ?_ | refine wf_cnt ?_ | refine we_cst ?_ | refine we_d rfl ?_ | refine we_l rfl ?_ | refine we_bin ?_ | refine we_cmp ?_ | refine we_chn ?_ | refine we_ix ?_ | refine we_sl ?_ | refine we_blt ?_ | refine we_mut ?_ | refine we_call ?_ | refine we_tup ?_ | refine we_lst ?_ | refine we_not ?_ | refine we_and ?_ | refine we_or ?_ | refine we_ite ?_ | refine we_isN ?_ | refine we_isC ?_ | refine we_neg ?_ | refine we_gcon ?_ | refine wa_cons ?_ | refine wa_nil ?_ | refine wp_none ?_ | refine wp_some ?_ | refine wt_not ?_ | refine wt_and ?_ | refine wt_or ?_ | refine wt_nil ?_ | refine wt_one ?_ | refine wi_seq ?_ | refine wi_rng ?_ | refine wi_enum ?_ | refine wi_zip ?_ | refine wi_rev ?_ | refine wo_turn ?_ | refine wt_val rfl ?_ | refine ⟨rfl, ?_⟩ | refine ⟨_, rfl, rfl, ?_⟩ | refine ⟨_, _, rfl, rfl, ?_⟩ | refine ⟨_, _, _, rfl, rfl, rfl, ?_⟩ | refine ⟨_, _, _, rfl, rfl, mul_r (by decide), ?_⟩ | refine ⟨_, _, rfl, ?_⟩ | refine ⟨_, rfl, ?_⟩ | refine br_t ?_ | refine br_f ?_ | refine rt_own rfl ?_)
  simp only [stillF_nil]
  refine for_inv (fun i c => DgI ns (60 * i) c) ⟨[], none, none, none, none, Nat.zero_le _, rfl⟩ ?_ ?_
  · rintro i d c hi ⟨ds, a4, a5, a6, a7, hds, rfl⟩
    obtain ⟨rfl, hi⟩ := rng_get hi
    refine ⟨_, rfl, ?_⟩
    repeat (first | refine wf_cons ?_ | refine wf_asg ?_ | refine wf_ret ?_ | refine wf_ex ?_ | refine wf_setI ?_ | refine wf_aug ?_ | refine wf_asgT ?_ | refine wf_nil ?_ | refine wf_retN ?_ | refine wf_pass ?_ | refine wf_brk ?_ | refine wf_cnt ?_ | refine we_cst ?_ | refine we_d rfl ?_ | refine we_l rfl ?_ | refine we_bin ?_ | refine we_cmp ?_ | refine we_chn ?_ | refine we_ix ?_ | refine we_sl ?_ | refine we_blt ?_ | refine we_mut ?_ | refine we_call ?_ | refine we_tup ?_ | refine we_lst ?_ | refine we_not ?_ | refine we_and ?_ | refine we_or ?_ | refine we_ite ?_ | refine we_isN ?_ | refine we_isC ?_ | refine we_neg ?_ | refine we_gcon ?_ | refine wa_cons ?_ | refine wa_nil ?_ | refine wp_none ?_ | refine wp_some ?_ | refine wt_not ?_ | refine wt_and ?_ | refine wt_or ?_ | refine wt_nil ?_ | refine wt_one ?_ | refine wi_seq ?_ | refine wi_rng ?_ | refine wi_enum ?_ | refine wi_zip ?_ | refine wi_rev ?_ | refine wo_turn ?_ | refine wt_val rfl ?_ | refine ⟨rfl, ?_⟩ | refine ⟨_, rfl, rfl, ?_⟩ | refine ⟨_, _, rfl, rfl, ?_⟩ | refine ⟨_, _, _, rfl, rfl, rfl, ?_⟩ | refine ⟨_, _, _, rfl, rfl, mul_r (by decide), ?_⟩ | refine ⟨_, _, rfl, ?_⟩ | refine ⟨_, rfl, ?_⟩ | refine br_t ?_ | refine br_f ?_ | refine rt_own rfl ?_)
    obtain ⟨_, hz, z, rfl⟩ := cell_ok (w := w) (k := k') hc (by omega) ns i
    refine we_callV (by rw [Int.zero_add]; exact hz) rfl rfl rfl ?_
    repeat (first | refine wf_cons ?_ | refine wf_asg ?_ | refine wf_ret ?_ | refine wf_ex ?_ | refine wf_setI ?_ | refine wf_aug ?_ | refine wf_asgT ?_ | refine wf_nil ?_ | refine wf_retN ?_ | refine wf_pass ?_ | refine wf_brk ?_ | refine wf_cnt ?_ | refine we_cst ?_ | refine we_d rfl ?_ | refine we_l rfl ?_ | refine we_bin ?_ | refine we_cmp ?_ | refine we_chn ?_ | refine we_ix ?_ | refine we_sl ?_ | refine we_blt ?_ | refine we_mut ?_ | refine we_call ?_ | refine we_tup ?_ | refine we_lst ?_ | refine we_not ?_ | refine we_and ?_ | refine we_or ?_ | refine we_ite ?_ | refine we_isN ?_ | refine we_isC ?_ | refine we_neg ?_ | refine we_gcon ?_ | refine wa_cons ?_ | refine wa_nil ?_ | refine wp_none ?_ | refine wp_some ?_ | refine wt_not ?_ | refine wt_and ?_ | refine wt_or ?_ | refine wt_nil ?_ | refine wt_one ?_ | refine wi_seq ?_ | refine wi_rng ?_ | refine wi_enum ?_ | refine wi_zip ?_ | refine wi_rev ?_ | refine wo_turn ?_ | refine wt_val rfl ?_ | refine ⟨rfl, ?_⟩ | refine ⟨_, rfl, rfl, ?_⟩ | refine ⟨_, _, rfl, rfl, ?_⟩ | refine ⟨_, _, _, rfl, rfl, rfl, ?_⟩ | refine ⟨_, _, _, rfl, rfl, mul_r (by decide), ?_⟩ | refine ⟨_, _, rfl, ?_⟩ | refine ⟨_, rfl, ?_⟩ | refine br_t ?_ | refine br_f ?_ | refine rt_own rfl ?_)
    refine wf_cut (fun c => ∃ z, c = [some (.d (.lst (dis ns))), some (.d (.int 0)), some (.d (.int 62)), some (.l (dis ds)), some (.d (.int (0 + (i : Int)))), some (.d (.int z)), a6, a7]) ?_ ?_
    · repeat (first | refine wf_cons ?_ | refine wf_asg ?_ | refine wf_iff ?_ | refine wf_ret ?_ | refine wf_ex ?_ | refine wf_setI ?_ | refine wf_aug ?_ | refine wf_asgT ?_ | refine wf_nil ?_ | refine wf_retN ?_ | refine wf_pass ?_ | refine wf_brk ?_ | refine wf_cnt ?_ | refine we_cst ?_ | refine we_d rfl ?_ | refine we_l rfl ?_ | refine we_bin ?_ | refine we_cmp ?_ | refine we_chn ?_ | refine we_ix ?_ | refine we_sl ?_ | refine we_blt ?_ | refine we_mut ?_ | refine we_call ?_ | refine we_tup ?_ | refine we_lst ?_ | refine we_not ?_ | refine we_and ?_ | refine we_or ?_ | refine we_ite ?_ | refine we_isN ?_ | refine we_isC ?_ | refine we_neg ?_ | refine we_gcon ?_ | refine wa_cons ?_ | refine wa_nil ?_ | refine wp_none ?_ | refine wp_some ?_ | refine wt_not ?_ | refine wt_and ?_ | refine wt_or ?_ | refine wt_nil ?_ | refine wt_one ?_ | refine wi_seq ?_ | refine wi_rng ?_ | refine wi_enum ?_ | refine wi_zip ?_ | refine wi_rev ?_ | refine wo_turn ?_ | refine wt_val rfl ?_ | refine ⟨rfl, ?_⟩ | refine ⟨_, rfl, rfl, ?_⟩ | refine ⟨_, _, rfl, rfl, ?_⟩ | refine ⟨_, _, _, rfl, rfl, rfl, ?_⟩ | refine ⟨_, _, _, rfl, rfl, mul_r (by decide), ?_⟩ | refine ⟨_, _, rfl, ?_⟩ | refine ⟨_, rfl, ?_⟩ | refine br_t ?_ | refine br_f ?_ | refine rt_own rfl ?_)
      refine ⟨fun hb => ?_, fun hb => ?_⟩
      · repeat (first | refine wf_cons ?_ | refine wf_asg ?_ | refine wf_iff ?_ | refine wf_ret ?_ | refine wf_ex ?_ | refine wf_setI ?_ | refine wf_aug ?_ | refine wf_asgT ?_ | refine wf_nil ?_ | refine wf_retN ?_ | refine wf_pass ?_ | refine wf_brk ?_ | refine wf_cnt ?_ | refine we_cst ?_ | refine we_d rfl ?_ | refine we_l rfl ?_ | refine we_bin ?_ | refine we_cmp ?_ | refine we_chn ?_ | refine we_ix ?_ | refine we_sl ?_ | refine we_blt ?_ | refine we_mut ?_ | refine we_call ?_ | refine we_tup ?_ | refine we_lst ?_ | refine we_not ?_ | refine we_and ?_ | refine we_or ?_ | refine we_ite ?_ | refine we_isN ?_ | refine we_isC ?_ | refine we_neg ?_ | refine we_gcon ?_ | refine wa_cons ?_ | refine wa_nil ?_ | refine wp_none ?_ | refine wp_some ?_ | refine wt_not ?_ | refine wt_and ?_ | refine wt_or ?_ | refine wt_nil ?_ | refine wt_one ?_ | refine wi_seq ?_ | refine wi_rng ?_ | refine wi_enum ?_ | refine wi_zip ?_ | refine wi_rev ?_ | refine wo_turn ?_ | refine wt_val rfl ?_ | refine ⟨rfl, ?_⟩ | refine ⟨_, rfl, rfl, ?_⟩ | refine ⟨_, _, rfl, rfl, ?_⟩ | refine ⟨_, _, _, rfl, rfl, rfl, ?_⟩ | refine ⟨_, _, _, rfl, rfl, mul_r (by decide), ?_⟩ | refine ⟨_, _, rfl, ?_⟩ | refine ⟨_, rfl, ?_⟩ | refine br_t ?_ | refine br_f ?_ | refine rt_own rfl ?_)
        exact ⟨_, rfl⟩
      · repeat (first | refine wf_cons ?_ | refine wf_asg ?_ | refine wf_iff ?_ | refine wf_ret ?_ | refine wf_ex ?_ | refine wf_setI ?_ | refine wf_aug ?_ | refine wf_asgT ?_ | refine wf_nil ?_ | refine wf_retN ?_ | refine wf_pass ?_ | refine wf_brk ?_ | refine wf_cnt ?_ | refine we_cst ?_ | refine we_d rfl ?_ | refine we_l rfl ?_ | refine we_bin ?_ | refine we_cmp ?_ | refine we_chn ?_ | refine we_ix ?_ | refine we_sl ?_ | refine we_blt ?_ | refine we_mut ?_ | refine we_call ?_ | refine we_tup ?_ | refine we_lst ?_ | refine we_not ?_ | refine we_and ?_ | refine we_or ?_ | refine we_ite ?_ | refine we_isN ?_ | refine we_isC ?_ | refine we_neg ?_ | refine we_gcon ?_ | refine wa_cons ?_ | refine wa_nil ?_ | refine wp_none ?_ | refine wp_some ?_ | refine wt_not ?_ | refine wt_and ?_ | refine wt_or ?_ | refine wt_nil ?_ | refine wt_one ?_ | refine wi_seq ?_ | refine wi_rng ?_ | refine wi_enum ?_ | refine wi_zip ?_ | refine wi_rev ?_ | refine wo_turn ?_ | refine wt_val rfl ?_ | refine ⟨rfl, ?_⟩ | refine ⟨_, rfl, rfl, ?_⟩ | refine ⟨_, _, rfl, rfl, ?_⟩ | refine ⟨_, _, _, rfl, rfl, rfl, ?_⟩ | refine ⟨_, _, _, rfl, rfl, mul_r (by decide), ?_⟩ | refine ⟨_, _, rfl, ?_⟩ | refine ⟨_, rfl, ?_⟩ | refine br_t ?_ | refine br_f ?_ | refine rt_own rfl ?_)
        exact ⟨_, rfl⟩
    rintro c ⟨z, rfl⟩
    repeat (first | refine wf_cons ?_ | refine wf_asg ?_ | refine wf_iff ?_ | refine wf_ret ?_ | refine wf_ex ?_ | refine wf_setI ?_ | refine wf_aug ?_ | refine wf_asgT ?_ | refine wf_nil ?_ | refine wf_retN ?_ | refine wf_pass ?_ | refine wf_brk ?_ | refine wf_cnt ?_ | refine we_cst ?_ | refine we_d rfl ?_ | refine we_l rfl ?_ | refine we_bin ?_ | refine we_cmp ?_ | refine we_chn ?_ | refine we_ix ?_ | refine we_sl ?_ | refine we_blt ?_ | refine we_mut ?_ | refine we_call ?_ | refine we_tup ?_ | refine we_lst ?_ | refine we_not ?_ | refine we_and ?_ | refine we_or ?_ | refine we_ite ?_ | refine we_isN ?_ | refine we_isC ?_ | refine we_neg ?_ | refine we_gcon ?_ | refine wa_cons ?_ | refine wa_nil ?_ | refine wp_none ?_ | refine wp_some ?_ | refine wt_not ?_ | refine wt_and ?_ | refine wt_or ?_ | refine wt_nil ?_ | refine wt_one ?_ | refine wi_seq ?_ | refine wi_rng ?_ | refine wi_enum ?_ | refine wi_zip ?_ | refine wi_rev ?_ | refine wo_turn ?_ | refine wt_val rfl ?_ | refine ⟨rfl, ?_⟩ | refine ⟨_, rfl, rfl, ?_⟩ | refine ⟨_, _, rfl, rfl, ?_⟩ | refine ⟨_, _, _, rfl, rfl, rfl, ?_⟩ | refine ⟨_, _, _, rfl, rfl, mul_r (by decide), ?_⟩ | refine ⟨_, _, rfl, ?_⟩ | refine ⟨_, rfl, ?_⟩ | refine br_t ?_ | refine br_f ?_ | refine rt_own rfl ?_)
    refine ⟨fun hb => ?_, fun hb => ?_⟩
    · repeat (first | refine wf_cons ?_ | refine wf_asg ?_ | refine wf_iff ?_ | refine wf_ret ?_ | refine wf_ex ?_ | refine wf_setI ?_ | refine wf_aug ?_ | refine wf_asgT ?_ | refine wf_nil ?_ | refine wf_retN ?_ | refine wf_pass ?_ | refine wf_brk ?_ | refine wf_cnt ?_ | refine we_cst ?_ | refine we_d rfl ?_ | refine we_l rfl ?_ | refine we_bin ?_ | refine we_cmp ?_ | refine we_chn ?_ | refine we_ix ?_ | refine we_sl ?_ | refine we_blt ?_ | refine we_mut ?_ | refine we_call ?_ | refine we_tup ?_ | refine we_lst ?_ | refine we_not ?_ | refine we_and ?_ | refine we_or ?_ | refine we_ite ?_ | refine we_isN ?_ | refine we_isC ?_ | refine we_neg ?_ | refine we_gcon ?_ | refine wa_cons ?_ | refine wa_nil ?_ | refine wp_none ?_ | refine wp_some ?_ | refine wt_not ?_ | refine wt_and ?_ | refine wt_or ?_ | refine wt_nil ?_ | refine wt_one ?_ | refine wi_seq ?_ | refine wi_rng ?_ | refine wi_enum ?_ | refine wi_zip ?_ | refine wi_rev ?_ | refine wo_turn ?_ | refine wt_val rfl ?_ | refine ⟨rfl, ?_⟩ | refine ⟨_, rfl, rfl, ?_⟩ | refine ⟨_, _, rfl, rfl, ?_⟩ | refine ⟨_, _, _, rfl, rfl, rfl, ?_⟩ | refine ⟨_, _, _, rfl, rfl, mul_r (by decide), ?_⟩ | refine ⟨_, _, rfl, ?_⟩ | refine ⟨_, rfl, ?_⟩ | refine br_t ?_ | refine br_f ?_ | refine rt_own rfl ?_)
      refine wf_fr ?_
      repeat (first | refine wf_cons ?_ | refine wf_asg ?_ | refine wf_iff ?_ | refine wf_ret ?_ | refine wf_ex ?_ | refine wf_setI ?_ | refine wf_aug ?_ | refine wf_asgT ?_ | refine wf_nil ?_ | refine wf_retN ?_ | refine wf_pass ?_ | refine wf_brk ?_ | refine wf_cnt ?_ | refine we_cst ?_ | refine we_d rfl ?_ | refine we_l rfl ?_ | refine we_bin ?_ | refine we_cmp ?_ | refine we_chn ?_ | refine we_ix ?_ | refine we_sl ?_ | refine we_blt ?_ | refine we_mut ?_ | refine we_call ?_ | refine we_tup ?_ | refine we_lst ?_ | refine we_not ?_ | refine we_and ?_ | refine we_or ?_ | refine we_ite ?_ | refine we_isN ?_ | refine we_isC ?_ | refine we_neg ?_ | refine we_gcon ?_ | refine wa_cons ?_ | refine wa_nil ?_ | refine wp_none ?_ | refine wp_some ?_ | refine wt_not ?_ | refine wt_and ?_ | refine wt_or ?_ | refine wt_nil ?_ | refine wt_one ?_ | refine wi_seq ?_ | refine wi_rng ?_ | refine wi_enum ?_ | refine wi_zip ?_ | refine wi_rev ?_ | refine wo_turn ?_ | refine wt_val rfl ?_ | refine ⟨rfl, ?_⟩ | refine ⟨_, rfl, rfl, ?_⟩ | refine ⟨_, _, rfl, rfl, ?_⟩ | refine ⟨_, _, _, rfl, rfl, rfl, ?_⟩ | refine ⟨_, _, _, rfl, rfl, mul_r (by decide), ?_⟩ | refine ⟨_, _, rfl, ?_⟩ | refine ⟨_, rfl, ?_⟩ | refine br_t ?_ | refine br_f ?_ | refine rt_own rfl ?_)
      simp only [stillF_nil]
      refine for_inv (fun j c => ∃ (es : List Int) (z : Int) (a6 : Option Vl), es.length ≤ 60 * i + j ∧ c = [some (.d (.lst (dis ns))), some (.d (.int 0)), some (.d (.int 62)), some (.l (dis es)), some (.d (.int (0 + (i : Int)))), some (.d (.int z)), a6, a7]) ⟨ds, _, _, hds, rfl⟩ ?_ ?_
      · rintro j d c hj ⟨es, z, a6, hes, rfl⟩
        obtain ⟨rfl, hj⟩ := rng_get hj
        refine ⟨_, rfl, ?_⟩
        repeat (first | refine wf_cons ?_ | refine wf_asg ?_ | refine wf_iff ?_ | refine wf_ret ?_ | refine wf_ex ?_ | refine wf_setI ?_ | refine wf_aug ?_ | refine wf_asgT ?_ | refine wf_nil ?_ | refine wf_retN ?_ | refine wf_pass ?_ | refine wf_brk ?_ | refine wf_cnt ?_ | refine we_cst ?_ | refine we_d rfl ?_ | refine we_l rfl ?_ | refine we_bin ?_ | refine we_cmp ?_ | refine we_chn ?_ | refine we_ix ?_ | refine we_sl ?_ | refine we_blt ?_ | refine we_mut ?_ | refine we_call ?_ | refine we_tup ?_ | refine we_lst ?_ | refine we_not ?_ | refine we_and ?_ | refine we_or ?_ | refine we_ite ?_ | refine we_isN ?_ | refine we_isC ?_ | refine we_neg ?_ | refine we_gcon ?_ | refine wa_cons ?_ | refine wa_nil ?_ | refine wp_none ?_ | refine wp_some ?_ | refine wt_not ?_ | refine wt_and ?_ | refine wt_or ?_ | refine wt_nil ?_ | refine wt_one ?_ | refine wi_seq ?_ | refine wi_rng ?_ | refine wi_enum ?_ | refine wi_zip ?_ | refine wi_rev ?_ | refine wo_turn ?_ | refine wt_val rfl ?_ | refine ⟨rfl, ?_⟩ | refine ⟨_, rfl, rfl, ?_⟩ | refine ⟨_, _, rfl, rfl, ?_⟩ | refine ⟨_, _, _, rfl, rfl, rfl, ?_⟩ | refine ⟨_, _, _, rfl, rfl, mul_r (by decide), ?_⟩ | refine ⟨_, _, rfl, ?_⟩ | refine ⟨_, rfl, ?_⟩ | refine br_t ?_ | refine br_f ?_ | refine rt_own rfl ?_)
        refine ⟨fun hb => ?_, fun hb => ?_⟩
        · repeat (first | refine wf_cons ?_ | refine wf_asg ?_ | refine wf_iff ?_ | refine wf_ret ?_ | refine wf_ex ?_ | refine wf_setI ?_ | refine wf_aug ?_ | refine wf_asgT ?_ | refine wf_nil ?_ | refine wf_retN ?_ | refine wf_pass ?_ | refine wf_brk ?_ | refine wf_cnt ?_ | refine we_cst ?_ | refine we_d rfl ?_ | refine we_l rfl ?_ | refine we_bin ?_ | refine we_cmp ?_ | refine we_chn ?_ | refine we_ix ?_ | refine we_sl ?_ | refine we_blt ?_ | refine we_mut ?_ | refine we_call ?_ | refine we_tup ?_ | refine we_lst ?_ | refine we_not ?_ | refine we_and ?_ | refine we_or ?_ | refine we_ite ?_ | refine we_isN ?_ | refine we_isC ?_ | refine we_neg ?_ | refine we_gcon ?_ | refine wa_cons ?_ | refine wa_nil ?_ | refine wp_none ?_ | refine wp_some ?_ | refine wt_not ?_ | refine wt_and ?_ | refine wt_or ?_ | refine wt_nil ?_ | refine wt_one ?_ | refine wi_seq ?_ | refine wi_rng ?_ | refine wi_enum ?_ | refine wi_zip ?_ | refine wi_rev ?_ | refine wo_turn ?_ | refine wt_val rfl ?_ | refine ⟨rfl, ?_⟩ | refine ⟨_, rfl, rfl, ?_⟩ | refine ⟨_, _, rfl, rfl, ?_⟩ | refine ⟨_, _, _, rfl, rfl, rfl, ?_⟩ | refine ⟨_, _, _, rfl, rfl, mul_r (by decide), ?_⟩ | refine ⟨_, _, rfl, ?_⟩ | refine ⟨_, rfl, ?_⟩ | refine br_t ?_ | refine br_f ?_ | refine rt_own rfl ?_)
          refine ⟨_, _, _, _, _, _, rfl, rfl, mutA (fits_of (by simp; omega)), rfl, ?_⟩
          repeat (first | refine wf_cons ?_ | refine wf_asg ?_ | refine wf_iff ?_ | refine wf_ret ?_ | refine wf_ex ?_ | refine wf_setI ?_ | refine wf_aug ?_ | refine wf_asgT ?_ | refine wf_nil ?_ | refine wf_retN ?_ | refine wf_pass ?_ | refine wf_brk ?_ | refine wf_cnt ?_ | refine we_cst ?_ | refine we_d rfl ?_ | refine we_l rfl ?_ | refine we_bin ?_ | refine we_cmp ?_ | refine we_chn ?_ | refine we_ix ?_ | refine we_sl ?_ | refine we_blt ?_ | refine we_mut ?_ | refine we_call ?_ | refine we_tup ?_ | refine we_lst ?_ | refine we_not ?_ | refine we_and ?_ | refine we_or ?_ | refine we_ite ?_ | refine we_isN ?_ | refine we_isC ?_ | refine we_neg ?_ | refine we_gcon ?_ | refine wa_cons ?_ | refine wa_nil ?_ | refine wp_none ?_ | refine wp_some ?_ | refine wt_not ?_ | refine wt_and ?_ | refine wt_or ?_ | refine wt_nil ?_ | refine wt_one ?_ | refine wi_seq ?_ | refine wi_rng ?_ | refine wi_enum ?_ | refine wi_zip ?_ | refine wi_rev ?_ | refine wo_turn ?_ | refine wt_val rfl ?_ | refine ⟨rfl, ?_⟩ | refine ⟨_, rfl, rfl, ?_⟩ | refine ⟨_, _, rfl, rfl, ?_⟩ | refine ⟨_, _, _, rfl, rfl, rfl, ?_⟩ | refine ⟨_, _, _, rfl, rfl, mul_r (by decide), ?_⟩ | refine ⟨_, _, rfl, ?_⟩ | refine ⟨_, rfl, ?_⟩ | refine br_t ?_ | refine br_f ?_ | refine rt_own rfl ?_)
          exact ⟨es ++ [z % 1000], _, _, by simp; omega, by rw [dis_snoc]; rfl⟩
        · repeat (first | refine wf_cons ?_ | refine wf_asg ?_ | refine wf_iff ?_ | refine wf_ret ?_ | refine wf_ex ?_ | refine wf_setI ?_ | refine wf_aug ?_ | refine wf_asgT ?_ | refine wf_nil ?_ | refine wf_retN ?_ | refine wf_pass ?_ | refine wf_brk ?_ | refine wf_cnt ?_ | refine we_cst ?_ | refine we_d rfl ?_ | refine we_l rfl ?_ | refine we_bin ?_ | refine we_cmp ?_ | refine we_chn ?_ | refine we_ix ?_ | refine we_sl ?_ | refine we_blt ?_ | refine we_mut ?_ | refine we_call ?_ | refine we_tup ?_ | refine we_lst ?_ | refine we_not ?_ | refine we_and ?_ | refine we_or ?_ | refine we_ite ?_ | refine we_isN ?_ | refine we_isC ?_ | refine we_neg ?_ | refine we_gcon ?_ | refine wa_cons ?_ | refine wa_nil ?_ | refine wp_none ?_ | refine wp_some ?_ | refine wt_not ?_ | refine wt_and ?_ | refine wt_or ?_ | refine wt_nil ?_ | refine wt_one ?_ | refine wi_seq ?_ | refine wi_rng ?_ | refine wi_enum ?_ | refine wi_zip ?_ | refine wi_rev ?_ | refine wo_turn ?_ | refine wt_val rfl ?_ | refine ⟨rfl, ?_⟩ | refine ⟨_, rfl, rfl, ?_⟩ | refine ⟨_, _, rfl, rfl, ?_⟩ | refine ⟨_, _, _, rfl, rfl, rfl, ?_⟩ | refine ⟨_, _, _, rfl, rfl, mul_r (by decide), ?_⟩ | refine ⟨_, _, rfl, ?_⟩ | refine ⟨_, rfl, ?_⟩ | refine br_t ?_ | refine br_f ?_ | refine rt_own rfl ?_)
          exact ⟨es, _, _, by omega, rfl⟩
      · rintro c ⟨es, z, a6, hes, rfl⟩
        repeat (first | refine wf_cons ?_ | refine wf_asg ?_ | refine wf_iff ?_ | refine wf_ret ?_ | refine wf_ex ?_ | refine wf_setI ?_ | refine wf_aug ?_ | refine wf_asgT ?_ | refine wf_nil ?_ | refine wf_retN ?_ | refine wf_pass ?_ | refine wf_brk ?_ | refine wf_cnt ?_ | refine we_cst ?_ | refine we_d rfl ?_ | refine we_l rfl ?_ | refine we_bin ?_ | refine we_cmp ?_ | refine we_chn ?_ | refine we_ix ?_ | refine we_sl ?_ | refine we_blt ?_ | refine we_mut ?_ | refine we_call ?_ | refine we_tup ?_ | refine we_lst ?_ | refine we_not ?_ | refine we_and ?_ | refine we_or ?_ | refine we_ite ?_ | refine we_isN ?_ | refine we_isC ?_ | refine we_neg ?_ | refine we_gcon ?_ | refine wa_cons ?_ | refine wa_nil ?_ | refine wp_none ?_ | refine wp_some ?_ | refine wt_not ?_ | refine wt_and ?_ | refine wt_or ?_ | refine wt_nil ?_ | refine wt_one ?_ | refine wi_seq ?_ | refine wi_rng ?_ | refine wi_enum ?_ | refine wi_zip ?_ | refine wi_rev ?_ | refine wo_turn ?_ | refine wt_val rfl ?_ | refine ⟨rfl, ?_⟩ | refine ⟨_, rfl, rfl, ?_⟩ | refine ⟨_, _, rfl, rfl, ?_⟩ | refine ⟨_, _, _, rfl, rfl, rfl, ?_⟩ | refine ⟨_, _, _, rfl, rfl, mul_r (by decide), ?_⟩ | refine ⟨_, _, rfl, ?_⟩ | refine ⟨_, rfl, ?_⟩ | refine br_t ?_ | refine br_f ?_ | refine rt_own rfl ?_)
        exact ⟨es, _, _, _, _, by simp [rngI] at hes; omega, rfl⟩
    · repeat (first | refine wf_cons ?_ | refine wf_asg ?_ | refine wf_iff ?_ | refine wf_ret ?_ | refine wf_ex ?_ | refine wf_setI ?_ | refine wf_aug ?_ | refine wf_asgT ?_ | refine wf_nil ?_ | refine wf_retN ?_ | refine wf_pass ?_ | refine wf_brk ?_ | refine wf_cnt ?_ | refine we_cst ?_ | refine we_d rfl ?_ | refine we_l rfl ?_ | refine we_bin ?_ | refine we_cmp ?_ | refine we_chn ?_ | refine we_ix ?_ | refine we_sl ?_ | refine we_blt ?_ | refine we_mut ?_ | refine we_call ?_ | refine we_tup ?_ | refine we_lst ?_ | refine we_not ?_ | refine we_and ?_ | refine we_or ?_ | refine we_ite ?_ | refine we_isN ?_ | refine we_isC ?_ | refine we_neg ?_ | refine we_gcon ?_ | refine wa_cons ?_ | refine wa_nil ?_ | refine wp_none ?_ | refine wp_some ?_ | refine wt_not ?_ | refine wt_and ?_ | refine wt_or ?_ | refine wt_nil ?_ | refine wt_one ?_ | refine wi_seq ?_ | refine wi_rng ?_ | refine wi_enum ?_ | refine wi_zip ?_ | refine wi_rev ?_ | refine wo_turn ?_ | refine wt_val rfl ?_ | refine ⟨rfl, ?_⟩ | refine ⟨_, rfl, rfl, ?_⟩ | refine ⟨_, _, rfl, rfl, ?_⟩ | refine ⟨_, _, _, rfl, rfl, rfl, ?_⟩ | refine ⟨_, _, _, rfl, rfl, mul_r (by decide), ?_⟩ | refine ⟨_, _, rfl, ?_⟩ | refine ⟨_, rfl, ?_⟩ | refine br_t ?_ | refine br_f ?_ | refine rt_own rfl ?_)
      refine wf_fr ?_
      repeat (first | refine wf_cons ?_ | refine wf_asg ?_ | refine wf_iff ?_ | refine wf_ret ?_ | refine wf_ex ?_ | refine wf_setI ?_ | refine wf_aug ?_ | refine wf_asgT ?_ | refine wf_nil ?_ | refine wf_retN ?_ | refine wf_pass ?_ | refine wf_brk ?_ | refine wf_cnt ?_ | refine we_cst ?_ | refine we_d rfl ?_ | refine we_l rfl ?_ | refine we_bin ?_ | refine we_cmp ?_ | refine we_chn ?_ | refine we_ix ?_ | refine we_sl ?_ | refine we_blt ?_ | refine we_mut ?_ | refine we_call ?_ | refine we_tup ?_ | refine we_lst ?_ | refine we_not ?_ | refine we_and ?_ | refine we_or ?_ | refine we_ite ?_ | refine we_isN ?_ | refine we_isC ?_ | refine we_neg ?_ | refine we_gcon ?_ | refine wa_cons ?_ | refine wa_nil ?_ | refine wp_none ?_ | refine wp_some ?_ | refine wt_not ?_ | refine wt_and ?_ | refine wt_or ?_ | refine wt_nil ?_ | refine wt_one ?_ | refine wi_seq ?_ | refine wi_rng ?_ | refine wi_enum ?_ | refine wi_zip ?_ | refine wi_rev ?_ | refine wo_turn ?_ | refine wt_val rfl ?_ | refine ⟨rfl, ?_⟩ | refine ⟨_, rfl, rfl, ?_⟩ | refine ⟨_, _, rfl, rfl, ?_⟩ | refine ⟨_, _, _, rfl, rfl, rfl, ?_⟩ | refine ⟨_, _, _, rfl, rfl, mul_r (by decide), ?_⟩ | refine ⟨_, _, rfl, ?_⟩ | refine ⟨_, rfl, ?_⟩ | refine br_t ?_ | refine br_f ?_ | refine rt_own rfl ?_)
      simp only [stillF_nil]
      refine for_inv (fun j c => ∃ (es : List Int) (z z7 : Int) (a6 : Option Vl), es.length ≤ 60 * i + j ∧ c = [some (.d (.lst (dis ns))), some (.d (.int 0)), some (.d (.int 62)), some (.l (dis es)), some (.d (.int (0 + (i : Int)))), some (.d (.int z)), a6, some (.d (.int z7))]) ⟨ds, _, _, _, hds, rfl⟩ ?_ ?_
      · rintro j d c hj ⟨es, z, z7, a6, hes, rfl⟩
        obtain ⟨rfl, hj⟩ := rng_get hj
        refine ⟨_, rfl, ?_⟩
        repeat (first | refine wf_cons ?_ | refine wf_asg ?_ | refine wf_iff ?_ | refine wf_ret ?_ | refine wf_ex ?_ | refine wf_setI ?_ | refine wf_aug ?_ | refine wf_asgT ?_ | refine wf_nil ?_ | refine wf_retN ?_ | refine wf_pass ?_ | refine wf_brk ?_ | refine wf_cnt ?_ | refine we_cst ?_ | refine we_d rfl ?_ | refine we_l rfl ?_ | refine we_bin ?_ | refine we_cmp ?_ | refine we_chn ?_ | refine we_ix ?_ | refine we_sl ?_ | refine we_blt ?_ | refine we_mut ?_ | refine we_call ?_ | refine we_tup ?_ | refine we_lst ?_ | refine we_not ?_ | refine we_and ?_ | refine we_or ?_ | refine we_ite ?_ | refine we_isN ?_ | refine we_isC ?_ | refine we_neg ?_ | refine we_gcon ?_ | refine wa_cons ?_ | refine wa_nil ?_ | refine wp_none ?_ | refine wp_some ?_ | refine wt_not ?_ | refine wt_and ?_ | refine wt_or ?_ | refine wt_nil ?_ | refine wt_one ?_ | refine wi_seq ?_ | refine wi_rng ?_ | refine wi_enum ?_ | refine wi_zip ?_ | refine wi_rev ?_ | refine wo_turn ?_ | refine wt_val rfl ?_ | refine ⟨rfl, ?_⟩ | refine ⟨_, rfl, rfl, ?_⟩ | refine ⟨_, _, rfl, rfl, ?_⟩ | refine ⟨_, _, _, rfl, rfl, rfl, ?_⟩ | refine ⟨_, _, _, rfl, rfl, mul_r (by decide), ?_⟩ | refine ⟨_, _, rfl, ?_⟩ | refine ⟨_, rfl, ?_⟩ | refine br_t ?_ | refine br_f ?_ | refine rt_own rfl ?_)
        refine ⟨_, _, _, _, _, _, rfl, rfl, mutA (fits_of (by simp; omega)), rfl, ?_⟩
        repeat (first | refine wf_cons ?_ | refine wf_asg ?_ | refine wf_iff ?_ | refine wf_ret ?_ | refine wf_ex ?_ | refine wf_setI ?_ | refine wf_aug ?_ | refine wf_asgT ?_ | refine wf_nil ?_ | refine wf_retN ?_ | refine wf_pass ?_ | refine wf_brk ?_ | refine wf_cnt ?_ | refine we_cst ?_ | refine we_d rfl ?_ | refine we_l rfl ?_ | refine we_bin ?_ | refine we_cmp ?_ | refine we_chn ?_ | refine we_ix ?_ | refine we_sl ?_ | refine we_blt ?_ | refine we_mut ?_ | refine we_call ?_ | refine we_tup ?_ | refine we_lst ?_ | refine we_not ?_ | refine we_and ?_ | refine we_or ?_ | refine we_ite ?_ | refine we_isN ?_ | refine we_isC ?_ | refine we_neg ?_ | refine we_gcon ?_ | refine wa_cons ?_ | refine wa_nil ?_ | refine wp_none ?_ | refine wp_some ?_ | refine wt_not ?_ | refine wt_and ?_ | refine wt_or ?_ | refine wt_nil ?_ | refine wt_one ?_ | refine wi_seq ?_ | refine wi_rng ?_ | refine wi_enum ?_ | refine wi_zip ?_ | refine wi_rev ?_ | refine wo_turn ?_ | refine wt_val rfl ?_ | refine ⟨rfl, ?_⟩ | refine ⟨_, rfl, rfl, ?_⟩ | refine ⟨_, _, rfl, rfl, ?_⟩ | refine ⟨_, _, _, rfl, rfl, rfl, ?_⟩ | refine ⟨_, _, _, rfl, rfl, mul_r (by decide), ?_⟩ | refine ⟨_, _, rfl, ?_⟩ | refine ⟨_, rfl, ?_⟩ | refine br_t ?_ | refine br_f ?_ | refine rt_own rfl ?_)
        exact ⟨es ++ [_], _, _, _, by simp; omega, by rw [dis_snoc]; rfl⟩
      · rintro c ⟨es, z, z7, a6, hes, rfl⟩
        repeat (first | refine wf_cons ?_ | refine wf_asg ?_ | refine wf_iff ?_ | refine wf_ret ?_ | refine wf_ex ?_ | refine wf_setI ?_ | refine wf_aug ?_ | refine wf_asgT ?_ | refine wf_nil ?_ | refine wf_retN ?_ | refine wf_pass ?_ | refine wf_brk ?_ | refine wf_cnt ?_ | refine we_cst ?_ | refine we_d rfl ?_ | refine we_l rfl ?_ | refine we_bin ?_ | refine we_cmp ?_ | refine we_chn ?_ | refine we_ix ?_ | refine we_sl ?_ | refine we_blt ?_ | refine we_mut ?_ | refine we_call ?_ | refine we_tup ?_ | refine we_lst ?_ | refine we_not ?_ | refine we_and ?_ | refine we_or ?_ | refine we_ite ?_ | refine we_isN ?_ | refine we_isC ?_ | refine we_neg ?_ | refine we_gcon ?_ | refine wa_cons ?_ | refine wa_nil ?_ | refine wp_none ?_ | refine wp_some ?_ | refine wt_not ?_ | refine wt_and ?_ | refine wt_or ?_ | refine wt_nil ?_ | refine wt_one ?_ | refine wi_seq ?_ | refine wi_rng ?_ | refine wi_enum ?_ | refine wi_zip ?_ | refine wi_rev ?_ | refine wo_turn ?_ | refine wt_val rfl ?_ | refine ⟨rfl, ?_⟩ | refine ⟨_, rfl, rfl, ?_⟩ | refine ⟨_, _, rfl, rfl, ?_⟩ | refine ⟨_, _, _, rfl, rfl, rfl, ?_⟩ | refine ⟨_, _, _, rfl, rfl, mul_r (by decide), ?_⟩ | refine ⟨_, _, rfl, ?_⟩ | refine ⟨_, rfl, ?_⟩ | refine br_t ?_ | refine br_f ?_ | refine rt_own rfl ?_)
        exact ⟨es, _, _, _, _, by simp [rngI] at hes; omega, rfl⟩
  · rintro c ⟨ds, a4, a5, a6, a7, hds, rfl⟩
    repeat (first | refine wf_cons ?_ | refine wf_asg ?_ | refine wf_iff ?_ | refine wf_ret ?_ | refine wf_ex ?_ | refine wf_setI ?_ | refine wf_aug ?_ | refine wf_asgT ?_ | refine wf_nil ?_ | refine wf_retN ?_ | refine wf_pass ?_ | refine wf_brk ?_ | refine wf_cnt ?_ | refine we_cst ?_ | refine we_d rfl ?_ | refine we_l rfl ?_ | refine we_bin ?_ | refine we_cmp ?_ | refine we_chn ?_ | refine we_ix ?_ | refine we_sl ?_ | refine we_blt ?_ | refine we_mut ?_ | refine we_call ?_ | refine we_tup ?_ | refine we_lst ?_ | refine we_not ?_ | refine we_and ?_ | refine we_or ?_ | refine we_ite ?_ | refine we_isN ?_ | refine we_isC ?_ | refine we_neg ?_ | refine we_gcon ?_ | refine wa_cons ?_ | refine wa_nil ?_ | refine wp_none ?_ | refine wp_some ?_ | refine wt_not ?_ | refine wt_and ?_ | refine wt_or ?_ | refine wt_nil ?_ | refine wt_one ?_ | refine wi_seq ?_ | refine wi_rng ?_ | refine wi_enum ?_ | refine wi_zip ?_ | refine wi_rev ?_ | refine wo_turn ?_ | refine wt_val rfl ?_ | refine ⟨rfl, ?_⟩ | refine ⟨_, rfl, rfl, ?_⟩ | refine ⟨_, _, rfl, rfl, ?_⟩ | refine ⟨_, _, _, rfl, rfl, rfl, ?_⟩ | refine ⟨_, _, _, rfl, rfl, mul_r (by decide), ?_⟩ | refine ⟨_, _, rfl, ?_⟩ | refine ⟨_, rfl, ?_⟩ | refine br_t ?_ | refine br_f ?_ | refine rt_own rfl ?_)
    exact hR _ _ _ rfl ⟨ds, rfl⟩
end G
/-! drawing, boxes, likeness -/
namespace G
open PySem
abbrev bx (ds : List Int) (a : Nat) : Vl := .l [.lst (dis ds), .int a]
def lb_draw : Sts :=
  (.cons (.asg (.nm 2) (.ix (.loc 0) (.cst (.int 1))))
  (.cons (.setI (.loc 0) (.cst (.int 1)) (.bin .add (.loc 2) (.cst (.int 1))))
  (.cons (.iff (.cmp .lt (.loc 2) (.blt .len (.cons (.ix (.loc 0) (.cst (.int 0))) .nil)))
  (.cons (.ret (.bin .mod (.blt .int (.cons (.ix (.ix (.loc 0) (.cst (.int 0))) (.loc 2)) .nil)) (.loc 1))) .nil) .nil)
  (.cons (.ret (.cst (.int 0))) .nil))))
theorem mod_nat {i : Int} {m : Nat} (h : 0 < m) : ∃ r : Nat, r < m ∧ bop .mod (.d (.int i)) (.d (.int m)) = .ok (.d (.int r)) := by
  have h1 : 0 ≤ i % (m : Int) := Int.emod_nonneg _ (by omega)
  have h2 : i % (m : Int) < m := Int.emod_lt_of_pos _ (by omega)
  refine ⟨(i % (m : Int)).toNat, by omega, bnd (gdT (decide_eq_true (by omega))) ?_⟩
  rw [Int.toNat_of_nonneg h1]
theorem draw_ok {P : Prg} {w k f : Nat} (h : IsFn P f 2 3 lb_draw) (hk : 1 ≤ k) (ds : List Int) (a m : Nat) (hm : 0 < m) :
    ∃ cr, run P w k f [bx ds a, .d (.int m)] = .ok cr ∧ ∃ r : Nat, r < m ∧ cr = ⟨.v (.d (.int r)), [some (bx ds (a + 1)), some (.d (.int m))]⟩ := by
  refine run_by h rfl rfl hk fun k' N R ek hN hR => ?_
  unfold lb_draw
  repeat (first | refine wf_cons ?_ | refine wf_asg ?_ | refine wf_iff ?_ | refine wf_ret ?_ | refine wf_ex ?_ | refine wf_setI ?_ | refine wf_aug ?_ | refine wf_asgT ?_ | refine wf_nil ?_ | refine wf_retN ?_ | refine wf_pass ?_ | refine wf_brk ?_ | refine wf_cnt ?_ | refine we_cst ?_ | refine we_d rfl ?_ | refine we_l rfl ?_ | refine we_bin ?_ | refine we_cmp ?_ | refine we_chn ?_ | refine we_ix ?_ | refine we_sl ?_ | refine we_blt ?_ | refine we_mut ?_ | refine we_call ?_ | refine we_tup ?_ | refine we_lst ?_ | refine we_not ?_ | refine we_and ?_ | refine we_or ?_ | refine we_ite ?_ | refine we_isN ?_ | refine we_isC ?_ | refine we_neg ?_ | refine we_gcon ?_ | refine wa_cons ?_ | refine wa_nil ?_ | refine wp_none ?_ | refine wp_some ?_ | refine wt_not ?_ | refine wt_and ?_ | refine wt_or ?_ | refine wt_nil ?_ | refine wt_one ?_ | refine wi_seq ?_ | refine wi_rng ?_ | refine wi_enum ?_ | refine wi_zip ?_ | refine wi_rev ?_ | refine wo_turn ?_ | refine wt_val rfl ?_ | refine ⟨rfl, ?_⟩ | refine ⟨_, rfl, rfl, ?_⟩ | refine ⟨_, _, rfl, rfl, ?_⟩ | refine ⟨_, _, _, rfl, rfl, rfl, ?_⟩ | refine ⟨_, _, _, rfl, rfl, mul_r (by decide), ?_⟩ | refine ⟨_, _, rfl, ?_⟩ | refine ⟨_, rfl, ?_⟩ | refine br_t ?_ | refine br_f ?_ | refine rt_own rfl ?_)
  refine ⟨fun hb => ?_, fun hb => ?_⟩
  · have hl : a < ds.length := by simpa using hb
    repeat (first | refine wf_cons ?_ | refine wf_asg ?_ | refine wf_iff ?_ | refine wf_ret ?_ | refine wf_ex ?_ | refine wf_setI ?_ | refine wf_aug ?_ | refine wf_asgT ?_ | refine wf_nil ?_ | refine wf_retN ?_ | refine wf_pass ?_ | refine wf_brk ?_ | refine wf_cnt ?_ | refine we_cst ?_ | refine we_d rfl ?_ | refine we_l rfl ?_ | refine we_bin ?_ | refine we_cmp ?_ | refine we_chn ?_ | refine we_ix ?_ | refine we_sl ?_ | refine we_blt ?_ | refine we_mut ?_ | refine we_call ?_ | refine we_tup ?_ | refine we_lst ?_ | refine we_not ?_ | refine we_and ?_ | refine we_or ?_ | refine we_ite ?_ | refine we_isN ?_ | refine we_isC ?_ | refine we_neg ?_ | refine we_gcon ?_ | refine wa_cons ?_ | refine wa_nil ?_ | refine wp_none ?_ | refine wp_some ?_ | refine wt_not ?_ | refine wt_and ?_ | refine wt_or ?_ | refine wt_nil ?_ | refine wt_one ?_ | refine wi_seq ?_ | refine wi_rng ?_ | refine wi_enum ?_ | refine wi_zip ?_ | refine wi_rev ?_ | refine wo_turn ?_ | refine wt_val rfl ?_ | refine ⟨rfl, ?_⟩ | refine ⟨_, rfl, rfl, ?_⟩ | refine ⟨_, _, rfl, rfl, ?_⟩ | refine ⟨_, _, _, rfl, rfl, rfl, ?_⟩ | refine ⟨_, _, _, rfl, rfl, mul_r (by decide), ?_⟩ | refine ⟨_, _, rfl, ?_⟩ | refine ⟨_, rfl, ?_⟩ | refine br_t ?_ | refine br_f ?_ | refine rt_own rfl ?_)
    refine ⟨_, _, _, rfl, rfl, idx_lst (n := a) (d := .int ds[a]) (by simp [hl]), ?_⟩
    repeat (first | refine wf_cons ?_ | refine wf_asg ?_ | refine wf_iff ?_ | refine wf_ret ?_ | refine wf_ex ?_ | refine wf_setI ?_ | refine wf_aug ?_ | refine wf_asgT ?_ | refine wf_nil ?_ | refine wf_retN ?_ | refine wf_pass ?_ | refine wf_brk ?_ | refine wf_cnt ?_ | refine we_cst ?_ | refine we_d rfl ?_ | refine we_l rfl ?_ | refine we_bin ?_ | refine we_cmp ?_ | refine we_chn ?_ | refine we_ix ?_ | refine we_sl ?_ | refine we_blt ?_ | refine we_mut ?_ | refine we_call ?_ | refine we_tup ?_ | refine we_lst ?_ | refine we_not ?_ | refine we_and ?_ | refine we_or ?_ | refine we_ite ?_ | refine we_isN ?_ | refine we_isC ?_ | refine we_neg ?_ | refine we_gcon ?_ | refine wa_cons ?_ | refine wa_nil ?_ | refine wp_none ?_ | refine wp_some ?_ | refine wt_not ?_ | refine wt_and ?_ | refine wt_or ?_ | refine wt_nil ?_ | refine wt_one ?_ | refine wi_seq ?_ | refine wi_rng ?_ | refine wi_enum ?_ | refine wi_zip ?_ | refine wi_rev ?_ | refine wo_turn ?_ | refine wt_val rfl ?_ | refine ⟨rfl, ?_⟩ | refine ⟨_, rfl, rfl, ?_⟩ | refine ⟨_, _, rfl, rfl, ?_⟩ | refine ⟨_, _, _, rfl, rfl, rfl, ?_⟩ | refine ⟨_, _, _, rfl, rfl, mul_r (by decide), ?_⟩ | refine ⟨_, _, rfl, ?_⟩ | refine ⟨_, rfl, ?_⟩ | refine br_t ?_ | refine br_f ?_ | refine rt_own rfl ?_)
    obtain ⟨r, h1, h2⟩ := mod_nat (i := ds[a]) hm
    refine ⟨_, _, _, rfl, rfl, h2, ?_⟩
    repeat (first | refine wf_cons ?_ | refine wf_asg ?_ | refine wf_iff ?_ | refine wf_ret ?_ | refine wf_ex ?_ | refine wf_setI ?_ | refine wf_aug ?_ | refine wf_asgT ?_ | refine wf_nil ?_ | refine wf_retN ?_ | refine wf_pass ?_ | refine wf_brk ?_ | refine wf_cnt ?_ | refine we_cst ?_ | refine we_d rfl ?_ | refine we_l rfl ?_ | refine we_bin ?_ | refine we_cmp ?_ | refine we_chn ?_ | refine we_ix ?_ | refine we_sl ?_ | refine we_blt ?_ | refine we_mut ?_ | refine we_call ?_ | refine we_tup ?_ | refine we_lst ?_ | refine we_not ?_ | refine we_and ?_ | refine we_or ?_ | refine we_ite ?_ | refine we_isN ?_ | refine we_isC ?_ | refine we_neg ?_ | refine we_gcon ?_ | refine wa_cons ?_ | refine wa_nil ?_ | refine wp_none ?_ | refine wp_some ?_ | refine wt_not ?_ | refine wt_and ?_ | refine wt_or ?_ | refine wt_nil ?_ | refine wt_one ?_ | refine wi_seq ?_ | refine wi_rng ?_ | refine wi_enum ?_ | refine wi_zip ?_ | refine wi_rev ?_ | refine wo_turn ?_ | refine wt_val rfl ?_ | refine ⟨rfl, ?_⟩ | refine ⟨_, rfl, rfl, ?_⟩ | refine ⟨_, _, rfl, rfl, ?_⟩ | refine ⟨_, _, _, rfl, rfl, rfl, ?_⟩ | refine ⟨_, _, _, rfl, rfl, mul_r (by decide), ?_⟩ | refine ⟨_, _, rfl, ?_⟩ | refine ⟨_, rfl, ?_⟩ | refine br_t ?_ | refine br_f ?_ | refine rt_own rfl ?_)
    exact hR _ _ _ rfl ⟨r, h1, rfl⟩
  · repeat (first | refine wf_cons ?_ | refine wf_asg ?_ | refine wf_iff ?_ | refine wf_ret ?_ | refine wf_ex ?_ | refine wf_setI ?_ | refine wf_aug ?_ | refine wf_asgT ?_ | refine wf_nil ?_ | refine wf_retN ?_ | refine wf_pass ?_ | refine wf_brk ?_ | refine wf_cnt ?_ | refine we_cst ?_ | refine we_d rfl ?_ | refine we_l rfl ?_ | refine we_bin ?_ | refine we_cmp ?_ | refine we_chn ?_ | refine we_ix ?_ | refine we_sl ?_ | refine we_blt ?_ | refine we_mut ?_ | refine we_call ?_ | refine we_tup ?_ | refine we_lst ?_ | refine we_not ?_ | refine we_and ?_ | refine we_or ?_ | refine we_ite ?_ | refine we_isN ?_ | refine we_isC ?_ | refine we_neg ?_ | refine we_gcon ?_ | refine wa_cons ?_ | refine wa_nil ?_ | refine wp_none ?_ | refine wp_some ?_ | refine wt_not ?_ | refine wt_and ?_ | refine wt_or ?_ | refine wt_nil ?_ | refine wt_one ?_ | refine wi_seq ?_ | refine wi_rng ?_ | refine wi_enum ?_ | refine wi_zip ?_ | refine wi_rev ?_ | refine wo_turn ?_ | refine wt_val rfl ?_ | refine ⟨rfl, ?_⟩ | refine ⟨_, rfl, rfl, ?_⟩ | refine ⟨_, _, rfl, rfl, ?_⟩ | refine ⟨_, _, _, rfl, rfl, rfl, ?_⟩ | refine ⟨_, _, _, rfl, rfl, mul_r (by decide), ?_⟩ | refine ⟨_, _, rfl, ?_⟩ | refine ⟨_, rfl, ?_⟩ | refine br_t ?_ | refine br_f ?_ | refine rt_own rfl ?_)
    exact hR _ _ _ rfl ⟨0, hm, rfl⟩
def lb_box (ig : Nat) : Sts := (.cons (.ret (.lst (.cons (.call ig (.cons (.loc 0) (.cons (.loc 1) (.cons (.loc 2) .nil)))) (.cons (.cst (.int 0)) .nil)))) .nil)
theorem box_ok {P : Prg} {w k f ic ig : Nat} (hc : IsFn P ic 2 2 lb_cell) (hg : IsFn P ig 3 8 (lb_digits ic)) (h : IsFn P f 3 3 (lb_box ig)) (hk : 3 ≤ k) (ns : List Int) :
    ∃ cr, run P w k f [.d (.lst (dis ns)), .d (.int 0), .d (.int 62)] = .ok cr ∧ ∃ ds : List Int, cr = ⟨.v (bx ds 0), [some (.d (.lst (dis ns))), some (.d (.int 0)), some (.d (.int 62))]⟩ := by
  refine run_by h rfl rfl (by omega) fun k' N R ek hN hR => ?_
  unfold lb_box
  repeat (first | refine wf_cons ?_ | refine wf_asg ?_ | refine wf_iff ?_ | refine wf_ret ?_ | refine wf_ex ?_ | refine wf_setI ?_ | refine wf_aug ?_ | refine wf_asgT ?_ | refine wf_nil ?_ | refine wf_retN ?_ | refine wf_pass ?_ | refine wf_brk ?_ | refine wf_cnt ?_ | refine we_cst ?_ | refine we_d rfl ?_ | refine we_l rfl ?_ | refine we_bin ?_ | refine we_cmp ?_ | refine we_chn ?_ | refine we_ix ?_ | refine we_sl ?_ | refine we_blt ?_ | refine we_mut ?_ | refine we_call ?_ | refine we_tup ?_ | refine we_lst ?_ | refine we_not ?_ | refine we_and ?_ | refine we_or ?_ | refine we_ite ?_ | refine we_isN ?_ | refine we_isC ?_ | refine we_neg ?_ | refine we_gcon ?_ | refine wa_cons ?_ | refine wa_nil ?_ | refine wp_none ?_ | refine wp_some ?_ | refine wt_not ?_ | refine wt_and ?_ | refine wt_or ?_ | refine wt_nil ?_ | refine wt_one ?_ | refine wi_seq ?_ | refine wi_rng ?_ | refine wi_enum ?_ | refine wi_zip ?_ | refine wi_rev ?_ | refine wo_turn ?_ | refine wt_val rfl ?_ | refine ⟨rfl, ?_⟩ | refine ⟨_, rfl, rfl, ?_⟩ | refine ⟨_, _, rfl, rfl, ?_⟩ | refine ⟨_, _, _, rfl, rfl, rfl, ?_⟩ | refine ⟨_, _, _, rfl, rfl, mul_r (by decide), ?_⟩ | refine ⟨_, _, rfl, ?_⟩ | refine ⟨_, rfl, ?_⟩ | refine br_t ?_ | refine br_f ?_ | refine rt_own rfl ?_)
  obtain ⟨_, hz, ds, rfl⟩ := digits_ok (w := w) (k := k') hc hg (by omega) ns
  refine we_callV hz rfl rfl rfl ?_
  repeat (first | refine wf_cons ?_ | refine wf_asg ?_ | refine wf_iff ?_ | refine wf_ret ?_ | refine wf_ex ?_ | refine wf_setI ?_ | refine wf_aug ?_ | refine wf_asgT ?_ | refine wf_nil ?_ | refine wf_retN ?_ | refine wf_pass ?_ | refine wf_brk ?_ | refine wf_cnt ?_ | refine we_cst ?_ | refine we_d rfl ?_ | refine we_l rfl ?_ | refine we_bin ?_ | refine we_cmp ?_ | refine we_chn ?_ | refine we_ix ?_ | refine we_sl ?_ | refine we_blt ?_ | refine we_mut ?_ | refine we_call ?_ | refine we_tup ?_ | refine we_lst ?_ | refine we_not ?_ | refine we_and ?_ | refine we_or ?_ | refine we_ite ?_ | refine we_isN ?_ | refine we_isC ?_ | refine we_neg ?_ | refine we_gcon ?_ | refine wa_cons ?_ | refine wa_nil ?_ | refine wp_none ?_ | refine wp_some ?_ | refine wt_not ?_ | refine wt_and ?_ | refine wt_or ?_ | refine wt_nil ?_ | refine wt_one ?_ | refine wi_seq ?_ | refine wi_rng ?_ | refine wi_enum ?_ | refine wi_zip ?_ | refine wi_rev ?_ | refine wo_turn ?_ | refine wt_val rfl ?_ | refine ⟨rfl, ?_⟩ | refine ⟨_, rfl, rfl, ?_⟩ | refine ⟨_, _, rfl, rfl, ?_⟩ | refine ⟨_, _, _, rfl, rfl, rfl, ?_⟩ | refine ⟨_, _, _, rfl, rfl, mul_r (by decide), ?_⟩ | refine ⟨_, _, rfl, ?_⟩ | refine ⟨_, rfl, ?_⟩ | refine br_t ?_ | refine br_f ?_ | refine rt_own rfl ?_)
  exact hR _ _ _ rfl ⟨ds, rfl⟩
/-! ### sizes -/
mutual
def htD : D → Nat
  | .tup ds => htDs ds + 1
  | .lst ds => htDs ds + 1
  | _ => 0
def htDs : List D → Nat
  | [] => 0
  | d :: ds => max (htD d) (htDs ds)
end
mutual
def szD : D → Nat
  | .tup ds => szDs ds + 1
  | .lst ds => szDs ds + 1
  | _ => 1
def szDs : List D → Nat
  | [] => 0
  | d :: ds => szD d + szDs ds
end
theorem ht_mem : ∀ {ds : List D} {d : D}, d ∈ ds → htD d ≤ htDs ds
  | x :: xs, d, h => by
    unfold htDs
    rcases List.mem_cons.mp h with rfl | h
    · exact Nat.le_max_left _ _
    · exact Nat.le_trans (ht_mem h) (Nat.le_max_right _ _)
theorem sz_mem : ∀ {ds : List D} {d : D}, d ∈ ds → szD d ≤ szDs ds
  | x :: xs, d, h => by
    unfold szDs
    rcases List.mem_cons.mp h with rfl | h
    · exact Nat.le_add_right _ _
    · exact Nat.le_trans (sz_mem h) (Nat.le_add_left _ _)
theorem sz_pos : ∀ {d : D}, 0 < szD d
  | .tup _ => Nat.succ_pos _
  | .lst _ => Nat.succ_pos _
  | .non => Nat.one_pos | .bl _ => Nat.one_pos | .int _ => Nat.one_pos | .str _ => Nat.one_pos | .dic _ => Nat.one_pos
theorem sz_len : ∀ {ds : List D}, ds.length ≤ szDs ds
  | [] => Nat.zero_le _
  | d :: ds => by
    have := sz_len (ds := ds)
    have := sz_pos (d := d)
    unfold szDs
    simp only [List.length_cons]
    omega
theorem szs_app : ∀ {a b : List D}, szDs (a ++ b) = szDs a + szDs b
  | [], b => by simp [szDs]
  | d :: a, b => by
    have := szs_app (a := a) (b := b)
    simp only [List.cons_append, szDs]
    omega
theorem hts_app : ∀ {a b : List D}, htDs (a ++ b) = max (htDs a) (htDs b)
  | [], b => by simp [htDs]
  | d :: a, b => by
    have := hts_app (a := a) (b := b)
    simp only [List.cons_append, htDs]
    omega
/-! ### likeness -/
mutual
/-- tuples, numbers, texts, None -/
def smD : D → Bool
  | .tup ds => smDs ds
  | .lst _ => false
  | .dic _ => false
  | .str x => (D.str x).ok
  | _ => true
def smDs : List D → Bool
  | [] => true
  | d :: ds => smD d && smDs ds
end
theorem sm_get : ∀ {ds : List D} {i : Nat} (hi : i < ds.length), smDs ds = true → smD ds[i] = true
  | d :: ds, 0, _, h => by unfold smDs at h; exact (Bool.and_eq_true_iff.mp h).1
  | d :: ds, i + 1, hi, h => by unfold smDs at h; exact sm_get (ds := ds) (by simpa using hi) (Bool.and_eq_true_iff.mp h).2
theorem rng1 {n : Nat} (h : n < 4611686018427387904) : rng [.d (.int (n : Int))] = .ok (rngI 0 n) := bnd (gdT (okR_nat h)) rfl
mutual
/-- what == may be asked of: no dict, plain texts -/
def wlD : D → Bool
  | .tup ds => wlDs ds
  | .lst ds => wlDs ds
  | .dic _ => false
  | .str x => (PyData.str x).canLay0
  | _ => true
def wlDs : List D → Bool
  | [] => true
  | d :: ds => wlD d && wlDs ds
end
mutual
theorem can_of : ∀ (d : D), wlD d = true → d.py.canLay0 = true ∧ d.py.depth = htD d
  | .tup ds, h => by
    obtain ⟨h1, h2⟩ := cans_of ds h
    exact ⟨h1, congrArg (· + 1) h2⟩
  | .lst ds, h => by
    obtain ⟨h1, h2⟩ := cans_of ds h
    exact ⟨h1, congrArg (· + 1) h2⟩
  | .str x, h => ⟨h, rfl⟩
  | .non, _ => ⟨rfl, rfl⟩
  | .bl _, _ => ⟨rfl, rfl⟩
  | .int _, _ => ⟨rfl, rfl⟩
  | .dic _, h => by cases h
theorem cans_of : ∀ (ds : List D), wlDs ds = true → PyData.canLayAll0 (D.pys ds) = true ∧ PyData.depthAll (D.pys ds) = htDs ds
  | [], _ => ⟨rfl, rfl⟩
  | d :: ds, h => by
    unfold wlDs at h
    rw [Bool.and_eq_true] at h
    obtain ⟨h1, h2⟩ := can_of d h.1
    obtain ⟨h3, h4⟩ := cans_of ds h.2
    refine ⟨?_, ?_⟩
    · show (PyData.canLay0 d.py && PyData.canLayAll0 (D.pys ds)) = true
      rw [h1, h3]; rfl
    · show max (PyData.depth d.py) (PyData.depthAll (D.pys ds)) = max (htD d) (htDs ds)
      rw [h2, h4]
end
theorem ok_of {d : D} (h : wlD d = true) (hh : htD d ≤ 64) : d.ok = true := by
  obtain ⟨h1, h2⟩ := can_of d h
  show (d.py.canLay0 && decide (d.py.depth ≤ 64)) = true
  rw [h1, h2, decide_eq_true hh]
  rfl
theorem cmp_eq {x y : At} (hx : x.frz.ok = true) (hy : y.frz.ok = true) : cop .eq x y = .ok (PyData.eqv x.frz.py y.frz.py) := by
  unfold cop
  exact bnd (gdT (by rw [hx, hy]; rfl)) rfl
theorem cmp_ne {x y : At} (hx : x.frz.ok = true) (hy : y.frz.ok = true) : cop .ne x y = .ok (!PyData.eqv x.frz.py y.frz.py) := by
  unfold cop
  exact bnd (gdT (by rw [hx, hy]; rfl)) rfl
theorem ok_int {i : Int} : (D.int i).ok = true := rfl
theorem eqv_int {i j : Int} : PyData.eqv (.int i) (.int j) = (i == j) := by simp [PyData.eqv]
theorem cne_int {i j : Int} : cop .ne (.d (.int i)) (.d (.int j)) = .ok (!(i == j)) := by
  rw [cmp_ne (x := .d (.int i)) (y := .d (.int j)) rfl rfl]
  show Res.ok (!PyData.eqv (.int i) (.int j)) = _
  rw [eqv_int]
theorem ceq_int {i j : Int} : cop .eq (.d (.int i)) (.d (.int j)) = .ok (i == j) := by
  rw [cmp_eq (x := .d (.int i)) (y := .d (.int j)) rfl rfl]
  show Res.ok (PyData.eqv (.int i) (.int j)) = _
  rw [eqv_int]
theorem ceq_bl {i : Bool} : cop .eq (.d (.bl i)) (.d (.bl i)) = .ok true := by
  rw [cmp_eq (x := .d (.bl i)) (y := .d (.bl i)) rfl rfl]
  show Res.ok (PyData.eqv (.bool i) (.bool i)) = _
  simp [PyData.eqv]
theorem ceq_str {i : Str} (h : (D.str i).ok = true) : cop .eq (.d (.str i)) (.d (.str i)) = .ok true := by
  rw [cmp_eq (x := .d (.str i)) (y := .d (.str i)) h h]
  show Res.ok (PyData.eqv (.str i) (.str i)) = _
  simp [PyData.eqv]
end G
/-! comprehensions, rows, kinds -/
namespace G
open PySem
theorem lc_go {own : List Nat} {f : Loc → Res (Option D × Loc)} {tg : D → Loc → Res Loc} {wk : Wk} {its : List D} {c1 c2 : Loc} {Q : List D → Loc → Prop} (I : Nat → List D → Loc → Prop) (hw : wipeO c1 own = .ok c2) (hst : wk.still c2 = .ok ()) (h0 : I 0 [] c2)
    (hs : ∀ i d ys c, its[i]? = some d → I i ys c → ∃ c1, tg d c = .ok c1 ∧ WO (f c1) fun y c2 => I (i + 1) (match y with | some y => ys ++ [y] | none => ys) c2)
    (fin : ∀ ys c3, I its.length ys c3 → Q ys c3) :
    ∃ c2 ys c3, wipeO c1 own = .ok c2 ∧ wk.still c2 = .ok () ∧ compL f tg its c2 = .ok (ys, c3) ∧ Q ys c3 := by
  obtain ⟨ys, c3, e, h⟩ := lc_inv I h0 hs
  exact ⟨c2, ys, c3, hw, hst, e, fin ys c3 h⟩
theorem gm_go {own : List Nat} {f : Loc → Res (Option D × Loc)} {tg : D → Loc → Res Loc} {wk : Wk} {its : List D} {c1 c2 : Loc} {Q : List D → Loc → List Int → Int → Prop} (I : Nat → List D → Loc → Prop) (hw : wipeO c1 own = .ok c2) (hst : wk.still c2 = .ok ()) (h0 : I 0 [] c2)
    (hs : ∀ i d ys c, its[i]? = some d → I i ys c → ∃ c1, tg d c = .ok c1 ∧ WO (f c1) fun y c2 => I (i + 1) (match y with | some y => ys ++ [y] | none => ys) c2)
    (fin : ∀ ys c3, I its.length ys c3 → ∃ ns m, allI ys = some ns ∧ maxI ns = some m ∧ Q ys c3 ns m) :
    ∃ c2 ys c3 ns m, wipeO c1 own = .ok c2 ∧ wk.still c2 = .ok () ∧ compL f tg its c2 = .ok (ys, c3) ∧ allI ys = some ns ∧ maxI ns = some m ∧ Q ys c3 ns m := by
  obtain ⟨ys, c3, e, h⟩ := lc_inv I h0 hs
  obtain ⟨ns, m, h1, h2, h3⟩ := fin ys c3 h
  exact ⟨c2, ys, c3, ns, m, hw, hst, e, h1, h2, h3⟩
theorem stillF_v {its : List D} {x : Vl} {u : At} {f : Fl} : stillF ⟨its, lkOf (.v x) u⟩ f = f := by cases f <;> rfl
theorem enum_get : ∀ {xs : List D} {k : Int} {i : Nat} {d : D}, (enumD k xs)[i]? = some d → ∃ h : i < xs.length, d = .tup [.int (k + i), xs[i]]
  | [], k, i, d, h => by simp [enumD] at h
  | x :: r, k, 0, d, h => by
    simp [enumD] at h
    exact ⟨Nat.succ_pos _, by rw [← h]; simp⟩
  | x :: r, k, i + 1, d, h => by
    simp only [enumD, List.getElem?_cons_succ] at h
    obtain ⟨h1, h2⟩ := enum_get h
    refine ⟨Nat.succ_lt_succ h1, ?_⟩
    rw [h2, List.getElem_cons_succ, show k + 1 + (i : Int) = k + ((i + 1 : Nat) : Int) by omega]
theorem enum_len : ∀ {xs : List D} {k : Int}, (enumD k xs).length = xs.length
  | [], k => rfl
  | x :: r, k => congrArg (· + 1) (enum_len (xs := r))
theorem get_of {α : Type} {xs : List α} {i : Nat} {d : α} (h : xs[i]? = some d) : ∃ hl : i < xs.length, d = xs[i] := by
  obtain ⟨h1, h2⟩ := List.getElem?_eq_some_iff.mp h
  exact ⟨h1, h2.symm⟩
theorem take_snoc {α : Type} {xs : List α} {i : Nat} (h : i < xs.length) : xs.take (i + 1) = xs.take i ++ [xs[i]] := by simp
/-! kinds -/
mutual
def isK : D → Bool
  | .tup ds => isKs ds
  | _ => false
def isKs : List D → Bool
  | [] => true
  | d :: ds => isK d && isKs ds
end
theorem isKs_app : ∀ {a b : List D}, isKs (a ++ b) = (isKs a && isKs b)
  | [], b => by simp [isKs]
  | d :: a, b => by
    have := isKs_app (a := a) (b := b)
    simp only [List.cons_append, isKs, this, Bool.and_assoc]
theorem isKs_mem : ∀ {ds : List D} {d : D}, isKs ds = true → d ∈ ds → isK d = true
  | x :: xs, d, h, hm => by
    unfold isKs at h
    rw [Bool.and_eq_true] at h
    rcases List.mem_cons.mp hm with rfl | hm
    · exact h.1
    · exact isKs_mem h.2 hm
theorem isKs_of : ∀ {ds : List D}, (∀ d ∈ ds, isK d = true) → isKs ds = true
  | [], _ => by simp [isKs]
  | x :: xs, h => by
    unfold isKs
    rw [h x List.mem_cons_self, isKs_of fun d hd => h d (List.mem_cons_of_mem _ hd)]
    rfl
theorem wlDs_app : ∀ {a b : List D}, wlDs (a ++ b) = (wlDs a && wlDs b)
  | [], b => by simp [wlDs]
  | d :: a, b => by
    have := wlDs_app (a := a) (b := b)
    simp only [List.cons_append, wlDs, this, Bool.and_assoc]
theorem wlDs_mem : ∀ {ds : List D} {d : D}, wlDs ds = true → d ∈ ds → wlD d = true
  | x :: xs, d, h, hm => by
    unfold wlDs at h
    rw [Bool.and_eq_true] at h
    rcases List.mem_cons.mp hm with rfl | hm
    · exact h.1
    · exact wlDs_mem h.2 hm
theorem wlDs_of : ∀ {ds : List D}, (∀ d ∈ ds, wlD d = true) → wlDs ds = true
  | [], _ => by simp [wlDs]
  | x :: xs, h => by
    unfold wlDs
    rw [h x List.mem_cons_self, wlDs_of fun d hd => h d (List.mem_cons_of_mem _ hd)]
    rfl
theorem hts_of : ∀ {ds : List D} {n : Nat}, (∀ d ∈ ds, htD d ≤ n) → htDs ds ≤ n
  | [], n, _ => by simp [htDs]
  | x :: xs, n, h => by
    have h1 := h x List.mem_cons_self
    have h2 := hts_of (ds := xs) (n := n) fun d hd => h d (List.mem_cons_of_mem _ hd)
    unfold htDs
    omega
theorem szs_of : ∀ {ds : List D} {n : Nat}, (∀ d ∈ ds, szD d ≤ n) → szDs ds ≤ ds.length * n
  | [], n, _ => by simp [szDs]
  | x :: xs, n, h => by
    have h1 := h x List.mem_cons_self
    have h2 := szs_of (ds := xs) (n := n) fun d hd => h d (List.mem_cons_of_mem _ hd)
    unfold szDs
    rw [List.length_cons, Nat.add_mul, Nat.one_mul]
    omega
theorem smDs_of : ∀ {ds : List D}, (∀ d ∈ ds, smD d = true) → smDs ds = true
  | [], _ => by simp [smDs]
  | x :: xs, h => by
    unfold smDs
    rw [h x List.mem_cons_self, smDs_of fun d hd => h d (List.mem_cons_of_mem _ hd)]
    rfl
mutual
theorem isK_wl : ∀ {d : D}, isK d = true → wlD d = true ∧ smD d = true ∧ d.nd = true
  | .tup ds, h => by
    unfold isK at h
    obtain ⟨h1, h2, h3⟩ := isKs_wl h
    exact ⟨by unfold wlD; exact h1, by unfold smD; exact h2, by unfold D.nd; exact h3⟩
theorem isKs_wl : ∀ {ds : List D}, isKs ds = true → wlDs ds = true ∧ smDs ds = true ∧ D.nds ds = true
  | [], _ => by simp [wlDs, smDs, D.nds]
  | d :: ds, h => by
    unfold isKs at h
    rw [Bool.and_eq_true] at h
    obtain ⟨h1, h2, h3⟩ := isK_wl h.1
    obtain ⟨h4, h5, h6⟩ := isKs_wl h.2
    unfold wlDs smDs D.nds
    rw [h1, h2, h3, h4, h5, h6]
    exact ⟨rfl, rfl, rfl⟩
end
theorem isK_tup {d : D} (h : isK d = true) : ∃ ds, d = .tup ds ∧ isKs ds = true := by
  cases d with
  | tup ds => unfold isK at h; exact ⟨ds, rfl, h⟩
  | _ => simp [isK] at h
/-! rows -/
def rowD (p : List Nat) : D := .tup (p.map fun (n : Nat) => D.int n)
theorem nds_of : ∀ {ds : List D}, (∀ d ∈ ds, d.nd = true) → D.nds ds = true
  | [], _ => by simp [D.nds]
  | x :: xs, h => by
    unfold D.nds
    rw [h x List.mem_cons_self, nds_of fun d hd => h d (List.mem_cons_of_mem _ hd)]
    rfl
theorem row_facts {p : List Nat} : smD (rowD p) = true ∧ (rowD p).nd = true ∧ htD (rowD p) ≤ 1 ∧ szD (rowD p) ≤ p.length + 1 := by
  have hm : ∀ d ∈ p.map (fun (n : Nat) => D.int n), ∃ n, d = D.int n := fun d hd => by
    obtain ⟨n, _, rfl⟩ := List.mem_map.mp hd
    exact ⟨_, rfl⟩
  refine ⟨?_, ?_, ?_, ?_⟩
  · unfold rowD smD
    exact smDs_of fun d hd => by obtain ⟨n, rfl⟩ := hm d hd; rfl
  · unfold rowD D.nd
    exact nds_of fun d hd => by obtain ⟨n, rfl⟩ := hm d hd; rfl
  · unfold rowD htD
    have := hts_of (ds := p.map fun (n : Nat) => D.int n) (n := 0) fun d hd => by obtain ⟨n, rfl⟩ := hm d hd; exact Nat.le_refl _
    omega
  · unfold rowD szD
    have := szs_of (ds := p.map fun (n : Nat) => D.int n) (n := 1) fun d hd => by obtain ⟨n, rfl⟩ := hm d hd; exact Nat.le_refl _
    simp at this
    omega
theorem row_add {p q : List Nat} {ds : List D} (e : ds = q.map fun (n : Nat) => D.int n) (h : p.length + q.length ≤ 16777216) : bop .add (.d (rowD p)) (.d (.tup ds)) = .ok (.d (rowD (p ++ q))) := by
  subst e
  refine bnd (gdT (fits_of (by simpa using h))) ?_
  unfold rowD
  rw [List.map_append]
theorem row_add2 {p q : List Nat} {ds : List D} (e : ds = p.map fun (n : Nat) => D.int n) (h : p.length + q.length ≤ 16777216) : bop .add (.d (.tup ds)) (.d (rowD q)) = .ok (.d (rowD (p ++ q))) := by
  subst e
  refine bnd (gdT (fits_of (by simpa using h))) ?_
  unfold rowD
  rw [List.map_append]
/-! places -/
mutual
def plc : D → List (List Nat)
  | .tup ds => [] :: plcs 0 ds
  | _ => [[]]
def plcs : Nat → List D → List (List Nat)
  | _, [] => []
  | i, d :: ds => (plc d).map (i :: ·) ++ plcs (i + 1) ds
end
theorem plcs_app : ∀ {a b : List D} {j : Nat}, plcs j (a ++ b) = plcs j a ++ plcs (j + a.length) b
  | [], b, j => by simp [plcs]
  | d :: a, b, j => by
    have := plcs_app (a := a) (b := b) (j := j + 1)
    simp only [List.cons_append, plcs, this, List.append_assoc, List.length_cons]
    rw [show j + 1 + a.length = j + (a.length + 1) by omega]
theorem plcs_snoc {ds : List D} {i : Nat} (h : i < ds.length) : plcs 0 (ds.take (i + 1)) = plcs 0 (ds.take i) ++ (plc ds[i]).map (i :: ·) := by
  rw [take_snoc h, plcs_app]
  simp [plcs, Nat.min_eq_left (Nat.le_of_lt h)]
mutual
theorem plc_len : ∀ {d : D}, (plc d).length ≤ szD d
  | .tup ds => by
    have := plcs_len (ds := ds) (j := 0)
    simp only [plc, List.length_cons, szD]
    omega
  | .lst _ => Nat.succ_pos _
  | .non => Nat.one_pos | .bl _ => Nat.one_pos | .int _ => Nat.one_pos | .str _ => Nat.one_pos | .dic _ => Nat.one_pos
theorem plcs_len : ∀ {ds : List D} {j : Nat}, (plcs j ds).length ≤ szDs ds
  | [], j => Nat.zero_le _
  | d :: ds, j => by
    have h1 := plc_len (d := d)
    have h2 := plcs_len (ds := ds) (j := j + 1)
    simp only [plcs, List.length_append, List.length_map, szDs]
    omega
end
theorem szs_take {ds : List D} {i : Nat} : szDs (ds.take i) ≤ szDs ds := by
  have := szs_app (a := ds.take i) (b := ds.drop i)
  rw [List.take_append_drop] at this
  omega
mutual
theorem plc_short : ∀ {d : D} {r : List Nat}, r ∈ plc d → r.length ≤ htD d
  | .tup ds, r, h => by
    simp only [plc, List.mem_cons] at h
    rcases h with rfl | h
    · exact Nat.zero_le _
    · have := plcs_short h
      unfold htD
      omega
  | .lst _, r, h => by simp [plc] at h; subst h; exact Nat.zero_le _
  | .non, r, h => by simp [plc] at h; subst h; exact Nat.zero_le _
  | .bl _, r, h => by simp [plc] at h; subst h; exact Nat.zero_le _
  | .int _, r, h => by simp [plc] at h; subst h; exact Nat.zero_le _
  | .str _, r, h => by simp [plc] at h; subst h; exact Nat.zero_le _
  | .dic _, r, h => by simp [plc] at h; subst h; exact Nat.zero_le _
theorem plcs_short : ∀ {ds : List D} {j : Nat} {r : List Nat}, r ∈ plcs j ds → r.length ≤ htDs ds + 1
  | [], j, r, h => by simp [plcs] at h
  | d :: ds, j, r, h => by
    simp only [plcs, List.mem_append, List.mem_map] at h
    unfold htDs
    rcases h with ⟨s, hs, rfl⟩ | h
    · have := plc_short hs
      simp only [List.length_cons]
      omega
    · have := plcs_short h
      omega
end
/-! what lies at a place -/
def sub : D → List Nat → D
  | d, [] => d
  | .tup ds, i :: r => match ds[i]? with
    | some x => sub x r
    | none => .non
  | _, _ :: _ => .non
theorem sub_non : ∀ {r : List Nat}, sub .non r = .non
  | [] => rfl
  | _ :: _ => rfl
theorem sub_app : ∀ {r s : List Nat} {d : D}, sub d (r ++ s) = sub (sub d r) s
  | [], s, d => by simp [sub]
  | i :: r, s, d => by
    cases d with
    | tup ds =>
      simp only [List.cons_append, sub]
      cases ds[i]? with
      | some x => exact sub_app
      | none => exact sub_non.symm
    | _ => exact sub_non.symm
mutual
theorem sub_isK : ∀ {d : D} {r : List Nat}, isK d = true → r ∈ plc d → isK (sub d r) = true ∧ htD (sub d r) ≤ htD d ∧ szD (sub d r) ≤ szD d
  | .tup ds, r, hk, h => by
    simp only [plc, List.mem_cons] at h
    rcases h with rfl | h
    · exact ⟨hk, Nat.le_refl _, Nat.le_refl _⟩
    · unfold isK at hk
      obtain ⟨i, s, rfl, x, e, h1, h2, h3⟩ := subs_isK hk h
      have e1 : htD (.tup ds) = htDs ds + 1 := by simp [htD]
      have e2 : szD (.tup ds) = szDs ds + 1 := by simp [szD]
      simp only [Nat.zero_add, sub, e]
      exact ⟨h1, by omega, by omega⟩
theorem subs_isK : ∀ {ds : List D} {j : Nat} {r : List Nat}, isKs ds = true → r ∈ plcs j ds → ∃ i s, r = (j + i) :: s ∧ ∃ x, ds[i]? = some x ∧ isK (sub x s) = true ∧ htD (sub x s) ≤ htDs ds ∧ szD (sub x s) ≤ szDs ds
  | [], j, r, hk, h => by simp [plcs] at h
  | d :: ds, j, r, hk, h => by
    unfold isKs at hk
    rw [Bool.and_eq_true] at hk
    simp only [plcs, List.mem_append, List.mem_map] at h
    unfold htDs szDs
    rcases h with ⟨s, hs, rfl⟩ | h
    · obtain ⟨h1, h2, h3⟩ := sub_isK hk.1 hs
      exact ⟨0, s, rfl, d, rfl, h1, by omega, by omega⟩
    · obtain ⟨i, s, rfl, x, e, h1, h2, h3⟩ := subs_isK hk.2 h
      exact ⟨i + 1, s, by rw [show j + 1 + i = j + (i + 1) by omega], x, by simpa using e, h1, by omega, by omega⟩
end
mutual
theorem ht_le_sz : ∀ {d : D}, htD d ≤ szD d
  | .tup ds => by
    have := hts_le_szs (ds := ds)
    have e1 : htD (.tup ds) = htDs ds + 1 := by simp [htD]
    have e2 : szD (.tup ds) = szDs ds + 1 := by simp [szD]
    omega
  | .lst ds => by
    have := hts_le_szs (ds := ds)
    have e1 : htD (.lst ds) = htDs ds + 1 := by simp [htD]
    have e2 : szD (.lst ds) = szDs ds + 1 := by simp [szD]
    omega
  | .non => Nat.zero_le _ | .bl _ => Nat.zero_le _ | .int _ => Nat.zero_le _ | .str _ => Nat.zero_le _ | .dic _ => Nat.zero_le _
theorem hts_le_szs : ∀ {ds : List D}, htDs ds ≤ szDs ds
  | [] => Nat.zero_le _
  | d :: ds => by
    have := hts_le_szs (ds := ds)
    have := ht_le_sz (d := d)
    have e1 : htDs (d :: ds) = max (htD d) (htDs ds) := by simp [htDs]
    have e2 : szDs (d :: ds) = szD d + szDs ds := by simp [szDs]
    omega
end
end G
namespace G
open PySem
/-- is_kind(value); slots 0 value, 1 waiting, 2 kind -/
def b_is_kind : Sts :=
  (.cons (.asg (.nm 1) (.lst (.cons (.loc 0) .nil)))
  (.cons (.whl (.loc 1)
  (.cons (.asg (.nm 2) (.mut .pop (.loc 1) .nil))
  (.cons (.iff (.not (.blt .isT (.cons (.loc 2) .nil)))
  (.cons (.ret (.cst (.bl false)))
  .nil)
  .nil)
  (.cons (.ex (.mut .extend (.loc 1) (.cons (.loc 2) .nil)))
  .nil))))
  (.cons (.ret (.cst (.bl true)))
  .nil)))
abbrev fi_0 : FnI := ⟨"is_kind", 1, ["value", "waiting", "kind"], b_is_kind⟩
/-- places_beneath(kind, place); slots 0 kind, 1 place, 2 found, 3 number, 4 argument -/
def b_places_beneath : Sts :=
  (.cons (.asg (.nm 2) (.lst (.cons (.loc 1) .nil)))
  (.cons (.fr (.tp [(.nm 3), (.nm 4)]) (.enum (.loc 0))
  (.cons (.ex (.mut .extend (.loc 2) (.cons (.call 1 (.cons (.loc 4) (.cons (.bin .add (.loc 1) (.tup (.cons (.loc 3) .nil))) .nil))) .nil)))
  .nil))
  (.cons (.ret (.loc 2))
  .nil)))
abbrev fi_1 : FnI := ⟨"places_beneath", 2, ["kind", "place", "found", "number", "argument"], b_places_beneath⟩
/-- places(kind); slots 0 kind -/
def b_places : Sts :=
  (.cons (.ret (.blt .tup (.cons (.call 1 (.cons (.loc 0) (.cons (.tup .nil) .nil))) .nil)))
  .nil)
abbrev fi_2 : FnI := ⟨"places", 1, ["kind"], b_places⟩
/-- kind_at(kind, place); slots 0 kind, 1 place, 2 number -/
def b_kind_at : Sts :=
  (.cons (.fr (.nm 2) (.seq (.loc 1))
  (.cons (.iff (.not (.chn .le .lt (.cst (.int 0)) (.loc 2) (.blt .len (.cons (.loc 0) .nil))))
  (.cons (.ret (.cst .non))
  .nil)
  .nil)
  (.cons (.asg (.nm 0) (.ix (.loc 0) (.loc 2)))
  .nil)))
  (.cons (.ret (.loc 0))
  .nil))
abbrev fi_3 : FnI := ⟨"kind_at", 2, ["kind", "place", "number"], b_kind_at⟩
/-- depth(kind); slots 0 kind, 1 argument -/
def b_depth : Sts :=
  (.cons (.ret (.ite (.loc 0) (.bin .add (.cst (.int 1)) (.gen .max [1] (.call 4 (.cons (.loc 1) .nil)) (.nm 1) (.seq (.loc 0)) .nil)) (.cst (.int 0))))
  .nil)
abbrev fi_4 : FnI := ⟨"depth", 1, ["kind", "argument"], b_depth⟩
/-- _law_cell(_law_script, _law_k); slots 0 _law_script, 1 _law_k -/
def b_L_cell : Sts :=
  (.cons (.iff (.cmp .lt (.loc 1) (.blt .len (.cons (.loc 0) .nil)))
  (.cons (.ret (.ix (.loc 0) (.loc 1)))
  .nil)
  .nil)
  (.cons (.ret (.cst (.int 0)))
  .nil))
abbrev fi_5 : FnI := ⟨"_law_cell", 2, ["_law_script", "_law_k"], b_L_cell⟩
/-- _law_digits(_law_script, _law_first, _law_last); slots 0 _law_script, 1 _law_first, 2 _law_last, 3 _law_digits_here, 4 _law_k, 5 _law_cell_here, 6 _law_turn, 7 _law_seed -/
def b_L_digits : Sts :=
  (.cons (.asg (.nm 3) (.lst .nil))
  (.cons (.fr (.nm 4) (.rng (.cons (.loc 1) (.cons (.loc 2) .nil)))
  (.cons (.asg (.nm 5) (.call 5 (.cons (.loc 0) (.cons (.loc 4) .nil))))
  (.cons (.iff (.cmp .lt (.loc 5) (.cst (.int 0)))
  (.cons (.asg (.nm 5) (.bin .sub (.cst (.int 1)) (.bin .mul (.cst (.int 2)) (.loc 5))))
  .nil)
  .nil)
  (.cons (.iff (.cmp .ge (.loc 5) (.bin .pow (.cst (.int 10)) (.cst (.int 18))))
  (.cons (.fr (.nm 6) (.rng (.cons (.cst (.int 60)) .nil))
  (.cons (.iff (.cmp .gt (.loc 5) (.cst (.int 0)))
  (.cons (.ex (.mut .append (.loc 3) (.cons (.bin .mod (.blt .int (.cons (.loc 5) .nil)) (.cst (.int 1000))) .nil)))
  (.cons (.asg (.nm 5) (.bin .fdiv (.loc 5) (.cst (.int 1000))))
  .nil))
  .nil)
  .nil))
  .nil)
  (.cons (.asg (.nm 7) (.bin .mod (.blt .int (.cons (.bin .add (.bin .add (.bin .mul (.loc 5) (.cst (.int 48271))) (.bin .mul (.loc 4) (.cst (.int 69621)))) (.cst (.int 11))) .nil)) (.cst (.int 2147483647))))
  (.cons (.fr (.nm 6) (.rng (.cons (.cst (.int 12)) .nil))
  (.cons (.asg (.nm 7) (.bin .mod (.blt .int (.cons (.bin .add (.bin .add (.bin .mul (.loc 7) (.cst (.int 16807))) (.bin .mul (.cst (.int 7)) (.loc 6))) (.cst (.int 1))) .nil)) (.cst (.int 2147483647))))
  (.cons (.ex (.mut .append (.loc 3) (.cons (.bin .mod (.blt .int (.cons (.bin .fdiv (.loc 7) (.cst (.int 997))) .nil)) (.cst (.int 1000))) .nil)))
  .nil)))
  .nil)))
  .nil))))
  (.cons (.ret (.loc 3))
  .nil)))
abbrev fi_6 : FnI := ⟨"_law_digits", 3, ["_law_script", "_law_first", "_law_last", "_law_digits_here", "_law_k", "_law_cell_here", "_law_turn", "_law_seed"], b_L_digits⟩
/-- _law_draw(_law_box_here, _law_many); slots 0 _law_box_here, 1 _law_many, 2 _law_at_here -/
def b_L_draw : Sts :=
  (.cons (.asg (.nm 2) (.ix (.loc 0) (.cst (.int 1))))
  (.cons (.setI (.loc 0) (.cst (.int 1)) (.bin .add (.loc 2) (.cst (.int 1))))
  (.cons (.iff (.cmp .lt (.loc 2) (.blt .len (.cons (.ix (.loc 0) (.cst (.int 0))) .nil)))
  (.cons (.ret (.bin .mod (.blt .int (.cons (.ix (.ix (.loc 0) (.cst (.int 0))) (.loc 2)) .nil)) (.loc 1)))
  .nil)
  .nil)
  (.cons (.ret (.cst (.int 0)))
  .nil))))
abbrev fi_7 : FnI := ⟨"_law_draw", 2, ["_law_box_here", "_law_many", "_law_at_here"], b_L_draw⟩
/-- _law_box(_law_script, _law_first, _law_last); slots 0 _law_script, 1 _law_first, 2 _law_last -/
def b_L_box : Sts :=
  (.cons (.ret (.lst (.cons (.call 6 (.cons (.loc 0) (.cons (.loc 1) (.cons (.loc 2) .nil)))) (.cons (.cst (.int 0)) .nil))))
  .nil)
abbrev fi_8 : FnI := ⟨"_law_box", 3, ["_law_script", "_law_first", "_law_last"], b_L_box⟩
/-- _law_same(_law_actual, _law_expected); slots 0 _law_actual, 1 _law_expected, 2 _law_k -/
def b_L_same : Sts :=
  (.cons (.iff (.blt .isT (.cons (.loc 1) .nil))
  (.cons (.iff (.or (.not (.blt .isT (.cons (.loc 0) .nil))) (.cmp .ne (.blt .len (.cons (.loc 0) .nil)) (.blt .len (.cons (.loc 1) .nil))))
  (.cons (.ret (.cst (.bl false)))
  .nil)
  .nil)
  (.cons (.fr (.nm 2) (.rng (.cons (.blt .len (.cons (.loc 1) .nil)) .nil))
  (.cons (.iff (.not (.call 9 (.cons (.ix (.loc 0) (.loc 2)) (.cons (.ix (.loc 1) (.loc 2)) .nil))))
  (.cons (.ret (.cst (.bl false)))
  .nil)
  .nil)
  .nil))
  (.cons (.ret (.cst (.bl true)))
  .nil)))
  .nil)
  (.cons (.iff (.isN false (.loc 1))
  (.cons (.ret (.isN false (.loc 0)))
  .nil)
  .nil)
  (.cons (.iff (.blt .isB (.cons (.loc 1) .nil))
  (.cons (.ret (.and (.blt .isB (.cons (.loc 0) .nil)) (.cmp .eq (.loc 0) (.loc 1))))
  .nil)
  .nil)
  (.cons (.iff (.blt .isI (.cons (.loc 1) .nil))
  (.cons (.ret (.and (.blt .isI (.cons (.loc 0) .nil)) (.and (.not (.blt .isB (.cons (.loc 0) .nil))) (.cmp .eq (.loc 0) (.loc 1)))))
  .nil)
  .nil)
  (.cons (.ret (.and (.blt .isS (.cons (.loc 0) .nil)) (.cmp .eq (.loc 0) (.loc 1))))
  .nil)))))
abbrev fi_9 : FnI := ⟨"_law_same", 2, ["_law_actual", "_law_expected", "_law_k"], b_L_same⟩
/-- _law_at(_law_kind, _law_place); slots 0 _law_kind, 1 _law_place, 2 _law_k -/
def b_L_at : Sts :=
  (.cons (.fr (.nm 2) (.seq (.loc 1))
  (.cons (.iff (.cmp .ge (.loc 2) (.blt .len (.cons (.loc 0) .nil)))
  (.cons (.ret (.cst .non))
  .nil)
  .nil)
  (.cons (.asg (.nm 0) (.ix (.loc 0) (.loc 2)))
  .nil)))
  (.cons (.ret (.loc 0))
  .nil))
abbrev fi_10 : FnI := ⟨"_law_at", 2, ["_law_kind", "_law_place", "_law_k"], b_L_at⟩
/-- _law_places(_law_kind); slots 0 _law_kind, 1 _law_rows, 2 _law_k, 3 _law_row -/
def b_L_places : Sts :=
  (.cons (.asg (.nm 1) (.lst (.cons (.tup .nil) .nil)))
  (.cons (.fr (.nm 2) (.rng (.cons (.blt .len (.cons (.loc 0) .nil)) .nil))
  (.cons (.asg (.nm 1) (.bin .add (.loc 1) (.lc [3] (.bin .add (.tup (.cons (.loc 2) .nil)) (.loc 3)) (.nm 3) (.seq (.call 11 (.cons (.ix (.loc 0) (.loc 2)) .nil))) .nil)))
  .nil))
  (.cons (.ret (.loc 1))
  .nil)))
abbrev fi_11 : FnI := ⟨"_law_places", 1, ["_law_kind", "_law_rows", "_law_k", "_law_row"], b_L_places⟩
/-- _law_kind_deep(_law_box_here, _law_deep_here, _law_budget); slots 0 _law_box_here, 1 _law_deep_here, 2 _law_budget, 3 _law_parts, 4 _law_k -/
def b_L_kind_deep : Sts :=
  (.cons (.asg (.nm 3) (.lst .nil))
  (.cons (.iff (.cmp .gt (.loc 1) (.cst (.int 0)))
  (.cons (.fr (.nm 4) (.rng (.cons (.call 7 (.cons (.loc 0) (.cons (.cst (.int 5)) .nil))) .nil))
  (.cons (.iff (.cmp .gt (.ix (.loc 2) (.cst (.int 0))) (.cst (.int 0)))
  (.cons (.setI (.loc 2) (.cst (.int 0)) (.bin .sub (.ix (.loc 2) (.cst (.int 0))) (.cst (.int 1))))
  (.cons (.ex (.mut .append (.loc 3) (.cons (.call 12 (.cons (.loc 0) (.cons (.bin .sub (.loc 1) (.cst (.int 1))) (.cons (.loc 2) .nil)))) .nil)))
  .nil))
  .nil)
  .nil))
  .nil)
  .nil)
  (.cons (.ret (.blt .tup (.cons (.loc 3) .nil)))
  .nil)))
abbrev fi_12 : FnI := ⟨"_law_kind_deep", 3, ["_law_box_here", "_law_deep_here", "_law_budget", "_law_parts", "_law_k"], b_L_kind_deep⟩
/-- _law_is_kind(_law_value); slots 0 _law_value, 1 _law_part -/
def b_L_is_kind : Sts :=
  (.cons (.iff (.not (.blt .isT (.cons (.loc 0) .nil)))
  (.cons (.ret (.cst (.bl false)))
  .nil)
  .nil)
  (.cons (.ret (.cmp .eq (.lc [1] (.loc 1) (.nm 1) (.seq (.loc 0)) (.cons (.not (.call 13 (.cons (.loc 1) .nil))) .nil)) (.lst .nil)))
  .nil))
abbrev fi_13 : FnI := ⟨"_law_is_kind", 1, ["_law_value", "_law_part"], b_L_is_kind⟩
/-- _law_deep(_law_kind); slots 0 _law_kind, 1 _law_part -/
def b_L_deep : Sts :=
  (.cons (.ret (.blt .maxs (.cons (.bin .add (.lst (.cons (.cst (.int 0)) .nil)) (.lc [1] (.bin .add (.cst (.int 1)) (.call 14 (.cons (.loc 1) .nil))) (.nm 1) (.seq (.loc 0)) .nil)) .nil)))
  .nil)
abbrev fi_14 : FnI := ⟨"_law_deep", 1, ["_law_kind", "_law_part"], b_L_deep⟩
/-- _law_spoilt_kind(_law_box_here, _law_value); slots 0 _law_box_here, 1 _law_value, 2 _law_menu, 3 _law_k -/
def b_L_spoilt_kind : Sts :=
  (.cons (.iff (.and (.blt .isT (.cons (.loc 1) .nil)) (.and (.cmp .ne (.loc 1) (.tup .nil)) (.cmp .gt (.call 7 (.cons (.loc 0) (.cons (.cst (.int 3)) .nil))) (.cst (.int 0)))))
  (.cons (.asg (.nm 3) (.call 7 (.cons (.loc 0) (.cons (.blt .len (.cons (.loc 1) .nil)) .nil))))
  (.cons (.ret (.bin .add (.bin .add (.sl (.loc 1) none (some (.loc 3))) (.tup (.cons (.call 15 (.cons (.loc 0) (.cons (.ix (.loc 1) (.loc 3)) .nil))) .nil))) (.sl (.loc 1) (some (.bin .add (.loc 3) (.cst (.int 1)))) none)))
  .nil))
  .nil)
  (.cons (.asg (.nm 2) (.lst (.cons (.blt .lst (.cons (.loc 1) .nil)) (.cons (.cst .non) (.cons (.cst (.int 0)) (.cons (.cst (.int 1)) (.cons (.cst (.bl true)) (.cons (.cst (.str "")) (.cons (.cst (.str "o")) (.cons (.cst (.str "()")) (.cons (.lst (.cons (.tup .nil) .nil)) (.cons (.tup (.cons (.loc 1) .nil)) (.cons (.tup (.cons (.loc 1) (.cons (.tup .nil) .nil))) (.cons (.tup (.cons (.tup .nil) (.cons (.cst .non) .nil))) (.cons (.tup (.cons (.tup .nil) (.cons (.lst .nil) .nil))) .nil)))))))))))))))
  (.cons (.ret (.ix (.loc 2) (.call 7 (.cons (.loc 0) (.cons (.blt .len (.cons (.loc 2) .nil)) .nil)))))
  .nil)))
abbrev fi_15 : FnI := ⟨"_law_spoilt_kind", 2, ["_law_box_here", "_law_value", "_law_menu", "_law_k"], b_L_spoilt_kind⟩
/-- _law_right(_law_kind); slots 0 _law_kind, 1 _law_rows, 2 _law_place, 3 _law_found, 4 _law_many -/
def b_L_right : Sts :=
  (.cons (.asg (.nm 1) (.call 11 (.cons (.loc 0) .nil)))
  (.cons (.iff (.or (.isC true true (.call 0 (.cons (.loc 0) .nil))) (.not (.call 9 (.cons (.call 2 (.cons (.loc 0) .nil)) (.cons (.blt .tup (.cons (.loc 1) .nil)) .nil)))))
  (.cons (.ret (.cst (.bl false)))
  .nil)
  .nil)
  (.cons (.iff (.not (.call 9 (.cons (.call 4 (.cons (.loc 0) .nil)) (.cons (.call 14 (.cons (.loc 0) .nil)) .nil))))
  (.cons (.ret (.cst (.bl false)))
  .nil)
  .nil)
  (.cons (.fr (.nm 2) (.seq (.loc 1))
  (.cons (.asg (.nm 3) (.call 10 (.cons (.loc 0) (.cons (.loc 2) .nil))))
  (.cons (.asg (.nm 4) (.blt .len (.cons (.loc 3) .nil)))
  (.cons (.iff (.not (.call 9 (.cons (.call 3 (.cons (.loc 0) (.cons (.loc 2) .nil))) (.cons (.loc 3) .nil))))
  (.cons (.ret (.cst (.bl false)))
  .nil)
  .nil)
  (.cons (.iff (.or (.isN true (.call 3 (.cons (.loc 0) (.cons (.bin .add (.loc 2) (.tup (.cons (.loc 4) .nil))) .nil)))) (.isN true (.call 3 (.cons (.loc 0) (.cons (.bin .add (.loc 2) (.tup (.cons (.bin .add (.loc 4) (.cst (.int 1))) (.cons (.cst (.int 0)) .nil)))) .nil)))))
  (.cons (.ret (.cst (.bl false)))
  .nil)
  .nil)
  .nil)))))
  (.cons (.ret (.cst (.bl true)))
  .nil)))))
abbrev fi_16 : FnI := ⟨"_law_right", 1, ["_law_kind", "_law_rows", "_law_place", "_law_found", "_law_many"], b_L_right⟩
/-- law(_law_script); slots 0 _law_script, 1 _law_box_here, 2 _law_found, 3 _law_turn, 4 _law_kind, 5 _law_great, 6 _law_value, 7 _law_step, 8 _law_pick -/
def b_law : Sts :=
  (.cons (.asg (.nm 1) (.call 8 (.cons (.loc 0) (.cons (.cst (.int 0)) (.cons (.cst (.int 62)) .nil)))))
  (.cons (.asg (.nm 2) (.lst .nil))
  (.cons (.fr (.nm 3) (.rng (.cons (.cst (.int 5)) .nil))
  (.cons (.asg (.nm 4) (.call 12 (.cons (.loc 1) (.cons (.call 7 (.cons (.loc 1) (.cons (.cst (.int 4)) .nil))) (.cons (.lst (.cons (.call 7 (.cons (.loc 1) (.cons (.cst (.int 12)) .nil))) .nil)) .nil)))))
  (.cons (.ex (.mut .append (.loc 2) (.cons (.loc 4) .nil)))
  (.cons (.iff (.not (.call 16 (.cons (.loc 4) .nil)))
  (.cons (.ret (.cst (.bl false)))
  .nil)
  .nil)
  (.cons (.fr (.nm 7) (.rng (.cons (.cst (.int 3)) .nil))
  (.cons (.asg (.nm 6) (.call 15 (.cons (.loc 1) (.cons (.loc 4) .nil))))
  (.cons (.iff (.not (.call 9 (.cons (.call 0 (.cons (.loc 6) .nil)) (.cons (.call 13 (.cons (.loc 6) .nil)) .nil))))
  (.cons (.ret (.cst (.bl false)))
  .nil)
  .nil)
  .nil)))
  .nil)))))
  (.cons (.fr (.nm 4) (.seq (.loc 2))
  (.cons (.iff (.not (.call 16 (.cons (.loc 4) .nil)))
  (.cons (.ret (.cst (.bl false)))
  .nil)
  .nil)
  .nil))
  (.cons (.asg (.nm 5) (.lst (.cons (.ix (.loc 2) (.cst (.int 0))) (.cons (.call 15 (.cons (.loc 1) (.cons (.ix (.loc 2) (.cst (.int 1))) .nil))) (.cons (.ix (.loc 2) (.cst (.int 2))) .nil)))))
  (.cons (.fr (.nm 3) (.rng (.cons (.bin .add (.cst (.int 25)) (.call 7 (.cons (.loc 1) (.cons (.cst (.int 10)) .nil)))) .nil))
  (.cons (.asg (.nm 8) (.call 7 (.cons (.loc 1) (.cons (.cst (.int 3)) .nil))))
  (.cons (.asg (.nm 5) (.lc [6] (.ix (.lst (.cons (.tup (.cons (.loc 6) .nil)) (.cons (.tup (.cons (.tup .nil) (.cons (.loc 6) .nil))) (.cons (.tup (.cons (.loc 6) (.cons (.tup .nil) (.cons (.tup (.cons (.tup .nil) .nil)) .nil)))) .nil)))) (.loc 8)) (.nm 6) (.seq (.loc 5)) .nil))
  .nil)))
  (.cons (.fr (.nm 6) (.seq (.bin .add (.loc 5) (.lst (.cons (.bin .add (.bin .mul (.ix (.loc 2) (.cst (.int 3))) (.cst (.int 25))) (.bin .mul (.tup (.cons (.tup .nil) .nil)) (.cst (.int 50)))) (.cons (.bin .add (.bin .mul (.tup (.cons (.ix (.loc 2) (.cst (.int 4))) .nil)) (.cst (.int 50))) (.tup (.cons (.cst .non) .nil))) .nil)))))
  (.cons (.iff (.not (.call 9 (.cons (.call 0 (.cons (.loc 6) .nil)) (.cons (.call 13 (.cons (.loc 6) .nil)) .nil))))
  (.cons (.ret (.cst (.bl false)))
  .nil)
  .nil)
  .nil))
  (.cons (.ret (.and (.isC false false (.call 0 (.cons (.lst .nil) .nil))) (.and (.isC false false (.call 0 (.cons (.cst .non) .nil))) (.and (.isC false false (.call 0 (.cons (.cst (.int 0)) .nil))) (.isC false false (.call 0 (.cons (.cst (.str "")) .nil)))))))
  .nil))))))))
abbrev fi_17 : FnI := ⟨"law", 1, ["_law_script", "_law_box_here", "_law_found", "_law_turn", "_law_kind", "_law_great", "_law_value", "_law_step", "_law_pick"], b_law⟩
def prg : Prg where
  fns := [fi_0, fi_1, fi_2, fi_3, fi_4, fi_5, fi_6, fi_7, fi_8, fi_9, fi_10, fi_11, fi_12, fi_13, fi_14, fi_15, fi_16, fi_17]
  cls := []
end G
namespace G
open PySem
def lb_same (is : Nat) : Sts :=
  (.cons (.iff (.blt .isT (.cons (.loc 1) .nil))
  (.cons (.iff (.or (.not (.blt .isT (.cons (.loc 0) .nil))) (.cmp .ne (.blt .len (.cons (.loc 0) .nil)) (.blt .len (.cons (.loc 1) .nil))))
  (.cons (.ret (.cst (.bl false))) .nil) .nil)
  (.cons (.fr (.nm 2) (.rng (.cons (.blt .len (.cons (.loc 1) .nil)) .nil))
  (.cons (.iff (.not (.call is (.cons (.ix (.loc 0) (.loc 2)) (.cons (.ix (.loc 1) (.loc 2)) .nil))))
  (.cons (.ret (.cst (.bl false))) .nil) .nil) .nil))
  (.cons (.ret (.cst (.bl true))) .nil))) .nil)
  (.cons (.iff (.isN false (.loc 1))
  (.cons (.ret (.isN false (.loc 0))) .nil) .nil)
  (.cons (.iff (.blt .isB (.cons (.loc 1) .nil))
  (.cons (.ret (.and (.blt .isB (.cons (.loc 0) .nil)) (.cmp .eq (.loc 0) (.loc 1)))) .nil) .nil)
  (.cons (.iff (.blt .isI (.cons (.loc 1) .nil))
  (.cons (.ret (.and (.blt .isI (.cons (.loc 0) .nil)) (.and (.not (.blt .isB (.cons (.loc 0) .nil))) (.cmp .eq (.loc 0) (.loc 1))))) .nil) .nil)
  (.cons (.ret (.and (.blt .isS (.cons (.loc 0) .nil)) (.cmp .eq (.loc 0) (.loc 1)))) .nil)))))
theorem same_ok {P : Prg} {w f : Nat} (h : IsFn P f 2 3 (lb_same f)) : ∀ (n : Nat) (d : D) (k : Nat), htD d ≤ n → n + 1 ≤ k → smD d = true → szD d ≤ 1000000 →
    ∃ cr, run P w k f [.d d, .d d] = .ok cr ∧ cr = ⟨.v (.d (.bl true)), [some (.d d), some (.d d)]⟩ := by
  have flat : ∀ (d : D) (k : Nat), 1 ≤ k → smD d = true → (∀ ds, d ≠ .tup ds) → ∃ cr, run P w k f [.d d, .d d] = .ok cr ∧ cr = ⟨.v (.d (.bl true)), [some (.d d), some (.d d)]⟩ := by
    intro d k hk hs ht
    refine run_by h rfl rfl hk fun k' N R ek hN hR => ?_
    unfold lb_same
    cases d with
    | tup ds => exact absurd rfl (ht ds)
    | lst ds => cases hs
    | dic ds => cases hs
    | non =>
      repeat (first | refine wf_cons ?_ | refine wf_asg ?_ | refine wf_iff ?_ | refine wf_ret ?_ | refine wf_ex ?_ | refine wf_setI ?_ | refine wf_aug ?_ | refine wf_asgT ?_ | refine wf_nil ?_ | refine wf_retN ?_ | refine wf_pass ?_ | refine wf_brk ?_ | refine wf_cnt ?_ | refine we_cst ?_ | refine we_d rfl ?_ | refine we_l rfl ?_ | refine we_bin ?_ | refine we_cmp ?_ | refine we_chn ?_ | refine we_ix ?_ | refine we_sl ?_ | refine we_blt ?_ | refine we_mut ?_ | refine we_call ?_ | refine we_tup ?_ | refine we_lst ?_ | refine we_not ?_ | refine we_and ?_ | refine we_or ?_ | refine we_ite ?_ | refine we_isN ?_ | refine we_isC ?_ | refine we_neg ?_ | refine we_gcon ?_ | refine wa_cons ?_ | refine wa_nil ?_ | refine wp_none ?_ | refine wp_some ?_ | refine wt_not ?_ | refine wt_and ?_ | refine wt_or ?_ | refine wt_nil ?_ | refine wt_one ?_ | refine wi_seq ?_ | refine wi_rng ?_ | refine wi_enum ?_ | refine wi_zip ?_ | refine wi_rev ?_ | refine wo_turn ?_ | refine wt_val rfl ?_ | refine ⟨rfl, ?_⟩ | refine ⟨_, rfl, rfl, ?_⟩ | refine ⟨_, _, rfl, rfl, ?_⟩ | refine ⟨_, _, _, rfl, rfl, rfl, ?_⟩ | refine ⟨_, _, _, rfl, rfl, mul_r (by decide), ?_⟩ | refine ⟨_, _, rfl, ?_⟩ | refine ⟨_, rfl, ?_⟩ | refine br_t ?_ | refine br_f ?_ | refine rt_own rfl ?_)
      exact hR _ _ _ rfl rfl
    | bl b =>
      repeat (first | refine wf_cons ?_ | refine wf_asg ?_ | refine wf_iff ?_ | refine wf_ret ?_ | refine wf_ex ?_ | refine wf_setI ?_ | refine wf_aug ?_ | refine wf_asgT ?_ | refine wf_nil ?_ | refine wf_retN ?_ | refine wf_pass ?_ | refine wf_brk ?_ | refine wf_cnt ?_ | refine we_cst ?_ | refine we_d rfl ?_ | refine we_l rfl ?_ | refine we_bin ?_ | refine we_cmp ?_ | refine we_chn ?_ | refine we_ix ?_ | refine we_sl ?_ | refine we_blt ?_ | refine we_mut ?_ | refine we_call ?_ | refine we_tup ?_ | refine we_lst ?_ | refine we_not ?_ | refine we_and ?_ | refine we_or ?_ | refine we_ite ?_ | refine we_isN ?_ | refine we_isC ?_ | refine we_neg ?_ | refine we_gcon ?_ | refine wa_cons ?_ | refine wa_nil ?_ | refine wp_none ?_ | refine wp_some ?_ | refine wt_not ?_ | refine wt_and ?_ | refine wt_or ?_ | refine wt_nil ?_ | refine wt_one ?_ | refine wi_seq ?_ | refine wi_rng ?_ | refine wi_enum ?_ | refine wi_zip ?_ | refine wi_rev ?_ | refine wo_turn ?_ | refine wt_val rfl ?_ | refine ⟨rfl, ?_⟩ | refine ⟨_, rfl, rfl, ?_⟩ | refine ⟨_, _, rfl, rfl, ?_⟩ | refine ⟨_, _, _, rfl, rfl, rfl, ?_⟩ | refine ⟨_, _, _, rfl, rfl, mul_r (by decide), ?_⟩ | refine ⟨_, _, rfl, ?_⟩ | refine ⟨_, rfl, ?_⟩ | refine br_t ?_ | refine br_f ?_ | refine rt_own rfl ?_)
      exact hR _ _ _ rfl (by simp [At.frz, D.py, PyData.eqv]; rfl)
    | int i =>
      repeat (first | refine wf_cons ?_ | refine wf_asg ?_ | refine wf_iff ?_ | refine wf_ret ?_ | refine wf_ex ?_ | refine wf_setI ?_ | refine wf_aug ?_ | refine wf_asgT ?_ | refine wf_nil ?_ | refine wf_retN ?_ | refine wf_pass ?_ | refine wf_brk ?_ | refine wf_cnt ?_ | refine we_cst ?_ | refine we_d rfl ?_ | refine we_l rfl ?_ | refine we_bin ?_ | refine we_cmp ?_ | refine we_chn ?_ | refine we_ix ?_ | refine we_sl ?_ | refine we_blt ?_ | refine we_mut ?_ | refine we_call ?_ | refine we_tup ?_ | refine we_lst ?_ | refine we_not ?_ | refine we_and ?_ | refine we_or ?_ | refine we_ite ?_ | refine we_isN ?_ | refine we_isC ?_ | refine we_neg ?_ | refine we_gcon ?_ | refine wa_cons ?_ | refine wa_nil ?_ | refine wp_none ?_ | refine wp_some ?_ | refine wt_not ?_ | refine wt_and ?_ | refine wt_or ?_ | refine wt_nil ?_ | refine wt_one ?_ | refine wi_seq ?_ | refine wi_rng ?_ | refine wi_enum ?_ | refine wi_zip ?_ | refine wi_rev ?_ | refine wo_turn ?_ | refine wt_val rfl ?_ | refine ⟨rfl, ?_⟩ | refine ⟨_, rfl, rfl, ?_⟩ | refine ⟨_, _, rfl, rfl, ?_⟩ | refine ⟨_, _, _, rfl, rfl, rfl, ?_⟩ | refine ⟨_, _, _, rfl, rfl, mul_r (by decide), ?_⟩ | refine ⟨_, _, rfl, ?_⟩ | refine ⟨_, rfl, ?_⟩ | refine br_t ?_ | refine br_f ?_ | refine rt_own rfl ?_)
      exact hR _ _ _ rfl (by simp [At.frz, D.py, PyData.eqv]; rfl)
    | str x =>
      repeat (first | refine wf_cons ?_ | refine wf_asg ?_ | refine wf_iff ?_ | refine wf_ret ?_ | refine wf_ex ?_ | refine wf_setI ?_ | refine wf_aug ?_ | refine wf_asgT ?_ | refine wf_nil ?_ | refine wf_retN ?_ | refine wf_pass ?_ | refine wf_brk ?_ | refine wf_cnt ?_ | refine we_cst ?_ | refine we_d rfl ?_ | refine we_l rfl ?_ | refine we_bin ?_ | refine we_cmp ?_ | refine we_chn ?_ | refine we_ix ?_ | refine we_sl ?_ | refine we_blt ?_ | refine we_mut ?_ | refine we_call ?_ | refine we_tup ?_ | refine we_lst ?_ | refine we_not ?_ | refine we_and ?_ | refine we_or ?_ | refine we_ite ?_ | refine we_isN ?_ | refine we_isC ?_ | refine we_neg ?_ | refine we_gcon ?_ | refine wa_cons ?_ | refine wa_nil ?_ | refine wp_none ?_ | refine wp_some ?_ | refine wt_not ?_ | refine wt_and ?_ | refine wt_or ?_ | refine wt_nil ?_ | refine wt_one ?_ | refine wi_seq ?_ | refine wi_rng ?_ | refine wi_enum ?_ | refine wi_zip ?_ | refine wi_rev ?_ | refine wo_turn ?_ | refine wt_val rfl ?_ | refine ⟨rfl, ?_⟩ | refine ⟨_, rfl, rfl, ?_⟩ | refine ⟨_, _, rfl, rfl, ?_⟩ | refine ⟨_, _, _, rfl, rfl, rfl, ?_⟩ | refine ⟨_, _, _, rfl, rfl, mul_r (by decide), ?_⟩ | refine ⟨_, _, rfl, ?_⟩ | refine ⟨_, rfl, ?_⟩ | refine br_t ?_ | refine br_f ?_ | refine rt_own rfl ?_)
      refine ⟨_, _, _, rfl, rfl, ceq_str hs, ?_⟩
      exact hR _ _ _ rfl rfl
  intro n
  induction n with
  | zero =>
    intro d k hn hk hs hz
    refine flat d k (by omega) hs fun ds e => ?_
    subst e
    unfold htD at hn
    omega
  | succ n ih =>
    intro d k hn hk hs hz
    cases d with
    | tup ds =>
      refine run_by h rfl rfl (by omega) fun k' N R ek hN hR => ?_
      have hz2 : ds.length ≤ 1000000 := Nat.le_trans sz_len (Nat.le_trans (Nat.le_succ _) hz)
      unfold lb_same
      repeat (first | refine wf_cons ?_ | refine wf_asg ?_ | refine wf_iff ?_ | refine wf_ret ?_ | refine wf_ex ?_ | refine wf_setI ?_ | refine wf_aug ?_ | refine wf_asgT ?_ | refine wf_nil ?_ | refine wf_retN ?_ | refine wf_pass ?_ | refine wf_brk ?_ | refine wf_cnt ?_ | refine we_cst ?_ | refine we_d rfl ?_ | refine we_l rfl ?_ | refine we_bin ?_ | refine we_cmp ?_ | refine we_chn ?_ | refine we_ix ?_ | refine we_sl ?_ | refine we_blt ?_ | refine we_mut ?_ | refine we_call ?_ | refine we_tup ?_ | refine we_lst ?_ | refine we_not ?_ | refine we_and ?_ | refine we_or ?_ | refine we_ite ?_ | refine we_isN ?_ | refine we_isC ?_ | refine we_neg ?_ | refine we_gcon ?_ | refine wa_cons ?_ | refine wa_nil ?_ | refine wp_none ?_ | refine wp_some ?_ | refine wt_not ?_ | refine wt_and ?_ | refine wt_or ?_ | refine wt_nil ?_ | refine wt_one ?_ | refine wi_seq ?_ | refine wi_rng ?_ | refine wi_enum ?_ | refine wi_zip ?_ | refine wi_rev ?_ | refine wo_turn ?_ | refine wt_val rfl ?_ | refine ⟨rfl, ?_⟩ | refine ⟨_, rfl, rfl, ?_⟩ | refine ⟨_, _, rfl, rfl, ?_⟩ | refine ⟨_, _, _, rfl, rfl, rfl, ?_⟩ | refine ⟨_, _, _, rfl, rfl, mul_r (by decide), ?_⟩ | refine ⟨_, _, rfl, ?_⟩ | refine ⟨_, rfl, ?_⟩ | refine br_t ?_ | refine br_f ?_ | refine rt_own rfl ?_)
      refine ⟨fun hb => absurd hb (by simp [At.frz, D.py, PyData.eqv]), fun hb => ?_⟩
      repeat (first | refine wf_cons ?_ | refine wf_asg ?_ | refine wf_iff ?_ | refine wf_ret ?_ | refine wf_ex ?_ | refine wf_setI ?_ | refine wf_aug ?_ | refine wf_asgT ?_ | refine wf_nil ?_ | refine wf_retN ?_ | refine wf_pass ?_ | refine wf_brk ?_ | refine wf_cnt ?_ | refine we_cst ?_ | refine we_d rfl ?_ | refine we_l rfl ?_ | refine we_bin ?_ | refine we_cmp ?_ | refine we_chn ?_ | refine we_ix ?_ | refine we_sl ?_ | refine we_blt ?_ | refine we_mut ?_ | refine we_call ?_ | refine we_tup ?_ | refine we_lst ?_ | refine we_not ?_ | refine we_and ?_ | refine we_or ?_ | refine we_ite ?_ | refine we_isN ?_ | refine we_isC ?_ | refine we_neg ?_ | refine we_gcon ?_ | refine wa_cons ?_ | refine wa_nil ?_ | refine wp_none ?_ | refine wp_some ?_ | refine wt_not ?_ | refine wt_and ?_ | refine wt_or ?_ | refine wt_nil ?_ | refine wt_one ?_ | refine wi_seq ?_ | refine wi_rng ?_ | refine wi_enum ?_ | refine wi_zip ?_ | refine wi_rev ?_ | refine wo_turn ?_ | refine wt_val rfl ?_ | refine ⟨rfl, ?_⟩ | refine ⟨_, rfl, rfl, ?_⟩ | refine ⟨_, _, rfl, rfl, ?_⟩ | refine ⟨_, _, _, rfl, rfl, rfl, ?_⟩ | refine ⟨_, _, _, rfl, rfl, mul_r (by decide), ?_⟩ | refine ⟨_, _, rfl, ?_⟩ | refine ⟨_, rfl, ?_⟩ | refine br_t ?_ | refine br_f ?_ | refine rt_own rfl ?_)
      refine wf_fr ?_
      repeat (first | refine wf_cons ?_ | refine wf_asg ?_ | refine wf_iff ?_ | refine wf_ret ?_ | refine wf_ex ?_ | refine wf_setI ?_ | refine wf_aug ?_ | refine wf_asgT ?_ | refine wf_nil ?_ | refine wf_retN ?_ | refine wf_pass ?_ | refine wf_brk ?_ | refine wf_cnt ?_ | refine we_cst ?_ | refine we_d rfl ?_ | refine we_l rfl ?_ | refine we_bin ?_ | refine we_cmp ?_ | refine we_chn ?_ | refine we_ix ?_ | refine we_sl ?_ | refine we_blt ?_ | refine we_mut ?_ | refine we_call ?_ | refine we_tup ?_ | refine we_lst ?_ | refine we_not ?_ | refine we_and ?_ | refine we_or ?_ | refine we_ite ?_ | refine we_isN ?_ | refine we_isC ?_ | refine we_neg ?_ | refine we_gcon ?_ | refine wa_cons ?_ | refine wa_nil ?_ | refine wp_none ?_ | refine wp_some ?_ | refine wt_not ?_ | refine wt_and ?_ | refine wt_or ?_ | refine wt_nil ?_ | refine wt_one ?_ | refine wi_seq ?_ | refine wi_rng ?_ | refine wi_enum ?_ | refine wi_zip ?_ | refine wi_rev ?_ | refine wo_turn ?_ | refine wt_val rfl ?_ | refine ⟨rfl, ?_⟩ | refine ⟨_, rfl, rfl, ?_⟩ | refine ⟨_, _, rfl, rfl, ?_⟩ | refine ⟨_, _, _, rfl, rfl, rfl, ?_⟩ | refine ⟨_, _, _, rfl, rfl, mul_r (by decide), ?_⟩ | refine ⟨_, _, rfl, ?_⟩ | refine ⟨_, rfl, ?_⟩ | refine br_t ?_ | refine br_f ?_ | refine rt_own rfl ?_)
      refine ⟨_, _, _, rfl, rfl, rng1 (by omega), ?_⟩
      repeat (first | refine wf_cons ?_ | refine wf_asg ?_ | refine wf_iff ?_ | refine wf_ret ?_ | refine wf_ex ?_ | refine wf_setI ?_ | refine wf_aug ?_ | refine wf_asgT ?_ | refine wf_nil ?_ | refine wf_retN ?_ | refine wf_pass ?_ | refine wf_brk ?_ | refine wf_cnt ?_ | refine we_cst ?_ | refine we_d rfl ?_ | refine we_l rfl ?_ | refine we_bin ?_ | refine we_cmp ?_ | refine we_chn ?_ | refine we_ix ?_ | refine we_sl ?_ | refine we_blt ?_ | refine we_mut ?_ | refine we_call ?_ | refine we_tup ?_ | refine we_lst ?_ | refine we_not ?_ | refine we_and ?_ | refine we_or ?_ | refine we_ite ?_ | refine we_isN ?_ | refine we_isC ?_ | refine we_neg ?_ | refine we_gcon ?_ | refine wa_cons ?_ | refine wa_nil ?_ | refine wp_none ?_ | refine wp_some ?_ | refine wt_not ?_ | refine wt_and ?_ | refine wt_or ?_ | refine wt_nil ?_ | refine wt_one ?_ | refine wi_seq ?_ | refine wi_rng ?_ | refine wi_enum ?_ | refine wi_zip ?_ | refine wi_rev ?_ | refine wo_turn ?_ | refine wt_val rfl ?_ | refine ⟨rfl, ?_⟩ | refine ⟨_, rfl, rfl, ?_⟩ | refine ⟨_, _, rfl, rfl, ?_⟩ | refine ⟨_, _, _, rfl, rfl, rfl, ?_⟩ | refine ⟨_, _, _, rfl, rfl, mul_r (by decide), ?_⟩ | refine ⟨_, _, rfl, ?_⟩ | refine ⟨_, rfl, ?_⟩ | refine br_t ?_ | refine br_f ?_ | refine rt_own rfl ?_)
      simp only [stillF_nil]
      refine for_inv (fun i c => ∃ a2, c = [some (.d (.tup ds)), some (.d (.tup ds)), a2]) ⟨none, rfl⟩ ?_ ?_
      · rintro i d c hi ⟨a2, rfl⟩
        obtain ⟨rfl, hi⟩ := rng_get hi
        have hl : i < ds.length := by omega
        refine ⟨_, rfl, ?_⟩
        rw [Int.zero_add]
        repeat (first | refine wf_cons ?_ | refine wf_asg ?_ | refine wf_iff ?_ | refine wf_ret ?_ | refine wf_ex ?_ | refine wf_setI ?_ | refine wf_aug ?_ | refine wf_asgT ?_ | refine wf_nil ?_ | refine wf_retN ?_ | refine wf_pass ?_ | refine wf_brk ?_ | refine wf_cnt ?_ | refine we_cst ?_ | refine we_d rfl ?_ | refine we_l rfl ?_ | refine we_bin ?_ | refine we_cmp ?_ | refine we_chn ?_ | refine we_ix ?_ | refine we_sl ?_ | refine we_blt ?_ | refine we_mut ?_ | refine we_call ?_ | refine we_tup ?_ | refine we_lst ?_ | refine we_not ?_ | refine we_and ?_ | refine we_or ?_ | refine we_ite ?_ | refine we_isN ?_ | refine we_isC ?_ | refine we_neg ?_ | refine we_gcon ?_ | refine wa_cons ?_ | refine wa_nil ?_ | refine wp_none ?_ | refine wp_some ?_ | refine wt_not ?_ | refine wt_and ?_ | refine wt_or ?_ | refine wt_nil ?_ | refine wt_one ?_ | refine wi_seq ?_ | refine wi_rng ?_ | refine wi_enum ?_ | refine wi_zip ?_ | refine wi_rev ?_ | refine wo_turn ?_ | refine wt_val rfl ?_ | refine ⟨rfl, ?_⟩ | refine ⟨_, rfl, rfl, ?_⟩ | refine ⟨_, _, rfl, rfl, ?_⟩ | refine ⟨_, _, _, rfl, rfl, rfl, ?_⟩ | refine ⟨_, _, _, rfl, rfl, mul_r (by decide), ?_⟩ | refine ⟨_, _, rfl, ?_⟩ | refine ⟨_, rfl, ?_⟩ | refine br_t ?_ | refine br_f ?_ | refine rt_own rfl ?_)
        refine ⟨_, _, _, rfl, rfl, idx_tup (n := i) (d := ds[i]) (by simp [hl]), ?_⟩
        repeat (first | refine wf_cons ?_ | refine wf_asg ?_ | refine wf_iff ?_ | refine wf_ret ?_ | refine wf_ex ?_ | refine wf_setI ?_ | refine wf_aug ?_ | refine wf_asgT ?_ | refine wf_nil ?_ | refine wf_retN ?_ | refine wf_pass ?_ | refine wf_brk ?_ | refine wf_cnt ?_ | refine we_cst ?_ | refine we_d rfl ?_ | refine we_l rfl ?_ | refine we_bin ?_ | refine we_cmp ?_ | refine we_chn ?_ | refine we_ix ?_ | refine we_sl ?_ | refine we_blt ?_ | refine we_mut ?_ | refine we_call ?_ | refine we_tup ?_ | refine we_lst ?_ | refine we_not ?_ | refine we_and ?_ | refine we_or ?_ | refine we_ite ?_ | refine we_isN ?_ | refine we_isC ?_ | refine we_neg ?_ | refine we_gcon ?_ | refine wa_cons ?_ | refine wa_nil ?_ | refine wp_none ?_ | refine wp_some ?_ | refine wt_not ?_ | refine wt_and ?_ | refine wt_or ?_ | refine wt_nil ?_ | refine wt_one ?_ | refine wi_seq ?_ | refine wi_rng ?_ | refine wi_enum ?_ | refine wi_zip ?_ | refine wi_rev ?_ | refine wo_turn ?_ | refine wt_val rfl ?_ | refine ⟨rfl, ?_⟩ | refine ⟨_, rfl, rfl, ?_⟩ | refine ⟨_, _, rfl, rfl, ?_⟩ | refine ⟨_, _, _, rfl, rfl, rfl, ?_⟩ | refine ⟨_, _, _, rfl, rfl, mul_r (by decide), ?_⟩ | refine ⟨_, _, rfl, ?_⟩ | refine ⟨_, rfl, ?_⟩ | refine br_t ?_ | refine br_f ?_ | refine rt_own rfl ?_)
        refine ⟨_, _, _, rfl, rfl, idx_tup (n := i) (d := ds[i]) (by simp [hl]), ?_⟩
        repeat (first | refine wf_cons ?_ | refine wf_asg ?_ | refine wf_iff ?_ | refine wf_ret ?_ | refine wf_ex ?_ | refine wf_setI ?_ | refine wf_aug ?_ | refine wf_asgT ?_ | refine wf_nil ?_ | refine wf_retN ?_ | refine wf_pass ?_ | refine wf_brk ?_ | refine wf_cnt ?_ | refine we_cst ?_ | refine we_d rfl ?_ | refine we_l rfl ?_ | refine we_bin ?_ | refine we_cmp ?_ | refine we_chn ?_ | refine we_ix ?_ | refine we_sl ?_ | refine we_blt ?_ | refine we_mut ?_ | refine we_call ?_ | refine we_tup ?_ | refine we_lst ?_ | refine we_not ?_ | refine we_and ?_ | refine we_or ?_ | refine we_ite ?_ | refine we_isN ?_ | refine we_isC ?_ | refine we_neg ?_ | refine we_gcon ?_ | refine wa_cons ?_ | refine wa_nil ?_ | refine wp_none ?_ | refine wp_some ?_ | refine wt_not ?_ | refine wt_and ?_ | refine wt_or ?_ | refine wt_nil ?_ | refine wt_one ?_ | refine wi_seq ?_ | refine wi_rng ?_ | refine wi_enum ?_ | refine wi_zip ?_ | refine wi_rev ?_ | refine wo_turn ?_ | refine wt_val rfl ?_ | refine ⟨rfl, ?_⟩ | refine ⟨_, rfl, rfl, ?_⟩ | refine ⟨_, _, rfl, rfl, ?_⟩ | refine ⟨_, _, _, rfl, rfl, rfl, ?_⟩ | refine ⟨_, _, _, rfl, rfl, mul_r (by decide), ?_⟩ | refine ⟨_, _, rfl, ?_⟩ | refine ⟨_, rfl, ?_⟩ | refine br_t ?_ | refine br_f ?_ | refine rt_own rfl ?_)
        have hm : ds[i] ∈ ds := List.getElem_mem hl
        obtain ⟨_, hz3, rfl⟩ := ih ds[i] k' (by have := ht_mem hm; unfold htD at hn; omega) (by omega) (sm_get hl (by unfold smD at hs; exact hs)) (by have := sz_mem hm; unfold szD at hz; omega)
        refine we_callV hz3 rfl rfl rfl ?_
        repeat (first | refine wf_cons ?_ | refine wf_asg ?_ | refine wf_iff ?_ | refine wf_ret ?_ | refine wf_ex ?_ | refine wf_setI ?_ | refine wf_aug ?_ | refine wf_asgT ?_ | refine wf_nil ?_ | refine wf_retN ?_ | refine wf_pass ?_ | refine wf_brk ?_ | refine wf_cnt ?_ | refine we_cst ?_ | refine we_d rfl ?_ | refine we_l rfl ?_ | refine we_bin ?_ | refine we_cmp ?_ | refine we_chn ?_ | refine we_ix ?_ | refine we_sl ?_ | refine we_blt ?_ | refine we_mut ?_ | refine we_call ?_ | refine we_tup ?_ | refine we_lst ?_ | refine we_not ?_ | refine we_and ?_ | refine we_or ?_ | refine we_ite ?_ | refine we_isN ?_ | refine we_isC ?_ | refine we_neg ?_ | refine we_gcon ?_ | refine wa_cons ?_ | refine wa_nil ?_ | refine wp_none ?_ | refine wp_some ?_ | refine wt_not ?_ | refine wt_and ?_ | refine wt_or ?_ | refine wt_nil ?_ | refine wt_one ?_ | refine wi_seq ?_ | refine wi_rng ?_ | refine wi_enum ?_ | refine wi_zip ?_ | refine wi_rev ?_ | refine wo_turn ?_ | refine wt_val rfl ?_ | refine ⟨rfl, ?_⟩ | refine ⟨_, rfl, rfl, ?_⟩ | refine ⟨_, _, rfl, rfl, ?_⟩ | refine ⟨_, _, _, rfl, rfl, rfl, ?_⟩ | refine ⟨_, _, _, rfl, rfl, mul_r (by decide), ?_⟩ | refine ⟨_, _, rfl, ?_⟩ | refine ⟨_, rfl, ?_⟩ | refine br_t ?_ | refine br_f ?_ | refine rt_own rfl ?_)
        exact ⟨_, rfl⟩
      · rintro c ⟨a2, rfl⟩
        repeat (first | refine wf_cons ?_ | refine wf_asg ?_ | refine wf_iff ?_ | refine wf_ret ?_ | refine wf_ex ?_ | refine wf_setI ?_ | refine wf_aug ?_ | refine wf_asgT ?_ | refine wf_nil ?_ | refine wf_retN ?_ | refine wf_pass ?_ | refine wf_brk ?_ | refine wf_cnt ?_ | refine we_cst ?_ | refine we_d rfl ?_ | refine we_l rfl ?_ | refine we_bin ?_ | refine we_cmp ?_ | refine we_chn ?_ | refine we_ix ?_ | refine we_sl ?_ | refine we_blt ?_ | refine we_mut ?_ | refine we_call ?_ | refine we_tup ?_ | refine we_lst ?_ | refine we_not ?_ | refine we_and ?_ | refine we_or ?_ | refine we_ite ?_ | refine we_isN ?_ | refine we_isC ?_ | refine we_neg ?_ | refine we_gcon ?_ | refine wa_cons ?_ | refine wa_nil ?_ | refine wp_none ?_ | refine wp_some ?_ | refine wt_not ?_ | refine wt_and ?_ | refine wt_or ?_ | refine wt_nil ?_ | refine wt_one ?_ | refine wi_seq ?_ | refine wi_rng ?_ | refine wi_enum ?_ | refine wi_zip ?_ | refine wi_rev ?_ | refine wo_turn ?_ | refine wt_val rfl ?_ | refine ⟨rfl, ?_⟩ | refine ⟨_, rfl, rfl, ?_⟩ | refine ⟨_, _, rfl, rfl, ?_⟩ | refine ⟨_, _, _, rfl, rfl, rfl, ?_⟩ | refine ⟨_, _, _, rfl, rfl, mul_r (by decide), ?_⟩ | refine ⟨_, _, rfl, ?_⟩ | refine ⟨_, rfl, ?_⟩ | refine br_t ?_ | refine br_f ?_ | refine rt_own rfl ?_)
        exact hR _ _ _ rfl rfl
    | _ => exact flat _ k (by omega) hs fun ds e => by cases e
end G
namespace G
open PySem
theorem isKs_snoc {a : List D} {d : D} : isKs (a ++ [d]) = (isKs a && isK d) := by rw [isKs_app]; simp [isKs]
theorem wlDs_snoc {a : List D} {d : D} : wlDs (a ++ [d]) = (wlDs a && wlD d) := by rw [wlDs_app]; simp [wlDs]
theorem szDs_snoc {a : List D} {d : D} : szDs (a ++ [d]) = szDs a + szD d := by rw [szs_app]; simp [szDs]
def IskI (d : D) (m : Nat) (c : Loc) : Prop := ∃ ws a2, m = szDs ws ∧ m ≤ szD d ∧ isKs ws = isK d ∧ wlDs ws = true ∧ c = [some (.d d), some (.l ws), a2]
theorem isk_ok {P : Prg} {w k : Nat} (h : IsFn P 0 1 3 b_is_kind) (hk : 1 ≤ k) (d : D) (hd : wlD d = true) (hz : szD d ≤ 1000000) (hw : szD d < w) :
    ∃ cr, run P w k 0 [.d d] = .ok cr ∧ cr = ⟨.v (.d (.bl (isK d))), [some (.d d)]⟩ := by
  refine run_by h rfl rfl hk fun k' N R ek hN hR => ?_
  unfold b_is_kind
  repeat (first | refine wf_cons ?_ | refine wf_asg ?_ | refine wf_iff ?_ | refine wf_ret ?_ | refine wf_ex ?_ | refine wf_setI ?_ | refine wf_aug ?_ | refine wf_asgT ?_ | refine wf_nil ?_ | refine wf_retN ?_ | refine wf_pass ?_ | refine wf_brk ?_ | refine wf_cnt ?_ | refine we_cst ?_ | refine we_d rfl ?_ | refine we_l rfl ?_ | refine we_bin ?_ | refine we_cmp ?_ | refine we_chn ?_ | refine we_ix ?_ | refine we_sl ?_ | refine we_blt ?_ | refine we_mut ?_ | refine we_call ?_ | refine we_tup ?_ | refine we_lst ?_ | refine we_not ?_ | refine we_and ?_ | refine we_or ?_ | refine we_ite ?_ | refine we_isN ?_ | refine we_isC ?_ | refine we_neg ?_ | refine we_gcon ?_ | refine we_lc ?_ | refine wa_cons ?_ | refine wa_nil ?_ | refine wp_none ?_ | refine wp_some ?_ | refine wt_not ?_ | refine wt_and ?_ | refine wt_or ?_ | refine wt_nil ?_ | refine wt_one ?_ | refine wi_seq ?_ | refine wi_rng ?_ | refine wi_enum ?_ | refine wi_zip ?_ | refine wi_rev ?_ | refine wo_turn ?_ | refine wt_val rfl ?_ | refine ⟨rfl, ?_⟩ | refine ⟨_, rfl, rfl, ?_⟩ | refine ⟨_, _, rfl, rfl, ?_⟩ | refine ⟨_, _, _, rfl, rfl, rfl, ?_⟩ | refine ⟨_, _, _, rfl, rfl, mul_r (by decide), ?_⟩ | refine ⟨_, _, rfl, ?_⟩ | refine ⟨_, rfl, ?_⟩ | refine br_t ?_ | refine br_f ?_ | refine rt_own rfl ?_)
  refine wf_whl ?_
  refine whileL_inv (IskI d) ?_ w (szD d) _ hw ⟨[d], none, by simp [szDs], Nat.le_refl _, by simp [isKs], by simp [wlDs, hd], rfl⟩
  rintro m c ⟨ws, a2, hm, hm2, h1, h2, rfl⟩
  rcases List.eq_nil_or_concat ws with rfl | ⟨ws, x, rfl⟩
  · repeat (first | refine wf_cons ?_ | refine wf_asg ?_ | refine wf_iff ?_ | refine wf_ret ?_ | refine wf_ex ?_ | refine wf_setI ?_ | refine wf_aug ?_ | refine wf_asgT ?_ | refine wf_nil ?_ | refine wf_retN ?_ | refine wf_pass ?_ | refine wf_brk ?_ | refine wf_cnt ?_ | refine we_cst ?_ | refine we_d rfl ?_ | refine we_l rfl ?_ | refine we_bin ?_ | refine we_cmp ?_ | refine we_chn ?_ | refine we_ix ?_ | refine we_sl ?_ | refine we_blt ?_ | refine we_mut ?_ | refine we_call ?_ | refine we_tup ?_ | refine we_lst ?_ | refine we_not ?_ | refine we_and ?_ | refine we_or ?_ | refine we_ite ?_ | refine we_isN ?_ | refine we_isC ?_ | refine we_neg ?_ | refine we_gcon ?_ | refine we_lc ?_ | refine wa_cons ?_ | refine wa_nil ?_ | refine wp_none ?_ | refine wp_some ?_ | refine wt_not ?_ | refine wt_and ?_ | refine wt_or ?_ | refine wt_nil ?_ | refine wt_one ?_ | refine wi_seq ?_ | refine wi_rng ?_ | refine wi_enum ?_ | refine wi_zip ?_ | refine wi_rev ?_ | refine wo_turn ?_ | refine wt_val rfl ?_ | refine ⟨rfl, ?_⟩ | refine ⟨_, rfl, rfl, ?_⟩ | refine ⟨_, _, rfl, rfl, ?_⟩ | refine ⟨_, _, _, rfl, rfl, rfl, ?_⟩ | refine ⟨_, _, _, rfl, rfl, mul_r (by decide), ?_⟩ | refine ⟨_, _, rfl, ?_⟩ | refine ⟨_, rfl, ?_⟩ | refine br_t ?_ | refine br_f ?_ | refine rt_own rfl ?_)
    refine hR _ _ _ rfl ?_
    rw [← h1]
    rfl
  · rw [List.concat_eq_append] at h1 h2 hm ⊢
    rw [isKs_snoc] at h1
    rw [wlDs_snoc, Bool.and_eq_true] at h2
    rw [szDs_snoc] at hm
    repeat (first | refine wf_cons ?_ | refine wf_asg ?_ | refine wf_iff ?_ | refine wf_ret ?_ | refine wf_ex ?_ | refine wf_setI ?_ | refine wf_aug ?_ | refine wf_asgT ?_ | refine wf_nil ?_ | refine wf_retN ?_ | refine wf_pass ?_ | refine wf_brk ?_ | refine wf_cnt ?_ | refine we_cst ?_ | refine we_d rfl ?_ | refine we_l rfl ?_ | refine we_bin ?_ | refine we_cmp ?_ | refine we_chn ?_ | refine we_ix ?_ | refine we_sl ?_ | refine we_blt ?_ | refine we_mut ?_ | refine we_call ?_ | refine we_tup ?_ | refine we_lst ?_ | refine we_not ?_ | refine we_and ?_ | refine we_or ?_ | refine we_ite ?_ | refine we_isN ?_ | refine we_isC ?_ | refine we_neg ?_ | refine we_gcon ?_ | refine we_lc ?_ | refine wa_cons ?_ | refine wa_nil ?_ | refine wp_none ?_ | refine wp_some ?_ | refine wt_not ?_ | refine wt_and ?_ | refine wt_or ?_ | refine wt_nil ?_ | refine wt_one ?_ | refine wi_seq ?_ | refine wi_rng ?_ | refine wi_enum ?_ | refine wi_zip ?_ | refine wi_rev ?_ | refine wo_turn ?_ | refine wt_val rfl ?_ | refine ⟨rfl, ?_⟩ | refine ⟨_, rfl, rfl, ?_⟩ | refine ⟨_, _, rfl, rfl, ?_⟩ | refine ⟨_, _, _, rfl, rfl, rfl, ?_⟩ | refine ⟨_, _, _, rfl, rfl, mul_r (by decide), ?_⟩ | refine ⟨_, _, rfl, ?_⟩ | refine ⟨_, rfl, ?_⟩ | refine br_t ?_ | refine br_f ?_ | refine rt_own rfl ?_)
    refine ⟨fun hb => ?_, fun hb => absurd hb (by simp)⟩
    refine ⟨szDs ws + szD x - 1, by have := sz_pos (d := x); omega, ?_⟩
    have pp : mutL .pop (ws ++ [x]) [] = .ok (x, ws) := bnd (isOkT (a := x) (by simp)) (by simp)
    have no : isK x = false → isK d = false := fun e => by rw [← h1, e, Bool.and_false]
    have hx := h2.2
    cases x with
    | tup ds =>
      repeat (first | refine wf_cons ?_ | refine wf_asg ?_ | refine wf_iff ?_ | refine wf_ret ?_ | refine wf_ex ?_ | refine wf_setI ?_ | refine wf_aug ?_ | refine wf_asgT ?_ | refine wf_nil ?_ | refine wf_retN ?_ | refine wf_pass ?_ | refine wf_brk ?_ | refine wf_cnt ?_ | refine we_cst ?_ | refine we_d rfl ?_ | refine we_l rfl ?_ | refine we_bin ?_ | refine we_cmp ?_ | refine we_chn ?_ | refine we_ix ?_ | refine we_sl ?_ | refine we_blt ?_ | refine we_mut ?_ | refine we_call ?_ | refine we_tup ?_ | refine we_lst ?_ | refine we_not ?_ | refine we_and ?_ | refine we_or ?_ | refine we_ite ?_ | refine we_isN ?_ | refine we_isC ?_ | refine we_neg ?_ | refine we_gcon ?_ | refine we_lc ?_ | refine wa_cons ?_ | refine wa_nil ?_ | refine wp_none ?_ | refine wp_some ?_ | refine wt_not ?_ | refine wt_and ?_ | refine wt_or ?_ | refine wt_nil ?_ | refine wt_one ?_ | refine wi_seq ?_ | refine wi_rng ?_ | refine wi_enum ?_ | refine wi_zip ?_ | refine wi_rev ?_ | refine wo_turn ?_ | refine wt_val rfl ?_ | refine ⟨rfl, ?_⟩ | refine ⟨_, rfl, rfl, ?_⟩ | refine ⟨_, _, rfl, rfl, ?_⟩ | refine ⟨_, _, _, rfl, rfl, rfl, ?_⟩ | refine ⟨_, _, _, rfl, rfl, mul_r (by decide), ?_⟩ | refine ⟨_, _, rfl, ?_⟩ | refine ⟨_, rfl, ?_⟩ | refine br_t ?_ | refine br_f ?_ | refine rt_own rfl ?_)
      refine ⟨_, _, _, _, _, _, rfl, rfl, pp, rfl, ?_⟩
      repeat (first | refine wf_cons ?_ | refine wf_asg ?_ | refine wf_iff ?_ | refine wf_ret ?_ | refine wf_ex ?_ | refine wf_setI ?_ | refine wf_aug ?_ | refine wf_asgT ?_ | refine wf_nil ?_ | refine wf_retN ?_ | refine wf_pass ?_ | refine wf_brk ?_ | refine wf_cnt ?_ | refine we_cst ?_ | refine we_d rfl ?_ | refine we_l rfl ?_ | refine we_bin ?_ | refine we_cmp ?_ | refine we_chn ?_ | refine we_ix ?_ | refine we_sl ?_ | refine we_blt ?_ | refine we_mut ?_ | refine we_call ?_ | refine we_tup ?_ | refine we_lst ?_ | refine we_not ?_ | refine we_and ?_ | refine we_or ?_ | refine we_ite ?_ | refine we_isN ?_ | refine we_isC ?_ | refine we_neg ?_ | refine we_gcon ?_ | refine we_lc ?_ | refine wa_cons ?_ | refine wa_nil ?_ | refine wp_none ?_ | refine wp_some ?_ | refine wt_not ?_ | refine wt_and ?_ | refine wt_or ?_ | refine wt_nil ?_ | refine wt_one ?_ | refine wi_seq ?_ | refine wi_rng ?_ | refine wi_enum ?_ | refine wi_zip ?_ | refine wi_rev ?_ | refine wo_turn ?_ | refine wt_val rfl ?_ | refine ⟨rfl, ?_⟩ | refine ⟨_, rfl, rfl, ?_⟩ | refine ⟨_, _, rfl, rfl, ?_⟩ | refine ⟨_, _, _, rfl, rfl, rfl, ?_⟩ | refine ⟨_, _, _, rfl, rfl, mul_r (by decide), ?_⟩ | refine ⟨_, _, rfl, ?_⟩ | refine ⟨_, rfl, ?_⟩ | refine br_t ?_ | refine br_f ?_ | refine rt_own rfl ?_)
      have hl : ws.length ≤ szDs ws := sz_len
      have hl2 : ds.length ≤ szDs ds := sz_len
      have e2 : szD (.tup ds) = szDs ds + 1 := by simp [szD]
      refine ⟨_, _, _, _, _, _, rfl, rfl, mutE rfl (fits_of (by omega)), rfl, ?_⟩
      repeat (first | refine wf_cons ?_ | refine wf_asg ?_ | refine wf_iff ?_ | refine wf_ret ?_ | refine wf_ex ?_ | refine wf_setI ?_ | refine wf_aug ?_ | refine wf_asgT ?_ | refine wf_nil ?_ | refine wf_retN ?_ | refine wf_pass ?_ | refine wf_brk ?_ | refine wf_cnt ?_ | refine we_cst ?_ | refine we_d rfl ?_ | refine we_l rfl ?_ | refine we_bin ?_ | refine we_cmp ?_ | refine we_chn ?_ | refine we_ix ?_ | refine we_sl ?_ | refine we_blt ?_ | refine we_mut ?_ | refine we_call ?_ | refine we_tup ?_ | refine we_lst ?_ | refine we_not ?_ | refine we_and ?_ | refine we_or ?_ | refine we_ite ?_ | refine we_isN ?_ | refine we_isC ?_ | refine we_neg ?_ | refine we_gcon ?_ | refine we_lc ?_ | refine wa_cons ?_ | refine wa_nil ?_ | refine wp_none ?_ | refine wp_some ?_ | refine wt_not ?_ | refine wt_and ?_ | refine wt_or ?_ | refine wt_nil ?_ | refine wt_one ?_ | refine wi_seq ?_ | refine wi_rng ?_ | refine wi_enum ?_ | refine wi_zip ?_ | refine wi_rev ?_ | refine wo_turn ?_ | refine wt_val rfl ?_ | refine ⟨rfl, ?_⟩ | refine ⟨_, rfl, rfl, ?_⟩ | refine ⟨_, _, rfl, rfl, ?_⟩ | refine ⟨_, _, _, rfl, rfl, rfl, ?_⟩ | refine ⟨_, _, _, rfl, rfl, mul_r (by decide), ?_⟩ | refine ⟨_, _, rfl, ?_⟩ | refine ⟨_, rfl, ?_⟩ | refine br_t ?_ | refine br_f ?_ | refine rt_own rfl ?_)
      refine ⟨szDs ws + szDs ds, by omega, ws ++ ds, _, by rw [szs_app], by omega, ?_, ?_, rfl⟩
      · rw [isKs_app, ← h1]
        simp [isK]
      · rw [wlDs_app, h2.1]
        unfold wlD at hx
        rw [hx]; rfl
    | dic ds => cases hx
    | _ =>
      repeat (first | refine wf_cons ?_ | refine wf_asg ?_ | refine wf_iff ?_ | refine wf_ret ?_ | refine wf_ex ?_ | refine wf_setI ?_ | refine wf_aug ?_ | refine wf_asgT ?_ | refine wf_nil ?_ | refine wf_retN ?_ | refine wf_pass ?_ | refine wf_brk ?_ | refine wf_cnt ?_ | refine we_cst ?_ | refine we_d rfl ?_ | refine we_l rfl ?_ | refine we_bin ?_ | refine we_cmp ?_ | refine we_chn ?_ | refine we_ix ?_ | refine we_sl ?_ | refine we_blt ?_ | refine we_mut ?_ | refine we_call ?_ | refine we_tup ?_ | refine we_lst ?_ | refine we_not ?_ | refine we_and ?_ | refine we_or ?_ | refine we_ite ?_ | refine we_isN ?_ | refine we_isC ?_ | refine we_neg ?_ | refine we_gcon ?_ | refine we_lc ?_ | refine wa_cons ?_ | refine wa_nil ?_ | refine wp_none ?_ | refine wp_some ?_ | refine wt_not ?_ | refine wt_and ?_ | refine wt_or ?_ | refine wt_nil ?_ | refine wt_one ?_ | refine wi_seq ?_ | refine wi_rng ?_ | refine wi_enum ?_ | refine wi_zip ?_ | refine wi_rev ?_ | refine wo_turn ?_ | refine wt_val rfl ?_ | refine ⟨rfl, ?_⟩ | refine ⟨_, rfl, rfl, ?_⟩ | refine ⟨_, _, rfl, rfl, ?_⟩ | refine ⟨_, _, _, rfl, rfl, rfl, ?_⟩ | refine ⟨_, _, _, rfl, rfl, mul_r (by decide), ?_⟩ | refine ⟨_, _, rfl, ?_⟩ | refine ⟨_, rfl, ?_⟩ | refine br_t ?_ | refine br_f ?_ | refine rt_own rfl ?_)
      refine ⟨_, _, _, _, _, _, rfl, rfl, pp, rfl, ?_⟩
      repeat (first | refine wf_cons ?_ | refine wf_asg ?_ | refine wf_iff ?_ | refine wf_ret ?_ | refine wf_ex ?_ | refine wf_setI ?_ | refine wf_aug ?_ | refine wf_asgT ?_ | refine wf_nil ?_ | refine wf_retN ?_ | refine wf_pass ?_ | refine wf_brk ?_ | refine wf_cnt ?_ | refine we_cst ?_ | refine we_d rfl ?_ | refine we_l rfl ?_ | refine we_bin ?_ | refine we_cmp ?_ | refine we_chn ?_ | refine we_ix ?_ | refine we_sl ?_ | refine we_blt ?_ | refine we_mut ?_ | refine we_call ?_ | refine we_tup ?_ | refine we_lst ?_ | refine we_not ?_ | refine we_and ?_ | refine we_or ?_ | refine we_ite ?_ | refine we_isN ?_ | refine we_isC ?_ | refine we_neg ?_ | refine we_gcon ?_ | refine we_lc ?_ | refine wa_cons ?_ | refine wa_nil ?_ | refine wp_none ?_ | refine wp_some ?_ | refine wt_not ?_ | refine wt_and ?_ | refine wt_or ?_ | refine wt_nil ?_ | refine wt_one ?_ | refine wi_seq ?_ | refine wi_rng ?_ | refine wi_enum ?_ | refine wi_zip ?_ | refine wi_rev ?_ | refine wo_turn ?_ | refine wt_val rfl ?_ | refine ⟨rfl, ?_⟩ | refine ⟨_, rfl, rfl, ?_⟩ | refine ⟨_, _, rfl, rfl, ?_⟩ | refine ⟨_, _, _, rfl, rfl, rfl, ?_⟩ | refine ⟨_, _, _, rfl, rfl, mul_r (by decide), ?_⟩ | refine ⟨_, _, rfl, ?_⟩ | refine ⟨_, rfl, ?_⟩ | refine br_t ?_ | refine br_f ?_ | refine rt_own rfl ?_)
      exact hR _ _ _ rfl (by rw [no (by simp [isK])]; rfl)
/-! ### the law's own -/
theorem eqv_nil {xs : List D} : PyData.eqv (.list (D.pys xs)) (.list []) = xs.isEmpty := by
  cases xs with
  | nil => simp [D.pys, PyData.eqv, PyData.eqvAll]
  | cons a b => simp [D.pys, PyData.eqv, PyData.eqvAll]
theorem filt_all : ∀ {ds : List D}, (ds.filter fun x => !isK x).isEmpty = isKs ds
  | [] => rfl
  | d :: ds => by
    have := filt_all (ds := ds)
    unfold isKs
    cases h : isK d with
    | true => rw [List.filter_cons_of_neg (by simp [h]), this]; rfl
    | false => rw [List.filter_cons_of_pos (by simp [h])]; rfl
theorem lisk_ok {P : Prg} {w : Nat} (h : IsFn P 13 1 2 b_L_is_kind) : ∀ (n : Nat) (d : D) (k : Nat), htD d ≤ n → n + 1 ≤ k → n < 64 → wlD d = true → szD d ≤ 1000000 →
    ∃ cr, run P w k 13 [.d d] = .ok cr ∧ cr = ⟨.v (.d (.bl (isK d))), [some (.d d)]⟩ := by
  have flat : ∀ (d : D) (k : Nat), 1 ≤ k → wlD d = true → (∀ ds, d ≠ .tup ds) → ∃ cr, run P w k 13 [.d d] = .ok cr ∧ cr = ⟨.v (.d (.bl (isK d))), [some (.d d)]⟩ := by
    intro d k hk hs ht
    refine run_by h rfl rfl hk fun k' N R ek hN hR => ?_
    unfold b_L_is_kind
    cases d with
    | tup ds => exact absurd rfl (ht ds)
    | dic ds => cases hs
    | _ =>
      repeat (first | refine wf_cons ?_ | refine wf_asg ?_ | refine wf_iff ?_ | refine wf_ret ?_ | refine wf_ex ?_ | refine wf_setI ?_ | refine wf_aug ?_ | refine wf_asgT ?_ | refine wf_nil ?_ | refine wf_retN ?_ | refine wf_pass ?_ | refine wf_brk ?_ | refine wf_cnt ?_ | refine we_cst ?_ | refine we_d rfl ?_ | refine we_l rfl ?_ | refine we_bin ?_ | refine we_cmp ?_ | refine we_chn ?_ | refine we_ix ?_ | refine we_sl ?_ | refine we_blt ?_ | refine we_mut ?_ | refine we_call ?_ | refine we_tup ?_ | refine we_lst ?_ | refine we_not ?_ | refine we_and ?_ | refine we_or ?_ | refine we_ite ?_ | refine we_isN ?_ | refine we_isC ?_ | refine we_neg ?_ | refine we_gcon ?_ | refine we_lc ?_ | refine wa_cons ?_ | refine wa_nil ?_ | refine wp_none ?_ | refine wp_some ?_ | refine wt_not ?_ | refine wt_and ?_ | refine wt_or ?_ | refine wt_nil ?_ | refine wt_one ?_ | refine wi_seq ?_ | refine wi_rng ?_ | refine wi_enum ?_ | refine wi_zip ?_ | refine wi_rev ?_ | refine wo_turn ?_ | refine wt_val rfl ?_ | refine ⟨rfl, ?_⟩ | refine ⟨_, rfl, rfl, ?_⟩ | refine ⟨_, _, rfl, rfl, ?_⟩ | refine ⟨_, _, _, rfl, rfl, rfl, ?_⟩ | refine ⟨_, _, _, rfl, rfl, mul_r (by decide), ?_⟩ | refine ⟨_, _, rfl, ?_⟩ | refine ⟨_, rfl, ?_⟩ | refine br_t ?_ | refine br_f ?_ | refine rt_own rfl ?_)
      exact hR _ _ _ rfl (by simp [isK]; rfl)
  intro n
  induction n with
  | zero =>
    intro d k hn hk h64 hs hz
    refine flat d k (by omega) hs fun ds e => ?_
    subst e
    unfold htD at hn
    omega
  | succ n ih =>
    intro d k hn hk h64 hs hz
    cases d with
    | tup ds =>
      refine run_by h rfl rfl (by omega) fun k' N R ek hN hR => ?_
      have e1 : htD (.tup ds) = htDs ds + 1 := by simp [htD]
      have e2 : szD (.tup ds) = szDs ds + 1 := by simp [szD]
      have hs : wlDs ds = true := by unfold wlD at hs; exact hs
      have hl : ds.length ≤ szDs ds := sz_len
      unfold b_L_is_kind
      repeat (first | refine wf_cons ?_ | refine wf_asg ?_ | refine wf_iff ?_ | refine wf_ret ?_ | refine wf_ex ?_ | refine wf_setI ?_ | refine wf_aug ?_ | refine wf_asgT ?_ | refine wf_nil ?_ | refine wf_retN ?_ | refine wf_pass ?_ | refine wf_brk ?_ | refine wf_cnt ?_ | refine we_cst ?_ | refine we_d rfl ?_ | refine we_l rfl ?_ | refine we_bin ?_ | refine we_cmp ?_ | refine we_chn ?_ | refine we_ix ?_ | refine we_sl ?_ | refine we_blt ?_ | refine we_mut ?_ | refine we_call ?_ | refine we_tup ?_ | refine we_lst ?_ | refine we_not ?_ | refine we_and ?_ | refine we_or ?_ | refine we_ite ?_ | refine we_isN ?_ | refine we_isC ?_ | refine we_neg ?_ | refine we_gcon ?_ | refine we_lc ?_ | refine wa_cons ?_ | refine wa_nil ?_ | refine wp_none ?_ | refine wp_some ?_ | refine wt_not ?_ | refine wt_and ?_ | refine wt_or ?_ | refine wt_nil ?_ | refine wt_one ?_ | refine wi_seq ?_ | refine wi_rng ?_ | refine wi_enum ?_ | refine wi_zip ?_ | refine wi_rev ?_ | refine wo_turn ?_ | refine wt_val rfl ?_ | refine ⟨rfl, ?_⟩ | refine ⟨_, rfl, rfl, ?_⟩ | refine ⟨_, _, rfl, rfl, ?_⟩ | refine ⟨_, _, _, rfl, rfl, rfl, ?_⟩ | refine ⟨_, _, _, rfl, rfl, mul_r (by decide), ?_⟩ | refine ⟨_, _, rfl, ?_⟩ | refine ⟨_, rfl, ?_⟩ | refine br_t ?_ | refine br_f ?_ | refine rt_own rfl ?_)
      refine lc_go (its := ds) (fun i ys c => ys = (ds.take i).filter (fun x => !isK x) ∧ c = [some (.d (.tup ds)), none]) (by rfl) (by rfl) (by exact ⟨rfl, rfl⟩) ?_ ?_
      · rintro i d ys c hi ⟨rfl, rfl⟩
        obtain ⟨hl, rfl⟩ := get_of (xs := ds) hi
        have hm : ds[i] ∈ ds := List.getElem_mem hl
        refine ⟨_, rfl, ?_⟩
        repeat (first | refine wf_cons ?_ | refine wf_asg ?_ | refine wf_iff ?_ | refine wf_ret ?_ | refine wf_ex ?_ | refine wf_setI ?_ | refine wf_aug ?_ | refine wf_asgT ?_ | refine wf_nil ?_ | refine wf_retN ?_ | refine wf_pass ?_ | refine wf_brk ?_ | refine wf_cnt ?_ | refine we_cst ?_ | refine we_d rfl ?_ | refine we_l rfl ?_ | refine we_bin ?_ | refine we_cmp ?_ | refine we_chn ?_ | refine we_ix ?_ | refine we_sl ?_ | refine we_blt ?_ | refine we_mut ?_ | refine we_call ?_ | refine we_tup ?_ | refine we_lst ?_ | refine we_not ?_ | refine we_and ?_ | refine we_or ?_ | refine we_ite ?_ | refine we_isN ?_ | refine we_isC ?_ | refine we_neg ?_ | refine we_gcon ?_ | refine we_lc ?_ | refine wa_cons ?_ | refine wa_nil ?_ | refine wp_none ?_ | refine wp_some ?_ | refine wt_not ?_ | refine wt_and ?_ | refine wt_or ?_ | refine wt_nil ?_ | refine wt_one ?_ | refine wi_seq ?_ | refine wi_rng ?_ | refine wi_enum ?_ | refine wi_zip ?_ | refine wi_rev ?_ | refine wo_turn ?_ | refine wt_val rfl ?_ | refine ⟨rfl, ?_⟩ | refine ⟨_, rfl, rfl, ?_⟩ | refine ⟨_, _, rfl, rfl, ?_⟩ | refine ⟨_, _, _, rfl, rfl, rfl, ?_⟩ | refine ⟨_, _, _, rfl, rfl, mul_r (by decide), ?_⟩ | refine ⟨_, _, rfl, ?_⟩ | refine ⟨_, rfl, ?_⟩ | refine br_t ?_ | refine br_f ?_ | refine rt_own rfl ?_)
        obtain ⟨_, hz3, rfl⟩ := ih ds[i] k' (by have := ht_mem hm; omega) (by omega) (by omega) (wlDs_mem hs hm) (by have := sz_mem hm; omega)
        refine we_callV hz3 rfl rfl rfl ?_
        repeat (first | refine wf_cons ?_ | refine wf_asg ?_ | refine wf_iff ?_ | refine wf_ret ?_ | refine wf_ex ?_ | refine wf_setI ?_ | refine wf_aug ?_ | refine wf_asgT ?_ | refine wf_nil ?_ | refine wf_retN ?_ | refine wf_pass ?_ | refine wf_brk ?_ | refine wf_cnt ?_ | refine we_cst ?_ | refine we_d rfl ?_ | refine we_l rfl ?_ | refine we_bin ?_ | refine we_cmp ?_ | refine we_chn ?_ | refine we_ix ?_ | refine we_sl ?_ | refine we_blt ?_ | refine we_mut ?_ | refine we_call ?_ | refine we_tup ?_ | refine we_lst ?_ | refine we_not ?_ | refine we_and ?_ | refine we_or ?_ | refine we_ite ?_ | refine we_isN ?_ | refine we_isC ?_ | refine we_neg ?_ | refine we_gcon ?_ | refine we_lc ?_ | refine wa_cons ?_ | refine wa_nil ?_ | refine wp_none ?_ | refine wp_some ?_ | refine wt_not ?_ | refine wt_and ?_ | refine wt_or ?_ | refine wt_nil ?_ | refine wt_one ?_ | refine wi_seq ?_ | refine wi_rng ?_ | refine wi_enum ?_ | refine wi_zip ?_ | refine wi_rev ?_ | refine wo_turn ?_ | refine wt_val rfl ?_ | refine ⟨rfl, ?_⟩ | refine ⟨_, rfl, rfl, ?_⟩ | refine ⟨_, _, rfl, rfl, ?_⟩ | refine ⟨_, _, _, rfl, rfl, rfl, ?_⟩ | refine ⟨_, _, _, rfl, rfl, mul_r (by decide), ?_⟩ | refine ⟨_, _, rfl, ?_⟩ | refine ⟨_, rfl, ?_⟩ | refine br_t ?_ | refine br_f ?_ | refine rt_own rfl ?_)
        rw [take_snoc hl, List.filter_append]
        cases hK : isK ds[i] with
        | true =>
          repeat (first | refine wf_cons ?_ | refine wf_asg ?_ | refine wf_iff ?_ | refine wf_ret ?_ | refine wf_ex ?_ | refine wf_setI ?_ | refine wf_aug ?_ | refine wf_asgT ?_ | refine wf_nil ?_ | refine wf_retN ?_ | refine wf_pass ?_ | refine wf_brk ?_ | refine wf_cnt ?_ | refine we_cst ?_ | refine we_d rfl ?_ | refine we_l rfl ?_ | refine we_bin ?_ | refine we_cmp ?_ | refine we_chn ?_ | refine we_ix ?_ | refine we_sl ?_ | refine we_blt ?_ | refine we_mut ?_ | refine we_call ?_ | refine we_tup ?_ | refine we_lst ?_ | refine we_not ?_ | refine we_and ?_ | refine we_or ?_ | refine we_ite ?_ | refine we_isN ?_ | refine we_isC ?_ | refine we_neg ?_ | refine we_gcon ?_ | refine we_lc ?_ | refine wa_cons ?_ | refine wa_nil ?_ | refine wp_none ?_ | refine wp_some ?_ | refine wt_not ?_ | refine wt_and ?_ | refine wt_or ?_ | refine wt_nil ?_ | refine wt_one ?_ | refine wi_seq ?_ | refine wi_rng ?_ | refine wi_enum ?_ | refine wi_zip ?_ | refine wi_rev ?_ | refine wo_turn ?_ | refine wt_val rfl ?_ | refine ⟨rfl, ?_⟩ | refine ⟨_, rfl, rfl, ?_⟩ | refine ⟨_, _, rfl, rfl, ?_⟩ | refine ⟨_, _, _, rfl, rfl, rfl, ?_⟩ | refine ⟨_, _, _, rfl, rfl, mul_r (by decide), ?_⟩ | refine ⟨_, _, rfl, ?_⟩ | refine ⟨_, rfl, ?_⟩ | refine br_t ?_ | refine br_f ?_ | refine rt_own rfl ?_)
          exact ⟨by simp [hK], rfl⟩
        | false =>
          repeat (first | refine wf_cons ?_ | refine wf_asg ?_ | refine wf_iff ?_ | refine wf_ret ?_ | refine wf_ex ?_ | refine wf_setI ?_ | refine wf_aug ?_ | refine wf_asgT ?_ | refine wf_nil ?_ | refine wf_retN ?_ | refine wf_pass ?_ | refine wf_brk ?_ | refine wf_cnt ?_ | refine we_cst ?_ | refine we_d rfl ?_ | refine we_l rfl ?_ | refine we_bin ?_ | refine we_cmp ?_ | refine we_chn ?_ | refine we_ix ?_ | refine we_sl ?_ | refine we_blt ?_ | refine we_mut ?_ | refine we_call ?_ | refine we_tup ?_ | refine we_lst ?_ | refine we_not ?_ | refine we_and ?_ | refine we_or ?_ | refine we_ite ?_ | refine we_isN ?_ | refine we_isC ?_ | refine we_neg ?_ | refine we_gcon ?_ | refine we_lc ?_ | refine wa_cons ?_ | refine wa_nil ?_ | refine wp_none ?_ | refine wp_some ?_ | refine wt_not ?_ | refine wt_and ?_ | refine wt_or ?_ | refine wt_nil ?_ | refine wt_one ?_ | refine wi_seq ?_ | refine wi_rng ?_ | refine wi_enum ?_ | refine wi_zip ?_ | refine wi_rev ?_ | refine wo_turn ?_ | refine wt_val rfl ?_ | refine ⟨rfl, ?_⟩ | refine ⟨_, rfl, rfl, ?_⟩ | refine ⟨_, _, rfl, rfl, ?_⟩ | refine ⟨_, _, _, rfl, rfl, rfl, ?_⟩ | refine ⟨_, _, _, rfl, rfl, mul_r (by decide), ?_⟩ | refine ⟨_, _, rfl, ?_⟩ | refine ⟨_, rfl, ?_⟩ | refine br_t ?_ | refine br_f ?_ | refine rt_own rfl ?_)
          exact ⟨by simp [hK]; rfl, rfl⟩
      · rintro ys c3 ⟨rfl, rfl⟩
        have hf : ∀ d ∈ ds.filter (fun x => !isK x), d ∈ ds := fun d hd => (List.mem_filter.mp hd).1
        rw [List.take_length]
        refine ⟨fits_of (Nat.le_trans (List.length_filter_le _ _) (by omega)), ?_⟩
        repeat (first | refine wf_cons ?_ | refine wf_asg ?_ | refine wf_iff ?_ | refine wf_ret ?_ | refine wf_ex ?_ | refine wf_setI ?_ | refine wf_aug ?_ | refine wf_asgT ?_ | refine wf_nil ?_ | refine wf_retN ?_ | refine wf_pass ?_ | refine wf_brk ?_ | refine wf_cnt ?_ | refine we_cst ?_ | refine we_d rfl ?_ | refine we_l rfl ?_ | refine we_bin ?_ | refine we_cmp ?_ | refine we_chn ?_ | refine we_ix ?_ | refine we_sl ?_ | refine we_blt ?_ | refine we_mut ?_ | refine we_call ?_ | refine we_tup ?_ | refine we_lst ?_ | refine we_not ?_ | refine we_and ?_ | refine we_or ?_ | refine we_ite ?_ | refine we_isN ?_ | refine we_isC ?_ | refine we_neg ?_ | refine we_gcon ?_ | refine we_lc ?_ | refine wa_cons ?_ | refine wa_nil ?_ | refine wp_none ?_ | refine wp_some ?_ | refine wt_not ?_ | refine wt_and ?_ | refine wt_or ?_ | refine wt_nil ?_ | refine wt_one ?_ | refine wi_seq ?_ | refine wi_rng ?_ | refine wi_enum ?_ | refine wi_zip ?_ | refine wi_rev ?_ | refine wo_turn ?_ | refine wt_val rfl ?_ | refine ⟨rfl, ?_⟩ | refine ⟨_, rfl, rfl, ?_⟩ | refine ⟨_, _, rfl, rfl, ?_⟩ | refine ⟨_, _, _, rfl, rfl, rfl, ?_⟩ | refine ⟨_, _, _, rfl, rfl, mul_r (by decide), ?_⟩ | refine ⟨_, _, rfl, ?_⟩ | refine ⟨_, rfl, ?_⟩ | refine br_t ?_ | refine br_f ?_ | refine rt_own rfl ?_)
        refine ⟨_, _, _, rfl, rfl, cmp_eq (ok_of ?_ ?_) rfl, ?_⟩
        · show wlDs _ = true
          exact wlDs_of fun d hd => wlDs_mem hs (hf d hd)
        · show htDs _ + 1 ≤ 64
          have := hts_of (ds := ds.filter (fun x => !isK x)) (n := htDs ds) fun d hd => ht_mem (hf d hd)
          omega
        · refine hR _ _ _ rfl ?_
          show CR.mk (.v (.d (.bl (PyData.eqv (.list (D.pys (ds.filter (fun x => !isK x)))) (.list []))))) _ = _
          rw [eqv_nil, filt_all]
          unfold isK
          rfl
    | _ => exact flat _ k (by omega) hs fun ds e => by cases e
end G
namespace G
open PySem
abbrev rws (p : List Nat) (qs : List (List Nat)) : List D := qs.map fun r => rowD (p ++ r)
theorem plb_ok {P : Prg} {w : Nat} (h : IsFn P 1 2 5 b_places_beneath) : ∀ (n : Nat) (d : D) (p : List Nat) (k : Nat), htD d ≤ n → n + 1 ≤ k → isK d = true → szD d ≤ 1000000 → p.length + n ≤ 1000000 →
    ∃ cr, run P w k 1 [.d d, .d (rowD p)] = .ok cr ∧ cr = ⟨.v (.l (rws p (plc d))), [some (.d d), some (.d (rowD p))]⟩ := by
  intro n
  induction n with
  | zero =>
    intro d p k hn hk hK hz hp
    obtain ⟨ds, rfl, _⟩ := isK_tup hK
    unfold htD at hn
    omega
  | succ n ih =>
    intro d p k hn hk hK hz hp
    obtain ⟨ds, rfl, hK⟩ := isK_tup hK
    have e1 : htD (.tup ds) = htDs ds + 1 := by simp [htD]
    have e2 : szD (.tup ds) = szDs ds + 1 := by simp [szD]
    refine run_by h rfl rfl (by omega) fun k' N R ek hN hR => ?_
    unfold b_places_beneath
    repeat (first | refine wf_cons ?_ | refine wf_asg ?_ | refine wf_iff ?_ | refine wf_ret ?_ | refine wf_ex ?_ | refine wf_setI ?_ | refine wf_aug ?_ | refine wf_asgT ?_ | refine wf_nil ?_ | refine wf_retN ?_ | refine wf_pass ?_ | refine wf_brk ?_ | refine wf_cnt ?_ | refine we_cst ?_ | refine we_d rfl ?_ | refine we_l rfl ?_ | refine we_bin ?_ | refine we_cmp ?_ | refine we_chn ?_ | refine we_ix ?_ | refine we_sl ?_ | refine we_blt ?_ | refine we_mut ?_ | refine we_call ?_ | refine we_tup ?_ | refine we_lst ?_ | refine we_not ?_ | refine we_and ?_ | refine we_or ?_ | refine we_ite ?_ | refine we_isN ?_ | refine we_isC ?_ | refine we_neg ?_ | refine we_gcon ?_ | refine we_lc ?_ | refine wa_cons ?_ | refine wa_nil ?_ | refine wp_none ?_ | refine wp_some ?_ | refine wt_not ?_ | refine wt_and ?_ | refine wt_or ?_ | refine wt_nil ?_ | refine wt_one ?_ | refine wi_seq ?_ | refine wi_rng ?_ | refine wi_enum ?_ | refine wi_zip ?_ | refine wi_rev ?_ | refine wo_turn ?_ | refine wt_val rfl ?_ | refine ⟨rfl, ?_⟩ | refine ⟨_, rfl, rfl, ?_⟩ | refine ⟨_, _, rfl, rfl, ?_⟩ | refine ⟨_, _, _, rfl, rfl, rfl, ?_⟩ | refine ⟨_, _, _, rfl, rfl, mul_r (by decide), ?_⟩ | refine ⟨_, _, rfl, ?_⟩ | refine ⟨_, rfl, ?_⟩ | refine br_t ?_ | refine br_f ?_ | refine rt_own rfl ?_)
    refine wf_fr ?_
    repeat (first | refine wf_cons ?_ | refine wf_asg ?_ | refine wf_iff ?_ | refine wf_ret ?_ | refine wf_ex ?_ | refine wf_setI ?_ | refine wf_aug ?_ | refine wf_asgT ?_ | refine wf_nil ?_ | refine wf_retN ?_ | refine wf_pass ?_ | refine wf_brk ?_ | refine wf_cnt ?_ | refine we_cst ?_ | refine we_d rfl ?_ | refine we_l rfl ?_ | refine we_bin ?_ | refine we_cmp ?_ | refine we_chn ?_ | refine we_ix ?_ | refine we_sl ?_ | refine we_blt ?_ | refine we_mut ?_ | refine we_call ?_ | refine we_tup ?_ | refine we_lst ?_ | refine we_not ?_ | refine we_and ?_ | refine we_or ?_ | refine we_ite ?_ | refine we_isN ?_ | refine we_isC ?_ | refine we_neg ?_ | refine we_gcon ?_ | refine we_lc ?_ | refine wa_cons ?_ | refine wa_nil ?_ | refine wp_none ?_ | refine wp_some ?_ | refine wt_not ?_ | refine wt_and ?_ | refine wt_or ?_ | refine wt_nil ?_ | refine wt_one ?_ | refine wi_seq ?_ | refine wi_rng ?_ | refine wi_enum ?_ | refine wi_zip ?_ | refine wi_rev ?_ | refine wo_turn ?_ | refine wt_val rfl ?_ | refine ⟨rfl, ?_⟩ | refine ⟨_, rfl, rfl, ?_⟩ | refine ⟨_, _, rfl, rfl, ?_⟩ | refine ⟨_, _, _, rfl, rfl, rfl, ?_⟩ | refine ⟨_, _, _, rfl, rfl, mul_r (by decide), ?_⟩ | refine ⟨_, _, rfl, ?_⟩ | refine ⟨_, rfl, ?_⟩ | refine br_t ?_ | refine br_f ?_ | refine rt_own rfl ?_)
    simp only [stillF_nil, stillF_v]
    refine for_inv (fun i c => ∃ a3 a4, c = [some (.d (.tup ds)), some (.d (rowD p)), some (.l (rws p ([] :: plcs 0 (ds.take i)))), a3, a4]) ⟨none, none, by simp [rws, plcs]; rfl⟩ ?_ ?_
    · rintro i d c hi ⟨a3, a4, rfl⟩
      obtain ⟨hl, rfl⟩ := enum_get hi
      rw [Int.zero_add]
      have hm : ds[i] ∈ ds := List.getElem_mem hl
      refine ⟨_, rfl, ?_⟩
      repeat (first | refine wf_cons ?_ | refine wf_asg ?_ | refine wf_iff ?_ | refine wf_ret ?_ | refine wf_ex ?_ | refine wf_setI ?_ | refine wf_aug ?_ | refine wf_asgT ?_ | refine wf_nil ?_ | refine wf_retN ?_ | refine wf_pass ?_ | refine wf_brk ?_ | refine wf_cnt ?_ | refine we_cst ?_ | refine we_d rfl ?_ | refine we_l rfl ?_ | refine we_bin ?_ | refine we_cmp ?_ | refine we_chn ?_ | refine we_ix ?_ | refine we_sl ?_ | refine we_blt ?_ | refine we_mut ?_ | refine we_call ?_ | refine we_tup ?_ | refine we_lst ?_ | refine we_not ?_ | refine we_and ?_ | refine we_or ?_ | refine we_ite ?_ | refine we_isN ?_ | refine we_isC ?_ | refine we_neg ?_ | refine we_gcon ?_ | refine we_lc ?_ | refine wa_cons ?_ | refine wa_nil ?_ | refine wp_none ?_ | refine wp_some ?_ | refine wt_not ?_ | refine wt_and ?_ | refine wt_or ?_ | refine wt_nil ?_ | refine wt_one ?_ | refine wi_seq ?_ | refine wi_rng ?_ | refine wi_enum ?_ | refine wi_zip ?_ | refine wi_rev ?_ | refine wo_turn ?_ | refine wt_val rfl ?_ | refine ⟨rfl, ?_⟩ | refine ⟨_, rfl, rfl, ?_⟩ | refine ⟨_, _, rfl, rfl, ?_⟩ | refine ⟨_, _, _, rfl, rfl, rfl, ?_⟩ | refine ⟨_, _, _, rfl, rfl, mul_r (by decide), ?_⟩ | refine ⟨_, _, rfl, ?_⟩ | refine ⟨_, rfl, ?_⟩ | refine br_t ?_ | refine br_f ?_ | refine rt_own rfl ?_)
      refine ⟨_, _, _, rfl, rfl, row_add (q := [i]) rfl (by simp; omega), ?_⟩
      repeat (first | refine wf_cons ?_ | refine wf_asg ?_ | refine wf_iff ?_ | refine wf_ret ?_ | refine wf_ex ?_ | refine wf_setI ?_ | refine wf_aug ?_ | refine wf_asgT ?_ | refine wf_nil ?_ | refine wf_retN ?_ | refine wf_pass ?_ | refine wf_brk ?_ | refine wf_cnt ?_ | refine we_cst ?_ | refine we_d rfl ?_ | refine we_l rfl ?_ | refine we_bin ?_ | refine we_cmp ?_ | refine we_chn ?_ | refine we_ix ?_ | refine we_sl ?_ | refine we_blt ?_ | refine we_mut ?_ | refine we_call ?_ | refine we_tup ?_ | refine we_lst ?_ | refine we_not ?_ | refine we_and ?_ | refine we_or ?_ | refine we_ite ?_ | refine we_isN ?_ | refine we_isC ?_ | refine we_neg ?_ | refine we_gcon ?_ | refine we_lc ?_ | refine wa_cons ?_ | refine wa_nil ?_ | refine wp_none ?_ | refine wp_some ?_ | refine wt_not ?_ | refine wt_and ?_ | refine wt_or ?_ | refine wt_nil ?_ | refine wt_one ?_ | refine wi_seq ?_ | refine wi_rng ?_ | refine wi_enum ?_ | refine wi_zip ?_ | refine wi_rev ?_ | refine wo_turn ?_ | refine wt_val rfl ?_ | refine ⟨rfl, ?_⟩ | refine ⟨_, rfl, rfl, ?_⟩ | refine ⟨_, _, rfl, rfl, ?_⟩ | refine ⟨_, _, _, rfl, rfl, rfl, ?_⟩ | refine ⟨_, _, _, rfl, rfl, mul_r (by decide), ?_⟩ | refine ⟨_, _, rfl, ?_⟩ | refine ⟨_, rfl, ?_⟩ | refine br_t ?_ | refine br_f ?_ | refine rt_own rfl ?_)
      obtain ⟨_, hz3, rfl⟩ := ih ds[i] (p ++ [i]) k' (by have := ht_mem hm; omega) (by omega) (isKs_mem hK hm) (by have := sz_mem hm; omega) (by simp; omega)
      refine we_callV hz3 rfl rfl rfl ?_
      repeat (first | refine wf_cons ?_ | refine wf_asg ?_ | refine wf_iff ?_ | refine wf_ret ?_ | refine wf_ex ?_ | refine wf_setI ?_ | refine wf_aug ?_ | refine wf_asgT ?_ | refine wf_nil ?_ | refine wf_retN ?_ | refine wf_pass ?_ | refine wf_brk ?_ | refine wf_cnt ?_ | refine we_cst ?_ | refine we_d rfl ?_ | refine we_l rfl ?_ | refine we_bin ?_ | refine we_cmp ?_ | refine we_chn ?_ | refine we_ix ?_ | refine we_sl ?_ | refine we_blt ?_ | refine we_mut ?_ | refine we_call ?_ | refine we_tup ?_ | refine we_lst ?_ | refine we_not ?_ | refine we_and ?_ | refine we_or ?_ | refine we_ite ?_ | refine we_isN ?_ | refine we_isC ?_ | refine we_neg ?_ | refine we_gcon ?_ | refine we_lc ?_ | refine wa_cons ?_ | refine wa_nil ?_ | refine wp_none ?_ | refine wp_some ?_ | refine wt_not ?_ | refine wt_and ?_ | refine wt_or ?_ | refine wt_nil ?_ | refine wt_one ?_ | refine wi_seq ?_ | refine wi_rng ?_ | refine wi_enum ?_ | refine wi_zip ?_ | refine wi_rev ?_ | refine wo_turn ?_ | refine wt_val rfl ?_ | refine ⟨rfl, ?_⟩ | refine ⟨_, rfl, rfl, ?_⟩ | refine ⟨_, _, rfl, rfl, ?_⟩ | refine ⟨_, _, _, rfl, rfl, rfl, ?_⟩ | refine ⟨_, _, _, rfl, rfl, mul_r (by decide), ?_⟩ | refine ⟨_, _, rfl, ?_⟩ | refine ⟨_, rfl, ?_⟩ | refine br_t ?_ | refine br_f ?_ | refine rt_own rfl ?_)
      have b1 := plc_len (d := ds[i])
      have b2 := sz_mem hm
      have b3 := plcs_len (ds := ds.take i) (j := 0)
      have b4 := szs_take (ds := ds) (i := i)
      refine ⟨_, _, _, _, _, _, rfl, rfl, mutE rfl (fits_of (by simp [rws]; omega)), rfl, ?_⟩
      repeat (first | refine wf_cons ?_ | refine wf_asg ?_ | refine wf_iff ?_ | refine wf_ret ?_ | refine wf_ex ?_ | refine wf_setI ?_ | refine wf_aug ?_ | refine wf_asgT ?_ | refine wf_nil ?_ | refine wf_retN ?_ | refine wf_pass ?_ | refine wf_brk ?_ | refine wf_cnt ?_ | refine we_cst ?_ | refine we_d rfl ?_ | refine we_l rfl ?_ | refine we_bin ?_ | refine we_cmp ?_ | refine we_chn ?_ | refine we_ix ?_ | refine we_sl ?_ | refine we_blt ?_ | refine we_mut ?_ | refine we_call ?_ | refine we_tup ?_ | refine we_lst ?_ | refine we_not ?_ | refine we_and ?_ | refine we_or ?_ | refine we_ite ?_ | refine we_isN ?_ | refine we_isC ?_ | refine we_neg ?_ | refine we_gcon ?_ | refine we_lc ?_ | refine wa_cons ?_ | refine wa_nil ?_ | refine wp_none ?_ | refine wp_some ?_ | refine wt_not ?_ | refine wt_and ?_ | refine wt_or ?_ | refine wt_nil ?_ | refine wt_one ?_ | refine wi_seq ?_ | refine wi_rng ?_ | refine wi_enum ?_ | refine wi_zip ?_ | refine wi_rev ?_ | refine wo_turn ?_ | refine wt_val rfl ?_ | refine ⟨rfl, ?_⟩ | refine ⟨_, rfl, rfl, ?_⟩ | refine ⟨_, _, rfl, rfl, ?_⟩ | refine ⟨_, _, _, rfl, rfl, rfl, ?_⟩ | refine ⟨_, _, _, rfl, rfl, mul_r (by decide), ?_⟩ | refine ⟨_, _, rfl, ?_⟩ | refine ⟨_, rfl, ?_⟩ | refine br_t ?_ | refine br_f ?_ | refine rt_own rfl ?_)
      rw [plcs_snoc hl]
      refine ⟨some (.d (.int i)), some (.d ds[i]), ?_⟩
      have e : rws p ([] :: plcs 0 (ds.take i)) ++ rws (p ++ [i]) (plc ds[i]) = rws p ([] :: (plcs 0 (ds.take i) ++ (plc ds[i]).map (i :: ·))) := by simp [rws, List.append_assoc, Function.comp_def]
      rw [← e]
      rfl
    · rintro c ⟨a3, a4, rfl⟩
      repeat (first | refine wf_cons ?_ | refine wf_asg ?_ | refine wf_iff ?_ | refine wf_ret ?_ | refine wf_ex ?_ | refine wf_setI ?_ | refine wf_aug ?_ | refine wf_asgT ?_ | refine wf_nil ?_ | refine wf_retN ?_ | refine wf_pass ?_ | refine wf_brk ?_ | refine wf_cnt ?_ | refine we_cst ?_ | refine we_d rfl ?_ | refine we_l rfl ?_ | refine we_bin ?_ | refine we_cmp ?_ | refine we_chn ?_ | refine we_ix ?_ | refine we_sl ?_ | refine we_blt ?_ | refine we_mut ?_ | refine we_call ?_ | refine we_tup ?_ | refine we_lst ?_ | refine we_not ?_ | refine we_and ?_ | refine we_or ?_ | refine we_ite ?_ | refine we_isN ?_ | refine we_isC ?_ | refine we_neg ?_ | refine we_gcon ?_ | refine we_lc ?_ | refine wa_cons ?_ | refine wa_nil ?_ | refine wp_none ?_ | refine wp_some ?_ | refine wt_not ?_ | refine wt_and ?_ | refine wt_or ?_ | refine wt_nil ?_ | refine wt_one ?_ | refine wi_seq ?_ | refine wi_rng ?_ | refine wi_enum ?_ | refine wi_zip ?_ | refine wi_rev ?_ | refine wo_turn ?_ | refine wt_val rfl ?_ | refine ⟨rfl, ?_⟩ | refine ⟨_, rfl, rfl, ?_⟩ | refine ⟨_, _, rfl, rfl, ?_⟩ | refine ⟨_, _, _, rfl, rfl, rfl, ?_⟩ | refine ⟨_, _, _, rfl, rfl, mul_r (by decide), ?_⟩ | refine ⟨_, _, rfl, ?_⟩ | refine ⟨_, rfl, ?_⟩ | refine br_t ?_ | refine br_f ?_ | refine rt_own rfl ?_)
      refine hR _ _ _ rfl ?_
      show CR.mk (.v (.l (rws p ([] :: plcs 0 (ds.take (enumD 0 ds).length))))) _ = _
      rw [enum_len, List.take_length]
      unfold plc
      rfl
theorem pla_ok {P : Prg} {w k : Nat} (h1 : IsFn P 1 2 5 b_places_beneath) (h : IsFn P 2 1 1 b_places) (d : D) (hk : htD d + 2 ≤ k) (hK : isK d = true) (hz : szD d ≤ 900000) :
    ∃ cr, run P w k 2 [.d d] = .ok cr ∧ cr = ⟨.v (.d (.tup ((plc d).map rowD))), [some (.d d)]⟩ := by
  refine run_by h rfl rfl (by omega) fun k' N R ek hN hR => ?_
  unfold b_places
  repeat (first | refine wf_cons ?_ | refine wf_asg ?_ | refine wf_iff ?_ | refine wf_ret ?_ | refine wf_ex ?_ | refine wf_setI ?_ | refine wf_aug ?_ | refine wf_asgT ?_ | refine wf_nil ?_ | refine wf_retN ?_ | refine wf_pass ?_ | refine wf_brk ?_ | refine wf_cnt ?_ | refine we_cst ?_ | refine we_d rfl ?_ | refine we_l rfl ?_ | refine we_bin ?_ | refine we_cmp ?_ | refine we_chn ?_ | refine we_ix ?_ | refine we_sl ?_ | refine we_blt ?_ | refine we_mut ?_ | refine we_call ?_ | refine we_tup ?_ | refine we_lst ?_ | refine we_not ?_ | refine we_and ?_ | refine we_or ?_ | refine we_ite ?_ | refine we_isN ?_ | refine we_isC ?_ | refine we_neg ?_ | refine we_gcon ?_ | refine we_lc ?_ | refine wa_cons ?_ | refine wa_nil ?_ | refine wp_none ?_ | refine wp_some ?_ | refine wt_not ?_ | refine wt_and ?_ | refine wt_or ?_ | refine wt_nil ?_ | refine wt_one ?_ | refine wi_seq ?_ | refine wi_rng ?_ | refine wi_enum ?_ | refine wi_zip ?_ | refine wi_rev ?_ | refine wo_turn ?_ | refine wt_val rfl ?_ | refine ⟨rfl, ?_⟩ | refine ⟨_, rfl, rfl, ?_⟩ | refine ⟨_, _, rfl, rfl, ?_⟩ | refine ⟨_, _, _, rfl, rfl, rfl, ?_⟩ | refine ⟨_, _, _, rfl, rfl, mul_r (by decide), ?_⟩ | refine ⟨_, _, rfl, ?_⟩ | refine ⟨_, rfl, ?_⟩ | refine br_t ?_ | refine br_f ?_ | refine rt_own rfl ?_)
  obtain ⟨_, hz3, rfl⟩ := plb_ok (w := w) h1 (htD d) d [] k' (Nat.le_refl _) (by omega) hK (by omega) (by have := ht_le_sz (d := d); simp; omega)
  refine we_callV hz3 rfl rfl rfl ?_
  repeat (first | refine wf_cons ?_ | refine wf_asg ?_ | refine wf_iff ?_ | refine wf_ret ?_ | refine wf_ex ?_ | refine wf_setI ?_ | refine wf_aug ?_ | refine wf_asgT ?_ | refine wf_nil ?_ | refine wf_retN ?_ | refine wf_pass ?_ | refine wf_brk ?_ | refine wf_cnt ?_ | refine we_cst ?_ | refine we_d rfl ?_ | refine we_l rfl ?_ | refine we_bin ?_ | refine we_cmp ?_ | refine we_chn ?_ | refine we_ix ?_ | refine we_sl ?_ | refine we_blt ?_ | refine we_mut ?_ | refine we_call ?_ | refine we_tup ?_ | refine we_lst ?_ | refine we_not ?_ | refine we_and ?_ | refine we_or ?_ | refine we_ite ?_ | refine we_isN ?_ | refine we_isC ?_ | refine we_neg ?_ | refine we_gcon ?_ | refine we_lc ?_ | refine wa_cons ?_ | refine wa_nil ?_ | refine wp_none ?_ | refine wp_some ?_ | refine wt_not ?_ | refine wt_and ?_ | refine wt_or ?_ | refine wt_nil ?_ | refine wt_one ?_ | refine wi_seq ?_ | refine wi_rng ?_ | refine wi_enum ?_ | refine wi_zip ?_ | refine wi_rev ?_ | refine wo_turn ?_ | refine wt_val rfl ?_ | refine ⟨rfl, ?_⟩ | refine ⟨_, rfl, rfl, ?_⟩ | refine ⟨_, _, rfl, rfl, ?_⟩ | refine ⟨_, _, _, rfl, rfl, rfl, ?_⟩ | refine ⟨_, _, _, rfl, rfl, mul_r (by decide), ?_⟩ | refine ⟨_, _, rfl, ?_⟩ | refine ⟨_, rfl, ?_⟩ | refine br_t ?_ | refine br_f ?_ | refine rt_own rfl ?_)
  refine hR _ _ _ rfl ?_
  rfl
/-! ### the law's own -/
theorem lpl_ok {P : Prg} {w : Nat} (h : IsFn P 11 1 4 b_L_places) : ∀ (n : Nat) (d : D) (k : Nat), htD d ≤ n → n + 1 ≤ k → isK d = true → szD d ≤ 1000000 →
    ∃ cr, run P w k 11 [.d d] = .ok cr ∧ cr = ⟨.v (.l ((plc d).map rowD)), [some (.d d)]⟩ := by
  intro n
  induction n with
  | zero =>
    intro d k hn hk hK hz
    obtain ⟨ds, rfl, _⟩ := isK_tup hK
    unfold htD at hn
    omega
  | succ n ih =>
    intro d k hn hk hK hz
    obtain ⟨ds, rfl, hK⟩ := isK_tup hK
    have e1 : htD (.tup ds) = htDs ds + 1 := by simp [htD]
    have e2 : szD (.tup ds) = szDs ds + 1 := by simp [szD]
    refine run_by h rfl rfl (by omega) fun k' N R ek hN hR => ?_
    unfold b_L_places
    repeat (first | refine wf_cons ?_ | refine wf_asg ?_ | refine wf_iff ?_ | refine wf_ret ?_ | refine wf_ex ?_ | refine wf_setI ?_ | refine wf_aug ?_ | refine wf_asgT ?_ | refine wf_nil ?_ | refine wf_retN ?_ | refine wf_pass ?_ | refine wf_brk ?_ | refine wf_cnt ?_ | refine we_cst ?_ | refine we_d rfl ?_ | refine we_l rfl ?_ | refine we_bin ?_ | refine we_cmp ?_ | refine we_chn ?_ | refine we_ix ?_ | refine we_sl ?_ | refine we_blt ?_ | refine we_mut ?_ | refine we_call ?_ | refine we_tup ?_ | refine we_lst ?_ | refine we_not ?_ | refine we_and ?_ | refine we_or ?_ | refine we_ite ?_ | refine we_isN ?_ | refine we_isC ?_ | refine we_neg ?_ | refine we_gcon ?_ | refine we_lc ?_ | refine wa_cons ?_ | refine wa_nil ?_ | refine wp_none ?_ | refine wp_some ?_ | refine wt_not ?_ | refine wt_and ?_ | refine wt_or ?_ | refine wt_nil ?_ | refine wt_one ?_ | refine wi_seq ?_ | refine wi_rng ?_ | refine wi_enum ?_ | refine wi_zip ?_ | refine wi_rev ?_ | refine wo_turn ?_ | refine wt_val rfl ?_ | refine ⟨rfl, ?_⟩ | refine ⟨_, rfl, rfl, ?_⟩ | refine ⟨_, _, rfl, rfl, ?_⟩ | refine ⟨_, _, _, rfl, rfl, rfl, ?_⟩ | refine ⟨_, _, _, rfl, rfl, mul_r (by decide), ?_⟩ | refine ⟨_, _, rfl, ?_⟩ | refine ⟨_, rfl, ?_⟩ | refine br_t ?_ | refine br_f ?_ | refine rt_own rfl ?_)
    refine wf_fr ?_
    repeat (first | refine wf_cons ?_ | refine wf_asg ?_ | refine wf_iff ?_ | refine wf_ret ?_ | refine wf_ex ?_ | refine wf_setI ?_ | refine wf_aug ?_ | refine wf_asgT ?_ | refine wf_nil ?_ | refine wf_retN ?_ | refine wf_pass ?_ | refine wf_brk ?_ | refine wf_cnt ?_ | refine we_cst ?_ | refine we_d rfl ?_ | refine we_l rfl ?_ | refine we_bin ?_ | refine we_cmp ?_ | refine we_chn ?_ | refine we_ix ?_ | refine we_sl ?_ | refine we_blt ?_ | refine we_mut ?_ | refine we_call ?_ | refine we_tup ?_ | refine we_lst ?_ | refine we_not ?_ | refine we_and ?_ | refine we_or ?_ | refine we_ite ?_ | refine we_isN ?_ | refine we_isC ?_ | refine we_neg ?_ | refine we_gcon ?_ | refine we_lc ?_ | refine wa_cons ?_ | refine wa_nil ?_ | refine wp_none ?_ | refine wp_some ?_ | refine wt_not ?_ | refine wt_and ?_ | refine wt_or ?_ | refine wt_nil ?_ | refine wt_one ?_ | refine wi_seq ?_ | refine wi_rng ?_ | refine wi_enum ?_ | refine wi_zip ?_ | refine wi_rev ?_ | refine wo_turn ?_ | refine wt_val rfl ?_ | refine ⟨rfl, ?_⟩ | refine ⟨_, rfl, rfl, ?_⟩ | refine ⟨_, _, rfl, rfl, ?_⟩ | refine ⟨_, _, _, rfl, rfl, rfl, ?_⟩ | refine ⟨_, _, _, rfl, rfl, mul_r (by decide), ?_⟩ | refine ⟨_, _, rfl, ?_⟩ | refine ⟨_, rfl, ?_⟩ | refine br_t ?_ | refine br_f ?_ | refine rt_own rfl ?_)
    have hl : ds.length ≤ szDs ds := sz_len
    refine ⟨_, _, _, rfl, rfl, rng1 (by omega), ?_⟩
    repeat (first | refine wf_cons ?_ | refine wf_asg ?_ | refine wf_iff ?_ | refine wf_ret ?_ | refine wf_ex ?_ | refine wf_setI ?_ | refine wf_aug ?_ | refine wf_asgT ?_ | refine wf_nil ?_ | refine wf_retN ?_ | refine wf_pass ?_ | refine wf_brk ?_ | refine wf_cnt ?_ | refine we_cst ?_ | refine we_d rfl ?_ | refine we_l rfl ?_ | refine we_bin ?_ | refine we_cmp ?_ | refine we_chn ?_ | refine we_ix ?_ | refine we_sl ?_ | refine we_blt ?_ | refine we_mut ?_ | refine we_call ?_ | refine we_tup ?_ | refine we_lst ?_ | refine we_not ?_ | refine we_and ?_ | refine we_or ?_ | refine we_ite ?_ | refine we_isN ?_ | refine we_isC ?_ | refine we_neg ?_ | refine we_gcon ?_ | refine we_lc ?_ | refine wa_cons ?_ | refine wa_nil ?_ | refine wp_none ?_ | refine wp_some ?_ | refine wt_not ?_ | refine wt_and ?_ | refine wt_or ?_ | refine wt_nil ?_ | refine wt_one ?_ | refine wi_seq ?_ | refine wi_rng ?_ | refine wi_enum ?_ | refine wi_zip ?_ | refine wi_rev ?_ | refine wo_turn ?_ | refine wt_val rfl ?_ | refine ⟨rfl, ?_⟩ | refine ⟨_, rfl, rfl, ?_⟩ | refine ⟨_, _, rfl, rfl, ?_⟩ | refine ⟨_, _, _, rfl, rfl, rfl, ?_⟩ | refine ⟨_, _, _, rfl, rfl, mul_r (by decide), ?_⟩ | refine ⟨_, _, rfl, ?_⟩ | refine ⟨_, rfl, ?_⟩ | refine br_t ?_ | refine br_f ?_ | refine rt_own rfl ?_)
    simp only [stillF_nil, stillF_v]
    refine for_inv (fun i c => ∃ a2, c = [some (.d (.tup ds)), some (.l (([] :: plcs 0 (ds.take i)).map rowD)), a2, none]) ⟨none, by simp [plcs]; rfl⟩ ?_ ?_
    · rintro i d c hi ⟨a2, rfl⟩
      obtain ⟨rfl, hi⟩ := rng_get hi
      have hl : i < ds.length := by omega
      rw [Int.zero_add]
      have hm : ds[i] ∈ ds := List.getElem_mem hl
      refine ⟨_, rfl, ?_⟩
      repeat (first | refine wf_cons ?_ | refine wf_asg ?_ | refine wf_iff ?_ | refine wf_ret ?_ | refine wf_ex ?_ | refine wf_setI ?_ | refine wf_aug ?_ | refine wf_asgT ?_ | refine wf_nil ?_ | refine wf_retN ?_ | refine wf_pass ?_ | refine wf_brk ?_ | refine wf_cnt ?_ | refine we_cst ?_ | refine we_d rfl ?_ | refine we_l rfl ?_ | refine we_bin ?_ | refine we_cmp ?_ | refine we_chn ?_ | refine we_ix ?_ | refine we_sl ?_ | refine we_blt ?_ | refine we_mut ?_ | refine we_call ?_ | refine we_tup ?_ | refine we_lst ?_ | refine we_not ?_ | refine we_and ?_ | refine we_or ?_ | refine we_ite ?_ | refine we_isN ?_ | refine we_isC ?_ | refine we_neg ?_ | refine we_gcon ?_ | refine we_lc ?_ | refine wa_cons ?_ | refine wa_nil ?_ | refine wp_none ?_ | refine wp_some ?_ | refine wt_not ?_ | refine wt_and ?_ | refine wt_or ?_ | refine wt_nil ?_ | refine wt_one ?_ | refine wi_seq ?_ | refine wi_rng ?_ | refine wi_enum ?_ | refine wi_zip ?_ | refine wi_rev ?_ | refine wo_turn ?_ | refine wt_val rfl ?_ | refine ⟨rfl, ?_⟩ | refine ⟨_, rfl, rfl, ?_⟩ | refine ⟨_, _, rfl, rfl, ?_⟩ | refine ⟨_, _, _, rfl, rfl, rfl, ?_⟩ | refine ⟨_, _, _, rfl, rfl, mul_r (by decide), ?_⟩ | refine ⟨_, _, rfl, ?_⟩ | refine ⟨_, rfl, ?_⟩ | refine br_t ?_ | refine br_f ?_ | refine rt_own rfl ?_)
      refine ⟨_, _, _, rfl, rfl, idx_tup (n := i) (d := ds[i]) (by simp [hl]), ?_⟩
      repeat (first | refine wf_cons ?_ | refine wf_asg ?_ | refine wf_iff ?_ | refine wf_ret ?_ | refine wf_ex ?_ | refine wf_setI ?_ | refine wf_aug ?_ | refine wf_asgT ?_ | refine wf_nil ?_ | refine wf_retN ?_ | refine wf_pass ?_ | refine wf_brk ?_ | refine wf_cnt ?_ | refine we_cst ?_ | refine we_d rfl ?_ | refine we_l rfl ?_ | refine we_bin ?_ | refine we_cmp ?_ | refine we_chn ?_ | refine we_ix ?_ | refine we_sl ?_ | refine we_blt ?_ | refine we_mut ?_ | refine we_call ?_ | refine we_tup ?_ | refine we_lst ?_ | refine we_not ?_ | refine we_and ?_ | refine we_or ?_ | refine we_ite ?_ | refine we_isN ?_ | refine we_isC ?_ | refine we_neg ?_ | refine we_gcon ?_ | refine we_lc ?_ | refine wa_cons ?_ | refine wa_nil ?_ | refine wp_none ?_ | refine wp_some ?_ | refine wt_not ?_ | refine wt_and ?_ | refine wt_or ?_ | refine wt_nil ?_ | refine wt_one ?_ | refine wi_seq ?_ | refine wi_rng ?_ | refine wi_enum ?_ | refine wi_zip ?_ | refine wi_rev ?_ | refine wo_turn ?_ | refine wt_val rfl ?_ | refine ⟨rfl, ?_⟩ | refine ⟨_, rfl, rfl, ?_⟩ | refine ⟨_, _, rfl, rfl, ?_⟩ | refine ⟨_, _, _, rfl, rfl, rfl, ?_⟩ | refine ⟨_, _, _, rfl, rfl, mul_r (by decide), ?_⟩ | refine ⟨_, _, rfl, ?_⟩ | refine ⟨_, rfl, ?_⟩ | refine br_t ?_ | refine br_f ?_ | refine rt_own rfl ?_)
      obtain ⟨_, hz3, rfl⟩ := ih ds[i] k' (by have := ht_mem hm; omega) (by omega) (isKs_mem hK hm) (by have := sz_mem hm; omega)
      refine we_callV hz3 rfl rfl rfl ?_
      repeat (first | refine wf_cons ?_ | refine wf_asg ?_ | refine wf_iff ?_ | refine wf_ret ?_ | refine wf_ex ?_ | refine wf_setI ?_ | refine wf_aug ?_ | refine wf_asgT ?_ | refine wf_nil ?_ | refine wf_retN ?_ | refine wf_pass ?_ | refine wf_brk ?_ | refine wf_cnt ?_ | refine we_cst ?_ | refine we_d rfl ?_ | refine we_l rfl ?_ | refine we_bin ?_ | refine we_cmp ?_ | refine we_chn ?_ | refine we_ix ?_ | refine we_sl ?_ | refine we_blt ?_ | refine we_mut ?_ | refine we_call ?_ | refine we_tup ?_ | refine we_lst ?_ | refine we_not ?_ | refine we_and ?_ | refine we_or ?_ | refine we_ite ?_ | refine we_isN ?_ | refine we_isC ?_ | refine we_neg ?_ | refine we_gcon ?_ | refine we_lc ?_ | refine wa_cons ?_ | refine wa_nil ?_ | refine wp_none ?_ | refine wp_some ?_ | refine wt_not ?_ | refine wt_and ?_ | refine wt_or ?_ | refine wt_nil ?_ | refine wt_one ?_ | refine wi_seq ?_ | refine wi_rng ?_ | refine wi_enum ?_ | refine wi_zip ?_ | refine wi_rev ?_ | refine wo_turn ?_ | refine wt_val rfl ?_ | refine ⟨rfl, ?_⟩ | refine ⟨_, rfl, rfl, ?_⟩ | refine ⟨_, _, rfl, rfl, ?_⟩ | refine ⟨_, _, _, rfl, rfl, rfl, ?_⟩ | refine ⟨_, _, _, rfl, rfl, mul_r (by decide), ?_⟩ | refine ⟨_, _, rfl, ?_⟩ | refine ⟨_, rfl, ?_⟩ | refine br_t ?_ | refine br_f ?_ | refine rt_own rfl ?_)
      have b1 := plc_len (d := ds[i])
      have b2 := sz_mem hm
      have b3 := plcs_len (ds := ds.take i) (j := 0)
      have b4 := szs_take (ds := ds) (i := i)
      refine lc_go (its := (plc ds[i]).map rowD) (fun j ys c => ys = ((plc ds[i]).take j).map (fun r => rowD (i :: r)) ∧ c = [some (.d (.tup ds)), some (.l (([] :: plcs 0 (ds.take i)).map rowD)), some (.d (.int i)), none]) (by rfl) (by rfl) (by exact ⟨rfl, rfl⟩) ?_ ?_
      · rintro j d ys c hj ⟨rfl, rfl⟩
        obtain ⟨hj2, rfl⟩ := get_of (xs := (plc ds[i]).map rowD) hj
        have hj : j < (plc ds[i]).length := by rw [List.length_map] at hj2; exact hj2
        rw [List.getElem_map]
        have hr := plc_short (List.getElem_mem hj)
        refine ⟨_, rfl, ?_⟩
        repeat (first | refine wf_cons ?_ | refine wf_asg ?_ | refine wf_iff ?_ | refine wf_ret ?_ | refine wf_ex ?_ | refine wf_setI ?_ | refine wf_aug ?_ | refine wf_asgT ?_ | refine wf_nil ?_ | refine wf_retN ?_ | refine wf_pass ?_ | refine wf_brk ?_ | refine wf_cnt ?_ | refine we_cst ?_ | refine we_d rfl ?_ | refine we_l rfl ?_ | refine we_bin ?_ | refine we_cmp ?_ | refine we_chn ?_ | refine we_ix ?_ | refine we_sl ?_ | refine we_blt ?_ | refine we_mut ?_ | refine we_call ?_ | refine we_tup ?_ | refine we_lst ?_ | refine we_not ?_ | refine we_and ?_ | refine we_or ?_ | refine we_ite ?_ | refine we_isN ?_ | refine we_isC ?_ | refine we_neg ?_ | refine we_gcon ?_ | refine we_lc ?_ | refine wa_cons ?_ | refine wa_nil ?_ | refine wp_none ?_ | refine wp_some ?_ | refine wt_not ?_ | refine wt_and ?_ | refine wt_or ?_ | refine wt_nil ?_ | refine wt_one ?_ | refine wi_seq ?_ | refine wi_rng ?_ | refine wi_enum ?_ | refine wi_zip ?_ | refine wi_rev ?_ | refine wo_turn ?_ | refine wt_val rfl ?_ | refine ⟨rfl, ?_⟩ | refine ⟨_, rfl, rfl, ?_⟩ | refine ⟨_, _, rfl, rfl, ?_⟩ | refine ⟨_, _, _, rfl, rfl, rfl, ?_⟩ | refine ⟨_, _, _, rfl, rfl, mul_r (by decide), ?_⟩ | refine ⟨_, _, rfl, ?_⟩ | refine ⟨_, rfl, ?_⟩ | refine br_t ?_ | refine br_f ?_ | refine rt_own rfl ?_)
        refine ⟨_, _, _, rfl, rfl, row_add2 (p := [i]) rfl (by have := ht_le_sz (d := ds[i]); simp; omega), ?_⟩
        repeat (first | refine wf_cons ?_ | refine wf_asg ?_ | refine wf_iff ?_ | refine wf_ret ?_ | refine wf_ex ?_ | refine wf_setI ?_ | refine wf_aug ?_ | refine wf_asgT ?_ | refine wf_nil ?_ | refine wf_retN ?_ | refine wf_pass ?_ | refine wf_brk ?_ | refine wf_cnt ?_ | refine we_cst ?_ | refine we_d rfl ?_ | refine we_l rfl ?_ | refine we_bin ?_ | refine we_cmp ?_ | refine we_chn ?_ | refine we_ix ?_ | refine we_sl ?_ | refine we_blt ?_ | refine we_mut ?_ | refine we_call ?_ | refine we_tup ?_ | refine we_lst ?_ | refine we_not ?_ | refine we_and ?_ | refine we_or ?_ | refine we_ite ?_ | refine we_isN ?_ | refine we_isC ?_ | refine we_neg ?_ | refine we_gcon ?_ | refine we_lc ?_ | refine wa_cons ?_ | refine wa_nil ?_ | refine wp_none ?_ | refine wp_some ?_ | refine wt_not ?_ | refine wt_and ?_ | refine wt_or ?_ | refine wt_nil ?_ | refine wt_one ?_ | refine wi_seq ?_ | refine wi_rng ?_ | refine wi_enum ?_ | refine wi_zip ?_ | refine wi_rev ?_ | refine wo_turn ?_ | refine wt_val rfl ?_ | refine ⟨rfl, ?_⟩ | refine ⟨_, rfl, rfl, ?_⟩ | refine ⟨_, _, rfl, rfl, ?_⟩ | refine ⟨_, _, _, rfl, rfl, rfl, ?_⟩ | refine ⟨_, _, _, rfl, rfl, mul_r (by decide), ?_⟩ | refine ⟨_, _, rfl, ?_⟩ | refine ⟨_, rfl, ?_⟩ | refine br_t ?_ | refine br_f ?_ | refine rt_own rfl ?_)
        refine ⟨?_, rfl⟩
        rw [take_snoc hj, List.map_append]
        rfl
      · rintro ys c3 ⟨rfl, rfl⟩
        have e0 : ((plc ds[i]).map rowD).length = (plc ds[i]).length := List.length_map _
        rw [e0, List.take_length]
        refine ⟨fits_of (by simp; omega), ?_⟩
        repeat (first | refine wf_cons ?_ | refine wf_asg ?_ | refine wf_iff ?_ | refine wf_ret ?_ | refine wf_ex ?_ | refine wf_setI ?_ | refine wf_aug ?_ | refine wf_asgT ?_ | refine wf_nil ?_ | refine wf_retN ?_ | refine wf_pass ?_ | refine wf_brk ?_ | refine wf_cnt ?_ | refine we_cst ?_ | refine we_d rfl ?_ | refine we_l rfl ?_ | refine we_bin ?_ | refine we_cmp ?_ | refine we_chn ?_ | refine we_ix ?_ | refine we_sl ?_ | refine we_blt ?_ | refine we_mut ?_ | refine we_call ?_ | refine we_tup ?_ | refine we_lst ?_ | refine we_not ?_ | refine we_and ?_ | refine we_or ?_ | refine we_ite ?_ | refine we_isN ?_ | refine we_isC ?_ | refine we_neg ?_ | refine we_gcon ?_ | refine we_lc ?_ | refine wa_cons ?_ | refine wa_nil ?_ | refine wp_none ?_ | refine wp_some ?_ | refine wt_not ?_ | refine wt_and ?_ | refine wt_or ?_ | refine wt_nil ?_ | refine wt_one ?_ | refine wi_seq ?_ | refine wi_rng ?_ | refine wi_enum ?_ | refine wi_zip ?_ | refine wi_rev ?_ | refine wo_turn ?_ | refine wt_val rfl ?_ | refine ⟨rfl, ?_⟩ | refine ⟨_, rfl, rfl, ?_⟩ | refine ⟨_, _, rfl, rfl, ?_⟩ | refine ⟨_, _, _, rfl, rfl, rfl, ?_⟩ | refine ⟨_, _, _, rfl, rfl, mul_r (by decide), ?_⟩ | refine ⟨_, _, rfl, ?_⟩ | refine ⟨_, rfl, ?_⟩ | refine br_t ?_ | refine br_f ?_ | refine rt_own rfl ?_)
        refine ⟨_, _, _, rfl, rfl, bnd (gdT (fits_of (by simp; omega))) rfl, ?_⟩
        repeat (first | refine wf_cons ?_ | refine wf_asg ?_ | refine wf_iff ?_ | refine wf_ret ?_ | refine wf_ex ?_ | refine wf_setI ?_ | refine wf_aug ?_ | refine wf_asgT ?_ | refine wf_nil ?_ | refine wf_retN ?_ | refine wf_pass ?_ | refine wf_brk ?_ | refine wf_cnt ?_ | refine we_cst ?_ | refine we_d rfl ?_ | refine we_l rfl ?_ | refine we_bin ?_ | refine we_cmp ?_ | refine we_chn ?_ | refine we_ix ?_ | refine we_sl ?_ | refine we_blt ?_ | refine we_mut ?_ | refine we_call ?_ | refine we_tup ?_ | refine we_lst ?_ | refine we_not ?_ | refine we_and ?_ | refine we_or ?_ | refine we_ite ?_ | refine we_isN ?_ | refine we_isC ?_ | refine we_neg ?_ | refine we_gcon ?_ | refine we_lc ?_ | refine wa_cons ?_ | refine wa_nil ?_ | refine wp_none ?_ | refine wp_some ?_ | refine wt_not ?_ | refine wt_and ?_ | refine wt_or ?_ | refine wt_nil ?_ | refine wt_one ?_ | refine wi_seq ?_ | refine wi_rng ?_ | refine wi_enum ?_ | refine wi_zip ?_ | refine wi_rev ?_ | refine wo_turn ?_ | refine wt_val rfl ?_ | refine ⟨rfl, ?_⟩ | refine ⟨_, rfl, rfl, ?_⟩ | refine ⟨_, _, rfl, rfl, ?_⟩ | refine ⟨_, _, _, rfl, rfl, rfl, ?_⟩ | refine ⟨_, _, _, rfl, rfl, mul_r (by decide), ?_⟩ | refine ⟨_, _, rfl, ?_⟩ | refine ⟨_, rfl, ?_⟩ | refine br_t ?_ | refine br_f ?_ | refine rt_own rfl ?_)
        rw [plcs_snoc hl]
        refine ⟨some (.d (.int i)), ?_⟩
        have e : ([] :: plcs 0 (ds.take i)).map rowD ++ (plc ds[i]).map (fun r => rowD (i :: r)) = ([] :: (plcs 0 (ds.take i) ++ (plc ds[i]).map (i :: ·))).map rowD := by simp [Function.comp_def]
        rw [← e]
        rfl
    · rintro c ⟨a2, rfl⟩
      repeat (first | refine wf_cons ?_ | refine wf_asg ?_ | refine wf_iff ?_ | refine wf_ret ?_ | refine wf_ex ?_ | refine wf_setI ?_ | refine wf_aug ?_ | refine wf_asgT ?_ | refine wf_nil ?_ | refine wf_retN ?_ | refine wf_pass ?_ | refine wf_brk ?_ | refine wf_cnt ?_ | refine we_cst ?_ | refine we_d rfl ?_ | refine we_l rfl ?_ | refine we_bin ?_ | refine we_cmp ?_ | refine we_chn ?_ | refine we_ix ?_ | refine we_sl ?_ | refine we_blt ?_ | refine we_mut ?_ | refine we_call ?_ | refine we_tup ?_ | refine we_lst ?_ | refine we_not ?_ | refine we_and ?_ | refine we_or ?_ | refine we_ite ?_ | refine we_isN ?_ | refine we_isC ?_ | refine we_neg ?_ | refine we_gcon ?_ | refine we_lc ?_ | refine wa_cons ?_ | refine wa_nil ?_ | refine wp_none ?_ | refine wp_some ?_ | refine wt_not ?_ | refine wt_and ?_ | refine wt_or ?_ | refine wt_nil ?_ | refine wt_one ?_ | refine wi_seq ?_ | refine wi_rng ?_ | refine wi_enum ?_ | refine wi_zip ?_ | refine wi_rev ?_ | refine wo_turn ?_ | refine wt_val rfl ?_ | refine ⟨rfl, ?_⟩ | refine ⟨_, rfl, rfl, ?_⟩ | refine ⟨_, _, rfl, rfl, ?_⟩ | refine ⟨_, _, _, rfl, rfl, rfl, ?_⟩ | refine ⟨_, _, _, rfl, rfl, mul_r (by decide), ?_⟩ | refine ⟨_, _, rfl, ?_⟩ | refine ⟨_, rfl, ?_⟩ | refine br_t ?_ | refine br_f ?_ | refine rt_own rfl ?_)
      refine hR _ _ _ rfl ?_
      rw [rng_len, show ((ds.length : Int) - 0).toNat = ds.length by omega, List.take_length]
      unfold plc
      rfl
end G
namespace G
open PySem
theorem drop_get {α : Type} {xs : List α} {i : Nat} (h : i < xs.length) : xs.drop i = xs[i] :: xs.drop (i + 1) := by simp
theorem kat_ok {P : Prg} {w k : Nat} (h : IsFn P 3 2 3 b_kind_at) (hk : 1 ≤ k) (d : D) (r : List Nat) (hK : isK d = true) :
    ∃ cr, run P w k 3 [.d d, .d (rowD r)] = .ok cr ∧ cr = ⟨.v (.d (sub d r)), [none, some (.d (rowD r))]⟩ := by
  refine run_by h rfl rfl hk fun k' N R ek hN hR => ?_
  unfold b_kind_at
  repeat (first | refine wf_cons ?_ | refine wf_asg ?_ | refine wf_iff ?_ | refine wf_ret ?_ | refine wf_ex ?_ | refine wf_setI ?_ | refine wf_aug ?_ | refine wf_asgT ?_ | refine wf_nil ?_ | refine wf_retN ?_ | refine wf_pass ?_ | refine wf_brk ?_ | refine wf_cnt ?_ | refine we_cst ?_ | refine we_d rfl ?_ | refine we_l rfl ?_ | refine we_bin ?_ | refine we_cmp ?_ | refine we_chn ?_ | refine we_ix ?_ | refine we_sl ?_ | refine we_blt ?_ | refine we_mut ?_ | refine we_call ?_ | refine we_tup ?_ | refine we_lst ?_ | refine we_not ?_ | refine we_and ?_ | refine we_or ?_ | refine we_ite ?_ | refine we_isN ?_ | refine we_isC ?_ | refine we_neg ?_ | refine we_gcon ?_ | refine we_lc ?_ | refine wa_cons ?_ | refine wa_nil ?_ | refine wp_none ?_ | refine wp_some ?_ | refine wt_not ?_ | refine wt_and ?_ | refine wt_or ?_ | refine wt_nil ?_ | refine wt_one ?_ | refine wi_seq ?_ | refine wi_rng ?_ | refine wi_enum ?_ | refine wi_zip ?_ | refine wi_rev ?_ | refine wo_turn ?_ | refine wt_val rfl ?_ | refine ⟨rfl, ?_⟩ | refine ⟨_, rfl, rfl, ?_⟩ | refine ⟨_, _, rfl, rfl, ?_⟩ | refine ⟨_, _, _, rfl, rfl, rfl, ?_⟩ | refine ⟨_, _, _, rfl, rfl, mul_r (by decide), ?_⟩ | refine ⟨_, _, rfl, ?_⟩ | refine ⟨_, rfl, ?_⟩ | refine br_t ?_ | refine br_f ?_ | refine rt_own rfl ?_)
  refine wf_fr ?_
  repeat (first | refine wf_cons ?_ | refine wf_asg ?_ | refine wf_iff ?_ | refine wf_ret ?_ | refine wf_ex ?_ | refine wf_setI ?_ | refine wf_aug ?_ | refine wf_asgT ?_ | refine wf_nil ?_ | refine wf_retN ?_ | refine wf_pass ?_ | refine wf_brk ?_ | refine wf_cnt ?_ | refine we_cst ?_ | refine we_d rfl ?_ | refine we_l rfl ?_ | refine we_bin ?_ | refine we_cmp ?_ | refine we_chn ?_ | refine we_ix ?_ | refine we_sl ?_ | refine we_blt ?_ | refine we_mut ?_ | refine we_call ?_ | refine we_tup ?_ | refine we_lst ?_ | refine we_not ?_ | refine we_and ?_ | refine we_or ?_ | refine we_ite ?_ | refine we_isN ?_ | refine we_isC ?_ | refine we_neg ?_ | refine we_gcon ?_ | refine we_lc ?_ | refine wa_cons ?_ | refine wa_nil ?_ | refine wp_none ?_ | refine wp_some ?_ | refine wt_not ?_ | refine wt_and ?_ | refine wt_or ?_ | refine wt_nil ?_ | refine wt_one ?_ | refine wi_seq ?_ | refine wi_rng ?_ | refine wi_enum ?_ | refine wi_zip ?_ | refine wi_rev ?_ | refine wo_turn ?_ | refine wt_val rfl ?_ | refine ⟨rfl, ?_⟩ | refine ⟨_, rfl, rfl, ?_⟩ | refine ⟨_, _, rfl, rfl, ?_⟩ | refine ⟨_, _, _, rfl, rfl, rfl, ?_⟩ | refine ⟨_, _, _, rfl, rfl, mul_r (by decide), ?_⟩ | refine ⟨_, _, rfl, ?_⟩ | refine ⟨_, rfl, ?_⟩ | refine br_t ?_ | refine br_f ?_ | refine rt_own rfl ?_)
  simp only [stillF_nil, stillF_v]
  refine for_inv (fun i c => ∃ ds a2, sub (.tup ds) (r.drop i) = sub d r ∧ isKs ds = true ∧ c = [some (.d (.tup ds)), some (.d (rowD r)), a2]) ?_ ?_ ?_
  · obtain ⟨ds, rfl, hK⟩ := isK_tup hK
    exact ⟨ds, none, rfl, hK, rfl⟩
  · rintro i x c hi ⟨ds, a2, hs, hK, rfl⟩
    obtain ⟨hl, rfl⟩ := get_of (xs := r.map fun (n : Nat) => D.int n) hi
    rw [List.length_map] at hl
    rw [List.getElem_map]
    rw [drop_get hl] at hs
    refine ⟨_, rfl, ?_⟩
    repeat (first | refine wf_cons ?_ | refine wf_asg ?_ | refine wf_iff ?_ | refine wf_ret ?_ | refine wf_ex ?_ | refine wf_setI ?_ | refine wf_aug ?_ | refine wf_asgT ?_ | refine wf_nil ?_ | refine wf_retN ?_ | refine wf_pass ?_ | refine wf_brk ?_ | refine wf_cnt ?_ | refine we_cst ?_ | refine we_d rfl ?_ | refine we_l rfl ?_ | refine we_bin ?_ | refine we_cmp ?_ | refine we_chn ?_ | refine we_ix ?_ | refine we_sl ?_ | refine we_blt ?_ | refine we_mut ?_ | refine we_call ?_ | refine we_tup ?_ | refine we_lst ?_ | refine we_not ?_ | refine we_and ?_ | refine we_or ?_ | refine we_ite ?_ | refine we_isN ?_ | refine we_isC ?_ | refine we_neg ?_ | refine we_gcon ?_ | refine we_lc ?_ | refine wa_cons ?_ | refine wa_nil ?_ | refine wp_none ?_ | refine wp_some ?_ | refine wt_not ?_ | refine wt_and ?_ | refine wt_or ?_ | refine wt_nil ?_ | refine wt_one ?_ | refine wi_seq ?_ | refine wi_rng ?_ | refine wi_enum ?_ | refine wi_zip ?_ | refine wi_rev ?_ | refine wo_turn ?_ | refine wt_val rfl ?_ | refine ⟨rfl, ?_⟩ | refine ⟨_, rfl, rfl, ?_⟩ | refine ⟨_, _, rfl, rfl, ?_⟩ | refine ⟨_, _, _, rfl, rfl, rfl, ?_⟩ | refine ⟨_, _, _, rfl, rfl, mul_r (by decide), ?_⟩ | refine ⟨_, _, rfl, ?_⟩ | refine ⟨_, rfl, ?_⟩ | refine br_t ?_ | refine br_f ?_ | refine rt_own rfl ?_)
    refine ⟨fun hb => ?_, fun hb => ?_⟩
    · have hb : ds.length ≤ r[i] := by simp at hb; omega
      repeat (first | refine wf_cons ?_ | refine wf_asg ?_ | refine wf_iff ?_ | refine wf_ret ?_ | refine wf_ex ?_ | refine wf_setI ?_ | refine wf_aug ?_ | refine wf_asgT ?_ | refine wf_nil ?_ | refine wf_retN ?_ | refine wf_pass ?_ | refine wf_brk ?_ | refine wf_cnt ?_ | refine we_cst ?_ | refine we_d rfl ?_ | refine we_l rfl ?_ | refine we_bin ?_ | refine we_cmp ?_ | refine we_chn ?_ | refine we_ix ?_ | refine we_sl ?_ | refine we_blt ?_ | refine we_mut ?_ | refine we_call ?_ | refine we_tup ?_ | refine we_lst ?_ | refine we_not ?_ | refine we_and ?_ | refine we_or ?_ | refine we_ite ?_ | refine we_isN ?_ | refine we_isC ?_ | refine we_neg ?_ | refine we_gcon ?_ | refine we_lc ?_ | refine wa_cons ?_ | refine wa_nil ?_ | refine wp_none ?_ | refine wp_some ?_ | refine wt_not ?_ | refine wt_and ?_ | refine wt_or ?_ | refine wt_nil ?_ | refine wt_one ?_ | refine wi_seq ?_ | refine wi_rng ?_ | refine wi_enum ?_ | refine wi_zip ?_ | refine wi_rev ?_ | refine wo_turn ?_ | refine wt_val rfl ?_ | refine ⟨rfl, ?_⟩ | refine ⟨_, rfl, rfl, ?_⟩ | refine ⟨_, _, rfl, rfl, ?_⟩ | refine ⟨_, _, _, rfl, rfl, rfl, ?_⟩ | refine ⟨_, _, _, rfl, rfl, mul_r (by decide), ?_⟩ | refine ⟨_, _, rfl, ?_⟩ | refine ⟨_, rfl, ?_⟩ | refine br_t ?_ | refine br_f ?_ | refine rt_own rfl ?_)
      refine hR _ _ _ rfl ?_
      rw [← hs]
      simp only [sub, List.getElem?_eq_none hb]
      rfl
    · have hb : r[i] < ds.length := by simp at hb; omega
      repeat (first | refine wf_cons ?_ | refine wf_asg ?_ | refine wf_iff ?_ | refine wf_ret ?_ | refine wf_ex ?_ | refine wf_setI ?_ | refine wf_aug ?_ | refine wf_asgT ?_ | refine wf_nil ?_ | refine wf_retN ?_ | refine wf_pass ?_ | refine wf_brk ?_ | refine wf_cnt ?_ | refine we_cst ?_ | refine we_d rfl ?_ | refine we_l rfl ?_ | refine we_bin ?_ | refine we_cmp ?_ | refine we_chn ?_ | refine we_ix ?_ | refine we_sl ?_ | refine we_blt ?_ | refine we_mut ?_ | refine we_call ?_ | refine we_tup ?_ | refine we_lst ?_ | refine we_not ?_ | refine we_and ?_ | refine we_or ?_ | refine we_ite ?_ | refine we_isN ?_ | refine we_isC ?_ | refine we_neg ?_ | refine we_gcon ?_ | refine we_lc ?_ | refine wa_cons ?_ | refine wa_nil ?_ | refine wp_none ?_ | refine wp_some ?_ | refine wt_not ?_ | refine wt_and ?_ | refine wt_or ?_ | refine wt_nil ?_ | refine wt_one ?_ | refine wi_seq ?_ | refine wi_rng ?_ | refine wi_enum ?_ | refine wi_zip ?_ | refine wi_rev ?_ | refine wo_turn ?_ | refine wt_val rfl ?_ | refine ⟨rfl, ?_⟩ | refine ⟨_, rfl, rfl, ?_⟩ | refine ⟨_, _, rfl, rfl, ?_⟩ | refine ⟨_, _, _, rfl, rfl, rfl, ?_⟩ | refine ⟨_, _, _, rfl, rfl, mul_r (by decide), ?_⟩ | refine ⟨_, _, rfl, ?_⟩ | refine ⟨_, rfl, ?_⟩ | refine br_t ?_ | refine br_f ?_ | refine rt_own rfl ?_)
      refine ⟨_, _, _, rfl, rfl, idx_tup (n := r[i]) (d := ds[r[i]]) (by simp [hb]), ?_⟩
      repeat (first | refine wf_cons ?_ | refine wf_asg ?_ | refine wf_iff ?_ | refine wf_ret ?_ | refine wf_ex ?_ | refine wf_setI ?_ | refine wf_aug ?_ | refine wf_asgT ?_ | refine wf_nil ?_ | refine wf_retN ?_ | refine wf_pass ?_ | refine wf_brk ?_ | refine wf_cnt ?_ | refine we_cst ?_ | refine we_d rfl ?_ | refine we_l rfl ?_ | refine we_bin ?_ | refine we_cmp ?_ | refine we_chn ?_ | refine we_ix ?_ | refine we_sl ?_ | refine we_blt ?_ | refine we_mut ?_ | refine we_call ?_ | refine we_tup ?_ | refine we_lst ?_ | refine we_not ?_ | refine we_and ?_ | refine we_or ?_ | refine we_ite ?_ | refine we_isN ?_ | refine we_isC ?_ | refine we_neg ?_ | refine we_gcon ?_ | refine we_lc ?_ | refine wa_cons ?_ | refine wa_nil ?_ | refine wp_none ?_ | refine wp_some ?_ | refine wt_not ?_ | refine wt_and ?_ | refine wt_or ?_ | refine wt_nil ?_ | refine wt_one ?_ | refine wi_seq ?_ | refine wi_rng ?_ | refine wi_enum ?_ | refine wi_zip ?_ | refine wi_rev ?_ | refine wo_turn ?_ | refine wt_val rfl ?_ | refine ⟨rfl, ?_⟩ | refine ⟨_, rfl, rfl, ?_⟩ | refine ⟨_, _, rfl, rfl, ?_⟩ | refine ⟨_, _, _, rfl, rfl, rfl, ?_⟩ | refine ⟨_, _, _, rfl, rfl, mul_r (by decide), ?_⟩ | refine ⟨_, _, rfl, ?_⟩ | refine ⟨_, rfl, ?_⟩ | refine br_t ?_ | refine br_f ?_ | refine rt_own rfl ?_)
      have hK2 := isKs_mem hK (List.getElem_mem hb)
      obtain ⟨es, e, hK3⟩ := isK_tup hK2
      refine ⟨es, _, ?_, hK3, by rw [← e]; rfl⟩
      rw [← e, ← hs]
      simp [sub, hb]
  · rintro c ⟨ds, a2, hs, hK, rfl⟩
    rw [List.length_map, List.drop_length] at hs
    repeat (first | refine wf_cons ?_ | refine wf_asg ?_ | refine wf_iff ?_ | refine wf_ret ?_ | refine wf_ex ?_ | refine wf_setI ?_ | refine wf_aug ?_ | refine wf_asgT ?_ | refine wf_nil ?_ | refine wf_retN ?_ | refine wf_pass ?_ | refine wf_brk ?_ | refine wf_cnt ?_ | refine we_cst ?_ | refine we_d rfl ?_ | refine we_l rfl ?_ | refine we_bin ?_ | refine we_cmp ?_ | refine we_chn ?_ | refine we_ix ?_ | refine we_sl ?_ | refine we_blt ?_ | refine we_mut ?_ | refine we_call ?_ | refine we_tup ?_ | refine we_lst ?_ | refine we_not ?_ | refine we_and ?_ | refine we_or ?_ | refine we_ite ?_ | refine we_isN ?_ | refine we_isC ?_ | refine we_neg ?_ | refine we_gcon ?_ | refine we_lc ?_ | refine wa_cons ?_ | refine wa_nil ?_ | refine wp_none ?_ | refine wp_some ?_ | refine wt_not ?_ | refine wt_and ?_ | refine wt_or ?_ | refine wt_nil ?_ | refine wt_one ?_ | refine wi_seq ?_ | refine wi_rng ?_ | refine wi_enum ?_ | refine wi_zip ?_ | refine wi_rev ?_ | refine wo_turn ?_ | refine wt_val rfl ?_ | refine ⟨rfl, ?_⟩ | refine ⟨_, rfl, rfl, ?_⟩ | refine ⟨_, _, rfl, rfl, ?_⟩ | refine ⟨_, _, _, rfl, rfl, rfl, ?_⟩ | refine ⟨_, _, _, rfl, rfl, mul_r (by decide), ?_⟩ | refine ⟨_, _, rfl, ?_⟩ | refine ⟨_, rfl, ?_⟩ | refine br_t ?_ | refine br_f ?_ | refine rt_own rfl ?_)
    refine hR _ _ _ rfl ?_
    rw [← hs]
    rfl
theorem lat_ok {P : Prg} {w k : Nat} (h : IsFn P 10 2 3 b_L_at) (hk : 1 ≤ k) (d : D) (r : List Nat) (hK : isK d = true) :
    ∃ cr, run P w k 10 [.d d, .d (rowD r)] = .ok cr ∧ cr = ⟨.v (.d (sub d r)), [none, some (.d (rowD r))]⟩ := by
  refine run_by h rfl rfl hk fun k' N R ek hN hR => ?_
  unfold b_L_at
  repeat (first | refine wf_cons ?_ | refine wf_asg ?_ | refine wf_iff ?_ | refine wf_ret ?_ | refine wf_ex ?_ | refine wf_setI ?_ | refine wf_aug ?_ | refine wf_asgT ?_ | refine wf_nil ?_ | refine wf_retN ?_ | refine wf_pass ?_ | refine wf_brk ?_ | refine wf_cnt ?_ | refine we_cst ?_ | refine we_d rfl ?_ | refine we_l rfl ?_ | refine we_bin ?_ | refine we_cmp ?_ | refine we_chn ?_ | refine we_ix ?_ | refine we_sl ?_ | refine we_blt ?_ | refine we_mut ?_ | refine we_call ?_ | refine we_tup ?_ | refine we_lst ?_ | refine we_not ?_ | refine we_and ?_ | refine we_or ?_ | refine we_ite ?_ | refine we_isN ?_ | refine we_isC ?_ | refine we_neg ?_ | refine we_gcon ?_ | refine we_lc ?_ | refine wa_cons ?_ | refine wa_nil ?_ | refine wp_none ?_ | refine wp_some ?_ | refine wt_not ?_ | refine wt_and ?_ | refine wt_or ?_ | refine wt_nil ?_ | refine wt_one ?_ | refine wi_seq ?_ | refine wi_rng ?_ | refine wi_enum ?_ | refine wi_zip ?_ | refine wi_rev ?_ | refine wo_turn ?_ | refine wt_val rfl ?_ | refine ⟨rfl, ?_⟩ | refine ⟨_, rfl, rfl, ?_⟩ | refine ⟨_, _, rfl, rfl, ?_⟩ | refine ⟨_, _, _, rfl, rfl, rfl, ?_⟩ | refine ⟨_, _, _, rfl, rfl, mul_r (by decide), ?_⟩ | refine ⟨_, _, rfl, ?_⟩ | refine ⟨_, rfl, ?_⟩ | refine br_t ?_ | refine br_f ?_ | refine rt_own rfl ?_)
  refine wf_fr ?_
  repeat (first | refine wf_cons ?_ | refine wf_asg ?_ | refine wf_iff ?_ | refine wf_ret ?_ | refine wf_ex ?_ | refine wf_setI ?_ | refine wf_aug ?_ | refine wf_asgT ?_ | refine wf_nil ?_ | refine wf_retN ?_ | refine wf_pass ?_ | refine wf_brk ?_ | refine wf_cnt ?_ | refine we_cst ?_ | refine we_d rfl ?_ | refine we_l rfl ?_ | refine we_bin ?_ | refine we_cmp ?_ | refine we_chn ?_ | refine we_ix ?_ | refine we_sl ?_ | refine we_blt ?_ | refine we_mut ?_ | refine we_call ?_ | refine we_tup ?_ | refine we_lst ?_ | refine we_not ?_ | refine we_and ?_ | refine we_or ?_ | refine we_ite ?_ | refine we_isN ?_ | refine we_isC ?_ | refine we_neg ?_ | refine we_gcon ?_ | refine we_lc ?_ | refine wa_cons ?_ | refine wa_nil ?_ | refine wp_none ?_ | refine wp_some ?_ | refine wt_not ?_ | refine wt_and ?_ | refine wt_or ?_ | refine wt_nil ?_ | refine wt_one ?_ | refine wi_seq ?_ | refine wi_rng ?_ | refine wi_enum ?_ | refine wi_zip ?_ | refine wi_rev ?_ | refine wo_turn ?_ | refine wt_val rfl ?_ | refine ⟨rfl, ?_⟩ | refine ⟨_, rfl, rfl, ?_⟩ | refine ⟨_, _, rfl, rfl, ?_⟩ | refine ⟨_, _, _, rfl, rfl, rfl, ?_⟩ | refine ⟨_, _, _, rfl, rfl, mul_r (by decide), ?_⟩ | refine ⟨_, _, rfl, ?_⟩ | refine ⟨_, rfl, ?_⟩ | refine br_t ?_ | refine br_f ?_ | refine rt_own rfl ?_)
  simp only [stillF_nil, stillF_v]
  refine for_inv (fun i c => ∃ ds a2, sub (.tup ds) (r.drop i) = sub d r ∧ isKs ds = true ∧ c = [some (.d (.tup ds)), some (.d (rowD r)), a2]) ?_ ?_ ?_
  · obtain ⟨ds, rfl, hK⟩ := isK_tup hK
    exact ⟨ds, none, rfl, hK, rfl⟩
  · rintro i x c hi ⟨ds, a2, hs, hK, rfl⟩
    obtain ⟨hl, rfl⟩ := get_of (xs := r.map fun (n : Nat) => D.int n) hi
    rw [List.length_map] at hl
    rw [List.getElem_map]
    rw [drop_get hl] at hs
    refine ⟨_, rfl, ?_⟩
    repeat (first | refine wf_cons ?_ | refine wf_asg ?_ | refine wf_iff ?_ | refine wf_ret ?_ | refine wf_ex ?_ | refine wf_setI ?_ | refine wf_aug ?_ | refine wf_asgT ?_ | refine wf_nil ?_ | refine wf_retN ?_ | refine wf_pass ?_ | refine wf_brk ?_ | refine wf_cnt ?_ | refine we_cst ?_ | refine we_d rfl ?_ | refine we_l rfl ?_ | refine we_bin ?_ | refine we_cmp ?_ | refine we_chn ?_ | refine we_ix ?_ | refine we_sl ?_ | refine we_blt ?_ | refine we_mut ?_ | refine we_call ?_ | refine we_tup ?_ | refine we_lst ?_ | refine we_not ?_ | refine we_and ?_ | refine we_or ?_ | refine we_ite ?_ | refine we_isN ?_ | refine we_isC ?_ | refine we_neg ?_ | refine we_gcon ?_ | refine we_lc ?_ | refine wa_cons ?_ | refine wa_nil ?_ | refine wp_none ?_ | refine wp_some ?_ | refine wt_not ?_ | refine wt_and ?_ | refine wt_or ?_ | refine wt_nil ?_ | refine wt_one ?_ | refine wi_seq ?_ | refine wi_rng ?_ | refine wi_enum ?_ | refine wi_zip ?_ | refine wi_rev ?_ | refine wo_turn ?_ | refine wt_val rfl ?_ | refine ⟨rfl, ?_⟩ | refine ⟨_, rfl, rfl, ?_⟩ | refine ⟨_, _, rfl, rfl, ?_⟩ | refine ⟨_, _, _, rfl, rfl, rfl, ?_⟩ | refine ⟨_, _, _, rfl, rfl, mul_r (by decide), ?_⟩ | refine ⟨_, _, rfl, ?_⟩ | refine ⟨_, rfl, ?_⟩ | refine br_t ?_ | refine br_f ?_ | refine rt_own rfl ?_)
    refine ⟨fun hb => ?_, fun hb => ?_⟩
    · have hb : ds.length ≤ r[i] := by have := of_decide_eq_true hb; omega
      repeat (first | refine wf_cons ?_ | refine wf_asg ?_ | refine wf_iff ?_ | refine wf_ret ?_ | refine wf_ex ?_ | refine wf_setI ?_ | refine wf_aug ?_ | refine wf_asgT ?_ | refine wf_nil ?_ | refine wf_retN ?_ | refine wf_pass ?_ | refine wf_brk ?_ | refine wf_cnt ?_ | refine we_cst ?_ | refine we_d rfl ?_ | refine we_l rfl ?_ | refine we_bin ?_ | refine we_cmp ?_ | refine we_chn ?_ | refine we_ix ?_ | refine we_sl ?_ | refine we_blt ?_ | refine we_mut ?_ | refine we_call ?_ | refine we_tup ?_ | refine we_lst ?_ | refine we_not ?_ | refine we_and ?_ | refine we_or ?_ | refine we_ite ?_ | refine we_isN ?_ | refine we_isC ?_ | refine we_neg ?_ | refine we_gcon ?_ | refine we_lc ?_ | refine wa_cons ?_ | refine wa_nil ?_ | refine wp_none ?_ | refine wp_some ?_ | refine wt_not ?_ | refine wt_and ?_ | refine wt_or ?_ | refine wt_nil ?_ | refine wt_one ?_ | refine wi_seq ?_ | refine wi_rng ?_ | refine wi_enum ?_ | refine wi_zip ?_ | refine wi_rev ?_ | refine wo_turn ?_ | refine wt_val rfl ?_ | refine ⟨rfl, ?_⟩ | refine ⟨_, rfl, rfl, ?_⟩ | refine ⟨_, _, rfl, rfl, ?_⟩ | refine ⟨_, _, _, rfl, rfl, rfl, ?_⟩ | refine ⟨_, _, _, rfl, rfl, mul_r (by decide), ?_⟩ | refine ⟨_, _, rfl, ?_⟩ | refine ⟨_, rfl, ?_⟩ | refine br_t ?_ | refine br_f ?_ | refine rt_own rfl ?_)
      refine hR _ _ _ rfl ?_
      rw [← hs]
      simp only [sub, List.getElem?_eq_none hb]
      rfl
    · have hb : r[i] < ds.length := by have := of_decide_eq_false hb; omega
      repeat (first | refine wf_cons ?_ | refine wf_asg ?_ | refine wf_iff ?_ | refine wf_ret ?_ | refine wf_ex ?_ | refine wf_setI ?_ | refine wf_aug ?_ | refine wf_asgT ?_ | refine wf_nil ?_ | refine wf_retN ?_ | refine wf_pass ?_ | refine wf_brk ?_ | refine wf_cnt ?_ | refine we_cst ?_ | refine we_d rfl ?_ | refine we_l rfl ?_ | refine we_bin ?_ | refine we_cmp ?_ | refine we_chn ?_ | refine we_ix ?_ | refine we_sl ?_ | refine we_blt ?_ | refine we_mut ?_ | refine we_call ?_ | refine we_tup ?_ | refine we_lst ?_ | refine we_not ?_ | refine we_and ?_ | refine we_or ?_ | refine we_ite ?_ | refine we_isN ?_ | refine we_isC ?_ | refine we_neg ?_ | refine we_gcon ?_ | refine we_lc ?_ | refine wa_cons ?_ | refine wa_nil ?_ | refine wp_none ?_ | refine wp_some ?_ | refine wt_not ?_ | refine wt_and ?_ | refine wt_or ?_ | refine wt_nil ?_ | refine wt_one ?_ | refine wi_seq ?_ | refine wi_rng ?_ | refine wi_enum ?_ | refine wi_zip ?_ | refine wi_rev ?_ | refine wo_turn ?_ | refine wt_val rfl ?_ | refine ⟨rfl, ?_⟩ | refine ⟨_, rfl, rfl, ?_⟩ | refine ⟨_, _, rfl, rfl, ?_⟩ | refine ⟨_, _, _, rfl, rfl, rfl, ?_⟩ | refine ⟨_, _, _, rfl, rfl, mul_r (by decide), ?_⟩ | refine ⟨_, _, rfl, ?_⟩ | refine ⟨_, rfl, ?_⟩ | refine br_t ?_ | refine br_f ?_ | refine rt_own rfl ?_)
      refine ⟨_, _, _, rfl, rfl, idx_tup (n := r[i]) (d := ds[r[i]]) (by simp [hb]), ?_⟩
      repeat (first | refine wf_cons ?_ | refine wf_asg ?_ | refine wf_iff ?_ | refine wf_ret ?_ | refine wf_ex ?_ | refine wf_setI ?_ | refine wf_aug ?_ | refine wf_asgT ?_ | refine wf_nil ?_ | refine wf_retN ?_ | refine wf_pass ?_ | refine wf_brk ?_ | refine wf_cnt ?_ | refine we_cst ?_ | refine we_d rfl ?_ | refine we_l rfl ?_ | refine we_bin ?_ | refine we_cmp ?_ | refine we_chn ?_ | refine we_ix ?_ | refine we_sl ?_ | refine we_blt ?_ | refine we_mut ?_ | refine we_call ?_ | refine we_tup ?_ | refine we_lst ?_ | refine we_not ?_ | refine we_and ?_ | refine we_or ?_ | refine we_ite ?_ | refine we_isN ?_ | refine we_isC ?_ | refine we_neg ?_ | refine we_gcon ?_ | refine we_lc ?_ | refine wa_cons ?_ | refine wa_nil ?_ | refine wp_none ?_ | refine wp_some ?_ | refine wt_not ?_ | refine wt_and ?_ | refine wt_or ?_ | refine wt_nil ?_ | refine wt_one ?_ | refine wi_seq ?_ | refine wi_rng ?_ | refine wi_enum ?_ | refine wi_zip ?_ | refine wi_rev ?_ | refine wo_turn ?_ | refine wt_val rfl ?_ | refine ⟨rfl, ?_⟩ | refine ⟨_, rfl, rfl, ?_⟩ | refine ⟨_, _, rfl, rfl, ?_⟩ | refine ⟨_, _, _, rfl, rfl, rfl, ?_⟩ | refine ⟨_, _, _, rfl, rfl, mul_r (by decide), ?_⟩ | refine ⟨_, _, rfl, ?_⟩ | refine ⟨_, rfl, ?_⟩ | refine br_t ?_ | refine br_f ?_ | refine rt_own rfl ?_)
      have hK2 := isKs_mem hK (List.getElem_mem hb)
      obtain ⟨es, e, hK3⟩ := isK_tup hK2
      refine ⟨es, _, ?_, hK3, by rw [← e]; rfl⟩
      rw [← e, ← hs]
      simp [sub, hb]
  · rintro c ⟨ds, a2, hs, hK, rfl⟩
    rw [List.length_map, List.drop_length] at hs
    repeat (first | refine wf_cons ?_ | refine wf_asg ?_ | refine wf_iff ?_ | refine wf_ret ?_ | refine wf_ex ?_ | refine wf_setI ?_ | refine wf_aug ?_ | refine wf_asgT ?_ | refine wf_nil ?_ | refine wf_retN ?_ | refine wf_pass ?_ | refine wf_brk ?_ | refine wf_cnt ?_ | refine we_cst ?_ | refine we_d rfl ?_ | refine we_l rfl ?_ | refine we_bin ?_ | refine we_cmp ?_ | refine we_chn ?_ | refine we_ix ?_ | refine we_sl ?_ | refine we_blt ?_ | refine we_mut ?_ | refine we_call ?_ | refine we_tup ?_ | refine we_lst ?_ | refine we_not ?_ | refine we_and ?_ | refine we_or ?_ | refine we_ite ?_ | refine we_isN ?_ | refine we_isC ?_ | refine we_neg ?_ | refine we_gcon ?_ | refine we_lc ?_ | refine wa_cons ?_ | refine wa_nil ?_ | refine wp_none ?_ | refine wp_some ?_ | refine wt_not ?_ | refine wt_and ?_ | refine wt_or ?_ | refine wt_nil ?_ | refine wt_one ?_ | refine wi_seq ?_ | refine wi_rng ?_ | refine wi_enum ?_ | refine wi_zip ?_ | refine wi_rev ?_ | refine wo_turn ?_ | refine wt_val rfl ?_ | refine ⟨rfl, ?_⟩ | refine ⟨_, rfl, rfl, ?_⟩ | refine ⟨_, _, rfl, rfl, ?_⟩ | refine ⟨_, _, _, rfl, rfl, rfl, ?_⟩ | refine ⟨_, _, _, rfl, rfl, mul_r (by decide), ?_⟩ | refine ⟨_, _, rfl, ?_⟩ | refine ⟨_, rfl, ?_⟩ | refine br_t ?_ | refine br_f ?_ | refine rt_own rfl ?_)
    refine hR _ _ _ rfl ?_
    rw [← hs]
    rfl
end G
namespace G
open PySem
mutual
def dp : D → Nat
  | .tup ds => dps ds
  | _ => 0
def dps : List D → Nat
  | [] => 0
  | d :: ds => max (dp d + 1) (dps ds)
end
theorem allI_map {f : D → Int} : ∀ {ds : List D}, allI (ds.map fun x => .int (f x)) = some (ds.map f)
  | [] => rfl
  | d :: ds => by
    show (allI (ds.map fun x => .int (f x))).map (f d :: ·) = _
    rw [allI_map]
    rfl
theorem fold_dp : ∀ {ds : List D} {a : Nat}, ((ds.map fun x => (dp x : Int)).foldl (fun m x => if m < x then x else m) (a : Int)) + 1 = ((max (a + 1) (dps ds) : Nat) : Int)
  | [], a => by simp [dps]
  | d :: ds, a => by
    rw [List.map_cons, List.foldl_cons]
    simp only [dps]
    by_cases h : a < dp d
    · rw [if_pos (by omega), fold_dp]
      omega
    · rw [if_neg (by omega), fold_dp]
      omega
theorem dep_ok {P : Prg} {w : Nat} (h : IsFn P 4 1 2 b_depth) : ∀ (n : Nat) (d : D) (k : Nat), htD d ≤ n → 5 * n + 5 ≤ k → isK d = true →
    ∃ cr, run P w k 4 [.d d] = .ok cr ∧ cr = ⟨.v (.d (.int (dp d))), [some (.d d)]⟩ := by
  intro n
  induction n with
  | zero =>
    intro d k hn hk hK
    obtain ⟨ds, rfl, _⟩ := isK_tup hK
    unfold htD at hn
    omega
  | succ n ih =>
    intro d k hn hk hK
    obtain ⟨ds, rfl, hK⟩ := isK_tup hK
    have e1 : htD (.tup ds) = htDs ds + 1 := by simp [htD]
    refine run_by h rfl rfl (by omega) fun k' N R ek hN hR => ?_
    unfold b_depth
    cases ds with
    | nil =>
      repeat (first | refine wf_cons ?_ | refine wf_asg ?_ | refine wf_iff ?_ | refine wf_ret ?_ | refine wf_ex ?_ | refine wf_setI ?_ | refine wf_aug ?_ | refine wf_asgT ?_ | refine wf_nil ?_ | refine wf_retN ?_ | refine wf_pass ?_ | refine wf_brk ?_ | refine wf_cnt ?_ | refine we_cst ?_ | refine we_d rfl ?_ | refine we_l rfl ?_ | refine we_bin ?_ | refine we_cmp ?_ | refine we_chn ?_ | refine we_ix ?_ | refine we_sl ?_ | refine we_blt ?_ | refine we_mut ?_ | refine we_call ?_ | refine we_tup ?_ | refine we_lst ?_ | refine we_not ?_ | refine we_and ?_ | refine we_or ?_ | refine we_ite ?_ | refine we_isN ?_ | refine we_isC ?_ | refine we_neg ?_ | refine we_gcon ?_ | refine we_lc ?_ | refine wa_cons ?_ | refine wa_nil ?_ | refine wp_none ?_ | refine wp_some ?_ | refine wt_not ?_ | refine wt_and ?_ | refine wt_or ?_ | refine wt_nil ?_ | refine wt_one ?_ | refine wi_seq ?_ | refine wi_rng ?_ | refine wi_enum ?_ | refine wi_zip ?_ | refine wi_rev ?_ | refine wo_turn ?_ | refine wt_val rfl ?_ | refine ⟨rfl, ?_⟩ | refine ⟨_, rfl, rfl, ?_⟩ | refine ⟨_, _, rfl, rfl, ?_⟩ | refine ⟨_, _, _, rfl, rfl, rfl, ?_⟩ | refine ⟨_, _, _, rfl, rfl, mul_r (by decide), ?_⟩ | refine ⟨_, _, rfl, ?_⟩ | refine ⟨_, rfl, ?_⟩ | refine br_t ?_ | refine br_f ?_ | refine rt_own rfl ?_)
      exact hR _ _ _ rfl (by simp [dp, dps]; rfl)
    | cons d0 ds =>
      repeat (first | refine wf_cons ?_ | refine wf_asg ?_ | refine wf_iff ?_ | refine wf_ret ?_ | refine wf_ex ?_ | refine wf_setI ?_ | refine wf_aug ?_ | refine wf_asgT ?_ | refine wf_nil ?_ | refine wf_retN ?_ | refine wf_pass ?_ | refine wf_brk ?_ | refine wf_cnt ?_ | refine we_cst ?_ | refine we_d rfl ?_ | refine we_l rfl ?_ | refine we_bin ?_ | refine we_cmp ?_ | refine we_chn ?_ | refine we_ix ?_ | refine we_sl ?_ | refine we_blt ?_ | refine we_mut ?_ | refine we_call ?_ | refine we_tup ?_ | refine we_lst ?_ | refine we_not ?_ | refine we_and ?_ | refine we_or ?_ | refine we_ite ?_ | refine we_isN ?_ | refine we_isC ?_ | refine we_neg ?_ | refine we_gcon ?_ | refine we_lc ?_ | refine wa_cons ?_ | refine wa_nil ?_ | refine wp_none ?_ | refine wp_some ?_ | refine wt_not ?_ | refine wt_and ?_ | refine wt_or ?_ | refine wt_nil ?_ | refine wt_one ?_ | refine wi_seq ?_ | refine wi_rng ?_ | refine wi_enum ?_ | refine wi_zip ?_ | refine wi_rev ?_ | refine wo_turn ?_ | refine wt_val rfl ?_ | refine ⟨rfl, ?_⟩ | refine ⟨_, rfl, rfl, ?_⟩ | refine ⟨_, _, rfl, rfl, ?_⟩ | refine ⟨_, _, _, rfl, rfl, rfl, ?_⟩ | refine ⟨_, _, _, rfl, rfl, mul_r (by decide), ?_⟩ | refine ⟨_, _, rfl, ?_⟩ | refine ⟨_, rfl, ?_⟩ | refine br_t ?_ | refine br_f ?_ | refine rt_own rfl ?_)
      refine we_genM (by omega) ?_
      repeat (first | refine wf_cons ?_ | refine wf_asg ?_ | refine wf_iff ?_ | refine wf_ret ?_ | refine wf_ex ?_ | refine wf_setI ?_ | refine wf_aug ?_ | refine wf_asgT ?_ | refine wf_nil ?_ | refine wf_retN ?_ | refine wf_pass ?_ | refine wf_brk ?_ | refine wf_cnt ?_ | refine we_cst ?_ | refine we_d rfl ?_ | refine we_l rfl ?_ | refine we_bin ?_ | refine we_cmp ?_ | refine we_chn ?_ | refine we_ix ?_ | refine we_sl ?_ | refine we_blt ?_ | refine we_mut ?_ | refine we_call ?_ | refine we_tup ?_ | refine we_lst ?_ | refine we_not ?_ | refine we_and ?_ | refine we_or ?_ | refine we_ite ?_ | refine we_isN ?_ | refine we_isC ?_ | refine we_neg ?_ | refine we_gcon ?_ | refine we_lc ?_ | refine wa_cons ?_ | refine wa_nil ?_ | refine wp_none ?_ | refine wp_some ?_ | refine wt_not ?_ | refine wt_and ?_ | refine wt_or ?_ | refine wt_nil ?_ | refine wt_one ?_ | refine wi_seq ?_ | refine wi_rng ?_ | refine wi_enum ?_ | refine wi_zip ?_ | refine wi_rev ?_ | refine wo_turn ?_ | refine wt_val rfl ?_ | refine ⟨rfl, ?_⟩ | refine ⟨_, rfl, rfl, ?_⟩ | refine ⟨_, _, rfl, rfl, ?_⟩ | refine ⟨_, _, _, rfl, rfl, rfl, ?_⟩ | refine ⟨_, _, _, rfl, rfl, mul_r (by decide), ?_⟩ | refine ⟨_, _, rfl, ?_⟩ | refine ⟨_, rfl, ?_⟩ | refine br_t ?_ | refine br_f ?_ | refine rt_own rfl ?_)
      refine gm_go (its := d0 :: ds) (fun i ys c => ys = ((d0 :: ds).take i).map (fun x => .int (dp x)) ∧ c = [some (.d (.tup (d0 :: ds))), none]) (by rfl) (by rfl) (by exact ⟨rfl, rfl⟩) ?_ ?_
      · rintro i d ys c hi ⟨rfl, rfl⟩
        obtain ⟨hl, rfl⟩ := get_of (xs := d0 :: ds) hi
        have hm : (d0 :: ds)[i] ∈ d0 :: ds := List.getElem_mem hl
        refine ⟨_, rfl, ?_⟩
        repeat (first | refine wf_cons ?_ | refine wf_asg ?_ | refine wf_iff ?_ | refine wf_ret ?_ | refine wf_ex ?_ | refine wf_setI ?_ | refine wf_aug ?_ | refine wf_asgT ?_ | refine wf_nil ?_ | refine wf_retN ?_ | refine wf_pass ?_ | refine wf_brk ?_ | refine wf_cnt ?_ | refine we_cst ?_ | refine we_d rfl ?_ | refine we_l rfl ?_ | refine we_bin ?_ | refine we_cmp ?_ | refine we_chn ?_ | refine we_ix ?_ | refine we_sl ?_ | refine we_blt ?_ | refine we_mut ?_ | refine we_call ?_ | refine we_tup ?_ | refine we_lst ?_ | refine we_not ?_ | refine we_and ?_ | refine we_or ?_ | refine we_ite ?_ | refine we_isN ?_ | refine we_isC ?_ | refine we_neg ?_ | refine we_gcon ?_ | refine we_lc ?_ | refine wa_cons ?_ | refine wa_nil ?_ | refine wp_none ?_ | refine wp_some ?_ | refine wt_not ?_ | refine wt_and ?_ | refine wt_or ?_ | refine wt_nil ?_ | refine wt_one ?_ | refine wi_seq ?_ | refine wi_rng ?_ | refine wi_enum ?_ | refine wi_zip ?_ | refine wi_rev ?_ | refine wo_turn ?_ | refine wt_val rfl ?_ | refine ⟨rfl, ?_⟩ | refine ⟨_, rfl, rfl, ?_⟩ | refine ⟨_, _, rfl, rfl, ?_⟩ | refine ⟨_, _, _, rfl, rfl, rfl, ?_⟩ | refine ⟨_, _, _, rfl, rfl, mul_r (by decide), ?_⟩ | refine ⟨_, _, rfl, ?_⟩ | refine ⟨_, rfl, ?_⟩ | refine br_t ?_ | refine br_f ?_ | refine rt_own rfl ?_)
        obtain ⟨_, hz3, rfl⟩ := ih (d0 :: ds)[i] (k' - 4) (by have := ht_mem hm; omega) (by omega) (isKs_mem hK hm)
        refine we_callV (show callN P w k' (k' - 4) 4 _ = _ by rw [callN_le (by omega)]; exact hz3) rfl rfl rfl ?_
        repeat (first | refine wf_cons ?_ | refine wf_asg ?_ | refine wf_iff ?_ | refine wf_ret ?_ | refine wf_ex ?_ | refine wf_setI ?_ | refine wf_aug ?_ | refine wf_asgT ?_ | refine wf_nil ?_ | refine wf_retN ?_ | refine wf_pass ?_ | refine wf_brk ?_ | refine wf_cnt ?_ | refine we_cst ?_ | refine we_d rfl ?_ | refine we_l rfl ?_ | refine we_bin ?_ | refine we_cmp ?_ | refine we_chn ?_ | refine we_ix ?_ | refine we_sl ?_ | refine we_blt ?_ | refine we_mut ?_ | refine we_call ?_ | refine we_tup ?_ | refine we_lst ?_ | refine we_not ?_ | refine we_and ?_ | refine we_or ?_ | refine we_ite ?_ | refine we_isN ?_ | refine we_isC ?_ | refine we_neg ?_ | refine we_gcon ?_ | refine we_lc ?_ | refine wa_cons ?_ | refine wa_nil ?_ | refine wp_none ?_ | refine wp_some ?_ | refine wt_not ?_ | refine wt_and ?_ | refine wt_or ?_ | refine wt_nil ?_ | refine wt_one ?_ | refine wi_seq ?_ | refine wi_rng ?_ | refine wi_enum ?_ | refine wi_zip ?_ | refine wi_rev ?_ | refine wo_turn ?_ | refine wt_val rfl ?_ | refine ⟨rfl, ?_⟩ | refine ⟨_, rfl, rfl, ?_⟩ | refine ⟨_, _, rfl, rfl, ?_⟩ | refine ⟨_, _, _, rfl, rfl, rfl, ?_⟩ | refine ⟨_, _, _, rfl, rfl, mul_r (by decide), ?_⟩ | refine ⟨_, _, rfl, ?_⟩ | refine ⟨_, rfl, ?_⟩ | refine br_t ?_ | refine br_f ?_ | refine rt_own rfl ?_)
        refine ⟨?_, rfl⟩
        rw [take_snoc hl, List.map_append]
        rfl
      · rintro ys c3 ⟨rfl, rfl⟩
        rw [List.take_length]
        refine ⟨_, _, allI_map (f := fun x => (dp x : Int)), rfl, ?_⟩
        repeat (first | refine wf_cons ?_ | refine wf_asg ?_ | refine wf_iff ?_ | refine wf_ret ?_ | refine wf_ex ?_ | refine wf_setI ?_ | refine wf_aug ?_ | refine wf_asgT ?_ | refine wf_nil ?_ | refine wf_retN ?_ | refine wf_pass ?_ | refine wf_brk ?_ | refine wf_cnt ?_ | refine we_cst ?_ | refine we_d rfl ?_ | refine we_l rfl ?_ | refine we_bin ?_ | refine we_cmp ?_ | refine we_chn ?_ | refine we_ix ?_ | refine we_sl ?_ | refine we_blt ?_ | refine we_mut ?_ | refine we_call ?_ | refine we_tup ?_ | refine we_lst ?_ | refine we_not ?_ | refine we_and ?_ | refine we_or ?_ | refine we_ite ?_ | refine we_isN ?_ | refine we_isC ?_ | refine we_neg ?_ | refine we_gcon ?_ | refine we_lc ?_ | refine wa_cons ?_ | refine wa_nil ?_ | refine wp_none ?_ | refine wp_some ?_ | refine wt_not ?_ | refine wt_and ?_ | refine wt_or ?_ | refine wt_nil ?_ | refine wt_one ?_ | refine wi_seq ?_ | refine wi_rng ?_ | refine wi_enum ?_ | refine wi_zip ?_ | refine wi_rev ?_ | refine wo_turn ?_ | refine wt_val rfl ?_ | refine ⟨rfl, ?_⟩ | refine ⟨_, rfl, rfl, ?_⟩ | refine ⟨_, _, rfl, rfl, ?_⟩ | refine ⟨_, _, _, rfl, rfl, rfl, ?_⟩ | refine ⟨_, _, _, rfl, rfl, mul_r (by decide), ?_⟩ | refine ⟨_, _, rfl, ?_⟩ | refine ⟨_, rfl, ?_⟩ | refine br_t ?_ | refine br_f ?_ | refine rt_own rfl ?_)
        refine hR _ _ _ rfl ?_
        rw [Int.add_comm, fold_dp]
        simp [dp, dps]
        rfl
theorem max_dp {ds : List D} : (0 :: ds.map fun x => 1 + (dp x : Int)).max? = some (dps ds : Int) := by
  have key : ∀ (ds : List D) (a : Nat), ((ds.map fun x => 1 + (dp x : Int)).foldl max (a : Int)) = ((max a (dps ds) : Nat) : Int) := by
    intro ds
    induction ds with
    | nil => intro a; simp [dps]
    | cons d ds ih =>
      intro a
      rw [List.map_cons, List.foldl_cons, show max (a : Int) (1 + (dp d : Int)) = ((max a (dp d + 1) : Nat) : Int) by omega, ih]
      simp only [dps]
      omega
  rw [List.max?_cons']
  have := key ds 0
  rw [show ((0 : Nat) : Int) = 0 from rfl] at this
  rw [this]
  congr 1
theorem ldep_ok {P : Prg} {w : Nat} (h : IsFn P 14 1 2 b_L_deep) : ∀ (n : Nat) (d : D) (k : Nat), htD d ≤ n → n + 1 ≤ k → isK d = true → szD d ≤ 1000000 →
    ∃ cr, run P w k 14 [.d d] = .ok cr ∧ cr = ⟨.v (.d (.int (dp d))), [some (.d d)]⟩ := by
  intro n
  induction n with
  | zero =>
    intro d k hn hk hK
    obtain ⟨ds, rfl, _⟩ := isK_tup hK
    unfold htD at hn
    omega
  | succ n ih =>
    intro d k hn hk hK hz
    obtain ⟨ds, rfl, hK⟩ := isK_tup hK
    have e1 : htD (.tup ds) = htDs ds + 1 := by simp [htD]
    have e2 : szD (.tup ds) = szDs ds + 1 := by simp [szD]
    have hl : ds.length ≤ szDs ds := sz_len
    refine run_by h rfl rfl (by omega) fun k' N R ek hN hR => ?_
    unfold b_L_deep
    repeat (first | refine wf_cons ?_ | refine wf_asg ?_ | refine wf_iff ?_ | refine wf_ret ?_ | refine wf_ex ?_ | refine wf_setI ?_ | refine wf_aug ?_ | refine wf_asgT ?_ | refine wf_nil ?_ | refine wf_retN ?_ | refine wf_pass ?_ | refine wf_brk ?_ | refine wf_cnt ?_ | refine we_cst ?_ | refine we_d rfl ?_ | refine we_l rfl ?_ | refine we_bin ?_ | refine we_cmp ?_ | refine we_chn ?_ | refine we_ix ?_ | refine we_sl ?_ | refine we_blt ?_ | refine we_mut ?_ | refine we_call ?_ | refine we_tup ?_ | refine we_lst ?_ | refine we_not ?_ | refine we_and ?_ | refine we_or ?_ | refine we_ite ?_ | refine we_isN ?_ | refine we_isC ?_ | refine we_neg ?_ | refine we_gcon ?_ | refine we_lc ?_ | refine wa_cons ?_ | refine wa_nil ?_ | refine wp_none ?_ | refine wp_some ?_ | refine wt_not ?_ | refine wt_and ?_ | refine wt_or ?_ | refine wt_nil ?_ | refine wt_one ?_ | refine wi_seq ?_ | refine wi_rng ?_ | refine wi_enum ?_ | refine wi_zip ?_ | refine wi_rev ?_ | refine wo_turn ?_ | refine wt_val rfl ?_ | refine ⟨rfl, ?_⟩ | refine ⟨_, rfl, rfl, ?_⟩ | refine ⟨_, _, rfl, rfl, ?_⟩ | refine ⟨_, _, _, rfl, rfl, rfl, ?_⟩ | refine ⟨_, _, _, rfl, rfl, mul_r (by decide), ?_⟩ | refine ⟨_, _, rfl, ?_⟩ | refine ⟨_, rfl, ?_⟩ | refine br_t ?_ | refine br_f ?_ | refine rt_own rfl ?_)
    refine lc_go (its := ds) (fun i ys c => ys = (ds.take i).map (fun x => .int (1 + dp x)) ∧ c = [some (.d (.tup ds)), none]) (by rfl) (by rfl) (by exact ⟨rfl, rfl⟩) ?_ ?_
    · rintro i d ys c hi ⟨rfl, rfl⟩
      obtain ⟨hl, rfl⟩ := get_of (xs := ds) hi
      have hm : ds[i] ∈ ds := List.getElem_mem hl
      refine ⟨_, rfl, ?_⟩
      repeat (first | refine wf_cons ?_ | refine wf_asg ?_ | refine wf_iff ?_ | refine wf_ret ?_ | refine wf_ex ?_ | refine wf_setI ?_ | refine wf_aug ?_ | refine wf_asgT ?_ | refine wf_nil ?_ | refine wf_retN ?_ | refine wf_pass ?_ | refine wf_brk ?_ | refine wf_cnt ?_ | refine we_cst ?_ | refine we_d rfl ?_ | refine we_l rfl ?_ | refine we_bin ?_ | refine we_cmp ?_ | refine we_chn ?_ | refine we_ix ?_ | refine we_sl ?_ | refine we_blt ?_ | refine we_mut ?_ | refine we_call ?_ | refine we_tup ?_ | refine we_lst ?_ | refine we_not ?_ | refine we_and ?_ | refine we_or ?_ | refine we_ite ?_ | refine we_isN ?_ | refine we_isC ?_ | refine we_neg ?_ | refine we_gcon ?_ | refine we_lc ?_ | refine wa_cons ?_ | refine wa_nil ?_ | refine wp_none ?_ | refine wp_some ?_ | refine wt_not ?_ | refine wt_and ?_ | refine wt_or ?_ | refine wt_nil ?_ | refine wt_one ?_ | refine wi_seq ?_ | refine wi_rng ?_ | refine wi_enum ?_ | refine wi_zip ?_ | refine wi_rev ?_ | refine wo_turn ?_ | refine wt_val rfl ?_ | refine ⟨rfl, ?_⟩ | refine ⟨_, rfl, rfl, ?_⟩ | refine ⟨_, _, rfl, rfl, ?_⟩ | refine ⟨_, _, _, rfl, rfl, rfl, ?_⟩ | refine ⟨_, _, _, rfl, rfl, mul_r (by decide), ?_⟩ | refine ⟨_, _, rfl, ?_⟩ | refine ⟨_, rfl, ?_⟩ | refine br_t ?_ | refine br_f ?_ | refine rt_own rfl ?_)
      obtain ⟨_, hz3, rfl⟩ := ih ds[i] k' (by have := ht_mem hm; omega) (by omega) (isKs_mem hK hm) (by have := sz_mem hm; omega)
      refine we_callV hz3 rfl rfl rfl ?_
      repeat (first | refine wf_cons ?_ | refine wf_asg ?_ | refine wf_iff ?_ | refine wf_ret ?_ | refine wf_ex ?_ | refine wf_setI ?_ | refine wf_aug ?_ | refine wf_asgT ?_ | refine wf_nil ?_ | refine wf_retN ?_ | refine wf_pass ?_ | refine wf_brk ?_ | refine wf_cnt ?_ | refine we_cst ?_ | refine we_d rfl ?_ | refine we_l rfl ?_ | refine we_bin ?_ | refine we_cmp ?_ | refine we_chn ?_ | refine we_ix ?_ | refine we_sl ?_ | refine we_blt ?_ | refine we_mut ?_ | refine we_call ?_ | refine we_tup ?_ | refine we_lst ?_ | refine we_not ?_ | refine we_and ?_ | refine we_or ?_ | refine we_ite ?_ | refine we_isN ?_ | refine we_isC ?_ | refine we_neg ?_ | refine we_gcon ?_ | refine we_lc ?_ | refine wa_cons ?_ | refine wa_nil ?_ | refine wp_none ?_ | refine wp_some ?_ | refine wt_not ?_ | refine wt_and ?_ | refine wt_or ?_ | refine wt_nil ?_ | refine wt_one ?_ | refine wi_seq ?_ | refine wi_rng ?_ | refine wi_enum ?_ | refine wi_zip ?_ | refine wi_rev ?_ | refine wo_turn ?_ | refine wt_val rfl ?_ | refine ⟨rfl, ?_⟩ | refine ⟨_, rfl, rfl, ?_⟩ | refine ⟨_, _, rfl, rfl, ?_⟩ | refine ⟨_, _, _, rfl, rfl, rfl, ?_⟩ | refine ⟨_, _, _, rfl, rfl, mul_r (by decide), ?_⟩ | refine ⟨_, _, rfl, ?_⟩ | refine ⟨_, rfl, ?_⟩ | refine br_t ?_ | refine br_f ?_ | refine rt_own rfl ?_)
      refine ⟨?_, rfl⟩
      rw [take_snoc hl, List.map_append]
      rfl
    · rintro ys c3 ⟨rfl, rfl⟩
      rw [List.take_length]
      refine ⟨fits_of (by simp; omega), ?_⟩
      repeat (first | refine wf_cons ?_ | refine wf_asg ?_ | refine wf_iff ?_ | refine wf_ret ?_ | refine wf_ex ?_ | refine wf_setI ?_ | refine wf_aug ?_ | refine wf_asgT ?_ | refine wf_nil ?_ | refine wf_retN ?_ | refine wf_pass ?_ | refine wf_brk ?_ | refine wf_cnt ?_ | refine we_cst ?_ | refine we_d rfl ?_ | refine we_l rfl ?_ | refine we_bin ?_ | refine we_cmp ?_ | refine we_chn ?_ | refine we_ix ?_ | refine we_sl ?_ | refine we_blt ?_ | refine we_mut ?_ | refine we_call ?_ | refine we_tup ?_ | refine we_lst ?_ | refine we_not ?_ | refine we_and ?_ | refine we_or ?_ | refine we_ite ?_ | refine we_isN ?_ | refine we_isC ?_ | refine we_neg ?_ | refine we_gcon ?_ | refine we_lc ?_ | refine wa_cons ?_ | refine wa_nil ?_ | refine wp_none ?_ | refine wp_some ?_ | refine wt_not ?_ | refine wt_and ?_ | refine wt_or ?_ | refine wt_nil ?_ | refine wt_one ?_ | refine wi_seq ?_ | refine wi_rng ?_ | refine wi_enum ?_ | refine wi_zip ?_ | refine wi_rev ?_ | refine wo_turn ?_ | refine wt_val rfl ?_ | refine ⟨rfl, ?_⟩ | refine ⟨_, rfl, rfl, ?_⟩ | refine ⟨_, _, rfl, rfl, ?_⟩ | refine ⟨_, _, _, rfl, rfl, rfl, ?_⟩ | refine ⟨_, _, _, rfl, rfl, mul_r (by decide), ?_⟩ | refine ⟨_, _, rfl, ?_⟩ | refine ⟨_, rfl, ?_⟩ | refine br_t ?_ | refine br_f ?_ | refine rt_own rfl ?_)
      refine ⟨_, _, _, rfl, rfl, bnd (gdT (fits_of (by simp; omega))) rfl, ?_⟩
      repeat (first | refine wf_cons ?_ | refine wf_asg ?_ | refine wf_iff ?_ | refine wf_ret ?_ | refine wf_ex ?_ | refine wf_setI ?_ | refine wf_aug ?_ | refine wf_asgT ?_ | refine wf_nil ?_ | refine wf_retN ?_ | refine wf_pass ?_ | refine wf_brk ?_ | refine wf_cnt ?_ | refine we_cst ?_ | refine we_d rfl ?_ | refine we_l rfl ?_ | refine we_bin ?_ | refine we_cmp ?_ | refine we_chn ?_ | refine we_ix ?_ | refine we_sl ?_ | refine we_blt ?_ | refine we_mut ?_ | refine we_call ?_ | refine we_tup ?_ | refine we_lst ?_ | refine we_not ?_ | refine we_and ?_ | refine we_or ?_ | refine we_ite ?_ | refine we_isN ?_ | refine we_isC ?_ | refine we_neg ?_ | refine we_gcon ?_ | refine we_lc ?_ | refine wa_cons ?_ | refine wa_nil ?_ | refine wp_none ?_ | refine wp_some ?_ | refine wt_not ?_ | refine wt_and ?_ | refine wt_or ?_ | refine wt_nil ?_ | refine wt_one ?_ | refine wi_seq ?_ | refine wi_rng ?_ | refine wi_enum ?_ | refine wi_zip ?_ | refine wi_rev ?_ | refine wo_turn ?_ | refine wt_val rfl ?_ | refine ⟨rfl, ?_⟩ | refine ⟨_, rfl, rfl, ?_⟩ | refine ⟨_, _, rfl, rfl, ?_⟩ | refine ⟨_, _, _, rfl, rfl, rfl, ?_⟩ | refine ⟨_, _, _, rfl, rfl, mul_r (by decide), ?_⟩ | refine ⟨_, _, rfl, ?_⟩ | refine ⟨_, rfl, ?_⟩ | refine br_t ?_ | refine br_f ?_ | refine rt_own rfl ?_)
      refine ⟨_, _, _, rfl, rfl, bnd (isOkT (a := 0 :: ds.map fun x => 1 + (dp x : Int)) ?_) (bnd (isOkT max_dp) rfl), ?_⟩
      · show (allI (ds.map fun x => .int (1 + (dp x : Int)))).map (0 :: ·) = _
        rw [allI_map (f := fun x => 1 + (dp x : Int))]
        rfl
      · repeat (first | refine wf_cons ?_ | refine wf_asg ?_ | refine wf_iff ?_ | refine wf_ret ?_ | refine wf_ex ?_ | refine wf_setI ?_ | refine wf_aug ?_ | refine wf_asgT ?_ | refine wf_nil ?_ | refine wf_retN ?_ | refine wf_pass ?_ | refine wf_brk ?_ | refine wf_cnt ?_ | refine we_cst ?_ | refine we_d rfl ?_ | refine we_l rfl ?_ | refine we_bin ?_ | refine we_cmp ?_ | refine we_chn ?_ | refine we_ix ?_ | refine we_sl ?_ | refine we_blt ?_ | refine we_mut ?_ | refine we_call ?_ | refine we_tup ?_ | refine we_lst ?_ | refine we_not ?_ | refine we_and ?_ | refine we_or ?_ | refine we_ite ?_ | refine we_isN ?_ | refine we_isC ?_ | refine we_neg ?_ | refine we_gcon ?_ | refine we_lc ?_ | refine wa_cons ?_ | refine wa_nil ?_ | refine wp_none ?_ | refine wp_some ?_ | refine wt_not ?_ | refine wt_and ?_ | refine wt_or ?_ | refine wt_nil ?_ | refine wt_one ?_ | refine wi_seq ?_ | refine wi_rng ?_ | refine wi_enum ?_ | refine wi_zip ?_ | refine wi_rev ?_ | refine wo_turn ?_ | refine wt_val rfl ?_ | refine ⟨rfl, ?_⟩ | refine ⟨_, rfl, rfl, ?_⟩ | refine ⟨_, _, rfl, rfl, ?_⟩ | refine ⟨_, _, _, rfl, rfl, rfl, ?_⟩ | refine ⟨_, _, _, rfl, rfl, mul_r (by decide), ?_⟩ | refine ⟨_, _, rfl, ?_⟩ | refine ⟨_, rfl, ?_⟩ | refine br_t ?_ | refine br_f ?_ | refine rt_own rfl ?_)
        refine hR _ _ _ rfl ?_
        simp [dp]
        rfl
end G
namespace G
open PySem
theorem isKs_sn {a : List D} {d : D} : isKs (a ++ [d]) = (isKs a && isK d) := by rw [isKs_app]; simp [isKs]
theorem kdp_ok {P : Prg} {w : Nat} (hd : IsFn P 7 2 3 lb_draw) (h : IsFn P 12 3 5 b_L_kind_deep) (ds : List Int) : ∀ (n a b : Nat) (k : Nat), n + 2 ≤ k → b ≤ 1000 →
    ∃ cr, run P w k 12 [bx ds a, .d (.int (n : Int)), .l [.int b]] = .ok cr ∧ ∃ ts a' b', cr = ⟨.v (.d (.tup ts)), [some (bx ds a'), some (.d (.int (n : Int))), some (.l [.int (b' : Nat)])]⟩ ∧ isKs ts = true ∧ htDs ts ≤ n ∧ szDs ts + b' ≤ b := by
  intro n
  induction n with
  | zero =>
    intro a b k hk hb
    refine run_by h rfl rfl (by omega) fun k' N R ek hN hR => ?_
    unfold b_L_kind_deep
    repeat (first | refine wf_cons ?_ | refine wf_asg ?_ | refine wf_iff ?_ | refine wf_ret ?_ | refine wf_ex ?_ | refine wf_setI ?_ | refine wf_aug ?_ | refine wf_asgT ?_ | refine wf_nil ?_ | refine wf_retN ?_ | refine wf_pass ?_ | refine wf_brk ?_ | refine wf_cnt ?_ | refine we_cst ?_ | refine we_d rfl ?_ | refine we_l rfl ?_ | refine we_bin ?_ | refine we_cmp ?_ | refine we_chn ?_ | refine we_ix ?_ | refine we_sl ?_ | refine we_blt ?_ | refine we_mut ?_ | refine we_call ?_ | refine we_tup ?_ | refine we_lst ?_ | refine we_not ?_ | refine we_and ?_ | refine we_or ?_ | refine we_ite ?_ | refine we_isN ?_ | refine we_isC ?_ | refine we_neg ?_ | refine we_gcon ?_ | refine we_lc ?_ | refine wa_cons ?_ | refine wa_nil ?_ | refine wp_none ?_ | refine wp_some ?_ | refine wt_not ?_ | refine wt_and ?_ | refine wt_or ?_ | refine wt_nil ?_ | refine wt_one ?_ | refine wi_seq ?_ | refine wi_rng ?_ | refine wi_enum ?_ | refine wi_zip ?_ | refine wi_rev ?_ | refine wo_turn ?_ | refine wt_val rfl ?_ | refine ⟨rfl, ?_⟩ | refine ⟨_, rfl, rfl, ?_⟩ | refine ⟨_, _, rfl, rfl, ?_⟩ | refine ⟨_, _, _, rfl, rfl, rfl, ?_⟩ | refine ⟨_, _, _, rfl, rfl, mul_r (by decide), ?_⟩ | refine ⟨_, _, rfl, ?_⟩ | refine ⟨_, rfl, ?_⟩ | refine br_t ?_ | refine br_f ?_ | refine rt_own rfl ?_)
    exact hR _ _ _ rfl ⟨[], a, b, rfl, by simp [isKs], by simp [htDs], by simp [szDs]⟩
  | succ n ih =>
    intro a b k hk hb
    refine run_by h rfl rfl (by omega) fun k' N R ek hN hR => ?_
    unfold b_L_kind_deep
    repeat (first | refine wf_cons ?_ | refine wf_asg ?_ | refine wf_iff ?_ | refine wf_ret ?_ | refine wf_ex ?_ | refine wf_setI ?_ | refine wf_aug ?_ | refine wf_asgT ?_ | refine wf_nil ?_ | refine wf_retN ?_ | refine wf_pass ?_ | refine wf_brk ?_ | refine wf_cnt ?_ | refine we_cst ?_ | refine we_d rfl ?_ | refine we_l rfl ?_ | refine we_bin ?_ | refine we_cmp ?_ | refine we_chn ?_ | refine we_ix ?_ | refine we_sl ?_ | refine we_blt ?_ | refine we_mut ?_ | refine we_call ?_ | refine we_tup ?_ | refine we_lst ?_ | refine we_not ?_ | refine we_and ?_ | refine we_or ?_ | refine we_ite ?_ | refine we_isN ?_ | refine we_isC ?_ | refine we_neg ?_ | refine we_gcon ?_ | refine we_lc ?_ | refine wa_cons ?_ | refine wa_nil ?_ | refine wp_none ?_ | refine wp_some ?_ | refine wt_not ?_ | refine wt_and ?_ | refine wt_or ?_ | refine wt_nil ?_ | refine wt_one ?_ | refine wi_seq ?_ | refine wi_rng ?_ | refine wi_enum ?_ | refine wi_zip ?_ | refine wi_rev ?_ | refine wo_turn ?_ | refine wt_val rfl ?_ | refine ⟨rfl, ?_⟩ | refine ⟨_, rfl, rfl, ?_⟩ | refine ⟨_, _, rfl, rfl, ?_⟩ | refine ⟨_, _, _, rfl, rfl, rfl, ?_⟩ | refine ⟨_, _, _, rfl, rfl, mul_r (by decide), ?_⟩ | refine ⟨_, _, rfl, ?_⟩ | refine ⟨_, rfl, ?_⟩ | refine br_t ?_ | refine br_f ?_ | refine rt_own rfl ?_)
    refine ⟨fun _ => ?_, fun hb => absurd (of_decide_eq_false hb) (by omega)⟩
    repeat (first | refine wf_cons ?_ | refine wf_asg ?_ | refine wf_iff ?_ | refine wf_ret ?_ | refine wf_ex ?_ | refine wf_setI ?_ | refine wf_aug ?_ | refine wf_asgT ?_ | refine wf_nil ?_ | refine wf_retN ?_ | refine wf_pass ?_ | refine wf_brk ?_ | refine wf_cnt ?_ | refine we_cst ?_ | refine we_d rfl ?_ | refine we_l rfl ?_ | refine we_bin ?_ | refine we_cmp ?_ | refine we_chn ?_ | refine we_ix ?_ | refine we_sl ?_ | refine we_blt ?_ | refine we_mut ?_ | refine we_call ?_ | refine we_tup ?_ | refine we_lst ?_ | refine we_not ?_ | refine we_and ?_ | refine we_or ?_ | refine we_ite ?_ | refine we_isN ?_ | refine we_isC ?_ | refine we_neg ?_ | refine we_gcon ?_ | refine we_lc ?_ | refine wa_cons ?_ | refine wa_nil ?_ | refine wp_none ?_ | refine wp_some ?_ | refine wt_not ?_ | refine wt_and ?_ | refine wt_or ?_ | refine wt_nil ?_ | refine wt_one ?_ | refine wi_seq ?_ | refine wi_rng ?_ | refine wi_enum ?_ | refine wi_zip ?_ | refine wi_rev ?_ | refine wo_turn ?_ | refine wt_val rfl ?_ | refine ⟨rfl, ?_⟩ | refine ⟨_, rfl, rfl, ?_⟩ | refine ⟨_, _, rfl, rfl, ?_⟩ | refine ⟨_, _, _, rfl, rfl, rfl, ?_⟩ | refine ⟨_, _, _, rfl, rfl, mul_r (by decide), ?_⟩ | refine ⟨_, _, rfl, ?_⟩ | refine ⟨_, rfl, ?_⟩ | refine br_t ?_ | refine br_f ?_ | refine rt_own rfl ?_)
    refine wf_fr ?_
    repeat (first | refine wf_cons ?_ | refine wf_asg ?_ | refine wf_iff ?_ | refine wf_ret ?_ | refine wf_ex ?_ | refine wf_setI ?_ | refine wf_aug ?_ | refine wf_asgT ?_ | refine wf_nil ?_ | refine wf_retN ?_ | refine wf_pass ?_ | refine wf_brk ?_ | refine wf_cnt ?_ | refine we_cst ?_ | refine we_d rfl ?_ | refine we_l rfl ?_ | refine we_bin ?_ | refine we_cmp ?_ | refine we_chn ?_ | refine we_ix ?_ | refine we_sl ?_ | refine we_blt ?_ | refine we_mut ?_ | refine we_call ?_ | refine we_tup ?_ | refine we_lst ?_ | refine we_not ?_ | refine we_and ?_ | refine we_or ?_ | refine we_ite ?_ | refine we_isN ?_ | refine we_isC ?_ | refine we_neg ?_ | refine we_gcon ?_ | refine we_lc ?_ | refine wa_cons ?_ | refine wa_nil ?_ | refine wp_none ?_ | refine wp_some ?_ | refine wt_not ?_ | refine wt_and ?_ | refine wt_or ?_ | refine wt_nil ?_ | refine wt_one ?_ | refine wi_seq ?_ | refine wi_rng ?_ | refine wi_enum ?_ | refine wi_zip ?_ | refine wi_rev ?_ | refine wo_turn ?_ | refine wt_val rfl ?_ | refine ⟨rfl, ?_⟩ | refine ⟨_, rfl, rfl, ?_⟩ | refine ⟨_, _, rfl, rfl, ?_⟩ | refine ⟨_, _, _, rfl, rfl, rfl, ?_⟩ | refine ⟨_, _, _, rfl, rfl, mul_r (by decide), ?_⟩ | refine ⟨_, _, rfl, ?_⟩ | refine ⟨_, rfl, ?_⟩ | refine br_t ?_ | refine br_f ?_ | refine rt_own rfl ?_)
    obtain ⟨_, hz, r, hr, rfl⟩ := draw_ok (w := w) (k := k') hd (by omega) ds a 5 (by omega)
    refine we_callV (by exact hz) rfl rfl rfl ?_
    repeat (first | refine wf_cons ?_ | refine wf_asg ?_ | refine wf_iff ?_ | refine wf_ret ?_ | refine wf_ex ?_ | refine wf_setI ?_ | refine wf_aug ?_ | refine wf_asgT ?_ | refine wf_nil ?_ | refine wf_retN ?_ | refine wf_pass ?_ | refine wf_brk ?_ | refine wf_cnt ?_ | refine we_cst ?_ | refine we_d rfl ?_ | refine we_l rfl ?_ | refine we_bin ?_ | refine we_cmp ?_ | refine we_chn ?_ | refine we_ix ?_ | refine we_sl ?_ | refine we_blt ?_ | refine we_mut ?_ | refine we_call ?_ | refine we_tup ?_ | refine we_lst ?_ | refine we_not ?_ | refine we_and ?_ | refine we_or ?_ | refine we_ite ?_ | refine we_isN ?_ | refine we_isC ?_ | refine we_neg ?_ | refine we_gcon ?_ | refine we_lc ?_ | refine wa_cons ?_ | refine wa_nil ?_ | refine wp_none ?_ | refine wp_some ?_ | refine wt_not ?_ | refine wt_and ?_ | refine wt_or ?_ | refine wt_nil ?_ | refine wt_one ?_ | refine wi_seq ?_ | refine wi_rng ?_ | refine wi_enum ?_ | refine wi_zip ?_ | refine wi_rev ?_ | refine wo_turn ?_ | refine wt_val rfl ?_ | refine ⟨rfl, ?_⟩ | refine ⟨_, rfl, rfl, ?_⟩ | refine ⟨_, _, rfl, rfl, ?_⟩ | refine ⟨_, _, _, rfl, rfl, rfl, ?_⟩ | refine ⟨_, _, _, rfl, rfl, mul_r (by decide), ?_⟩ | refine ⟨_, _, rfl, ?_⟩ | refine ⟨_, rfl, ?_⟩ | refine br_t ?_ | refine br_f ?_ | refine rt_own rfl ?_)
    refine ⟨_, _, _, rfl, rfl, rng1 (by omega), ?_⟩
    repeat (first | refine wf_cons ?_ | refine wf_asg ?_ | refine wf_iff ?_ | refine wf_ret ?_ | refine wf_ex ?_ | refine wf_setI ?_ | refine wf_aug ?_ | refine wf_asgT ?_ | refine wf_nil ?_ | refine wf_retN ?_ | refine wf_pass ?_ | refine wf_brk ?_ | refine wf_cnt ?_ | refine we_cst ?_ | refine we_d rfl ?_ | refine we_l rfl ?_ | refine we_bin ?_ | refine we_cmp ?_ | refine we_chn ?_ | refine we_ix ?_ | refine we_sl ?_ | refine we_blt ?_ | refine we_mut ?_ | refine we_call ?_ | refine we_tup ?_ | refine we_lst ?_ | refine we_not ?_ | refine we_and ?_ | refine we_or ?_ | refine we_ite ?_ | refine we_isN ?_ | refine we_isC ?_ | refine we_neg ?_ | refine we_gcon ?_ | refine we_lc ?_ | refine wa_cons ?_ | refine wa_nil ?_ | refine wp_none ?_ | refine wp_some ?_ | refine wt_not ?_ | refine wt_and ?_ | refine wt_or ?_ | refine wt_nil ?_ | refine wt_one ?_ | refine wi_seq ?_ | refine wi_rng ?_ | refine wi_enum ?_ | refine wi_zip ?_ | refine wi_rev ?_ | refine wo_turn ?_ | refine wt_val rfl ?_ | refine ⟨rfl, ?_⟩ | refine ⟨_, rfl, rfl, ?_⟩ | refine ⟨_, _, rfl, rfl, ?_⟩ | refine ⟨_, _, _, rfl, rfl, rfl, ?_⟩ | refine ⟨_, _, _, rfl, rfl, mul_r (by decide), ?_⟩ | refine ⟨_, _, rfl, ?_⟩ | refine ⟨_, rfl, ?_⟩ | refine br_t ?_ | refine br_f ?_ | refine rt_own rfl ?_)
    simp only [stillF_nil, stillF_v]
    refine for_inv (fun i c => ∃ ts a' b' a4, isKs ts = true ∧ htDs ts ≤ n + 1 ∧ szDs ts + b' ≤ b ∧ ts.length ≤ i ∧ c = [some (bx ds a'), some (.d (.int ((n + 1 : Nat) : Int))), some (.l [.int (b' : Nat)]), some (.l ts), a4]) ⟨[], a + 1, b, none, by simp [isKs], by simp [htDs], by simp [szDs], Nat.zero_le _, rfl⟩ ?_ ?_
    · rintro i d c hi ⟨ts, a', b', a4, h1, h2, h3, h4, rfl⟩
      obtain ⟨rfl, hi⟩ := rng_get hi
      refine ⟨_, rfl, ?_⟩
      repeat (first | refine wf_cons ?_ | refine wf_asg ?_ | refine wf_iff ?_ | refine wf_ret ?_ | refine wf_ex ?_ | refine wf_setI ?_ | refine wf_aug ?_ | refine wf_asgT ?_ | refine wf_nil ?_ | refine wf_retN ?_ | refine wf_pass ?_ | refine wf_brk ?_ | refine wf_cnt ?_ | refine we_cst ?_ | refine we_d rfl ?_ | refine we_l rfl ?_ | refine we_bin ?_ | refine we_cmp ?_ | refine we_chn ?_ | refine we_ix ?_ | refine we_sl ?_ | refine we_blt ?_ | refine we_mut ?_ | refine we_call ?_ | refine we_tup ?_ | refine we_lst ?_ | refine we_not ?_ | refine we_and ?_ | refine we_or ?_ | refine we_ite ?_ | refine we_isN ?_ | refine we_isC ?_ | refine we_neg ?_ | refine we_gcon ?_ | refine we_lc ?_ | refine wa_cons ?_ | refine wa_nil ?_ | refine wp_none ?_ | refine wp_some ?_ | refine wt_not ?_ | refine wt_and ?_ | refine wt_or ?_ | refine wt_nil ?_ | refine wt_one ?_ | refine wi_seq ?_ | refine wi_rng ?_ | refine wi_enum ?_ | refine wi_zip ?_ | refine wi_rev ?_ | refine wo_turn ?_ | refine wt_val rfl ?_ | refine ⟨rfl, ?_⟩ | refine ⟨_, rfl, rfl, ?_⟩ | refine ⟨_, _, rfl, rfl, ?_⟩ | refine ⟨_, _, _, rfl, rfl, rfl, ?_⟩ | refine ⟨_, _, _, rfl, rfl, mul_r (by decide), ?_⟩ | refine ⟨_, _, rfl, ?_⟩ | refine ⟨_, rfl, ?_⟩ | refine br_t ?_ | refine br_f ?_ | refine rt_own rfl ?_)
      refine ⟨fun hb => ?_, fun hb => ?_⟩
      · have hb : 0 < b' := by have := of_decide_eq_true hb; omega
        repeat (first | refine wf_cons ?_ | refine wf_asg ?_ | refine wf_iff ?_ | refine wf_ret ?_ | refine wf_ex ?_ | refine wf_setI ?_ | refine wf_aug ?_ | refine wf_asgT ?_ | refine wf_nil ?_ | refine wf_retN ?_ | refine wf_pass ?_ | refine wf_brk ?_ | refine wf_cnt ?_ | refine we_cst ?_ | refine we_d rfl ?_ | refine we_l rfl ?_ | refine we_bin ?_ | refine we_cmp ?_ | refine we_chn ?_ | refine we_ix ?_ | refine we_sl ?_ | refine we_blt ?_ | refine we_mut ?_ | refine we_call ?_ | refine we_tup ?_ | refine we_lst ?_ | refine we_not ?_ | refine we_and ?_ | refine we_or ?_ | refine we_ite ?_ | refine we_isN ?_ | refine we_isC ?_ | refine we_neg ?_ | refine we_gcon ?_ | refine we_lc ?_ | refine wa_cons ?_ | refine wa_nil ?_ | refine wp_none ?_ | refine wp_some ?_ | refine wt_not ?_ | refine wt_and ?_ | refine wt_or ?_ | refine wt_nil ?_ | refine wt_one ?_ | refine wi_seq ?_ | refine wi_rng ?_ | refine wi_enum ?_ | refine wi_zip ?_ | refine wi_rev ?_ | refine wo_turn ?_ | refine wt_val rfl ?_ | refine ⟨rfl, ?_⟩ | refine ⟨_, rfl, rfl, ?_⟩ | refine ⟨_, _, rfl, rfl, ?_⟩ | refine ⟨_, _, _, rfl, rfl, rfl, ?_⟩ | refine ⟨_, _, _, rfl, rfl, mul_r (by decide), ?_⟩ | refine ⟨_, _, rfl, ?_⟩ | refine ⟨_, rfl, ?_⟩ | refine br_t ?_ | refine br_f ?_ | refine rt_own rfl ?_)
        obtain ⟨_, hz3, us, a2, b2, rfl, q1, q2, q3⟩ := ih a' (b' - 1) k' (by omega) (by omega)
        rw [show ((b' - 1 : Nat) : Int) = (b' : Int) - 1 by omega] at hz3
        refine we_callV (by rw [show ((n + 1 : Nat) : Int) - 1 = (n : Int) by omega]; exact hz3) rfl rfl rfl ?_
        repeat (first | refine wf_cons ?_ | refine wf_asg ?_ | refine wf_iff ?_ | refine wf_ret ?_ | refine wf_ex ?_ | refine wf_setI ?_ | refine wf_aug ?_ | refine wf_asgT ?_ | refine wf_nil ?_ | refine wf_retN ?_ | refine wf_pass ?_ | refine wf_brk ?_ | refine wf_cnt ?_ | refine we_cst ?_ | refine we_d rfl ?_ | refine we_l rfl ?_ | refine we_bin ?_ | refine we_cmp ?_ | refine we_chn ?_ | refine we_ix ?_ | refine we_sl ?_ | refine we_blt ?_ | refine we_mut ?_ | refine we_call ?_ | refine we_tup ?_ | refine we_lst ?_ | refine we_not ?_ | refine we_and ?_ | refine we_or ?_ | refine we_ite ?_ | refine we_isN ?_ | refine we_isC ?_ | refine we_neg ?_ | refine we_gcon ?_ | refine we_lc ?_ | refine wa_cons ?_ | refine wa_nil ?_ | refine wp_none ?_ | refine wp_some ?_ | refine wt_not ?_ | refine wt_and ?_ | refine wt_or ?_ | refine wt_nil ?_ | refine wt_one ?_ | refine wi_seq ?_ | refine wi_rng ?_ | refine wi_enum ?_ | refine wi_zip ?_ | refine wi_rev ?_ | refine wo_turn ?_ | refine wt_val rfl ?_ | refine ⟨rfl, ?_⟩ | refine ⟨_, rfl, rfl, ?_⟩ | refine ⟨_, _, rfl, rfl, ?_⟩ | refine ⟨_, _, _, rfl, rfl, rfl, ?_⟩ | refine ⟨_, _, _, rfl, rfl, mul_r (by decide), ?_⟩ | refine ⟨_, _, rfl, ?_⟩ | refine ⟨_, rfl, ?_⟩ | refine br_t ?_ | refine br_f ?_ | refine rt_own rfl ?_)
        refine ⟨_, _, _, _, _, _, rfl, rfl, mutA (fits_of (by omega)), rfl, ?_⟩
        repeat (first | refine wf_cons ?_ | refine wf_asg ?_ | refine wf_iff ?_ | refine wf_ret ?_ | refine wf_ex ?_ | refine wf_setI ?_ | refine wf_aug ?_ | refine wf_asgT ?_ | refine wf_nil ?_ | refine wf_retN ?_ | refine wf_pass ?_ | refine wf_brk ?_ | refine wf_cnt ?_ | refine we_cst ?_ | refine we_d rfl ?_ | refine we_l rfl ?_ | refine we_bin ?_ | refine we_cmp ?_ | refine we_chn ?_ | refine we_ix ?_ | refine we_sl ?_ | refine we_blt ?_ | refine we_mut ?_ | refine we_call ?_ | refine we_tup ?_ | refine we_lst ?_ | refine we_not ?_ | refine we_and ?_ | refine we_or ?_ | refine we_ite ?_ | refine we_isN ?_ | refine we_isC ?_ | refine we_neg ?_ | refine we_gcon ?_ | refine we_lc ?_ | refine wa_cons ?_ | refine wa_nil ?_ | refine wp_none ?_ | refine wp_some ?_ | refine wt_not ?_ | refine wt_and ?_ | refine wt_or ?_ | refine wt_nil ?_ | refine wt_one ?_ | refine wi_seq ?_ | refine wi_rng ?_ | refine wi_enum ?_ | refine wi_zip ?_ | refine wi_rev ?_ | refine wo_turn ?_ | refine wt_val rfl ?_ | refine ⟨rfl, ?_⟩ | refine ⟨_, rfl, rfl, ?_⟩ | refine ⟨_, _, rfl, rfl, ?_⟩ | refine ⟨_, _, _, rfl, rfl, rfl, ?_⟩ | refine ⟨_, _, _, rfl, rfl, mul_r (by decide), ?_⟩ | refine ⟨_, _, rfl, ?_⟩ | refine ⟨_, rfl, ?_⟩ | refine br_t ?_ | refine br_f ?_ | refine rt_own rfl ?_)
        have e2 : szD (.tup us) = szDs us + 1 := by simp [szD]
        refine ⟨ts ++ [.tup us], a2, b2, _, ?_, ?_, ?_, by simp; omega, rfl⟩
        · rw [isKs_sn, h1]
          unfold isK
          rw [q1]; rfl
        · rw [hts_app]
          have e1 : htDs [.tup us] = htDs us + 1 := by simp [htDs, htD]
          omega
        · rw [szs_app]
          have e1 : szDs [.tup us] = szDs us + 1 := by simp [szDs, szD]
          omega
      · repeat (first | refine wf_cons ?_ | refine wf_asg ?_ | refine wf_iff ?_ | refine wf_ret ?_ | refine wf_ex ?_ | refine wf_setI ?_ | refine wf_aug ?_ | refine wf_asgT ?_ | refine wf_nil ?_ | refine wf_retN ?_ | refine wf_pass ?_ | refine wf_brk ?_ | refine wf_cnt ?_ | refine we_cst ?_ | refine we_d rfl ?_ | refine we_l rfl ?_ | refine we_bin ?_ | refine we_cmp ?_ | refine we_chn ?_ | refine we_ix ?_ | refine we_sl ?_ | refine we_blt ?_ | refine we_mut ?_ | refine we_call ?_ | refine we_tup ?_ | refine we_lst ?_ | refine we_not ?_ | refine we_and ?_ | refine we_or ?_ | refine we_ite ?_ | refine we_isN ?_ | refine we_isC ?_ | refine we_neg ?_ | refine we_gcon ?_ | refine we_lc ?_ | refine wa_cons ?_ | refine wa_nil ?_ | refine wp_none ?_ | refine wp_some ?_ | refine wt_not ?_ | refine wt_and ?_ | refine wt_or ?_ | refine wt_nil ?_ | refine wt_one ?_ | refine wi_seq ?_ | refine wi_rng ?_ | refine wi_enum ?_ | refine wi_zip ?_ | refine wi_rev ?_ | refine wo_turn ?_ | refine wt_val rfl ?_ | refine ⟨rfl, ?_⟩ | refine ⟨_, rfl, rfl, ?_⟩ | refine ⟨_, _, rfl, rfl, ?_⟩ | refine ⟨_, _, _, rfl, rfl, rfl, ?_⟩ | refine ⟨_, _, _, rfl, rfl, mul_r (by decide), ?_⟩ | refine ⟨_, _, rfl, ?_⟩ | refine ⟨_, rfl, ?_⟩ | refine br_t ?_ | refine br_f ?_ | refine rt_own rfl ?_)
        exact ⟨ts, a', b', _, h1, h2, h3, by omega, rfl⟩
    · rintro c ⟨ts, a', b', a4, h1, h2, h3, h4, rfl⟩
      repeat (first | refine wf_cons ?_ | refine wf_asg ?_ | refine wf_iff ?_ | refine wf_ret ?_ | refine wf_ex ?_ | refine wf_setI ?_ | refine wf_aug ?_ | refine wf_asgT ?_ | refine wf_nil ?_ | refine wf_retN ?_ | refine wf_pass ?_ | refine wf_brk ?_ | refine wf_cnt ?_ | refine we_cst ?_ | refine we_d rfl ?_ | refine we_l rfl ?_ | refine we_bin ?_ | refine we_cmp ?_ | refine we_chn ?_ | refine we_ix ?_ | refine we_sl ?_ | refine we_blt ?_ | refine we_mut ?_ | refine we_call ?_ | refine we_tup ?_ | refine we_lst ?_ | refine we_not ?_ | refine we_and ?_ | refine we_or ?_ | refine we_ite ?_ | refine we_isN ?_ | refine we_isC ?_ | refine we_neg ?_ | refine we_gcon ?_ | refine we_lc ?_ | refine wa_cons ?_ | refine wa_nil ?_ | refine wp_none ?_ | refine wp_some ?_ | refine wt_not ?_ | refine wt_and ?_ | refine wt_or ?_ | refine wt_nil ?_ | refine wt_one ?_ | refine wi_seq ?_ | refine wi_rng ?_ | refine wi_enum ?_ | refine wi_zip ?_ | refine wi_rev ?_ | refine wo_turn ?_ | refine wt_val rfl ?_ | refine ⟨rfl, ?_⟩ | refine ⟨_, rfl, rfl, ?_⟩ | refine ⟨_, _, rfl, rfl, ?_⟩ | refine ⟨_, _, _, rfl, rfl, rfl, ?_⟩ | refine ⟨_, _, _, rfl, rfl, mul_r (by decide), ?_⟩ | refine ⟨_, _, rfl, ?_⟩ | refine ⟨_, rfl, ?_⟩ | refine br_t ?_ | refine br_f ?_ | refine rt_own rfl ?_)
      exact hR _ _ _ rfl ⟨ts, a', b', rfl, h1, h2, h3⟩
end G
namespace G
open PySem
theorem cut_hi {ds : List D} {m : Nat} : cutD ds none (some (m : Int)) = ds.take m := by
  have h : ¬ ((m : Int) < 0) := by omega
  unfold cutD HT.sIx
  simp [h]
theorem cut_lo {ds : List D} {m : Nat} : cutD ds (some (m : Int)) none = ds.drop m := by
  have h : ¬ ((m : Int) < 0) := by omega
  unfold cutD HT.sIx
  simp [h]
  rcases Nat.le_total m ds.length with h | h
  · rw [Nat.min_eq_left h, ← List.length_drop, List.take_length]
  · rw [Nat.min_eq_right h]
    simp [h]
theorem wl_s0 : wlD (.str "") = true := by decide +kernel
theorem wl_s1 : wlD (.str "o") = true := by decide +kernel
theorem wl_s2 : wlD (.str "()") = true := by decide +kernel
theorem eqv_tnil {xs : List D} : PyData.eqv (.tuple (D.pys xs)) (.tuple []) = xs.isEmpty := by
  cases xs with
  | nil => simp [D.pys, PyData.eqv, PyData.eqvAll]
  | cons a b => simp [D.pys, PyData.eqv, PyData.eqvAll]
/-- what a spoilt value may be -/
def Spo (v x : D) : Prop := wlD x = true ∧ htD x ≤ htD v + 1 ∧ szD x ≤ szD v + 3
theorem spo_ok {P : Prg} {w : Nat} (hd : IsFn P 7 2 3 lb_draw) (h : IsFn P 15 2 4 b_L_spoilt_kind) (ds : List Int) : ∀ (n a : Nat) (v : D) (k : Nat), htD v ≤ n → n + 2 ≤ k → n < 64 → isK v = true → szD v ≤ 1000000 →
    ∃ cr, run P w k 15 [bx ds a, .d v] = .ok cr ∧ ∃ x a', cr = ⟨.v (.d x), [some (bx ds a'), some (.d v)]⟩ ∧ Spo v x := by
  intro n
  induction n with
  | zero =>
    intro a v k hn hk h64 hK hz
    obtain ⟨vs, rfl, _⟩ := isK_tup hK
    unfold htD at hn
    omega
  | succ n ih =>
    intro a v k hn hk h64 hK hz
    obtain ⟨vs, rfl, hKs⟩ := isK_tup hK
    have hwl := (isK_wl hK).1
    have hwls := (isKs_wl hKs).1
    have e1 : htD (.tup vs) = htDs vs + 1 := by simp [htD]
    have e2 : szD (.tup vs) = szDs vs + 1 := by simp [szD]
    have hl : vs.length ≤ szDs vs := sz_len
    refine run_by h rfl rfl (by omega) fun k' N R ek hN hR => ?_
    -- the menu
    have menu : ∀ a1, WF (exSs P (callN P w k') w k' 2 (.cons (.asg (.nm 2) (.lst (.cons (.blt .lst (.cons (.loc 1) .nil)) (.cons (.cst .non) (.cons (.cst (.int 0)) (.cons (.cst (.int 1)) (.cons (.cst (.bl true)) (.cons (.cst (.str "")) (.cons (.cst (.str "o")) (.cons (.cst (.str "()")) (.cons (.lst (.cons (.tup .nil) .nil)) (.cons (.tup (.cons (.loc 1) .nil)) (.cons (.tup (.cons (.loc 1) (.cons (.tup .nil) .nil))) (.cons (.tup (.cons (.tup .nil) (.cons (.cst .non) .nil))) (.cons (.tup (.cons (.tup .nil) (.cons (.lst .nil) .nil))) .nil)))))))))))))))
  (.cons (.ret (.ix (.loc 2) (.call 7 (.cons (.loc 0) (.cons (.blt .len (.cons (.loc 2) .nil)) .nil)))))
  .nil)) [some (bx ds a1), some (.d (.tup vs)), none, none]) N R (fun _ => False) (fun _ => False) := by
      intro a1
      repeat (first | refine wf_cons ?_ | refine wf_asg ?_ | refine wf_iff ?_ | refine wf_ret ?_ | refine wf_ex ?_ | refine wf_setI ?_ | refine wf_aug ?_ | refine wf_asgT ?_ | refine wf_nil ?_ | refine wf_retN ?_ | refine wf_pass ?_ | refine wf_brk ?_ | refine wf_cnt ?_ | refine we_cst ?_ | refine we_d rfl ?_ | refine we_l rfl ?_ | refine we_bin ?_ | refine we_cmp ?_ | refine we_chn ?_ | refine we_ix ?_ | refine we_sl ?_ | refine we_blt ?_ | refine we_mut ?_ | refine we_call ?_ | refine we_tup ?_ | refine we_lst ?_ | refine we_not ?_ | refine we_and ?_ | refine we_or ?_ | refine we_ite ?_ | refine we_isN ?_ | refine we_isC ?_ | refine we_neg ?_ | refine we_gcon ?_ | refine we_lc ?_ | refine wa_cons ?_ | refine wa_nil ?_ | refine wp_none ?_ | refine wp_some ?_ | refine wt_not ?_ | refine wt_and ?_ | refine wt_or ?_ | refine wt_nil ?_ | refine wt_one ?_ | refine wi_seq ?_ | refine wi_rng ?_ | refine wi_enum ?_ | refine wi_zip ?_ | refine wi_rev ?_ | refine wo_turn ?_ | refine wt_val rfl ?_ | refine ⟨rfl, ?_⟩ | refine ⟨_, rfl, rfl, ?_⟩ | refine ⟨_, _, rfl, rfl, ?_⟩ | refine ⟨_, _, _, rfl, rfl, rfl, ?_⟩ | refine ⟨_, _, _, rfl, rfl, mul_r (by decide), ?_⟩ | refine ⟨_, _, rfl, ?_⟩ | refine ⟨_, rfl, ?_⟩ | refine br_t ?_ | refine br_f ?_ | refine rt_own rfl ?_)
      obtain ⟨_, hz3, r, hr, rfl⟩ := draw_ok (w := w) (k := k') hd (by omega) ds a1 13 (by omega)
      refine we_callV (by exact hz3) rfl rfl rfl ?_
      repeat (first | refine wf_cons ?_ | refine wf_asg ?_ | refine wf_iff ?_ | refine wf_ret ?_ | refine wf_ex ?_ | refine wf_setI ?_ | refine wf_aug ?_ | refine wf_asgT ?_ | refine wf_nil ?_ | refine wf_retN ?_ | refine wf_pass ?_ | refine wf_brk ?_ | refine wf_cnt ?_ | refine we_cst ?_ | refine we_d rfl ?_ | refine we_l rfl ?_ | refine we_bin ?_ | refine we_cmp ?_ | refine we_chn ?_ | refine we_ix ?_ | refine we_sl ?_ | refine we_blt ?_ | refine we_mut ?_ | refine we_call ?_ | refine we_tup ?_ | refine we_lst ?_ | refine we_not ?_ | refine we_and ?_ | refine we_or ?_ | refine we_ite ?_ | refine we_isN ?_ | refine we_isC ?_ | refine we_neg ?_ | refine we_gcon ?_ | refine we_lc ?_ | refine wa_cons ?_ | refine wa_nil ?_ | refine wp_none ?_ | refine wp_some ?_ | refine wt_not ?_ | refine wt_and ?_ | refine wt_or ?_ | refine wt_nil ?_ | refine wt_one ?_ | refine wi_seq ?_ | refine wi_rng ?_ | refine wi_enum ?_ | refine wi_zip ?_ | refine wi_rev ?_ | refine wo_turn ?_ | refine wt_val rfl ?_ | refine ⟨rfl, ?_⟩ | refine ⟨_, rfl, rfl, ?_⟩ | refine ⟨_, _, rfl, rfl, ?_⟩ | refine ⟨_, _, _, rfl, rfl, rfl, ?_⟩ | refine ⟨_, _, _, rfl, rfl, mul_r (by decide), ?_⟩ | refine ⟨_, _, rfl, ?_⟩ | refine ⟨_, rfl, ?_⟩ | refine br_t ?_ | refine br_f ?_ | refine rt_own rfl ?_)
      refine ⟨_, _, _, rfl, rfl, idx_l (n := r) (List.getElem?_eq_getElem hr), ?_⟩
      repeat (first | refine wf_cons ?_ | refine wf_asg ?_ | refine wf_iff ?_ | refine wf_ret ?_ | refine wf_ex ?_ | refine wf_setI ?_ | refine wf_aug ?_ | refine wf_asgT ?_ | refine wf_nil ?_ | refine wf_retN ?_ | refine wf_pass ?_ | refine wf_brk ?_ | refine wf_cnt ?_ | refine we_cst ?_ | refine we_d rfl ?_ | refine we_l rfl ?_ | refine we_bin ?_ | refine we_cmp ?_ | refine we_chn ?_ | refine we_ix ?_ | refine we_sl ?_ | refine we_blt ?_ | refine we_mut ?_ | refine we_call ?_ | refine we_tup ?_ | refine we_lst ?_ | refine we_not ?_ | refine we_and ?_ | refine we_or ?_ | refine we_ite ?_ | refine we_isN ?_ | refine we_isC ?_ | refine we_neg ?_ | refine we_gcon ?_ | refine we_lc ?_ | refine wa_cons ?_ | refine wa_nil ?_ | refine wp_none ?_ | refine wp_some ?_ | refine wt_not ?_ | refine wt_and ?_ | refine wt_or ?_ | refine wt_nil ?_ | refine wt_one ?_ | refine wi_seq ?_ | refine wi_rng ?_ | refine wi_enum ?_ | refine wi_zip ?_ | refine wi_rev ?_ | refine wo_turn ?_ | refine wt_val rfl ?_ | refine ⟨rfl, ?_⟩ | refine ⟨_, rfl, rfl, ?_⟩ | refine ⟨_, _, rfl, rfl, ?_⟩ | refine ⟨_, _, _, rfl, rfl, rfl, ?_⟩ | refine ⟨_, _, _, rfl, rfl, mul_r (by decide), ?_⟩ | refine ⟨_, _, rfl, ?_⟩ | refine ⟨_, rfl, ?_⟩ | refine br_t ?_ | refine br_f ?_ | refine rt_own rfl ?_)
      refine hR _ _ _ rfl ⟨_, _, rfl, ?_⟩
      rcases r with _ | _ | _ | _ | _ | _ | _ | _ | _ | _ | _ | _ | _ | r
      · refine ⟨hwls, ?_, ?_⟩
        · show htDs vs + 1 ≤ _; omega
        · show szDs vs + 1 ≤ _; omega
      · exact ⟨rfl, Nat.zero_le _, by show 1 ≤ _; omega⟩
      · exact ⟨rfl, Nat.zero_le _, by show 1 ≤ _; omega⟩
      · exact ⟨rfl, Nat.zero_le _, by show 1 ≤ _; omega⟩
      · exact ⟨rfl, Nat.zero_le _, by show 1 ≤ _; omega⟩
      · exact ⟨wl_s0, Nat.zero_le _, by show 1 ≤ _; omega⟩
      · exact ⟨wl_s1, Nat.zero_le _, by show 1 ≤ _; omega⟩
      · exact ⟨wl_s2, Nat.zero_le _, by show 1 ≤ _; omega⟩
      · exact ⟨by simp [At.frz, wlD, wlDs], by simp [At.frz, htD, htDs], by simp [At.frz, szD, szDs]⟩
      · exact ⟨by simp [At.frz, wlD, wlDs, hwls], by simp [At.frz, htD, htDs], by simp [At.frz, szD, szDs]⟩
      · exact ⟨by simp [At.frz, wlD, wlDs, hwls], by simp [At.frz, htD, htDs], by simp [At.frz, szD, szDs]⟩
      · exact ⟨by simp [At.frz, wlD, wlDs], by simp [At.frz, htD, htDs], by simp [At.frz, szD, szDs]⟩
      · exact ⟨by simp [At.frz, wlD, wlDs], by simp [At.frz, htD, htDs], by simp [At.frz, szD, szDs]⟩
      · exact absurd hr (by omega)
    unfold b_L_spoilt_kind
    repeat (first | refine wf_cons ?_ | refine wf_asg ?_ | refine wf_iff ?_ | refine wf_ret ?_ | refine wf_ex ?_ | refine wf_setI ?_ | refine wf_aug ?_ | refine wf_asgT ?_ | refine wf_nil ?_ | refine wf_retN ?_ | refine wf_pass ?_ | refine wf_brk ?_ | refine wf_cnt ?_ | refine we_cst ?_ | refine we_d rfl ?_ | refine we_l rfl ?_ | refine we_bin ?_ | refine we_cmp ?_ | refine we_chn ?_ | refine we_ix ?_ | refine we_sl ?_ | refine we_blt ?_ | refine we_mut ?_ | refine we_call ?_ | refine we_tup ?_ | refine we_lst ?_ | refine we_not ?_ | refine we_and ?_ | refine we_or ?_ | refine we_ite ?_ | refine we_isN ?_ | refine we_isC ?_ | refine we_neg ?_ | refine we_gcon ?_ | refine we_lc ?_ | refine wa_cons ?_ | refine wa_nil ?_ | refine wp_none ?_ | refine wp_some ?_ | refine wt_not ?_ | refine wt_and ?_ | refine wt_or ?_ | refine wt_nil ?_ | refine wt_one ?_ | refine wi_seq ?_ | refine wi_rng ?_ | refine wi_enum ?_ | refine wi_zip ?_ | refine wi_rev ?_ | refine wo_turn ?_ | refine wt_val rfl ?_ | refine ⟨rfl, ?_⟩ | refine ⟨_, rfl, rfl, ?_⟩ | refine ⟨_, _, rfl, rfl, ?_⟩ | refine ⟨_, _, _, rfl, rfl, rfl, ?_⟩ | refine ⟨_, _, _, rfl, rfl, mul_r (by decide), ?_⟩ | refine ⟨_, _, rfl, ?_⟩ | refine ⟨_, rfl, ?_⟩ | refine br_t ?_ | refine br_f ?_ | refine rt_own rfl ?_)
    refine ⟨_, _, _, rfl, rfl, cmp_ne (ok_of hwl (by show htD (.tup vs) ≤ 64; omega)) rfl, ?_⟩
    repeat (first | refine wf_cons ?_ | refine wf_asg ?_ | refine wf_iff ?_ | refine wf_ret ?_ | refine wf_ex ?_ | refine wf_setI ?_ | refine wf_aug ?_ | refine wf_asgT ?_ | refine wf_nil ?_ | refine wf_retN ?_ | refine wf_pass ?_ | refine wf_brk ?_ | refine wf_cnt ?_ | refine we_cst ?_ | refine we_d rfl ?_ | refine we_l rfl ?_ | refine we_bin ?_ | refine we_cmp ?_ | refine we_chn ?_ | refine we_ix ?_ | refine we_sl ?_ | refine we_blt ?_ | refine we_mut ?_ | refine we_call ?_ | refine we_tup ?_ | refine we_lst ?_ | refine we_not ?_ | refine we_and ?_ | refine we_or ?_ | refine we_ite ?_ | refine we_isN ?_ | refine we_isC ?_ | refine we_neg ?_ | refine we_gcon ?_ | refine we_lc ?_ | refine wa_cons ?_ | refine wa_nil ?_ | refine wp_none ?_ | refine wp_some ?_ | refine wt_not ?_ | refine wt_and ?_ | refine wt_or ?_ | refine wt_nil ?_ | refine wt_one ?_ | refine wi_seq ?_ | refine wi_rng ?_ | refine wi_enum ?_ | refine wi_zip ?_ | refine wi_rev ?_ | refine wo_turn ?_ | refine wt_val rfl ?_ | refine ⟨rfl, ?_⟩ | refine ⟨_, rfl, rfl, ?_⟩ | refine ⟨_, _, rfl, rfl, ?_⟩ | refine ⟨_, _, _, rfl, rfl, rfl, ?_⟩ | refine ⟨_, _, _, rfl, rfl, mul_r (by decide), ?_⟩ | refine ⟨_, _, rfl, ?_⟩ | refine ⟨_, rfl, ?_⟩ | refine br_t ?_ | refine br_f ?_ | refine rt_own rfl ?_)
    refine ⟨fun hb => ?_, fun hb => ?_⟩
    · repeat (first | refine wf_cons ?_ | refine wf_asg ?_ | refine wf_iff ?_ | refine wf_ret ?_ | refine wf_ex ?_ | refine wf_setI ?_ | refine wf_aug ?_ | refine wf_asgT ?_ | refine wf_nil ?_ | refine wf_retN ?_ | refine wf_pass ?_ | refine wf_brk ?_ | refine wf_cnt ?_ | refine we_cst ?_ | refine we_d rfl ?_ | refine we_l rfl ?_ | refine we_bin ?_ | refine we_cmp ?_ | refine we_chn ?_ | refine we_ix ?_ | refine we_sl ?_ | refine we_blt ?_ | refine we_mut ?_ | refine we_call ?_ | refine we_tup ?_ | refine we_lst ?_ | refine we_not ?_ | refine we_and ?_ | refine we_or ?_ | refine we_ite ?_ | refine we_isN ?_ | refine we_isC ?_ | refine we_neg ?_ | refine we_gcon ?_ | refine we_lc ?_ | refine wa_cons ?_ | refine wa_nil ?_ | refine wp_none ?_ | refine wp_some ?_ | refine wt_not ?_ | refine wt_and ?_ | refine wt_or ?_ | refine wt_nil ?_ | refine wt_one ?_ | refine wi_seq ?_ | refine wi_rng ?_ | refine wi_enum ?_ | refine wi_zip ?_ | refine wi_rev ?_ | refine wo_turn ?_ | refine wt_val rfl ?_ | refine ⟨rfl, ?_⟩ | refine ⟨_, rfl, rfl, ?_⟩ | refine ⟨_, _, rfl, rfl, ?_⟩ | refine ⟨_, _, _, rfl, rfl, rfl, ?_⟩ | refine ⟨_, _, _, rfl, rfl, mul_r (by decide), ?_⟩ | refine ⟨_, _, rfl, ?_⟩ | refine ⟨_, rfl, ?_⟩ | refine br_t ?_ | refine br_f ?_ | refine rt_own rfl ?_)
      obtain ⟨_, hz3, r, hr, rfl⟩ := draw_ok (w := w) (k := k') hd (by omega) ds a 3 (by omega)
      refine we_callV (by exact hz3) rfl rfl rfl ?_
      repeat (first | refine wf_cons ?_ | refine wf_asg ?_ | refine wf_iff ?_ | refine wf_ret ?_ | refine wf_ex ?_ | refine wf_setI ?_ | refine wf_aug ?_ | refine wf_asgT ?_ | refine wf_nil ?_ | refine wf_retN ?_ | refine wf_pass ?_ | refine wf_brk ?_ | refine wf_cnt ?_ | refine we_cst ?_ | refine we_d rfl ?_ | refine we_l rfl ?_ | refine we_bin ?_ | refine we_cmp ?_ | refine we_chn ?_ | refine we_ix ?_ | refine we_sl ?_ | refine we_blt ?_ | refine we_mut ?_ | refine we_call ?_ | refine we_tup ?_ | refine we_lst ?_ | refine we_not ?_ | refine we_and ?_ | refine we_or ?_ | refine we_ite ?_ | refine we_isN ?_ | refine we_isC ?_ | refine we_neg ?_ | refine we_gcon ?_ | refine we_lc ?_ | refine wa_cons ?_ | refine wa_nil ?_ | refine wp_none ?_ | refine wp_some ?_ | refine wt_not ?_ | refine wt_and ?_ | refine wt_or ?_ | refine wt_nil ?_ | refine wt_one ?_ | refine wi_seq ?_ | refine wi_rng ?_ | refine wi_enum ?_ | refine wi_zip ?_ | refine wi_rev ?_ | refine wo_turn ?_ | refine wt_val rfl ?_ | refine ⟨rfl, ?_⟩ | refine ⟨_, rfl, rfl, ?_⟩ | refine ⟨_, _, rfl, rfl, ?_⟩ | refine ⟨_, _, _, rfl, rfl, rfl, ?_⟩ | refine ⟨_, _, _, rfl, rfl, mul_r (by decide), ?_⟩ | refine ⟨_, _, rfl, ?_⟩ | refine ⟨_, rfl, ?_⟩ | refine br_t ?_ | refine br_f ?_ | refine rt_own rfl ?_)
      refine ⟨fun hb2 => ?_, fun hb2 => ?_⟩
      · have hb : (!PyData.eqv (.tuple (D.pys vs)) (.tuple [])) = true := hb
        rw [eqv_tnil] at hb
        have hv : 0 < vs.length := by
          cases vs with
          | nil => cases hb
          | cons _ _ => exact Nat.succ_pos _
        repeat (first | refine wf_cons ?_ | refine wf_asg ?_ | refine wf_iff ?_ | refine wf_ret ?_ | refine wf_ex ?_ | refine wf_setI ?_ | refine wf_aug ?_ | refine wf_asgT ?_ | refine wf_nil ?_ | refine wf_retN ?_ | refine wf_pass ?_ | refine wf_brk ?_ | refine wf_cnt ?_ | refine we_cst ?_ | refine we_d rfl ?_ | refine we_l rfl ?_ | refine we_bin ?_ | refine we_cmp ?_ | refine we_chn ?_ | refine we_ix ?_ | refine we_sl ?_ | refine we_blt ?_ | refine we_mut ?_ | refine we_call ?_ | refine we_tup ?_ | refine we_lst ?_ | refine we_not ?_ | refine we_and ?_ | refine we_or ?_ | refine we_ite ?_ | refine we_isN ?_ | refine we_isC ?_ | refine we_neg ?_ | refine we_gcon ?_ | refine we_lc ?_ | refine wa_cons ?_ | refine wa_nil ?_ | refine wp_none ?_ | refine wp_some ?_ | refine wt_not ?_ | refine wt_and ?_ | refine wt_or ?_ | refine wt_nil ?_ | refine wt_one ?_ | refine wi_seq ?_ | refine wi_rng ?_ | refine wi_enum ?_ | refine wi_zip ?_ | refine wi_rev ?_ | refine wo_turn ?_ | refine wt_val rfl ?_ | refine ⟨rfl, ?_⟩ | refine ⟨_, rfl, rfl, ?_⟩ | refine ⟨_, _, rfl, rfl, ?_⟩ | refine ⟨_, _, _, rfl, rfl, rfl, ?_⟩ | refine ⟨_, _, _, rfl, rfl, mul_r (by decide), ?_⟩ | refine ⟨_, _, rfl, ?_⟩ | refine ⟨_, rfl, ?_⟩ | refine br_t ?_ | refine br_f ?_ | refine rt_own rfl ?_)
        obtain ⟨_, hz4, r2, hr2, rfl⟩ := draw_ok (w := w) (k := k') hd (by omega) ds (a + 1) vs.length hv
        refine we_callV (by exact hz4) rfl rfl rfl ?_
        repeat (first | refine wf_cons ?_ | refine wf_asg ?_ | refine wf_iff ?_ | refine wf_ret ?_ | refine wf_ex ?_ | refine wf_setI ?_ | refine wf_aug ?_ | refine wf_asgT ?_ | refine wf_nil ?_ | refine wf_retN ?_ | refine wf_pass ?_ | refine wf_brk ?_ | refine wf_cnt ?_ | refine we_cst ?_ | refine we_d rfl ?_ | refine we_l rfl ?_ | refine we_bin ?_ | refine we_cmp ?_ | refine we_chn ?_ | refine we_ix ?_ | refine we_sl ?_ | refine we_blt ?_ | refine we_mut ?_ | refine we_call ?_ | refine we_tup ?_ | refine we_lst ?_ | refine we_not ?_ | refine we_and ?_ | refine we_or ?_ | refine we_ite ?_ | refine we_isN ?_ | refine we_isC ?_ | refine we_neg ?_ | refine we_gcon ?_ | refine we_lc ?_ | refine wa_cons ?_ | refine wa_nil ?_ | refine wp_none ?_ | refine wp_some ?_ | refine wt_not ?_ | refine wt_and ?_ | refine wt_or ?_ | refine wt_nil ?_ | refine wt_one ?_ | refine wi_seq ?_ | refine wi_rng ?_ | refine wi_enum ?_ | refine wi_zip ?_ | refine wi_rev ?_ | refine wo_turn ?_ | refine wt_val rfl ?_ | refine ⟨rfl, ?_⟩ | refine ⟨_, rfl, rfl, ?_⟩ | refine ⟨_, _, rfl, rfl, ?_⟩ | refine ⟨_, _, _, rfl, rfl, rfl, ?_⟩ | refine ⟨_, _, _, rfl, rfl, mul_r (by decide), ?_⟩ | refine ⟨_, _, rfl, ?_⟩ | refine ⟨_, rfl, ?_⟩ | refine br_t ?_ | refine br_f ?_ | refine rt_own rfl ?_)
        have hm : vs[r2] ∈ vs := List.getElem_mem hr2
        have g1 := ht_mem hm
        have g2 := sz_mem hm
        refine ⟨_, _, _, rfl, rfl, idx_tup (n := r2) (d := vs[r2]) (by simp [hr2]), ?_⟩
        repeat (first | refine wf_cons ?_ | refine wf_asg ?_ | refine wf_iff ?_ | refine wf_ret ?_ | refine wf_ex ?_ | refine wf_setI ?_ | refine wf_aug ?_ | refine wf_asgT ?_ | refine wf_nil ?_ | refine wf_retN ?_ | refine wf_pass ?_ | refine wf_brk ?_ | refine wf_cnt ?_ | refine we_cst ?_ | refine we_d rfl ?_ | refine we_l rfl ?_ | refine we_bin ?_ | refine we_cmp ?_ | refine we_chn ?_ | refine we_ix ?_ | refine we_sl ?_ | refine we_blt ?_ | refine we_mut ?_ | refine we_call ?_ | refine we_tup ?_ | refine we_lst ?_ | refine we_not ?_ | refine we_and ?_ | refine we_or ?_ | refine we_ite ?_ | refine we_isN ?_ | refine we_isC ?_ | refine we_neg ?_ | refine we_gcon ?_ | refine we_lc ?_ | refine wa_cons ?_ | refine wa_nil ?_ | refine wp_none ?_ | refine wp_some ?_ | refine wt_not ?_ | refine wt_and ?_ | refine wt_or ?_ | refine wt_nil ?_ | refine wt_one ?_ | refine wi_seq ?_ | refine wi_rng ?_ | refine wi_enum ?_ | refine wi_zip ?_ | refine wi_rev ?_ | refine wo_turn ?_ | refine wt_val rfl ?_ | refine ⟨rfl, ?_⟩ | refine ⟨_, rfl, rfl, ?_⟩ | refine ⟨_, _, rfl, rfl, ?_⟩ | refine ⟨_, _, _, rfl, rfl, rfl, ?_⟩ | refine ⟨_, _, _, rfl, rfl, mul_r (by decide), ?_⟩ | refine ⟨_, _, rfl, ?_⟩ | refine ⟨_, rfl, ?_⟩ | refine br_t ?_ | refine br_f ?_ | refine rt_own rfl ?_)
        obtain ⟨_, hz5, x, a2, rfl, s1, s2, s3⟩ := ih (a + 1 + 1) vs[r2] k' (by omega) (by omega) (by omega) (isKs_mem hKs hm) (by omega)
        refine we_callV hz5 rfl rfl rfl ?_
        repeat (first | refine wf_cons ?_ | refine wf_asg ?_ | refine wf_iff ?_ | refine wf_ret ?_ | refine wf_ex ?_ | refine wf_setI ?_ | refine wf_aug ?_ | refine wf_asgT ?_ | refine wf_nil ?_ | refine wf_retN ?_ | refine wf_pass ?_ | refine wf_brk ?_ | refine wf_cnt ?_ | refine we_cst ?_ | refine we_d rfl ?_ | refine we_l rfl ?_ | refine we_bin ?_ | refine we_cmp ?_ | refine we_chn ?_ | refine we_ix ?_ | refine we_sl ?_ | refine we_blt ?_ | refine we_mut ?_ | refine we_call ?_ | refine we_tup ?_ | refine we_lst ?_ | refine we_not ?_ | refine we_and ?_ | refine we_or ?_ | refine we_ite ?_ | refine we_isN ?_ | refine we_isC ?_ | refine we_neg ?_ | refine we_gcon ?_ | refine we_lc ?_ | refine wa_cons ?_ | refine wa_nil ?_ | refine wp_none ?_ | refine wp_some ?_ | refine wt_not ?_ | refine wt_and ?_ | refine wt_or ?_ | refine wt_nil ?_ | refine wt_one ?_ | refine wi_seq ?_ | refine wi_rng ?_ | refine wi_enum ?_ | refine wi_zip ?_ | refine wi_rev ?_ | refine wo_turn ?_ | refine wt_val rfl ?_ | refine ⟨rfl, ?_⟩ | refine ⟨_, rfl, rfl, ?_⟩ | refine ⟨_, _, rfl, rfl, ?_⟩ | refine ⟨_, _, _, rfl, rfl, rfl, ?_⟩ | refine ⟨_, _, _, rfl, rfl, mul_r (by decide), ?_⟩ | refine ⟨_, _, rfl, ?_⟩ | refine ⟨_, rfl, ?_⟩ | refine br_t ?_ | refine br_f ?_ | refine rt_own rfl ?_)
        rw [cut_hi]
        refine ⟨_, _, _, rfl, rfl, bnd (gdT (fits_of (by simp; omega))) rfl, ?_⟩
        repeat (first | refine wf_cons ?_ | refine wf_asg ?_ | refine wf_iff ?_ | refine wf_ret ?_ | refine wf_ex ?_ | refine wf_setI ?_ | refine wf_aug ?_ | refine wf_asgT ?_ | refine wf_nil ?_ | refine wf_retN ?_ | refine wf_pass ?_ | refine wf_brk ?_ | refine wf_cnt ?_ | refine we_cst ?_ | refine we_d rfl ?_ | refine we_l rfl ?_ | refine we_bin ?_ | refine we_cmp ?_ | refine we_chn ?_ | refine we_ix ?_ | refine we_sl ?_ | refine we_blt ?_ | refine we_mut ?_ | refine we_call ?_ | refine we_tup ?_ | refine we_lst ?_ | refine we_not ?_ | refine we_and ?_ | refine we_or ?_ | refine we_ite ?_ | refine we_isN ?_ | refine we_isC ?_ | refine we_neg ?_ | refine we_gcon ?_ | refine we_lc ?_ | refine wa_cons ?_ | refine wa_nil ?_ | refine wp_none ?_ | refine wp_some ?_ | refine wt_not ?_ | refine wt_and ?_ | refine wt_or ?_ | refine wt_nil ?_ | refine wt_one ?_ | refine wi_seq ?_ | refine wi_rng ?_ | refine wi_enum ?_ | refine wi_zip ?_ | refine wi_rev ?_ | refine wo_turn ?_ | refine wt_val rfl ?_ | refine ⟨rfl, ?_⟩ | refine ⟨_, rfl, rfl, ?_⟩ | refine ⟨_, _, rfl, rfl, ?_⟩ | refine ⟨_, _, _, rfl, rfl, rfl, ?_⟩ | refine ⟨_, _, _, rfl, rfl, mul_r (by decide), ?_⟩ | refine ⟨_, _, rfl, ?_⟩ | refine ⟨_, rfl, ?_⟩ | refine br_t ?_ | refine br_f ?_ | refine rt_own rfl ?_)
        rw [show (r2 : Int) + 1 = ((r2 + 1 : Nat) : Int) by omega, cut_lo]
        refine ⟨_, _, _, rfl, rfl, bnd (gdT (fits_of (by simp; omega))) rfl, ?_⟩
        repeat (first | refine wf_cons ?_ | refine wf_asg ?_ | refine wf_iff ?_ | refine wf_ret ?_ | refine wf_ex ?_ | refine wf_setI ?_ | refine wf_aug ?_ | refine wf_asgT ?_ | refine wf_nil ?_ | refine wf_retN ?_ | refine wf_pass ?_ | refine wf_brk ?_ | refine wf_cnt ?_ | refine we_cst ?_ | refine we_d rfl ?_ | refine we_l rfl ?_ | refine we_bin ?_ | refine we_cmp ?_ | refine we_chn ?_ | refine we_ix ?_ | refine we_sl ?_ | refine we_blt ?_ | refine we_mut ?_ | refine we_call ?_ | refine we_tup ?_ | refine we_lst ?_ | refine we_not ?_ | refine we_and ?_ | refine we_or ?_ | refine we_ite ?_ | refine we_isN ?_ | refine we_isC ?_ | refine we_neg ?_ | refine we_gcon ?_ | refine we_lc ?_ | refine wa_cons ?_ | refine wa_nil ?_ | refine wp_none ?_ | refine wp_some ?_ | refine wt_not ?_ | refine wt_and ?_ | refine wt_or ?_ | refine wt_nil ?_ | refine wt_one ?_ | refine wi_seq ?_ | refine wi_rng ?_ | refine wi_enum ?_ | refine wi_zip ?_ | refine wi_rev ?_ | refine wo_turn ?_ | refine wt_val rfl ?_ | refine ⟨rfl, ?_⟩ | refine ⟨_, rfl, rfl, ?_⟩ | refine ⟨_, _, rfl, rfl, ?_⟩ | refine ⟨_, _, _, rfl, rfl, rfl, ?_⟩ | refine ⟨_, _, _, rfl, rfl, mul_r (by decide), ?_⟩ | refine ⟨_, _, rfl, ?_⟩ | refine ⟨_, rfl, ?_⟩ | refine br_t ?_ | refine br_f ?_ | refine rt_own rfl ?_)
        refine hR _ _ _ rfl ⟨_, _, rfl, ?_, ?_, ?_⟩
        · show wlDs (vs.take r2 ++ [x] ++ vs.drop (r2 + 1)) = true
          rw [wlDs_app, wlDs_app]
          have h1 : wlDs (vs.take r2) = true := wlDs_of fun d hd => wlDs_mem hwls (List.mem_of_mem_take hd)
          have h2 : wlDs (vs.drop (r2 + 1)) = true := wlDs_of fun d hd => wlDs_mem hwls (List.mem_of_mem_drop hd)
          rw [h1, h2]
          unfold wlDs wlDs
          rw [s1]; rfl
        · show htDs (vs.take r2 ++ [x] ++ vs.drop (r2 + 1)) + 1 ≤ htD (.tup vs) + 1
          rw [hts_app, hts_app]
          have h1 : htDs (vs.take r2) ≤ htDs vs := hts_of fun d hd => ht_mem (List.mem_of_mem_take hd)
          have h2 : htDs (vs.drop (r2 + 1)) ≤ htDs vs := hts_of fun d hd => ht_mem (List.mem_of_mem_drop hd)
          have h3 : htDs [x] = htD x := by simp [htDs]
          omega
        · show szDs (vs.take r2 ++ [x] ++ vs.drop (r2 + 1)) + 1 ≤ szD (.tup vs) + 3
          rw [szs_app, szs_app]
          have h3 : szDs [x] = szD x := by simp [szDs]
          have h4 := szs_app (a := vs.take r2) (b := vs.drop r2)
          rw [List.take_append_drop, List.drop_eq_getElem_cons hr2] at h4
          have h5 : szDs (vs[r2] :: vs.drop (r2 + 1)) = szD vs[r2] + szDs (vs.drop (r2 + 1)) := by simp [szDs]
          omega
      · refine wf_nil ?_
        exact menu _
    · refine br_f ?_
      refine wf_nil ?_
      exact menu _
end G
namespace G
open PySem
theorem rows_facts {d : D} (hh : htD d ≤ 8) (hz : szD d ≤ 10000) : smD (.tup ((plc d).map rowD)) = true ∧ D.nds ((plc d).map rowD) = true ∧ htD (.tup ((plc d).map rowD)) ≤ 2 ∧ szD (.tup ((plc d).map rowD)) ≤ 1000000 := by
  have hm : ∀ x ∈ (plc d).map rowD, ∃ r, r.length ≤ 8 ∧ x = rowD r := fun x hx => by
    obtain ⟨r, hr, rfl⟩ := List.mem_map.mp hx
    exact ⟨r, by have := plc_short hr; omega, rfl⟩
  have hl := plc_len (d := d)
  refine ⟨?_, ?_, ?_, ?_⟩
  · unfold smD
    exact smDs_of fun x hx => by obtain ⟨r, _, rfl⟩ := hm x hx; exact row_facts.1
  · exact nds_of fun x hx => by obtain ⟨r, _, rfl⟩ := hm x hx; exact row_facts.2.1
  · have := hts_of (ds := (plc d).map rowD) (n := 1) fun x hx => by obtain ⟨r, _, rfl⟩ := hm x hx; exact row_facts.2.2.1
    have e1 : htD (.tup ((plc d).map rowD)) = htDs ((plc d).map rowD) + 1 := by simp [htD]
    omega
  · have h2 := szs_of (ds := (plc d).map rowD) (n := 9) fun x hx => by obtain ⟨r, h8, rfl⟩ := hm x hx; have := (row_facts (p := r)).2.2.2; omega
    have e1 : szD (.tup ((plc d).map rowD)) = szDs ((plc d).map rowD) + 1 := by simp [szD]
    rw [List.length_map] at h2
    omega
theorem rgt_ok {P : Prg} {w k : Nat} (h0 : IsFn P 0 1 3 b_is_kind) (h1 : IsFn P 1 2 5 b_places_beneath) (h2 : IsFn P 2 1 1 b_places) (h3 : IsFn P 3 2 3 b_kind_at) (h4 : IsFn P 4 1 2 b_depth) (h9 : IsFn P 9 2 3 (lb_same 9)) (h10 : IsFn P 10 2 3 b_L_at) (h11 : IsFn P 11 1 4 b_L_places) (h14 : IsFn P 14 1 2 b_L_deep) (h : IsFn P 16 1 5 b_L_right)
    (d : D) (hK : isK d = true) (hh : htD d ≤ 8) (hz : szD d ≤ 10000) (hk : 60 ≤ k) (hw : szD d < w) :
    ∃ cr, run P w k 16 [.d d] = .ok cr ∧ cr = ⟨.v (.d (.bl true)), [some (.d d)]⟩ := by
  obtain ⟨r1, r2, r3, r4⟩ := rows_facts hh hz
  refine run_by h rfl rfl (by omega) fun k' N R ek hN hR => ?_
  unfold b_L_right
  repeat (first | refine wf_cons ?_ | refine wf_asg ?_ | refine wf_iff ?_ | refine wf_ret ?_ | refine wf_ex ?_ | refine wf_setI ?_ | refine wf_aug ?_ | refine wf_asgT ?_ | refine wf_nil ?_ | refine wf_retN ?_ | refine wf_pass ?_ | refine wf_brk ?_ | refine wf_cnt ?_ | refine we_cst ?_ | refine we_d rfl ?_ | refine we_l rfl ?_ | refine we_bin ?_ | refine we_cmp ?_ | refine we_chn ?_ | refine we_ix ?_ | refine we_sl ?_ | refine we_blt ?_ | refine we_mut ?_ | refine we_call ?_ | refine we_tup ?_ | refine we_lst ?_ | refine we_not ?_ | refine we_and ?_ | refine we_or ?_ | refine we_ite ?_ | refine we_isN ?_ | refine we_isC ?_ | refine we_neg ?_ | refine we_gcon ?_ | refine we_lc ?_ | refine wa_cons ?_ | refine wa_nil ?_ | refine wp_none ?_ | refine wp_some ?_ | refine wt_not ?_ | refine wt_and ?_ | refine wt_or ?_ | refine wt_nil ?_ | refine wt_one ?_ | refine wi_seq ?_ | refine wi_rng ?_ | refine wi_enum ?_ | refine wi_zip ?_ | refine wi_rev ?_ | refine wo_turn ?_ | refine wt_val rfl ?_ | refine ⟨rfl, ?_⟩ | refine ⟨_, rfl, rfl, ?_⟩ | refine ⟨_, _, rfl, rfl, ?_⟩ | refine ⟨_, _, _, rfl, rfl, rfl, ?_⟩ | refine ⟨_, _, _, rfl, rfl, mul_r (by decide), ?_⟩ | refine ⟨_, _, rfl, ?_⟩ | refine ⟨_, rfl, ?_⟩ | refine br_t ?_ | refine br_f ?_ | refine rt_own rfl ?_)
  obtain ⟨_, z1, rfl⟩ := lpl_ok (w := w) h11 8 d k' hh (by omega) hK (by omega)
  refine we_callV z1 rfl rfl rfl ?_
  repeat (first | refine wf_cons ?_ | refine wf_asg ?_ | refine wf_iff ?_ | refine wf_ret ?_ | refine wf_ex ?_ | refine wf_setI ?_ | refine wf_aug ?_ | refine wf_asgT ?_ | refine wf_nil ?_ | refine wf_retN ?_ | refine wf_pass ?_ | refine wf_brk ?_ | refine wf_cnt ?_ | refine we_cst ?_ | refine we_d rfl ?_ | refine we_l rfl ?_ | refine we_bin ?_ | refine we_cmp ?_ | refine we_chn ?_ | refine we_ix ?_ | refine we_sl ?_ | refine we_blt ?_ | refine we_mut ?_ | refine we_call ?_ | refine we_tup ?_ | refine we_lst ?_ | refine we_not ?_ | refine we_and ?_ | refine we_or ?_ | refine we_ite ?_ | refine we_isN ?_ | refine we_isC ?_ | refine we_neg ?_ | refine we_gcon ?_ | refine we_lc ?_ | refine wa_cons ?_ | refine wa_nil ?_ | refine wp_none ?_ | refine wp_some ?_ | refine wt_not ?_ | refine wt_and ?_ | refine wt_or ?_ | refine wt_nil ?_ | refine wt_one ?_ | refine wi_seq ?_ | refine wi_rng ?_ | refine wi_enum ?_ | refine wi_zip ?_ | refine wi_rev ?_ | refine wo_turn ?_ | refine wt_val rfl ?_ | refine ⟨rfl, ?_⟩ | refine ⟨_, rfl, rfl, ?_⟩ | refine ⟨_, _, rfl, rfl, ?_⟩ | refine ⟨_, _, _, rfl, rfl, rfl, ?_⟩ | refine ⟨_, _, _, rfl, rfl, mul_r (by decide), ?_⟩ | refine ⟨_, _, rfl, ?_⟩ | refine ⟨_, rfl, ?_⟩ | refine br_t ?_ | refine br_f ?_ | refine rt_own rfl ?_)
  obtain ⟨_, z2, rfl⟩ := isk_ok (w := w) (k := k') h0 (by omega) d (isK_wl hK).1 (by omega) hw
  rw [hK] at z2
  refine we_callV z2 rfl rfl rfl ?_
  repeat (first | refine wf_cons ?_ | refine wf_asg ?_ | refine wf_iff ?_ | refine wf_ret ?_ | refine wf_ex ?_ | refine wf_setI ?_ | refine wf_aug ?_ | refine wf_asgT ?_ | refine wf_nil ?_ | refine wf_retN ?_ | refine wf_pass ?_ | refine wf_brk ?_ | refine wf_cnt ?_ | refine we_cst ?_ | refine we_d rfl ?_ | refine we_l rfl ?_ | refine we_bin ?_ | refine we_cmp ?_ | refine we_chn ?_ | refine we_ix ?_ | refine we_sl ?_ | refine we_blt ?_ | refine we_mut ?_ | refine we_call ?_ | refine we_tup ?_ | refine we_lst ?_ | refine we_not ?_ | refine we_and ?_ | refine we_or ?_ | refine we_ite ?_ | refine we_isN ?_ | refine we_isC ?_ | refine we_neg ?_ | refine we_gcon ?_ | refine we_lc ?_ | refine wa_cons ?_ | refine wa_nil ?_ | refine wp_none ?_ | refine wp_some ?_ | refine wt_not ?_ | refine wt_and ?_ | refine wt_or ?_ | refine wt_nil ?_ | refine wt_one ?_ | refine wi_seq ?_ | refine wi_rng ?_ | refine wi_enum ?_ | refine wi_zip ?_ | refine wi_rev ?_ | refine wo_turn ?_ | refine wt_val rfl ?_ | refine ⟨rfl, ?_⟩ | refine ⟨_, rfl, rfl, ?_⟩ | refine ⟨_, _, rfl, rfl, ?_⟩ | refine ⟨_, _, _, rfl, rfl, rfl, ?_⟩ | refine ⟨_, _, _, rfl, rfl, mul_r (by decide), ?_⟩ | refine ⟨_, _, rfl, ?_⟩ | refine ⟨_, rfl, ?_⟩ | refine br_t ?_ | refine br_f ?_ | refine rt_own rfl ?_)
  obtain ⟨_, z3, rfl⟩ := pla_ok (w := w) (k := k') h1 h2 d (by omega) hK (by omega)
  refine we_callV z3 rfl rfl rfl ?_
  repeat (first | refine wf_cons ?_ | refine wf_asg ?_ | refine wf_iff ?_ | refine wf_ret ?_ | refine wf_ex ?_ | refine wf_setI ?_ | refine wf_aug ?_ | refine wf_asgT ?_ | refine wf_nil ?_ | refine wf_retN ?_ | refine wf_pass ?_ | refine wf_brk ?_ | refine wf_cnt ?_ | refine we_cst ?_ | refine we_d rfl ?_ | refine we_l rfl ?_ | refine we_bin ?_ | refine we_cmp ?_ | refine we_chn ?_ | refine we_ix ?_ | refine we_sl ?_ | refine we_blt ?_ | refine we_mut ?_ | refine we_call ?_ | refine we_tup ?_ | refine we_lst ?_ | refine we_not ?_ | refine we_and ?_ | refine we_or ?_ | refine we_ite ?_ | refine we_isN ?_ | refine we_isC ?_ | refine we_neg ?_ | refine we_gcon ?_ | refine we_lc ?_ | refine wa_cons ?_ | refine wa_nil ?_ | refine wp_none ?_ | refine wp_some ?_ | refine wt_not ?_ | refine wt_and ?_ | refine wt_or ?_ | refine wt_nil ?_ | refine wt_one ?_ | refine wi_seq ?_ | refine wi_rng ?_ | refine wi_enum ?_ | refine wi_zip ?_ | refine wi_rev ?_ | refine wo_turn ?_ | refine wt_val rfl ?_ | refine ⟨rfl, ?_⟩ | refine ⟨_, rfl, rfl, ?_⟩ | refine ⟨_, _, rfl, rfl, ?_⟩ | refine ⟨_, _, _, rfl, rfl, rfl, ?_⟩ | refine ⟨_, _, _, rfl, rfl, mul_r (by decide), ?_⟩ | refine ⟨_, _, rfl, ?_⟩ | refine ⟨_, rfl, ?_⟩ | refine br_t ?_ | refine br_f ?_ | refine rt_own rfl ?_)
  obtain ⟨_, z4, rfl⟩ := same_ok (w := w) h9 2 (.tup ((plc d).map rowD)) k' r3 (by omega) r1 r4
  refine we_callV z4 rfl rfl rfl ?_
  repeat (first | refine wf_cons ?_ | refine wf_asg ?_ | refine wf_iff ?_ | refine wf_ret ?_ | refine wf_ex ?_ | refine wf_setI ?_ | refine wf_aug ?_ | refine wf_asgT ?_ | refine wf_nil ?_ | refine wf_retN ?_ | refine wf_pass ?_ | refine wf_brk ?_ | refine wf_cnt ?_ | refine we_cst ?_ | refine we_d rfl ?_ | refine we_l rfl ?_ | refine we_bin ?_ | refine we_cmp ?_ | refine we_chn ?_ | refine we_ix ?_ | refine we_sl ?_ | refine we_blt ?_ | refine we_mut ?_ | refine we_call ?_ | refine we_tup ?_ | refine we_lst ?_ | refine we_not ?_ | refine we_and ?_ | refine we_or ?_ | refine we_ite ?_ | refine we_isN ?_ | refine we_isC ?_ | refine we_neg ?_ | refine we_gcon ?_ | refine we_lc ?_ | refine wa_cons ?_ | refine wa_nil ?_ | refine wp_none ?_ | refine wp_some ?_ | refine wt_not ?_ | refine wt_and ?_ | refine wt_or ?_ | refine wt_nil ?_ | refine wt_one ?_ | refine wi_seq ?_ | refine wi_rng ?_ | refine wi_enum ?_ | refine wi_zip ?_ | refine wi_rev ?_ | refine wo_turn ?_ | refine wt_val rfl ?_ | refine ⟨rfl, ?_⟩ | refine ⟨_, rfl, rfl, ?_⟩ | refine ⟨_, _, rfl, rfl, ?_⟩ | refine ⟨_, _, _, rfl, rfl, rfl, ?_⟩ | refine ⟨_, _, _, rfl, rfl, mul_r (by decide), ?_⟩ | refine ⟨_, _, rfl, ?_⟩ | refine ⟨_, rfl, ?_⟩ | refine br_t ?_ | refine br_f ?_ | refine rt_own rfl ?_)
  obtain ⟨_, z5, rfl⟩ := dep_ok (w := w) h4 8 d k' hh (by omega) hK
  refine we_callV z5 rfl rfl rfl ?_
  repeat (first | refine wf_cons ?_ | refine wf_asg ?_ | refine wf_iff ?_ | refine wf_ret ?_ | refine wf_ex ?_ | refine wf_setI ?_ | refine wf_aug ?_ | refine wf_asgT ?_ | refine wf_nil ?_ | refine wf_retN ?_ | refine wf_pass ?_ | refine wf_brk ?_ | refine wf_cnt ?_ | refine we_cst ?_ | refine we_d rfl ?_ | refine we_l rfl ?_ | refine we_bin ?_ | refine we_cmp ?_ | refine we_chn ?_ | refine we_ix ?_ | refine we_sl ?_ | refine we_blt ?_ | refine we_mut ?_ | refine we_call ?_ | refine we_tup ?_ | refine we_lst ?_ | refine we_not ?_ | refine we_and ?_ | refine we_or ?_ | refine we_ite ?_ | refine we_isN ?_ | refine we_isC ?_ | refine we_neg ?_ | refine we_gcon ?_ | refine we_lc ?_ | refine wa_cons ?_ | refine wa_nil ?_ | refine wp_none ?_ | refine wp_some ?_ | refine wt_not ?_ | refine wt_and ?_ | refine wt_or ?_ | refine wt_nil ?_ | refine wt_one ?_ | refine wi_seq ?_ | refine wi_rng ?_ | refine wi_enum ?_ | refine wi_zip ?_ | refine wi_rev ?_ | refine wo_turn ?_ | refine wt_val rfl ?_ | refine ⟨rfl, ?_⟩ | refine ⟨_, rfl, rfl, ?_⟩ | refine ⟨_, _, rfl, rfl, ?_⟩ | refine ⟨_, _, _, rfl, rfl, rfl, ?_⟩ | refine ⟨_, _, _, rfl, rfl, mul_r (by decide), ?_⟩ | refine ⟨_, _, rfl, ?_⟩ | refine ⟨_, rfl, ?_⟩ | refine br_t ?_ | refine br_f ?_ | refine rt_own rfl ?_)
  obtain ⟨_, z6, rfl⟩ := ldep_ok (w := w) h14 8 d k' hh (by omega) hK (by omega)
  refine we_callV z6 rfl rfl rfl ?_
  repeat (first | refine wf_cons ?_ | refine wf_asg ?_ | refine wf_iff ?_ | refine wf_ret ?_ | refine wf_ex ?_ | refine wf_setI ?_ | refine wf_aug ?_ | refine wf_asgT ?_ | refine wf_nil ?_ | refine wf_retN ?_ | refine wf_pass ?_ | refine wf_brk ?_ | refine wf_cnt ?_ | refine we_cst ?_ | refine we_d rfl ?_ | refine we_l rfl ?_ | refine we_bin ?_ | refine we_cmp ?_ | refine we_chn ?_ | refine we_ix ?_ | refine we_sl ?_ | refine we_blt ?_ | refine we_mut ?_ | refine we_call ?_ | refine we_tup ?_ | refine we_lst ?_ | refine we_not ?_ | refine we_and ?_ | refine we_or ?_ | refine we_ite ?_ | refine we_isN ?_ | refine we_isC ?_ | refine we_neg ?_ | refine we_gcon ?_ | refine we_lc ?_ | refine wa_cons ?_ | refine wa_nil ?_ | refine wp_none ?_ | refine wp_some ?_ | refine wt_not ?_ | refine wt_and ?_ | refine wt_or ?_ | refine wt_nil ?_ | refine wt_one ?_ | refine wi_seq ?_ | refine wi_rng ?_ | refine wi_enum ?_ | refine wi_zip ?_ | refine wi_rev ?_ | refine wo_turn ?_ | refine wt_val rfl ?_ | refine ⟨rfl, ?_⟩ | refine ⟨_, rfl, rfl, ?_⟩ | refine ⟨_, _, rfl, rfl, ?_⟩ | refine ⟨_, _, _, rfl, rfl, rfl, ?_⟩ | refine ⟨_, _, _, rfl, rfl, mul_r (by decide), ?_⟩ | refine ⟨_, _, rfl, ?_⟩ | refine ⟨_, rfl, ?_⟩ | refine br_t ?_ | refine br_f ?_ | refine rt_own rfl ?_)
  obtain ⟨_, z7, rfl⟩ := same_ok (w := w) h9 0 (.int (dp d)) k' (Nat.zero_le _) (by omega) rfl (by show 1 ≤ _; omega)
  refine we_callV z7 rfl rfl rfl ?_
  repeat (first | refine wf_cons ?_ | refine wf_asg ?_ | refine wf_iff ?_ | refine wf_ret ?_ | refine wf_ex ?_ | refine wf_setI ?_ | refine wf_aug ?_ | refine wf_asgT ?_ | refine wf_nil ?_ | refine wf_retN ?_ | refine wf_pass ?_ | refine wf_brk ?_ | refine wf_cnt ?_ | refine we_cst ?_ | refine we_d rfl ?_ | refine we_l rfl ?_ | refine we_bin ?_ | refine we_cmp ?_ | refine we_chn ?_ | refine we_ix ?_ | refine we_sl ?_ | refine we_blt ?_ | refine we_mut ?_ | refine we_call ?_ | refine we_tup ?_ | refine we_lst ?_ | refine we_not ?_ | refine we_and ?_ | refine we_or ?_ | refine we_ite ?_ | refine we_isN ?_ | refine we_isC ?_ | refine we_neg ?_ | refine we_gcon ?_ | refine we_lc ?_ | refine wa_cons ?_ | refine wa_nil ?_ | refine wp_none ?_ | refine wp_some ?_ | refine wt_not ?_ | refine wt_and ?_ | refine wt_or ?_ | refine wt_nil ?_ | refine wt_one ?_ | refine wi_seq ?_ | refine wi_rng ?_ | refine wi_enum ?_ | refine wi_zip ?_ | refine wi_rev ?_ | refine wo_turn ?_ | refine wt_val rfl ?_ | refine ⟨rfl, ?_⟩ | refine ⟨_, rfl, rfl, ?_⟩ | refine ⟨_, _, rfl, rfl, ?_⟩ | refine ⟨_, _, _, rfl, rfl, rfl, ?_⟩ | refine ⟨_, _, _, rfl, rfl, mul_r (by decide), ?_⟩ | refine ⟨_, _, rfl, ?_⟩ | refine ⟨_, rfl, ?_⟩ | refine br_t ?_ | refine br_f ?_ | refine rt_own rfl ?_)
  refine wf_fr ?_
  repeat (first | refine wf_cons ?_ | refine wf_asg ?_ | refine wf_iff ?_ | refine wf_ret ?_ | refine wf_ex ?_ | refine wf_setI ?_ | refine wf_aug ?_ | refine wf_asgT ?_ | refine wf_nil ?_ | refine wf_retN ?_ | refine wf_pass ?_ | refine wf_brk ?_ | refine wf_cnt ?_ | refine we_cst ?_ | refine we_d rfl ?_ | refine we_l rfl ?_ | refine we_bin ?_ | refine we_cmp ?_ | refine we_chn ?_ | refine we_ix ?_ | refine we_sl ?_ | refine we_blt ?_ | refine we_mut ?_ | refine we_call ?_ | refine we_tup ?_ | refine we_lst ?_ | refine we_not ?_ | refine we_and ?_ | refine we_or ?_ | refine we_ite ?_ | refine we_isN ?_ | refine we_isC ?_ | refine we_neg ?_ | refine we_gcon ?_ | refine we_lc ?_ | refine wa_cons ?_ | refine wa_nil ?_ | refine wp_none ?_ | refine wp_some ?_ | refine wt_not ?_ | refine wt_and ?_ | refine wt_or ?_ | refine wt_nil ?_ | refine wt_one ?_ | refine wi_seq ?_ | refine wi_rng ?_ | refine wi_enum ?_ | refine wi_zip ?_ | refine wi_rev ?_ | refine wo_turn ?_ | refine wt_val rfl ?_ | refine ⟨rfl, ?_⟩ | refine ⟨_, rfl, rfl, ?_⟩ | refine ⟨_, _, rfl, rfl, ?_⟩ | refine ⟨_, _, _, rfl, rfl, rfl, ?_⟩ | refine ⟨_, _, _, rfl, rfl, mul_r (by decide), ?_⟩ | refine ⟨_, _, rfl, ?_⟩ | refine ⟨_, rfl, ?_⟩ | refine br_t ?_ | refine br_f ?_ | refine rt_own rfl ?_)
  refine for_inv (its := (plc d).map rowD) (fun i c => ∃ a2 a3 a4, c = [some (.d d), some (.l ((plc d).map rowD)), a2, a3, a4]) ⟨none, none, none, rfl⟩ ?_ ?_
  · rintro i x c hi ⟨a2, a3, a4, rfl⟩
    obtain ⟨hi2, rfl⟩ := get_of (xs := (plc d).map rowD) hi
    have hl : i < (plc d).length := by rw [List.length_map] at hi2; exact hi2
    rw [List.getElem_map]
    have hr := List.getElem_mem hl
    have hs := plc_short hr
    obtain ⟨s1, s2, s3⟩ := sub_isK hK hr
    generalize (plc d)[i] = r at hr hs s1 s2 s3 ⊢
    have e0 : ∀ s, sub d (r ++ s) = sub (sub d r) s := fun s => sub_app
    obtain ⟨xs, ex, hxs⟩ := isK_tup s1
    refine ⟨_, rfl, ?_⟩
    refine wf_still ?_
    repeat (first | refine wf_cons ?_ | refine wf_asg ?_ | refine wf_iff ?_ | refine wf_ret ?_ | refine wf_ex ?_ | refine wf_setI ?_ | refine wf_aug ?_ | refine wf_asgT ?_ | refine wf_nil ?_ | refine wf_retN ?_ | refine wf_pass ?_ | refine wf_brk ?_ | refine wf_cnt ?_ | refine we_cst ?_ | refine we_d rfl ?_ | refine we_l rfl ?_ | refine we_bin ?_ | refine we_cmp ?_ | refine we_chn ?_ | refine we_ix ?_ | refine we_sl ?_ | refine we_blt ?_ | refine we_mut ?_ | refine we_call ?_ | refine we_tup ?_ | refine we_lst ?_ | refine we_not ?_ | refine we_and ?_ | refine we_or ?_ | refine we_ite ?_ | refine we_isN ?_ | refine we_isC ?_ | refine we_neg ?_ | refine we_gcon ?_ | refine we_lc ?_ | refine wa_cons ?_ | refine wa_nil ?_ | refine wp_none ?_ | refine wp_some ?_ | refine wt_not ?_ | refine wt_and ?_ | refine wt_or ?_ | refine wt_nil ?_ | refine wt_one ?_ | refine wi_seq ?_ | refine wi_rng ?_ | refine wi_enum ?_ | refine wi_zip ?_ | refine wi_rev ?_ | refine wo_turn ?_ | refine wt_val rfl ?_ | refine ⟨rfl, ?_⟩ | refine ⟨_, rfl, rfl, ?_⟩ | refine ⟨_, _, rfl, rfl, ?_⟩ | refine ⟨_, _, _, rfl, rfl, rfl, ?_⟩ | refine ⟨_, _, _, rfl, rfl, mul_r (by decide), ?_⟩ | refine ⟨_, _, rfl, ?_⟩ | refine ⟨_, rfl, ?_⟩ | refine br_t ?_ | refine br_f ?_ | refine rt_own rfl ?_)
    obtain ⟨_, y1, rfl⟩ := lat_ok (w := w) (k := k') h10 (by omega) d r hK
    rw [ex] at y1
    refine we_callV y1 rfl rfl rfl ?_
    repeat (first | refine wf_cons ?_ | refine wf_asg ?_ | refine wf_iff ?_ | refine wf_ret ?_ | refine wf_ex ?_ | refine wf_setI ?_ | refine wf_aug ?_ | refine wf_asgT ?_ | refine wf_nil ?_ | refine wf_retN ?_ | refine wf_pass ?_ | refine wf_brk ?_ | refine wf_cnt ?_ | refine we_cst ?_ | refine we_d rfl ?_ | refine we_l rfl ?_ | refine we_bin ?_ | refine we_cmp ?_ | refine we_chn ?_ | refine we_ix ?_ | refine we_sl ?_ | refine we_blt ?_ | refine we_mut ?_ | refine we_call ?_ | refine we_tup ?_ | refine we_lst ?_ | refine we_not ?_ | refine we_and ?_ | refine we_or ?_ | refine we_ite ?_ | refine we_isN ?_ | refine we_isC ?_ | refine we_neg ?_ | refine we_gcon ?_ | refine we_lc ?_ | refine wa_cons ?_ | refine wa_nil ?_ | refine wp_none ?_ | refine wp_some ?_ | refine wt_not ?_ | refine wt_and ?_ | refine wt_or ?_ | refine wt_nil ?_ | refine wt_one ?_ | refine wi_seq ?_ | refine wi_rng ?_ | refine wi_enum ?_ | refine wi_zip ?_ | refine wi_rev ?_ | refine wo_turn ?_ | refine wt_val rfl ?_ | refine ⟨rfl, ?_⟩ | refine ⟨_, rfl, rfl, ?_⟩ | refine ⟨_, _, rfl, rfl, ?_⟩ | refine ⟨_, _, _, rfl, rfl, rfl, ?_⟩ | refine ⟨_, _, _, rfl, rfl, mul_r (by decide), ?_⟩ | refine ⟨_, _, rfl, ?_⟩ | refine ⟨_, rfl, ?_⟩ | refine br_t ?_ | refine br_f ?_ | refine rt_own rfl ?_)
    obtain ⟨_, y2, rfl⟩ := kat_ok (w := w) (k := k') h3 (by omega) d r hK
    rw [ex] at y2
    refine we_callV y2 rfl rfl rfl ?_
    repeat (first | refine wf_cons ?_ | refine wf_asg ?_ | refine wf_iff ?_ | refine wf_ret ?_ | refine wf_ex ?_ | refine wf_setI ?_ | refine wf_aug ?_ | refine wf_asgT ?_ | refine wf_nil ?_ | refine wf_retN ?_ | refine wf_pass ?_ | refine wf_brk ?_ | refine wf_cnt ?_ | refine we_cst ?_ | refine we_d rfl ?_ | refine we_l rfl ?_ | refine we_bin ?_ | refine we_cmp ?_ | refine we_chn ?_ | refine we_ix ?_ | refine we_sl ?_ | refine we_blt ?_ | refine we_mut ?_ | refine we_call ?_ | refine we_tup ?_ | refine we_lst ?_ | refine we_not ?_ | refine we_and ?_ | refine we_or ?_ | refine we_ite ?_ | refine we_isN ?_ | refine we_isC ?_ | refine we_neg ?_ | refine we_gcon ?_ | refine we_lc ?_ | refine wa_cons ?_ | refine wa_nil ?_ | refine wp_none ?_ | refine wp_some ?_ | refine wt_not ?_ | refine wt_and ?_ | refine wt_or ?_ | refine wt_nil ?_ | refine wt_one ?_ | refine wi_seq ?_ | refine wi_rng ?_ | refine wi_enum ?_ | refine wi_zip ?_ | refine wi_rev ?_ | refine wo_turn ?_ | refine wt_val rfl ?_ | refine ⟨rfl, ?_⟩ | refine ⟨_, rfl, rfl, ?_⟩ | refine ⟨_, _, rfl, rfl, ?_⟩ | refine ⟨_, _, _, rfl, rfl, rfl, ?_⟩ | refine ⟨_, _, _, rfl, rfl, mul_r (by decide), ?_⟩ | refine ⟨_, _, rfl, ?_⟩ | refine ⟨_, rfl, ?_⟩ | refine br_t ?_ | refine br_f ?_ | refine rt_own rfl ?_)
    obtain ⟨_, y3, rfl⟩ := same_ok (w := w) h9 8 (.tup xs) k' (by rw [← ex]; omega) (by omega) (by rw [← ex]; exact (isK_wl s1).2.1) (by rw [← ex]; omega)
    refine we_callV y3 rfl rfl rfl ?_
    repeat (first | refine wf_cons ?_ | refine wf_asg ?_ | refine wf_iff ?_ | refine wf_ret ?_ | refine wf_ex ?_ | refine wf_setI ?_ | refine wf_aug ?_ | refine wf_asgT ?_ | refine wf_nil ?_ | refine wf_retN ?_ | refine wf_pass ?_ | refine wf_brk ?_ | refine wf_cnt ?_ | refine we_cst ?_ | refine we_d rfl ?_ | refine we_l rfl ?_ | refine we_bin ?_ | refine we_cmp ?_ | refine we_chn ?_ | refine we_ix ?_ | refine we_sl ?_ | refine we_blt ?_ | refine we_mut ?_ | refine we_call ?_ | refine we_tup ?_ | refine we_lst ?_ | refine we_not ?_ | refine we_and ?_ | refine we_or ?_ | refine we_ite ?_ | refine we_isN ?_ | refine we_isC ?_ | refine we_neg ?_ | refine we_gcon ?_ | refine we_lc ?_ | refine wa_cons ?_ | refine wa_nil ?_ | refine wp_none ?_ | refine wp_some ?_ | refine wt_not ?_ | refine wt_and ?_ | refine wt_or ?_ | refine wt_nil ?_ | refine wt_one ?_ | refine wi_seq ?_ | refine wi_rng ?_ | refine wi_enum ?_ | refine wi_zip ?_ | refine wi_rev ?_ | refine wo_turn ?_ | refine wt_val rfl ?_ | refine ⟨rfl, ?_⟩ | refine ⟨_, rfl, rfl, ?_⟩ | refine ⟨_, _, rfl, rfl, ?_⟩ | refine ⟨_, _, _, rfl, rfl, rfl, ?_⟩ | refine ⟨_, _, _, rfl, rfl, mul_r (by decide), ?_⟩ | refine ⟨_, _, rfl, ?_⟩ | refine ⟨_, rfl, ?_⟩ | refine br_t ?_ | refine br_f ?_ | refine rt_own rfl ?_)
    refine ⟨_, _, _, rfl, rfl, row_add (q := [xs.length]) rfl (by simp; omega), ?_⟩
    repeat (first | refine wf_cons ?_ | refine wf_asg ?_ | refine wf_iff ?_ | refine wf_ret ?_ | refine wf_ex ?_ | refine wf_setI ?_ | refine wf_aug ?_ | refine wf_asgT ?_ | refine wf_nil ?_ | refine wf_retN ?_ | refine wf_pass ?_ | refine wf_brk ?_ | refine wf_cnt ?_ | refine we_cst ?_ | refine we_d rfl ?_ | refine we_l rfl ?_ | refine we_bin ?_ | refine we_cmp ?_ | refine we_chn ?_ | refine we_ix ?_ | refine we_sl ?_ | refine we_blt ?_ | refine we_mut ?_ | refine we_call ?_ | refine we_tup ?_ | refine we_lst ?_ | refine we_not ?_ | refine we_and ?_ | refine we_or ?_ | refine we_ite ?_ | refine we_isN ?_ | refine we_isC ?_ | refine we_neg ?_ | refine we_gcon ?_ | refine we_lc ?_ | refine wa_cons ?_ | refine wa_nil ?_ | refine wp_none ?_ | refine wp_some ?_ | refine wt_not ?_ | refine wt_and ?_ | refine wt_or ?_ | refine wt_nil ?_ | refine wt_one ?_ | refine wi_seq ?_ | refine wi_rng ?_ | refine wi_enum ?_ | refine wi_zip ?_ | refine wi_rev ?_ | refine wo_turn ?_ | refine wt_val rfl ?_ | refine ⟨rfl, ?_⟩ | refine ⟨_, rfl, rfl, ?_⟩ | refine ⟨_, _, rfl, rfl, ?_⟩ | refine ⟨_, _, _, rfl, rfl, rfl, ?_⟩ | refine ⟨_, _, _, rfl, rfl, mul_r (by decide), ?_⟩ | refine ⟨_, _, rfl, ?_⟩ | refine ⟨_, rfl, ?_⟩ | refine br_t ?_ | refine br_f ?_ | refine rt_own rfl ?_)
    obtain ⟨_, y4, rfl⟩ := kat_ok (w := w) (k := k') h3 (by omega) d (r ++ [xs.length]) hK
    rw [e0, ex] at y4
    have q4 : sub (.tup xs) [xs.length] = .non := by simp [sub]
    rw [q4] at y4
    refine we_callV y4 rfl rfl rfl ?_
    repeat (first | refine wf_cons ?_ | refine wf_asg ?_ | refine wf_iff ?_ | refine wf_ret ?_ | refine wf_ex ?_ | refine wf_setI ?_ | refine wf_aug ?_ | refine wf_asgT ?_ | refine wf_nil ?_ | refine wf_retN ?_ | refine wf_pass ?_ | refine wf_brk ?_ | refine wf_cnt ?_ | refine we_cst ?_ | refine we_d rfl ?_ | refine we_l rfl ?_ | refine we_bin ?_ | refine we_cmp ?_ | refine we_chn ?_ | refine we_ix ?_ | refine we_sl ?_ | refine we_blt ?_ | refine we_mut ?_ | refine we_call ?_ | refine we_tup ?_ | refine we_lst ?_ | refine we_not ?_ | refine we_and ?_ | refine we_or ?_ | refine we_ite ?_ | refine we_isN ?_ | refine we_isC ?_ | refine we_neg ?_ | refine we_gcon ?_ | refine we_lc ?_ | refine wa_cons ?_ | refine wa_nil ?_ | refine wp_none ?_ | refine wp_some ?_ | refine wt_not ?_ | refine wt_and ?_ | refine wt_or ?_ | refine wt_nil ?_ | refine wt_one ?_ | refine wi_seq ?_ | refine wi_rng ?_ | refine wi_enum ?_ | refine wi_zip ?_ | refine wi_rev ?_ | refine wo_turn ?_ | refine wt_val rfl ?_ | refine ⟨rfl, ?_⟩ | refine ⟨_, rfl, rfl, ?_⟩ | refine ⟨_, _, rfl, rfl, ?_⟩ | refine ⟨_, _, _, rfl, rfl, rfl, ?_⟩ | refine ⟨_, _, _, rfl, rfl, mul_r (by decide), ?_⟩ | refine ⟨_, _, rfl, ?_⟩ | refine ⟨_, rfl, ?_⟩ | refine br_t ?_ | refine br_f ?_ | refine rt_own rfl ?_)
    refine ⟨_, _, _, rfl, rfl, row_add (q := [xs.length + 1, 0]) rfl (by simp; omega), ?_⟩
    repeat (first | refine wf_cons ?_ | refine wf_asg ?_ | refine wf_iff ?_ | refine wf_ret ?_ | refine wf_ex ?_ | refine wf_setI ?_ | refine wf_aug ?_ | refine wf_asgT ?_ | refine wf_nil ?_ | refine wf_retN ?_ | refine wf_pass ?_ | refine wf_brk ?_ | refine wf_cnt ?_ | refine we_cst ?_ | refine we_d rfl ?_ | refine we_l rfl ?_ | refine we_bin ?_ | refine we_cmp ?_ | refine we_chn ?_ | refine we_ix ?_ | refine we_sl ?_ | refine we_blt ?_ | refine we_mut ?_ | refine we_call ?_ | refine we_tup ?_ | refine we_lst ?_ | refine we_not ?_ | refine we_and ?_ | refine we_or ?_ | refine we_ite ?_ | refine we_isN ?_ | refine we_isC ?_ | refine we_neg ?_ | refine we_gcon ?_ | refine we_lc ?_ | refine wa_cons ?_ | refine wa_nil ?_ | refine wp_none ?_ | refine wp_some ?_ | refine wt_not ?_ | refine wt_and ?_ | refine wt_or ?_ | refine wt_nil ?_ | refine wt_one ?_ | refine wi_seq ?_ | refine wi_rng ?_ | refine wi_enum ?_ | refine wi_zip ?_ | refine wi_rev ?_ | refine wo_turn ?_ | refine wt_val rfl ?_ | refine ⟨rfl, ?_⟩ | refine ⟨_, rfl, rfl, ?_⟩ | refine ⟨_, _, rfl, rfl, ?_⟩ | refine ⟨_, _, _, rfl, rfl, rfl, ?_⟩ | refine ⟨_, _, _, rfl, rfl, mul_r (by decide), ?_⟩ | refine ⟨_, _, rfl, ?_⟩ | refine ⟨_, rfl, ?_⟩ | refine br_t ?_ | refine br_f ?_ | refine rt_own rfl ?_)
    obtain ⟨_, y5, rfl⟩ := kat_ok (w := w) (k := k') h3 (by omega) d (r ++ [xs.length + 1, 0]) hK
    rw [e0, ex] at y5
    have q5 : sub (.tup xs) [xs.length + 1, 0] = .non := by simp [sub]
    rw [q5] at y5
    refine we_callV y5 rfl rfl rfl ?_
    repeat (first | refine wf_cons ?_ | refine wf_asg ?_ | refine wf_iff ?_ | refine wf_ret ?_ | refine wf_ex ?_ | refine wf_setI ?_ | refine wf_aug ?_ | refine wf_asgT ?_ | refine wf_nil ?_ | refine wf_retN ?_ | refine wf_pass ?_ | refine wf_brk ?_ | refine wf_cnt ?_ | refine we_cst ?_ | refine we_d rfl ?_ | refine we_l rfl ?_ | refine we_bin ?_ | refine we_cmp ?_ | refine we_chn ?_ | refine we_ix ?_ | refine we_sl ?_ | refine we_blt ?_ | refine we_mut ?_ | refine we_call ?_ | refine we_tup ?_ | refine we_lst ?_ | refine we_not ?_ | refine we_and ?_ | refine we_or ?_ | refine we_ite ?_ | refine we_isN ?_ | refine we_isC ?_ | refine we_neg ?_ | refine we_gcon ?_ | refine we_lc ?_ | refine wa_cons ?_ | refine wa_nil ?_ | refine wp_none ?_ | refine wp_some ?_ | refine wt_not ?_ | refine wt_and ?_ | refine wt_or ?_ | refine wt_nil ?_ | refine wt_one ?_ | refine wi_seq ?_ | refine wi_rng ?_ | refine wi_enum ?_ | refine wi_zip ?_ | refine wi_rev ?_ | refine wo_turn ?_ | refine wt_val rfl ?_ | refine ⟨rfl, ?_⟩ | refine ⟨_, rfl, rfl, ?_⟩ | refine ⟨_, _, rfl, rfl, ?_⟩ | refine ⟨_, _, _, rfl, rfl, rfl, ?_⟩ | refine ⟨_, _, _, rfl, rfl, mul_r (by decide), ?_⟩ | refine ⟨_, _, rfl, ?_⟩ | refine ⟨_, rfl, ?_⟩ | refine br_t ?_ | refine br_f ?_ | refine rt_own rfl ?_)
    refine ⟨?_, _, _, _, rfl⟩
    show (gd (D.beqs ((plc d).map rowD) ((plc d).map rowD))).bind (fun _ => Res.ok ()) = .ok ()
    rw [D.beqs_refl r2]
    rfl
  · rintro c ⟨a2, a3, a4, rfl⟩
    repeat (first | refine wf_cons ?_ | refine wf_asg ?_ | refine wf_iff ?_ | refine wf_ret ?_ | refine wf_ex ?_ | refine wf_setI ?_ | refine wf_aug ?_ | refine wf_asgT ?_ | refine wf_nil ?_ | refine wf_retN ?_ | refine wf_pass ?_ | refine wf_brk ?_ | refine wf_cnt ?_ | refine we_cst ?_ | refine we_d rfl ?_ | refine we_l rfl ?_ | refine we_bin ?_ | refine we_cmp ?_ | refine we_chn ?_ | refine we_ix ?_ | refine we_sl ?_ | refine we_blt ?_ | refine we_mut ?_ | refine we_call ?_ | refine we_tup ?_ | refine we_lst ?_ | refine we_not ?_ | refine we_and ?_ | refine we_or ?_ | refine we_ite ?_ | refine we_isN ?_ | refine we_isC ?_ | refine we_neg ?_ | refine we_gcon ?_ | refine we_lc ?_ | refine wa_cons ?_ | refine wa_nil ?_ | refine wp_none ?_ | refine wp_some ?_ | refine wt_not ?_ | refine wt_and ?_ | refine wt_or ?_ | refine wt_nil ?_ | refine wt_one ?_ | refine wi_seq ?_ | refine wi_rng ?_ | refine wi_enum ?_ | refine wi_zip ?_ | refine wi_rev ?_ | refine wo_turn ?_ | refine wt_val rfl ?_ | refine ⟨rfl, ?_⟩ | refine ⟨_, rfl, rfl, ?_⟩ | refine ⟨_, _, rfl, rfl, ?_⟩ | refine ⟨_, _, _, rfl, rfl, rfl, ?_⟩ | refine ⟨_, _, _, rfl, rfl, mul_r (by decide), ?_⟩ | refine ⟨_, _, rfl, ?_⟩ | refine ⟨_, rfl, ?_⟩ | refine br_t ?_ | refine br_f ?_ | refine rt_own rfl ?_)
    exact hR _ _ _ rfl rfl
end G
set_option maxHeartbeats 8000000
namespace G
open PySem
def KF (t : D) : Prop := isK t = true ∧ htD t ≤ 4 ∧ szD t ≤ 13
def VF (v : D) : Prop := wlD v = true ∧ htD v ≤ 60 ∧ szD v ≤ 10000
theorem isk_l {P : Prg} {w k : Nat} (h : IsFn P 0 1 3 b_is_kind) (hk : 1 ≤ k) (hw : 2 ≤ w) : ∃ cr, run P w k 0 [.l []] = .ok cr ∧ ∃ o, cr = ⟨.v (.d (.bl false)), [o]⟩ := by
  refine run_by h rfl rfl hk fun k' N R ek hN hR => ?_
  unfold b_is_kind
  repeat (first | refine wf_cons ?_ | refine wf_asg ?_ | refine wf_iff ?_ | refine wf_ret ?_ | refine wf_ex ?_ | refine wf_setI ?_ | refine wf_aug ?_ | refine wf_asgT ?_ | refine wf_nil ?_ | refine wf_retN ?_ | refine wf_pass ?_ | refine wf_brk ?_ | refine wf_cnt ?_ | refine we_cst ?_ | refine we_d rfl ?_ | refine we_l rfl ?_ | refine we_bin ?_ | refine we_cmp ?_ | refine we_chn ?_ | refine we_ix ?_ | refine we_sl ?_ | refine we_blt ?_ | refine we_mut ?_ | refine we_call ?_ | refine we_tup ?_ | refine we_lst ?_ | refine we_not ?_ | refine we_and ?_ | refine we_or ?_ | refine we_ite ?_ | refine we_isN ?_ | refine we_isC ?_ | refine we_neg ?_ | refine we_gcon ?_ | refine we_lc ?_ | refine wa_cons ?_ | refine wa_nil ?_ | refine wp_none ?_ | refine wp_some ?_ | refine wt_not ?_ | refine wt_and ?_ | refine wt_or ?_ | refine wt_nil ?_ | refine wt_one ?_ | refine wi_seq ?_ | refine wi_rng ?_ | refine wi_enum ?_ | refine wi_zip ?_ | refine wi_rev ?_ | refine wo_turn ?_ | refine wt_val rfl ?_ | refine ⟨rfl, ?_⟩ | refine ⟨_, rfl, rfl, ?_⟩ | refine ⟨_, _, rfl, rfl, ?_⟩ | refine ⟨_, _, _, rfl, rfl, rfl, ?_⟩ | refine ⟨_, _, _, rfl, rfl, mul_r (by decide), ?_⟩ | refine ⟨_, _, rfl, ?_⟩ | refine ⟨_, rfl, ?_⟩ | refine br_t ?_ | refine br_f ?_ | refine rt_own rfl ?_)
  refine wf_whl ?_
  refine whileL_inv (fun m c => m = 1 ∧ c = [some (.d (.lst [])), some (.l [.lst []]), none]) ?_ w 1 _ (by omega) ⟨rfl, rfl⟩
  rintro m c ⟨rfl, rfl⟩
  repeat (first | refine wf_cons ?_ | refine wf_asg ?_ | refine wf_iff ?_ | refine wf_ret ?_ | refine wf_ex ?_ | refine wf_setI ?_ | refine wf_aug ?_ | refine wf_asgT ?_ | refine wf_nil ?_ | refine wf_retN ?_ | refine wf_pass ?_ | refine wf_brk ?_ | refine wf_cnt ?_ | refine we_cst ?_ | refine we_d rfl ?_ | refine we_l rfl ?_ | refine we_bin ?_ | refine we_cmp ?_ | refine we_chn ?_ | refine we_ix ?_ | refine we_sl ?_ | refine we_blt ?_ | refine we_mut ?_ | refine we_call ?_ | refine we_tup ?_ | refine we_lst ?_ | refine we_not ?_ | refine we_and ?_ | refine we_or ?_ | refine we_ite ?_ | refine we_isN ?_ | refine we_isC ?_ | refine we_neg ?_ | refine we_gcon ?_ | refine we_lc ?_ | refine wa_cons ?_ | refine wa_nil ?_ | refine wp_none ?_ | refine wp_some ?_ | refine wt_not ?_ | refine wt_and ?_ | refine wt_or ?_ | refine wt_nil ?_ | refine wt_one ?_ | refine wi_seq ?_ | refine wi_rng ?_ | refine wi_enum ?_ | refine wi_zip ?_ | refine wi_rev ?_ | refine wo_turn ?_ | refine wt_val rfl ?_ | refine ⟨rfl, ?_⟩ | refine ⟨_, rfl, rfl, ?_⟩ | refine ⟨_, _, rfl, rfl, ?_⟩ | refine ⟨_, _, _, rfl, rfl, rfl, ?_⟩ | refine ⟨_, _, _, rfl, rfl, mul_r (by decide), ?_⟩ | refine ⟨_, _, rfl, ?_⟩ | refine ⟨_, rfl, ?_⟩ | refine br_t ?_ | refine br_f ?_ | refine rt_own rfl ?_)
  refine ⟨_, _, _, _, _, _, rfl, rfl, rfl, rfl, ?_⟩
  repeat (first | refine wf_cons ?_ | refine wf_asg ?_ | refine wf_iff ?_ | refine wf_ret ?_ | refine wf_ex ?_ | refine wf_setI ?_ | refine wf_aug ?_ | refine wf_asgT ?_ | refine wf_nil ?_ | refine wf_retN ?_ | refine wf_pass ?_ | refine wf_brk ?_ | refine wf_cnt ?_ | refine we_cst ?_ | refine we_d rfl ?_ | refine we_l rfl ?_ | refine we_bin ?_ | refine we_cmp ?_ | refine we_chn ?_ | refine we_ix ?_ | refine we_sl ?_ | refine we_blt ?_ | refine we_mut ?_ | refine we_call ?_ | refine we_tup ?_ | refine we_lst ?_ | refine we_not ?_ | refine we_and ?_ | refine we_or ?_ | refine we_ite ?_ | refine we_isN ?_ | refine we_isC ?_ | refine we_neg ?_ | refine we_gcon ?_ | refine we_lc ?_ | refine wa_cons ?_ | refine wa_nil ?_ | refine wp_none ?_ | refine wp_some ?_ | refine wt_not ?_ | refine wt_and ?_ | refine wt_or ?_ | refine wt_nil ?_ | refine wt_one ?_ | refine wi_seq ?_ | refine wi_rng ?_ | refine wi_enum ?_ | refine wi_zip ?_ | refine wi_rev ?_ | refine wo_turn ?_ | refine wt_val rfl ?_ | refine ⟨rfl, ?_⟩ | refine ⟨_, rfl, rfl, ?_⟩ | refine ⟨_, _, rfl, rfl, ?_⟩ | refine ⟨_, _, _, rfl, rfl, rfl, ?_⟩ | refine ⟨_, _, _, rfl, rfl, mul_r (by decide), ?_⟩ | refine ⟨_, _, rfl, ?_⟩ | refine ⟨_, rfl, ?_⟩ | refine br_t ?_ | refine br_f ?_ | refine rt_own rfl ?_)
  exact hR _ _ _ rfl ⟨_, rfl⟩
theorem KF.vf {t : D} (h : KF t) : VF t := ⟨(isK_wl h.1).1, by have := h.2.1; omega, by have := h.2.2; omega⟩
theorem Spo.vf {t x : D} (h : KF t) (s : Spo t x) : wlD x = true ∧ htD x ≤ 5 ∧ szD x ≤ 16 := ⟨s.1, by have := h.2.1; have := s.2.1; omega, by have := h.2.2; have := s.2.2; omega⟩
mutual
theorem wl_nd : ∀ {d : D}, wlD d = true → d.nd = true
  | .tup ds, h => by unfold wlD at h; unfold D.nd; exact wls_nd h
  | .lst ds, h => by unfold wlD at h; unfold D.nd; exact wls_nd h
  | .dic _, h => by cases h
  | .non, _ => rfl | .bl _, _ => rfl | .int _, _ => rfl | .str _, _ => rfl
theorem wls_nd : ∀ {ds : List D}, wlDs ds = true → D.nds ds = true
  | [], _ => by simp [D.nds]
  | d :: ds, h => by
    unfold wlDs at h
    rw [Bool.and_eq_true] at h
    unfold D.nds
    rw [wl_nd h.1, wls_nd h.2]
    rfl
end
theorem still_l {xs : List D} (h : wlDs xs = true) : (gd (D.beqs xs xs)).bind (fun _ => Res.ok ()) = .ok () := by
  rw [D.beqs_refl (wls_nd h)]
  rfl
theorem rep_mem {n : Nat} {xs : List D} {d : D} (h : d ∈ (List.replicate n xs).flatten) : d ∈ xs := by
  obtain ⟨l, h1, h2⟩ := List.mem_flatten.mp h
  rw [(List.mem_replicate.mp h1).2] at h2
  exact h2
theorem rep_len {n : Nat} {xs : List D} : (List.replicate n xs).flatten.length = n * xs.length := by simp
theorem rep_sz {xs : List D} : ∀ {n : Nat}, szDs (List.replicate n xs).flatten = n * szDs xs
  | 0 => by simp [szDs]
  | n + 1 => by
    rw [List.replicate_succ, List.flatten_cons, szs_app, rep_sz, Nat.add_mul, Nat.one_mul]
    omega
theorem mul_t {xs : List D} {n : Nat} (h1 : 2 ≤ n) (h2 : n ≤ 1000) (h3 : xs.length ≤ 1000) : bop .mul (.d (.tup xs)) (.d (.int n)) = .ok (.d (.tup (List.replicate n xs).flatten)) :=
  bnd (gdT (by rw [decide_eq_true (show (2 : Int) ≤ n by omega), decide_eq_true (show (n : Int) ≤ 1000 by omega), decide_eq_true h3]; rfl)) rfl
theorem add_t {xs ys : List D} (h : xs.length + ys.length ≤ 16777216) : bop .add (.d (.tup xs)) (.d (.tup ys)) = .ok (.d (.tup (xs ++ ys))) := bnd (gdT (fits_of h)) rfl
/-- the great ones -/
theorem big3 {t : D} (h : KF t) : ∃ xs, t = .tup xs ∧ VF (.tup ((List.replicate 25 xs).flatten ++ (List.replicate 50 [.tup []]).flatten)) ∧ xs.length ≤ 13 := by
  obtain ⟨xs, rfl, hK⟩ := isK_tup h.1
  have e1 : htD (.tup xs) = htDs xs + 1 := by simp [htD]
  have e2 : szD (.tup xs) = szDs xs + 1 := by simp [szD]
  have h1 := h.2.1
  have h2 := h.2.2
  have hl : xs.length ≤ szDs xs := sz_len
  refine ⟨xs, rfl, ⟨?_, ?_, ?_⟩, by omega⟩
  · show wlDs _ = true
    rw [wlDs_app, wlDs_of fun d hd => wlDs_mem (isKs_wl hK).1 (rep_mem hd), wlDs_of (ds := (List.replicate 50 [D.tup []]).flatten) fun d hd => by rw [List.mem_singleton.mp (rep_mem hd)]; rfl]
    rfl
  · show htDs _ + 1 ≤ 60
    rw [hts_app]
    have a1 : htDs (List.replicate 25 xs).flatten ≤ htDs xs := hts_of fun d hd => ht_mem (rep_mem hd)
    have a2 : htDs (List.replicate 50 [D.tup []]).flatten ≤ 1 := hts_of fun d hd => by rw [List.mem_singleton.mp (rep_mem hd)]; exact Nat.le_refl _
    omega
  · show szDs _ + 1 ≤ 10000
    rw [szs_app, rep_sz, rep_sz]
    have a2 : szDs [D.tup []] = 1 := by simp [szDs, szD]
    omega
theorem big4 {t : D} (h : KF t) : VF (.tup ((List.replicate 50 [t]).flatten ++ [.non])) := by
  have h1 := h.2.1
  have h2 := h.2.2
  have hw := (isK_wl h.1).1
  refine ⟨?_, ?_, ?_⟩
  · show wlDs _ = true
    rw [wlDs_app, wlDs_of (ds := (List.replicate 50 [t]).flatten) fun d hd => by rw [List.mem_singleton.mp (rep_mem hd)]; exact hw]
    rfl
  · show htDs _ + 1 ≤ 60
    rw [hts_app]
    have a2 : htDs (List.replicate 50 [t]).flatten ≤ htD t := hts_of fun d hd => by rw [List.mem_singleton.mp (rep_mem hd)]; exact Nat.le_refl _
    have a3 : htDs [D.non] = 0 := by simp [htDs, htD]
    omega
  · show szDs _ + 1 ≤ 10000
    rw [szs_app, rep_sz]
    have a2 : szDs [t] = szD t := by simp [szDs]
    have a3 : szDs [D.non] = 1 := by simp [szDs, szD]
    omega
structure Fns (P : Prg) : Prop where
  h0 : IsFn P 0 1 3 b_is_kind
  h1 : IsFn P 1 2 5 b_places_beneath
  h2 : IsFn P 2 1 1 b_places
  h3 : IsFn P 3 2 3 b_kind_at
  h4 : IsFn P 4 1 2 b_depth
  h5 : IsFn P 5 2 2 lb_cell
  h6 : IsFn P 6 3 8 (lb_digits 5)
  h7 : IsFn P 7 2 3 lb_draw
  h8 : IsFn P 8 3 3 (lb_box 6)
  h9 : IsFn P 9 2 3 (lb_same 9)
  h10 : IsFn P 10 2 3 b_L_at
  h11 : IsFn P 11 1 4 b_L_places
  h12 : IsFn P 12 3 5 b_L_kind_deep
  h13 : IsFn P 13 1 2 b_L_is_kind
  h14 : IsFn P 14 1 2 b_L_deep
  h15 : IsFn P 15 2 4 b_L_spoilt_kind
  h16 : IsFn P 16 1 5 b_L_right
  h17 : IsFn P 17 1 9 b_law
def Dt (o : Option Vl) : Prop := o = none ∨ ∃ d, o = some (.d d)
theorem wipe6 {x0 x1 x2 x3 x4 x5 x6 x7 x8 : Option Vl} (h : Dt x6) : wipeO [x0, x1, x2, x3, x4, x5, x6, x7, x8] [6] = .ok [x0, x1, x2, x3, x4, x5, none, x7, x8] := by
  rcases h with rfl | ⟨d, rfl⟩ <;> rfl
def Sts.drop : Nat → Sts → Sts
  | 0, s => s
  | n + 1, .cons _ r => Sts.drop n r
  | _, .nil => .nil
abbrev WL (P : Prg) (w k n : Nat) (R : Rv → Loc → Prop) (N : Loc → Prop) (c : Loc) : Prop := WF (exSs P (callN P w k) w k 1 (b_law.drop n) c) N R (fun _ => False) fun _ => False
def Tail (P : Prg) (w k n : Nat) (ns : List Int) (ds : List Int) (R : Rv → Loc → Prop) (N : Loc → Prop) : Prop :=
  ∀ (t0 t1 t2 t3 t4 : D) (a : Nat) (gs : List D) (a3 a4 a6 a7 a8 : Option Vl), KF t3 → KF t4 → (∀ g ∈ gs, VF g) → gs.length = 3 →
    WL P w k n R N [some (.d (.lst (dis ns))), some (bx ds a), some (.l [t0, t1, t2, t3, t4]), a3, a4, some (.l gs), a6, a7, a8]
def Mid (P : Prg) (w k n : Nat) (ns : List Int) (ds : List Int) (R : Rv → Loc → Prop) (N : Loc → Prop) : Prop :=
  ∀ (t0 t1 t2 t3 t4 : D) (a : Nat) (a3 a4 a6 a7 : Option Vl), KF t0 → KF t1 → KF t2 → KF t3 → KF t4 → Dt a6 →
    WL P w k n R N [some (.d (.lst (dis ns))), some (bx ds a), some (.l [t0, t1, t2, t3, t4]), a3, a4, none, a6, a7, none]
end G
namespace G
open PySem
theorem law_tail {P : Prg} {w k' : Nat} (F : Fns P) (hk : 140 ≤ k') (hw : 20000 ≤ w) {ns ds : List Int} {R : Rv → Loc → Prop} {N : Loc → Prop} (hR : ∀ x0 x1 x2 x3 x4 x5 x6 x7 x8, R (.v (.d (.bl true))) [x0, x1, x2, x3, x4, x5, x6, x7, x8]) : Tail P w k' 6 ns ds R N := by
  intro t0 t1 t2 t3 t4 a gs a3 a4 a6 a7 a8 k3 k4 hg hgl
  obtain ⟨xs3, rfl, v3, l3⟩ := big3 k3
  have v4 := big4 k4
  have hvs : ∀ v ∈ gs ++ [.tup ((List.replicate 25 xs3).flatten ++ (List.replicate 50 [.tup []]).flatten), .tup ((List.replicate 50 [t4]).flatten ++ [.non])], VF v := by
    intro v h
    rcases List.mem_append.mp h with h | h
    · exact hg v h
    · simp only [List.mem_cons, List.not_mem_nil, or_false] at h
      rcases h with rfl | rfl
      · exact v3
      · exact v4
  repeat (first | refine wf_cons ?_ | refine wf_asg ?_ | refine wf_iff ?_ | refine wf_ret ?_ | refine wf_ex ?_ | refine wf_setI ?_ | refine wf_aug ?_ | refine wf_asgT ?_ | refine wf_nil ?_ | refine wf_retN ?_ | refine wf_pass ?_ | refine wf_brk ?_ | refine wf_cnt ?_ | refine we_cst ?_ | refine we_d rfl ?_ | refine we_l rfl ?_ | refine we_bin ?_ | refine we_cmp ?_ | refine we_chn ?_ | refine we_ix ?_ | refine we_sl ?_ | refine we_blt ?_ | refine we_mut ?_ | refine we_call ?_ | refine we_tup ?_ | refine we_lst ?_ | refine we_not ?_ | refine we_and ?_ | refine we_or ?_ | refine we_ite ?_ | refine we_isN ?_ | refine we_isC ?_ | refine we_neg ?_ | refine we_gcon ?_ | refine we_lc ?_ | refine wa_cons ?_ | refine wa_nil ?_ | refine wp_none ?_ | refine wp_some ?_ | refine wt_not ?_ | refine wt_and ?_ | refine wt_or ?_ | refine wt_nil ?_ | refine wt_one ?_ | refine wi_seq ?_ | refine wi_rng ?_ | refine wi_enum ?_ | refine wi_zip ?_ | refine wi_rev ?_ | refine wo_turn ?_ | refine wt_val rfl ?_ | refine ⟨rfl, ?_⟩ | refine ⟨_, rfl, rfl, ?_⟩ | refine ⟨_, _, rfl, rfl, ?_⟩ | refine ⟨_, _, _, rfl, rfl, rfl, ?_⟩ | refine ⟨_, _, _, rfl, rfl, mul_r (by decide), ?_⟩ | refine ⟨_, _, rfl, ?_⟩ | refine ⟨_, rfl, ?_⟩ | refine br_t ?_ | refine br_f ?_ | refine rt_own rfl ?_)
  refine wf_fr ?_
  repeat (first | refine wf_cons ?_ | refine wf_asg ?_ | refine wf_iff ?_ | refine wf_ret ?_ | refine wf_ex ?_ | refine wf_setI ?_ | refine wf_aug ?_ | refine wf_asgT ?_ | refine wf_nil ?_ | refine wf_retN ?_ | refine wf_pass ?_ | refine wf_brk ?_ | refine wf_cnt ?_ | refine we_cst ?_ | refine we_d rfl ?_ | refine we_l rfl ?_ | refine we_bin ?_ | refine we_cmp ?_ | refine we_chn ?_ | refine we_ix ?_ | refine we_sl ?_ | refine we_blt ?_ | refine we_mut ?_ | refine we_call ?_ | refine we_tup ?_ | refine we_lst ?_ | refine we_not ?_ | refine we_and ?_ | refine we_or ?_ | refine we_ite ?_ | refine we_isN ?_ | refine we_isC ?_ | refine we_neg ?_ | refine we_gcon ?_ | refine we_lc ?_ | refine wa_cons ?_ | refine wa_nil ?_ | refine wp_none ?_ | refine wp_some ?_ | refine wt_not ?_ | refine wt_and ?_ | refine wt_or ?_ | refine wt_nil ?_ | refine wt_one ?_ | refine wi_seq ?_ | refine wi_rng ?_ | refine wi_enum ?_ | refine wi_zip ?_ | refine wi_rev ?_ | refine wo_turn ?_ | refine wt_val rfl ?_ | refine ⟨rfl, ?_⟩ | refine ⟨_, rfl, rfl, ?_⟩ | refine ⟨_, _, rfl, rfl, ?_⟩ | refine ⟨_, _, _, rfl, rfl, rfl, ?_⟩ | refine ⟨_, _, _, rfl, rfl, mul_r (by decide), ?_⟩ | refine ⟨_, _, rfl, ?_⟩ | refine ⟨_, rfl, ?_⟩ | refine br_t ?_ | refine br_f ?_ | refine rt_own rfl ?_)
  refine ⟨_, _, _, rfl, rfl, mul_t (n := 25) (by omega) (by omega) (by omega), ?_⟩
  repeat (first | refine wf_cons ?_ | refine wf_asg ?_ | refine wf_iff ?_ | refine wf_ret ?_ | refine wf_ex ?_ | refine wf_setI ?_ | refine wf_aug ?_ | refine wf_asgT ?_ | refine wf_nil ?_ | refine wf_retN ?_ | refine wf_pass ?_ | refine wf_brk ?_ | refine wf_cnt ?_ | refine we_cst ?_ | refine we_d rfl ?_ | refine we_l rfl ?_ | refine we_bin ?_ | refine we_cmp ?_ | refine we_chn ?_ | refine we_ix ?_ | refine we_sl ?_ | refine we_blt ?_ | refine we_mut ?_ | refine we_call ?_ | refine we_tup ?_ | refine we_lst ?_ | refine we_not ?_ | refine we_and ?_ | refine we_or ?_ | refine we_ite ?_ | refine we_isN ?_ | refine we_isC ?_ | refine we_neg ?_ | refine we_gcon ?_ | refine we_lc ?_ | refine wa_cons ?_ | refine wa_nil ?_ | refine wp_none ?_ | refine wp_some ?_ | refine wt_not ?_ | refine wt_and ?_ | refine wt_or ?_ | refine wt_nil ?_ | refine wt_one ?_ | refine wi_seq ?_ | refine wi_rng ?_ | refine wi_enum ?_ | refine wi_zip ?_ | refine wi_rev ?_ | refine wo_turn ?_ | refine wt_val rfl ?_ | refine ⟨rfl, ?_⟩ | refine ⟨_, rfl, rfl, ?_⟩ | refine ⟨_, _, rfl, rfl, ?_⟩ | refine ⟨_, _, _, rfl, rfl, rfl, ?_⟩ | refine ⟨_, _, _, rfl, rfl, mul_r (by decide), ?_⟩ | refine ⟨_, _, rfl, ?_⟩ | refine ⟨_, rfl, ?_⟩ | refine br_t ?_ | refine br_f ?_ | refine rt_own rfl ?_)
  refine ⟨_, _, _, rfl, rfl, add_t (by rw [rep_len]; show _ ≤ _; simp; omega), ?_⟩
  repeat (first | refine wf_cons ?_ | refine wf_asg ?_ | refine wf_iff ?_ | refine wf_ret ?_ | refine wf_ex ?_ | refine wf_setI ?_ | refine wf_aug ?_ | refine wf_asgT ?_ | refine wf_nil ?_ | refine wf_retN ?_ | refine wf_pass ?_ | refine wf_brk ?_ | refine wf_cnt ?_ | refine we_cst ?_ | refine we_d rfl ?_ | refine we_l rfl ?_ | refine we_bin ?_ | refine we_cmp ?_ | refine we_chn ?_ | refine we_ix ?_ | refine we_sl ?_ | refine we_blt ?_ | refine we_mut ?_ | refine we_call ?_ | refine we_tup ?_ | refine we_lst ?_ | refine we_not ?_ | refine we_and ?_ | refine we_or ?_ | refine we_ite ?_ | refine we_isN ?_ | refine we_isC ?_ | refine we_neg ?_ | refine we_gcon ?_ | refine we_lc ?_ | refine wa_cons ?_ | refine wa_nil ?_ | refine wp_none ?_ | refine wp_some ?_ | refine wt_not ?_ | refine wt_and ?_ | refine wt_or ?_ | refine wt_nil ?_ | refine wt_one ?_ | refine wi_seq ?_ | refine wi_rng ?_ | refine wi_enum ?_ | refine wi_zip ?_ | refine wi_rev ?_ | refine wo_turn ?_ | refine wt_val rfl ?_ | refine ⟨rfl, ?_⟩ | refine ⟨_, rfl, rfl, ?_⟩ | refine ⟨_, _, rfl, rfl, ?_⟩ | refine ⟨_, _, _, rfl, rfl, rfl, ?_⟩ | refine ⟨_, _, _, rfl, rfl, mul_r (by decide), ?_⟩ | refine ⟨_, _, rfl, ?_⟩ | refine ⟨_, rfl, ?_⟩ | refine br_t ?_ | refine br_f ?_ | refine rt_own rfl ?_)
  trace_state
  refine ⟨_, _, _, rfl, rfl, bnd (gdT (fits_of (by simp; omega))) rfl, ?_⟩
  repeat (first | refine wf_cons ?_ | refine wf_asg ?_ | refine wf_iff ?_ | refine wf_ret ?_ | refine wf_ex ?_ | refine wf_setI ?_ | refine wf_aug ?_ | refine wf_asgT ?_ | refine wf_nil ?_ | refine wf_retN ?_ | refine wf_pass ?_ | refine wf_brk ?_ | refine wf_cnt ?_ | refine we_cst ?_ | refine we_d rfl ?_ | refine we_l rfl ?_ | refine we_bin ?_ | refine we_cmp ?_ | refine we_chn ?_ | refine we_ix ?_ | refine we_sl ?_ | refine we_blt ?_ | refine we_mut ?_ | refine we_call ?_ | refine we_tup ?_ | refine we_lst ?_ | refine we_not ?_ | refine we_and ?_ | refine we_or ?_ | refine we_ite ?_ | refine we_isN ?_ | refine we_isC ?_ | refine we_neg ?_ | refine we_gcon ?_ | refine we_lc ?_ | refine wa_cons ?_ | refine wa_nil ?_ | refine wp_none ?_ | refine wp_some ?_ | refine wt_not ?_ | refine wt_and ?_ | refine wt_or ?_ | refine wt_nil ?_ | refine wt_one ?_ | refine wi_seq ?_ | refine wi_rng ?_ | refine wi_enum ?_ | refine wi_zip ?_ | refine wi_rev ?_ | refine wo_turn ?_ | refine wt_val rfl ?_ | refine ⟨rfl, ?_⟩ | refine ⟨_, rfl, rfl, ?_⟩ | refine ⟨_, _, rfl, rfl, ?_⟩ | refine ⟨_, _, _, rfl, rfl, rfl, ?_⟩ | refine ⟨_, _, _, rfl, rfl, mul_r (by decide), ?_⟩ | refine ⟨_, _, rfl, ?_⟩ | refine ⟨_, rfl, ?_⟩ | refine br_t ?_ | refine br_f ?_ | refine rt_own rfl ?_)
  simp only [stillF_nil, stillF_v]
  refine for_inv (its := gs ++ [.tup ((List.replicate 25 xs3).flatten ++ (List.replicate 50 [.tup []]).flatten), .tup ((List.replicate 50 [t4]).flatten ++ [.non])]) (fun i c => ∃ a6, c = [some (.d (.lst (dis ns))), some (bx ds a), some (.l [t0, t1, t2, .tup xs3, t4]), a3, a4, some (.l gs), a6, a7, a8]) ⟨a6, rfl⟩ ?_ ?_
  · rintro i d c hi ⟨a6, rfl⟩
    have hv := hvs d (List.mem_of_getElem? hi)
    refine ⟨_, rfl, ?_⟩
    repeat (first | refine wf_cons ?_ | refine wf_asg ?_ | refine wf_iff ?_ | refine wf_ret ?_ | refine wf_ex ?_ | refine wf_setI ?_ | refine wf_aug ?_ | refine wf_asgT ?_ | refine wf_nil ?_ | refine wf_retN ?_ | refine wf_pass ?_ | refine wf_brk ?_ | refine wf_cnt ?_ | refine we_cst ?_ | refine we_d rfl ?_ | refine we_l rfl ?_ | refine we_bin ?_ | refine we_cmp ?_ | refine we_chn ?_ | refine we_ix ?_ | refine we_sl ?_ | refine we_blt ?_ | refine we_mut ?_ | refine we_call ?_ | refine we_tup ?_ | refine we_lst ?_ | refine we_not ?_ | refine we_and ?_ | refine we_or ?_ | refine we_ite ?_ | refine we_isN ?_ | refine we_isC ?_ | refine we_neg ?_ | refine we_gcon ?_ | refine we_lc ?_ | refine wa_cons ?_ | refine wa_nil ?_ | refine wp_none ?_ | refine wp_some ?_ | refine wt_not ?_ | refine wt_and ?_ | refine wt_or ?_ | refine wt_nil ?_ | refine wt_one ?_ | refine wi_seq ?_ | refine wi_rng ?_ | refine wi_enum ?_ | refine wi_zip ?_ | refine wi_rev ?_ | refine wo_turn ?_ | refine wt_val rfl ?_ | refine ⟨rfl, ?_⟩ | refine ⟨_, rfl, rfl, ?_⟩ | refine ⟨_, _, rfl, rfl, ?_⟩ | refine ⟨_, _, _, rfl, rfl, rfl, ?_⟩ | refine ⟨_, _, _, rfl, rfl, mul_r (by decide), ?_⟩ | refine ⟨_, _, rfl, ?_⟩ | refine ⟨_, rfl, ?_⟩ | refine br_t ?_ | refine br_f ?_ | refine rt_own rfl ?_)
    obtain ⟨_, y1, rfl⟩ := isk_ok (w := w) (k := k') F.h0 (by omega) d hv.1 (by have := hv.2.2; omega) (by have := hv.2.2; omega)
    refine we_callV y1 rfl rfl rfl ?_
    repeat (first | refine wf_cons ?_ | refine wf_asg ?_ | refine wf_iff ?_ | refine wf_ret ?_ | refine wf_ex ?_ | refine wf_setI ?_ | refine wf_aug ?_ | refine wf_asgT ?_ | refine wf_nil ?_ | refine wf_retN ?_ | refine wf_pass ?_ | refine wf_brk ?_ | refine wf_cnt ?_ | refine we_cst ?_ | refine we_d rfl ?_ | refine we_l rfl ?_ | refine we_bin ?_ | refine we_cmp ?_ | refine we_chn ?_ | refine we_ix ?_ | refine we_sl ?_ | refine we_blt ?_ | refine we_mut ?_ | refine we_call ?_ | refine we_tup ?_ | refine we_lst ?_ | refine we_not ?_ | refine we_and ?_ | refine we_or ?_ | refine we_ite ?_ | refine we_isN ?_ | refine we_isC ?_ | refine we_neg ?_ | refine we_gcon ?_ | refine we_lc ?_ | refine wa_cons ?_ | refine wa_nil ?_ | refine wp_none ?_ | refine wp_some ?_ | refine wt_not ?_ | refine wt_and ?_ | refine wt_or ?_ | refine wt_nil ?_ | refine wt_one ?_ | refine wi_seq ?_ | refine wi_rng ?_ | refine wi_enum ?_ | refine wi_zip ?_ | refine wi_rev ?_ | refine wo_turn ?_ | refine wt_val rfl ?_ | refine ⟨rfl, ?_⟩ | refine ⟨_, rfl, rfl, ?_⟩ | refine ⟨_, _, rfl, rfl, ?_⟩ | refine ⟨_, _, _, rfl, rfl, rfl, ?_⟩ | refine ⟨_, _, _, rfl, rfl, mul_r (by decide), ?_⟩ | refine ⟨_, _, rfl, ?_⟩ | refine ⟨_, rfl, ?_⟩ | refine br_t ?_ | refine br_f ?_ | refine rt_own rfl ?_)
    obtain ⟨_, y2, rfl⟩ := lisk_ok (w := w) F.h13 60 d k' hv.2.1 (by omega) (by omega) hv.1 (by have := hv.2.2; omega)
    refine we_callV y2 rfl rfl rfl ?_
    repeat (first | refine wf_cons ?_ | refine wf_asg ?_ | refine wf_iff ?_ | refine wf_ret ?_ | refine wf_ex ?_ | refine wf_setI ?_ | refine wf_aug ?_ | refine wf_asgT ?_ | refine wf_nil ?_ | refine wf_retN ?_ | refine wf_pass ?_ | refine wf_brk ?_ | refine wf_cnt ?_ | refine we_cst ?_ | refine we_d rfl ?_ | refine we_l rfl ?_ | refine we_bin ?_ | refine we_cmp ?_ | refine we_chn ?_ | refine we_ix ?_ | refine we_sl ?_ | refine we_blt ?_ | refine we_mut ?_ | refine we_call ?_ | refine we_tup ?_ | refine we_lst ?_ | refine we_not ?_ | refine we_and ?_ | refine we_or ?_ | refine we_ite ?_ | refine we_isN ?_ | refine we_isC ?_ | refine we_neg ?_ | refine we_gcon ?_ | refine we_lc ?_ | refine wa_cons ?_ | refine wa_nil ?_ | refine wp_none ?_ | refine wp_some ?_ | refine wt_not ?_ | refine wt_and ?_ | refine wt_or ?_ | refine wt_nil ?_ | refine wt_one ?_ | refine wi_seq ?_ | refine wi_rng ?_ | refine wi_enum ?_ | refine wi_zip ?_ | refine wi_rev ?_ | refine wo_turn ?_ | refine wt_val rfl ?_ | refine ⟨rfl, ?_⟩ | refine ⟨_, rfl, rfl, ?_⟩ | refine ⟨_, _, rfl, rfl, ?_⟩ | refine ⟨_, _, _, rfl, rfl, rfl, ?_⟩ | refine ⟨_, _, _, rfl, rfl, mul_r (by decide), ?_⟩ | refine ⟨_, _, rfl, ?_⟩ | refine ⟨_, rfl, ?_⟩ | refine br_t ?_ | refine br_f ?_ | refine rt_own rfl ?_)
    obtain ⟨_, y3, rfl⟩ := same_ok (w := w) F.h9 0 (.bl (isK d)) k' (Nat.zero_le _) (by omega) rfl (by show 1 ≤ _; omega)
    refine we_callV y3 rfl rfl rfl ?_
    repeat (first | refine wf_cons ?_ | refine wf_asg ?_ | refine wf_iff ?_ | refine wf_ret ?_ | refine wf_ex ?_ | refine wf_setI ?_ | refine wf_aug ?_ | refine wf_asgT ?_ | refine wf_nil ?_ | refine wf_retN ?_ | refine wf_pass ?_ | refine wf_brk ?_ | refine wf_cnt ?_ | refine we_cst ?_ | refine we_d rfl ?_ | refine we_l rfl ?_ | refine we_bin ?_ | refine we_cmp ?_ | refine we_chn ?_ | refine we_ix ?_ | refine we_sl ?_ | refine we_blt ?_ | refine we_mut ?_ | refine we_call ?_ | refine we_tup ?_ | refine we_lst ?_ | refine we_not ?_ | refine we_and ?_ | refine we_or ?_ | refine we_ite ?_ | refine we_isN ?_ | refine we_isC ?_ | refine we_neg ?_ | refine we_gcon ?_ | refine we_lc ?_ | refine wa_cons ?_ | refine wa_nil ?_ | refine wp_none ?_ | refine wp_some ?_ | refine wt_not ?_ | refine wt_and ?_ | refine wt_or ?_ | refine wt_nil ?_ | refine wt_one ?_ | refine wi_seq ?_ | refine wi_rng ?_ | refine wi_enum ?_ | refine wi_zip ?_ | refine wi_rev ?_ | refine wo_turn ?_ | refine wt_val rfl ?_ | refine ⟨rfl, ?_⟩ | refine ⟨_, rfl, rfl, ?_⟩ | refine ⟨_, _, rfl, rfl, ?_⟩ | refine ⟨_, _, _, rfl, rfl, rfl, ?_⟩ | refine ⟨_, _, _, rfl, rfl, mul_r (by decide), ?_⟩ | refine ⟨_, _, rfl, ?_⟩ | refine ⟨_, rfl, ?_⟩ | refine br_t ?_ | refine br_f ?_ | refine rt_own rfl ?_)
    exact ⟨_, rfl⟩
  rintro c ⟨a6, rfl⟩
  repeat (first | refine wf_cons ?_ | refine wf_asg ?_ | refine wf_iff ?_ | refine wf_ret ?_ | refine wf_ex ?_ | refine wf_setI ?_ | refine wf_aug ?_ | refine wf_asgT ?_ | refine wf_nil ?_ | refine wf_retN ?_ | refine wf_pass ?_ | refine wf_brk ?_ | refine wf_cnt ?_ | refine we_cst ?_ | refine we_d rfl ?_ | refine we_l rfl ?_ | refine we_bin ?_ | refine we_cmp ?_ | refine we_chn ?_ | refine we_ix ?_ | refine we_sl ?_ | refine we_blt ?_ | refine we_mut ?_ | refine we_call ?_ | refine we_tup ?_ | refine we_lst ?_ | refine we_not ?_ | refine we_and ?_ | refine we_or ?_ | refine we_ite ?_ | refine we_isN ?_ | refine we_isC ?_ | refine we_neg ?_ | refine we_gcon ?_ | refine we_lc ?_ | refine wa_cons ?_ | refine wa_nil ?_ | refine wp_none ?_ | refine wp_some ?_ | refine wt_not ?_ | refine wt_and ?_ | refine wt_or ?_ | refine wt_nil ?_ | refine wt_one ?_ | refine wi_seq ?_ | refine wi_rng ?_ | refine wi_enum ?_ | refine wi_zip ?_ | refine wi_rev ?_ | refine wo_turn ?_ | refine wt_val rfl ?_ | refine ⟨rfl, ?_⟩ | refine ⟨_, rfl, rfl, ?_⟩ | refine ⟨_, _, rfl, rfl, ?_⟩ | refine ⟨_, _, _, rfl, rfl, rfl, ?_⟩ | refine ⟨_, _, _, rfl, rfl, mul_r (by decide), ?_⟩ | refine ⟨_, _, rfl, ?_⟩ | refine ⟨_, rfl, ?_⟩ | refine br_t ?_ | refine br_f ?_ | refine rt_own rfl ?_)
  obtain ⟨_, x1, o, rfl⟩ := isk_l (w := w) (k := k') F.h0 (by omega) (by omega)
  refine we_callV x1 rfl rfl rfl ?_
  repeat (first | refine wf_cons ?_ | refine wf_asg ?_ | refine wf_iff ?_ | refine wf_ret ?_ | refine wf_ex ?_ | refine wf_setI ?_ | refine wf_aug ?_ | refine wf_asgT ?_ | refine wf_nil ?_ | refine wf_retN ?_ | refine wf_pass ?_ | refine wf_brk ?_ | refine wf_cnt ?_ | refine we_cst ?_ | refine we_d rfl ?_ | refine we_l rfl ?_ | refine we_bin ?_ | refine we_cmp ?_ | refine we_chn ?_ | refine we_ix ?_ | refine we_sl ?_ | refine we_blt ?_ | refine we_mut ?_ | refine we_call ?_ | refine we_tup ?_ | refine we_lst ?_ | refine we_not ?_ | refine we_and ?_ | refine we_or ?_ | refine we_ite ?_ | refine we_isN ?_ | refine we_isC ?_ | refine we_neg ?_ | refine we_gcon ?_ | refine we_lc ?_ | refine wa_cons ?_ | refine wa_nil ?_ | refine wp_none ?_ | refine wp_some ?_ | refine wt_not ?_ | refine wt_and ?_ | refine wt_or ?_ | refine wt_nil ?_ | refine wt_one ?_ | refine wi_seq ?_ | refine wi_rng ?_ | refine wi_enum ?_ | refine wi_zip ?_ | refine wi_rev ?_ | refine wo_turn ?_ | refine wt_val rfl ?_ | refine ⟨rfl, ?_⟩ | refine ⟨_, rfl, rfl, ?_⟩ | refine ⟨_, _, rfl, rfl, ?_⟩ | refine ⟨_, _, _, rfl, rfl, rfl, ?_⟩ | refine ⟨_, _, _, rfl, rfl, mul_r (by decide), ?_⟩ | refine ⟨_, _, rfl, ?_⟩ | refine ⟨_, rfl, ?_⟩ | refine br_t ?_ | refine br_f ?_ | refine rt_own rfl ?_)
  obtain ⟨_, x2, rfl⟩ := isk_ok (w := w) (k := k') F.h0 (by omega) .non rfl (by show 1 ≤ _; omega) (by show 1 < _; omega)
  refine we_callV x2 rfl rfl rfl ?_
  repeat (first | refine wf_cons ?_ | refine wf_asg ?_ | refine wf_iff ?_ | refine wf_ret ?_ | refine wf_ex ?_ | refine wf_setI ?_ | refine wf_aug ?_ | refine wf_asgT ?_ | refine wf_nil ?_ | refine wf_retN ?_ | refine wf_pass ?_ | refine wf_brk ?_ | refine wf_cnt ?_ | refine we_cst ?_ | refine we_d rfl ?_ | refine we_l rfl ?_ | refine we_bin ?_ | refine we_cmp ?_ | refine we_chn ?_ | refine we_ix ?_ | refine we_sl ?_ | refine we_blt ?_ | refine we_mut ?_ | refine we_call ?_ | refine we_tup ?_ | refine we_lst ?_ | refine we_not ?_ | refine we_and ?_ | refine we_or ?_ | refine we_ite ?_ | refine we_isN ?_ | refine we_isC ?_ | refine we_neg ?_ | refine we_gcon ?_ | refine we_lc ?_ | refine wa_cons ?_ | refine wa_nil ?_ | refine wp_none ?_ | refine wp_some ?_ | refine wt_not ?_ | refine wt_and ?_ | refine wt_or ?_ | refine wt_nil ?_ | refine wt_one ?_ | refine wi_seq ?_ | refine wi_rng ?_ | refine wi_enum ?_ | refine wi_zip ?_ | refine wi_rev ?_ | refine wo_turn ?_ | refine wt_val rfl ?_ | refine ⟨rfl, ?_⟩ | refine ⟨_, rfl, rfl, ?_⟩ | refine ⟨_, _, rfl, rfl, ?_⟩ | refine ⟨_, _, _, rfl, rfl, rfl, ?_⟩ | refine ⟨_, _, _, rfl, rfl, mul_r (by decide), ?_⟩ | refine ⟨_, _, rfl, ?_⟩ | refine ⟨_, rfl, ?_⟩ | refine br_t ?_ | refine br_f ?_ | refine rt_own rfl ?_)
  obtain ⟨_, x3, rfl⟩ := isk_ok (w := w) (k := k') F.h0 (by omega) (.int 0) rfl (by show 1 ≤ _; omega) (by show 1 < _; omega)
  refine we_callV x3 rfl rfl rfl ?_
  repeat (first | refine wf_cons ?_ | refine wf_asg ?_ | refine wf_iff ?_ | refine wf_ret ?_ | refine wf_ex ?_ | refine wf_setI ?_ | refine wf_aug ?_ | refine wf_asgT ?_ | refine wf_nil ?_ | refine wf_retN ?_ | refine wf_pass ?_ | refine wf_brk ?_ | refine wf_cnt ?_ | refine we_cst ?_ | refine we_d rfl ?_ | refine we_l rfl ?_ | refine we_bin ?_ | refine we_cmp ?_ | refine we_chn ?_ | refine we_ix ?_ | refine we_sl ?_ | refine we_blt ?_ | refine we_mut ?_ | refine we_call ?_ | refine we_tup ?_ | refine we_lst ?_ | refine we_not ?_ | refine we_and ?_ | refine we_or ?_ | refine we_ite ?_ | refine we_isN ?_ | refine we_isC ?_ | refine we_neg ?_ | refine we_gcon ?_ | refine we_lc ?_ | refine wa_cons ?_ | refine wa_nil ?_ | refine wp_none ?_ | refine wp_some ?_ | refine wt_not ?_ | refine wt_and ?_ | refine wt_or ?_ | refine wt_nil ?_ | refine wt_one ?_ | refine wi_seq ?_ | refine wi_rng ?_ | refine wi_enum ?_ | refine wi_zip ?_ | refine wi_rev ?_ | refine wo_turn ?_ | refine wt_val rfl ?_ | refine ⟨rfl, ?_⟩ | refine ⟨_, rfl, rfl, ?_⟩ | refine ⟨_, _, rfl, rfl, ?_⟩ | refine ⟨_, _, _, rfl, rfl, rfl, ?_⟩ | refine ⟨_, _, _, rfl, rfl, mul_r (by decide), ?_⟩ | refine ⟨_, _, rfl, ?_⟩ | refine ⟨_, rfl, ?_⟩ | refine br_t ?_ | refine br_f ?_ | refine rt_own rfl ?_)
  obtain ⟨_, x4, rfl⟩ := isk_ok (w := w) (k := k') F.h0 (by omega) (.str "") wl_s0 (by show 1 ≤ _; omega) (by show 1 < _; omega)
  refine we_callV x4 rfl rfl rfl ?_
  repeat (first | refine wf_cons ?_ | refine wf_asg ?_ | refine wf_iff ?_ | refine wf_ret ?_ | refine wf_ex ?_ | refine wf_setI ?_ | refine wf_aug ?_ | refine wf_asgT ?_ | refine wf_nil ?_ | refine wf_retN ?_ | refine wf_pass ?_ | refine wf_brk ?_ | refine wf_cnt ?_ | refine we_cst ?_ | refine we_d rfl ?_ | refine we_l rfl ?_ | refine we_bin ?_ | refine we_cmp ?_ | refine we_chn ?_ | refine we_ix ?_ | refine we_sl ?_ | refine we_blt ?_ | refine we_mut ?_ | refine we_call ?_ | refine we_tup ?_ | refine we_lst ?_ | refine we_not ?_ | refine we_and ?_ | refine we_or ?_ | refine we_ite ?_ | refine we_isN ?_ | refine we_isC ?_ | refine we_neg ?_ | refine we_gcon ?_ | refine we_lc ?_ | refine wa_cons ?_ | refine wa_nil ?_ | refine wp_none ?_ | refine wp_some ?_ | refine wt_not ?_ | refine wt_and ?_ | refine wt_or ?_ | refine wt_nil ?_ | refine wt_one ?_ | refine wi_seq ?_ | refine wi_rng ?_ | refine wi_enum ?_ | refine wi_zip ?_ | refine wi_rev ?_ | refine wo_turn ?_ | refine wt_val rfl ?_ | refine ⟨rfl, ?_⟩ | refine ⟨_, rfl, rfl, ?_⟩ | refine ⟨_, _, rfl, rfl, ?_⟩ | refine ⟨_, _, _, rfl, rfl, rfl, ?_⟩ | refine ⟨_, _, _, rfl, rfl, mul_r (by decide), ?_⟩ | refine ⟨_, _, rfl, ?_⟩ | refine ⟨_, rfl, ?_⟩ | refine br_t ?_ | refine br_f ?_ | refine rt_own rfl ?_)
  exact hR _ _ _ _ _ _ _ _ _
end G
namespace G
open PySem
theorem law_mid {P : Prg} {w k : Nat} (F : Fns P) (hk : 140 ≤ k) (hw : 20000 ≤ w) {ns ds : List Int} {R : Rv → Loc → Prop} {N : Loc → Prop} (T : Tail P w k 6 ns ds R N) : Mid P w k 4 ns ds R N := by
  intro t0 t1 t2 t3 t4 a a3 a4 a6 a7 k0 k1 k2 k3 k4 h6
  repeat (first | refine wf_cons ?_ | refine wf_asg ?_ | refine wf_iff ?_ | refine wf_ret ?_ | refine wf_ex ?_ | refine wf_setI ?_ | refine wf_aug ?_ | refine wf_asgT ?_ | refine wf_nil ?_ | refine wf_retN ?_ | refine wf_pass ?_ | refine wf_brk ?_ | refine wf_cnt ?_ | refine we_cst ?_ | refine we_d rfl ?_ | refine we_l rfl ?_ | refine we_bin ?_ | refine we_cmp ?_ | refine we_chn ?_ | refine we_ix ?_ | refine we_sl ?_ | refine we_blt ?_ | refine we_mut ?_ | refine we_call ?_ | refine we_tup ?_ | refine we_lst ?_ | refine we_not ?_ | refine we_and ?_ | refine we_or ?_ | refine we_ite ?_ | refine we_isN ?_ | refine we_isC ?_ | refine we_neg ?_ | refine we_gcon ?_ | refine we_lc ?_ | refine wa_cons ?_ | refine wa_nil ?_ | refine wp_none ?_ | refine wp_some ?_ | refine wt_not ?_ | refine wt_and ?_ | refine wt_or ?_ | refine wt_nil ?_ | refine wt_one ?_ | refine wi_seq ?_ | refine wi_rng ?_ | refine wi_enum ?_ | refine wi_zip ?_ | refine wi_rev ?_ | refine wo_turn ?_ | refine wt_val rfl ?_ | refine ⟨rfl, ?_⟩ | refine ⟨_, rfl, rfl, ?_⟩ | refine ⟨_, _, rfl, rfl, ?_⟩ | refine ⟨_, _, _, rfl, rfl, rfl, ?_⟩ | refine ⟨_, _, _, rfl, rfl, mul_r (by decide), ?_⟩ | refine ⟨_, _, rfl, ?_⟩ | refine ⟨_, rfl, ?_⟩ | refine br_t ?_ | refine br_f ?_ | refine rt_own rfl ?_)
  obtain ⟨_, y5, x, a', rfl, hs⟩ := spo_ok (w := w) F.h7 F.h15 ds 4 a t1 k k1.2.1 (by omega) (by omega) k1.1 (by have := k1.2.2; omega)
  have hs := hs.vf k1
  refine we_callV y5 rfl rfl rfl ?_
  repeat (first | refine wf_cons ?_ | refine wf_asg ?_ | refine wf_iff ?_ | refine wf_ret ?_ | refine wf_ex ?_ | refine wf_setI ?_ | refine wf_aug ?_ | refine wf_asgT ?_ | refine wf_nil ?_ | refine wf_retN ?_ | refine wf_pass ?_ | refine wf_brk ?_ | refine wf_cnt ?_ | refine we_cst ?_ | refine we_d rfl ?_ | refine we_l rfl ?_ | refine we_bin ?_ | refine we_cmp ?_ | refine we_chn ?_ | refine we_ix ?_ | refine we_sl ?_ | refine we_blt ?_ | refine we_mut ?_ | refine we_call ?_ | refine we_tup ?_ | refine we_lst ?_ | refine we_not ?_ | refine we_and ?_ | refine we_or ?_ | refine we_ite ?_ | refine we_isN ?_ | refine we_isC ?_ | refine we_neg ?_ | refine we_gcon ?_ | refine we_lc ?_ | refine wa_cons ?_ | refine wa_nil ?_ | refine wp_none ?_ | refine wp_some ?_ | refine wt_not ?_ | refine wt_and ?_ | refine wt_or ?_ | refine wt_nil ?_ | refine wt_one ?_ | refine wi_seq ?_ | refine wi_rng ?_ | refine wi_enum ?_ | refine wi_zip ?_ | refine wi_rev ?_ | refine wo_turn ?_ | refine wt_val rfl ?_ | refine ⟨rfl, ?_⟩ | refine ⟨_, rfl, rfl, ?_⟩ | refine ⟨_, _, rfl, rfl, ?_⟩ | refine ⟨_, _, _, rfl, rfl, rfl, ?_⟩ | refine ⟨_, _, _, rfl, rfl, mul_r (by decide), ?_⟩ | refine ⟨_, _, rfl, ?_⟩ | refine ⟨_, rfl, ?_⟩ | refine br_t ?_ | refine br_f ?_ | refine rt_own rfl ?_)
  refine wf_fr ?_
  repeat (first | refine wf_cons ?_ | refine wf_asg ?_ | refine wf_iff ?_ | refine wf_ret ?_ | refine wf_ex ?_ | refine wf_setI ?_ | refine wf_aug ?_ | refine wf_asgT ?_ | refine wf_nil ?_ | refine wf_retN ?_ | refine wf_pass ?_ | refine wf_brk ?_ | refine wf_cnt ?_ | refine we_cst ?_ | refine we_d rfl ?_ | refine we_l rfl ?_ | refine we_bin ?_ | refine we_cmp ?_ | refine we_chn ?_ | refine we_ix ?_ | refine we_sl ?_ | refine we_blt ?_ | refine we_mut ?_ | refine we_call ?_ | refine we_tup ?_ | refine we_lst ?_ | refine we_not ?_ | refine we_and ?_ | refine we_or ?_ | refine we_ite ?_ | refine we_isN ?_ | refine we_isC ?_ | refine we_neg ?_ | refine we_gcon ?_ | refine we_lc ?_ | refine wa_cons ?_ | refine wa_nil ?_ | refine wp_none ?_ | refine wp_some ?_ | refine wt_not ?_ | refine wt_and ?_ | refine wt_or ?_ | refine wt_nil ?_ | refine wt_one ?_ | refine wi_seq ?_ | refine wi_rng ?_ | refine wi_enum ?_ | refine wi_zip ?_ | refine wi_rev ?_ | refine wo_turn ?_ | refine wt_val rfl ?_ | refine ⟨rfl, ?_⟩ | refine ⟨_, rfl, rfl, ?_⟩ | refine ⟨_, _, rfl, rfl, ?_⟩ | refine ⟨_, _, _, rfl, rfl, rfl, ?_⟩ | refine ⟨_, _, _, rfl, rfl, mul_r (by decide), ?_⟩ | refine ⟨_, _, rfl, ?_⟩ | refine ⟨_, rfl, ?_⟩ | refine br_t ?_ | refine br_f ?_ | refine rt_own rfl ?_)
  obtain ⟨_, y6, r, hr, rfl⟩ := draw_ok (w := w) (k := k) F.h7 (by omega) ds a' 10 (by omega)
  refine we_callV (by exact y6) rfl rfl rfl ?_
  repeat (first | refine wf_cons ?_ | refine wf_asg ?_ | refine wf_iff ?_ | refine wf_ret ?_ | refine wf_ex ?_ | refine wf_setI ?_ | refine wf_aug ?_ | refine wf_asgT ?_ | refine wf_nil ?_ | refine wf_retN ?_ | refine wf_pass ?_ | refine wf_brk ?_ | refine wf_cnt ?_ | refine we_cst ?_ | refine we_d rfl ?_ | refine we_l rfl ?_ | refine we_bin ?_ | refine we_cmp ?_ | refine we_chn ?_ | refine we_ix ?_ | refine we_sl ?_ | refine we_blt ?_ | refine we_mut ?_ | refine we_call ?_ | refine we_tup ?_ | refine we_lst ?_ | refine we_not ?_ | refine we_and ?_ | refine we_or ?_ | refine we_ite ?_ | refine we_isN ?_ | refine we_isC ?_ | refine we_neg ?_ | refine we_gcon ?_ | refine we_lc ?_ | refine wa_cons ?_ | refine wa_nil ?_ | refine wp_none ?_ | refine wp_some ?_ | refine wt_not ?_ | refine wt_and ?_ | refine wt_or ?_ | refine wt_nil ?_ | refine wt_one ?_ | refine wi_seq ?_ | refine wi_rng ?_ | refine wi_enum ?_ | refine wi_zip ?_ | refine wi_rev ?_ | refine wo_turn ?_ | refine wt_val rfl ?_ | refine ⟨rfl, ?_⟩ | refine ⟨_, rfl, rfl, ?_⟩ | refine ⟨_, _, rfl, rfl, ?_⟩ | refine ⟨_, _, _, rfl, rfl, rfl, ?_⟩ | refine ⟨_, _, _, rfl, rfl, mul_r (by decide), ?_⟩ | refine ⟨_, _, rfl, ?_⟩ | refine ⟨_, rfl, ?_⟩ | refine br_t ?_ | refine br_f ?_ | refine rt_own rfl ?_)
  refine ⟨_, _, _, rfl, rfl, (by rw [show (25 : Int) + (r : Int) = ((25 + r : Nat) : Int) by omega]; exact rng1 (by omega)), ?_⟩
  repeat (first | refine wf_cons ?_ | refine wf_asg ?_ | refine wf_iff ?_ | refine wf_ret ?_ | refine wf_ex ?_ | refine wf_setI ?_ | refine wf_aug ?_ | refine wf_asgT ?_ | refine wf_nil ?_ | refine wf_retN ?_ | refine wf_pass ?_ | refine wf_brk ?_ | refine wf_cnt ?_ | refine we_cst ?_ | refine we_d rfl ?_ | refine we_l rfl ?_ | refine we_bin ?_ | refine we_cmp ?_ | refine we_chn ?_ | refine we_ix ?_ | refine we_sl ?_ | refine we_blt ?_ | refine we_mut ?_ | refine we_call ?_ | refine we_tup ?_ | refine we_lst ?_ | refine we_not ?_ | refine we_and ?_ | refine we_or ?_ | refine we_ite ?_ | refine we_isN ?_ | refine we_isC ?_ | refine we_neg ?_ | refine we_gcon ?_ | refine we_lc ?_ | refine wa_cons ?_ | refine wa_nil ?_ | refine wp_none ?_ | refine wp_some ?_ | refine wt_not ?_ | refine wt_and ?_ | refine wt_or ?_ | refine wt_nil ?_ | refine wt_one ?_ | refine wi_seq ?_ | refine wi_rng ?_ | refine wi_enum ?_ | refine wi_zip ?_ | refine wi_rev ?_ | refine wo_turn ?_ | refine wt_val rfl ?_ | refine ⟨rfl, ?_⟩ | refine ⟨_, rfl, rfl, ?_⟩ | refine ⟨_, _, rfl, rfl, ?_⟩ | refine ⟨_, _, _, rfl, rfl, rfl, ?_⟩ | refine ⟨_, _, _, rfl, rfl, mul_r (by decide), ?_⟩ | refine ⟨_, _, rfl, ?_⟩ | refine ⟨_, rfl, ?_⟩ | refine br_t ?_ | refine br_f ?_ | refine rt_own rfl ?_)
  simp only [stillF_nil, stillF_v]
  refine for_inv (its := rngI 0 ((25 + r : Nat) : Int)) (fun i c => ∃ a gs a3 a8, (∀ g ∈ gs, wlD g = true ∧ htD g ≤ 5 + i ∧ szD g ≤ 16 + 4 * i) ∧ gs.length = 3 ∧ c = [some (.d (.lst (dis ns))), some (bx ds a), some (.l [t0, t1, t2, t3, t4]), a3, a4, some (.l gs), a6, a7, a8]) ⟨a' + 1, [t0, x, t2], a3, none, ?_, rfl, rfl⟩ ?_ ?_
  · intro g hg
    simp only [List.mem_cons, List.not_mem_nil, or_false] at hg
    rcases hg with rfl | rfl | rfl
    · exact ⟨k0.vf.1, by have := k0.2.1; omega, by have := k0.2.2; omega⟩
    · exact ⟨hs.1, by have := hs.2.1; omega, by have := hs.2.2; omega⟩
    · exact ⟨k2.vf.1, by have := k2.2.1; omega, by have := k2.2.2; omega⟩
  · rintro i d c hi ⟨a, gs, a3, a8, hg, hgl, rfl⟩
    obtain ⟨rfl, hi⟩ := rng_get hi
    have hwg : wlDs gs = true := wlDs_of fun g h => (hg g h).1
    refine ⟨_, rfl, ?_⟩
    repeat (first | refine wf_cons ?_ | refine wf_asg ?_ | refine wf_iff ?_ | refine wf_ret ?_ | refine wf_ex ?_ | refine wf_setI ?_ | refine wf_aug ?_ | refine wf_asgT ?_ | refine wf_nil ?_ | refine wf_retN ?_ | refine wf_pass ?_ | refine wf_brk ?_ | refine wf_cnt ?_ | refine we_cst ?_ | refine we_d rfl ?_ | refine we_l rfl ?_ | refine we_bin ?_ | refine we_cmp ?_ | refine we_chn ?_ | refine we_ix ?_ | refine we_sl ?_ | refine we_blt ?_ | refine we_mut ?_ | refine we_call ?_ | refine we_tup ?_ | refine we_lst ?_ | refine we_not ?_ | refine we_and ?_ | refine we_or ?_ | refine we_ite ?_ | refine we_isN ?_ | refine we_isC ?_ | refine we_neg ?_ | refine we_gcon ?_ | refine we_lc ?_ | refine wa_cons ?_ | refine wa_nil ?_ | refine wp_none ?_ | refine wp_some ?_ | refine wt_not ?_ | refine wt_and ?_ | refine wt_or ?_ | refine wt_nil ?_ | refine wt_one ?_ | refine wi_seq ?_ | refine wi_rng ?_ | refine wi_enum ?_ | refine wi_zip ?_ | refine wi_rev ?_ | refine wo_turn ?_ | refine wt_val rfl ?_ | refine ⟨rfl, ?_⟩ | refine ⟨_, rfl, rfl, ?_⟩ | refine ⟨_, _, rfl, rfl, ?_⟩ | refine ⟨_, _, _, rfl, rfl, rfl, ?_⟩ | refine ⟨_, _, _, rfl, rfl, mul_r (by decide), ?_⟩ | refine ⟨_, _, rfl, ?_⟩ | refine ⟨_, rfl, ?_⟩ | refine br_t ?_ | refine br_f ?_ | refine rt_own rfl ?_)
    obtain ⟨_, y7, p, hp, rfl⟩ := draw_ok (w := w) (k := k) F.h7 (by omega) ds a 3 (by omega)
    refine we_callV (by exact y7) rfl rfl rfl ?_
    repeat (first | refine wf_cons ?_ | refine wf_asg ?_ | refine wf_iff ?_ | refine wf_ret ?_ | refine wf_ex ?_ | refine wf_setI ?_ | refine wf_aug ?_ | refine wf_asgT ?_ | refine wf_nil ?_ | refine wf_retN ?_ | refine wf_pass ?_ | refine wf_brk ?_ | refine wf_cnt ?_ | refine we_cst ?_ | refine we_d rfl ?_ | refine we_l rfl ?_ | refine we_bin ?_ | refine we_cmp ?_ | refine we_chn ?_ | refine we_ix ?_ | refine we_sl ?_ | refine we_blt ?_ | refine we_mut ?_ | refine we_call ?_ | refine we_tup ?_ | refine we_lst ?_ | refine we_not ?_ | refine we_and ?_ | refine we_or ?_ | refine we_ite ?_ | refine we_isN ?_ | refine we_isC ?_ | refine we_neg ?_ | refine we_gcon ?_ | refine we_lc ?_ | refine wa_cons ?_ | refine wa_nil ?_ | refine wp_none ?_ | refine wp_some ?_ | refine wt_not ?_ | refine wt_and ?_ | refine wt_or ?_ | refine wt_nil ?_ | refine wt_one ?_ | refine wi_seq ?_ | refine wi_rng ?_ | refine wi_enum ?_ | refine wi_zip ?_ | refine wi_rev ?_ | refine wo_turn ?_ | refine wt_val rfl ?_ | refine ⟨rfl, ?_⟩ | refine ⟨_, rfl, rfl, ?_⟩ | refine ⟨_, _, rfl, rfl, ?_⟩ | refine ⟨_, _, _, rfl, rfl, rfl, ?_⟩ | refine ⟨_, _, _, rfl, rfl, mul_r (by decide), ?_⟩ | refine ⟨_, _, rfl, ?_⟩ | refine ⟨_, rfl, ?_⟩ | refine br_t ?_ | refine br_f ?_ | refine rt_own rfl ?_)
    refine lc_go (its := gs) (fun j ys c => (∀ g ∈ ys, wlD g = true ∧ htD g ≤ 5 + (i + 1) ∧ szD g ≤ 16 + 4 * (i + 1)) ∧ ys.length = j ∧ c = [some (.d (.lst (dis ns))), some (bx ds (a + 1)), some (.l [t0, t1, t2, t3, t4]), some (.d (.int (0 + (i : Int)))), a4, some (.l gs), none, a7, some (.d (.int p))]) (by exact wipe6 h6) (by exact still_l hwg) (by exact ⟨by simp, rfl, rfl⟩) ?_ ?_
    · rintro j d ys c hj ⟨hy, hyl, rfl⟩
      obtain ⟨hj2, rfl⟩ := get_of (xs := gs) hj
      have hd := hg _ (List.getElem_mem hj2)
      generalize gs[j] = d at hd ⊢
      refine ⟨_, rfl, ?_⟩
      repeat (first | refine wf_cons ?_ | refine wf_asg ?_ | refine wf_iff ?_ | refine wf_ret ?_ | refine wf_ex ?_ | refine wf_setI ?_ | refine wf_aug ?_ | refine wf_asgT ?_ | refine wf_nil ?_ | refine wf_retN ?_ | refine wf_pass ?_ | refine wf_brk ?_ | refine wf_cnt ?_ | refine we_cst ?_ | refine we_d rfl ?_ | refine we_l rfl ?_ | refine we_bin ?_ | refine we_cmp ?_ | refine we_chn ?_ | refine we_ix ?_ | refine we_sl ?_ | refine we_blt ?_ | refine we_mut ?_ | refine we_call ?_ | refine we_tup ?_ | refine we_lst ?_ | refine we_not ?_ | refine we_and ?_ | refine we_or ?_ | refine we_ite ?_ | refine we_isN ?_ | refine we_isC ?_ | refine we_neg ?_ | refine we_gcon ?_ | refine we_lc ?_ | refine wa_cons ?_ | refine wa_nil ?_ | refine wp_none ?_ | refine wp_some ?_ | refine wt_not ?_ | refine wt_and ?_ | refine wt_or ?_ | refine wt_nil ?_ | refine wt_one ?_ | refine wi_seq ?_ | refine wi_rng ?_ | refine wi_enum ?_ | refine wi_zip ?_ | refine wi_rev ?_ | refine wo_turn ?_ | refine wt_val rfl ?_ | refine ⟨rfl, ?_⟩ | refine ⟨_, rfl, rfl, ?_⟩ | refine ⟨_, _, rfl, rfl, ?_⟩ | refine ⟨_, _, _, rfl, rfl, rfl, ?_⟩ | refine ⟨_, _, _, rfl, rfl, mul_r (by decide), ?_⟩ | refine ⟨_, _, rfl, ?_⟩ | refine ⟨_, rfl, ?_⟩ | refine br_t ?_ | refine br_f ?_ | refine rt_own rfl ?_)
      refine ⟨_, _, _, rfl, rfl, idx_l (n := p) (List.getElem?_eq_getElem hp), ?_⟩
      repeat (first | refine wf_cons ?_ | refine wf_asg ?_ | refine wf_iff ?_ | refine wf_ret ?_ | refine wf_ex ?_ | refine wf_setI ?_ | refine wf_aug ?_ | refine wf_asgT ?_ | refine wf_nil ?_ | refine wf_retN ?_ | refine wf_pass ?_ | refine wf_brk ?_ | refine wf_cnt ?_ | refine we_cst ?_ | refine we_d rfl ?_ | refine we_l rfl ?_ | refine we_bin ?_ | refine we_cmp ?_ | refine we_chn ?_ | refine we_ix ?_ | refine we_sl ?_ | refine we_blt ?_ | refine we_mut ?_ | refine we_call ?_ | refine we_tup ?_ | refine we_lst ?_ | refine we_not ?_ | refine we_and ?_ | refine we_or ?_ | refine we_ite ?_ | refine we_isN ?_ | refine we_isC ?_ | refine we_neg ?_ | refine we_gcon ?_ | refine we_lc ?_ | refine wa_cons ?_ | refine wa_nil ?_ | refine wp_none ?_ | refine wp_some ?_ | refine wt_not ?_ | refine wt_and ?_ | refine wt_or ?_ | refine wt_nil ?_ | refine wt_one ?_ | refine wi_seq ?_ | refine wi_rng ?_ | refine wi_enum ?_ | refine wi_zip ?_ | refine wi_rev ?_ | refine wo_turn ?_ | refine wt_val rfl ?_ | refine ⟨rfl, ?_⟩ | refine ⟨_, rfl, rfl, ?_⟩ | refine ⟨_, _, rfl, rfl, ?_⟩ | refine ⟨_, _, _, rfl, rfl, rfl, ?_⟩ | refine ⟨_, _, _, rfl, rfl, mul_r (by decide), ?_⟩ | refine ⟨_, _, rfl, ?_⟩ | refine ⟨_, rfl, ?_⟩ | refine br_t ?_ | refine br_f ?_ | refine rt_own rfl ?_)
      refine ⟨_, _, _, rfl, rfl, still_l hwg, ?_, by simp [hyl], rfl⟩
      intro g h
      rcases List.mem_append.mp h with h | h
      · exact hy g h
      · rw [List.mem_singleton.mp h]
        obtain ⟨d1, d2, d3⟩ := hd
        rcases p with _ | _ | _ | p
        · exact ⟨by simp [At.frz, wlD, wlDs, d1], by simp [At.frz, htD, htDs]; omega, by simp [At.frz, szD, szDs]; omega⟩
        · exact ⟨by simp [At.frz, wlD, wlDs, d1], by simp [At.frz, htD, htDs]; omega, by simp [At.frz, szD, szDs]; omega⟩
        · exact ⟨by simp [At.frz, wlD, wlDs, d1], by simp [At.frz, htD, htDs]; omega, by simp [At.frz, szD, szDs]; omega⟩
        · exact absurd hp (by omega)
    · rintro ys c3 ⟨hy, hyl, rfl⟩
      refine ⟨fits_of (by omega), ?_⟩
      repeat (first | refine wf_cons ?_ | refine wf_asg ?_ | refine wf_iff ?_ | refine wf_ret ?_ | refine wf_ex ?_ | refine wf_setI ?_ | refine wf_aug ?_ | refine wf_asgT ?_ | refine wf_nil ?_ | refine wf_retN ?_ | refine wf_pass ?_ | refine wf_brk ?_ | refine wf_cnt ?_ | refine we_cst ?_ | refine we_d rfl ?_ | refine we_l rfl ?_ | refine we_bin ?_ | refine we_cmp ?_ | refine we_chn ?_ | refine we_ix ?_ | refine we_sl ?_ | refine we_blt ?_ | refine we_mut ?_ | refine we_call ?_ | refine we_tup ?_ | refine we_lst ?_ | refine we_not ?_ | refine we_and ?_ | refine we_or ?_ | refine we_ite ?_ | refine we_isN ?_ | refine we_isC ?_ | refine we_neg ?_ | refine we_gcon ?_ | refine we_lc ?_ | refine wa_cons ?_ | refine wa_nil ?_ | refine wp_none ?_ | refine wp_some ?_ | refine wt_not ?_ | refine wt_and ?_ | refine wt_or ?_ | refine wt_nil ?_ | refine wt_one ?_ | refine wi_seq ?_ | refine wi_rng ?_ | refine wi_enum ?_ | refine wi_zip ?_ | refine wi_rev ?_ | refine wo_turn ?_ | refine wt_val rfl ?_ | refine ⟨rfl, ?_⟩ | refine ⟨_, rfl, rfl, ?_⟩ | refine ⟨_, _, rfl, rfl, ?_⟩ | refine ⟨_, _, _, rfl, rfl, rfl, ?_⟩ | refine ⟨_, _, _, rfl, rfl, mul_r (by decide), ?_⟩ | refine ⟨_, _, rfl, ?_⟩ | refine ⟨_, rfl, ?_⟩ | refine br_t ?_ | refine br_f ?_ | refine rt_own rfl ?_)
      exact ⟨a + 1, ys, _, _, hy, by omega, rfl⟩
  rintro c ⟨a, gs, a3', a8, hg, hgl, rfl⟩
  rw [rng_len, show (((25 + r : Nat) : Int) - 0).toNat = 25 + r by omega] at hg
  refine T t0 t1 t2 t3 t4 a gs a3' a4 a6 a7 a8 k3 k4 (fun g h => ?_) hgl
  obtain ⟨d1, d2, d3⟩ := hg g h
  exact ⟨d1, by omega, by omega⟩
end G
namespace G
open PySem
theorem law_fst {P : Prg} {w k : Nat} (F : Fns P) (hk : 150 ≤ k) (hw : 20000 ≤ w) (ns : List Int) (M : ∀ k' ds R N, k = k' + 1 → (∀ x0 x1 x2 x3 x4 x5 x6 x7 x8, R (.v (.d (.bl true))) [x0, x1, x2, x3, x4, x5, x6, x7, x8]) → Mid P w k' 4 ns ds R N) :
    ∃ cr, run P w k 17 [.d (.lst (dis ns))] = .ok cr ∧ ∃ o, cr = ⟨.v (.d (.bl true)), [o]⟩ := by
  refine run_by F.h17 rfl rfl (by omega) fun k' N R ek hN hR => ?_
  have right : ∀ t, KF t → ∃ cr, run P w k' 16 [.d t] = .ok cr ∧ cr = ⟨.v (.d (.bl true)), [some (.d t)]⟩ := fun t h =>
    rgt_ok F.h0 F.h1 F.h2 F.h3 F.h4 F.h9 F.h10 F.h11 F.h14 F.h16 t h.1 (by have := h.2.1; omega) (by have := h.2.2; omega) (by omega) (by have := h.2.2; omega)
  unfold b_law
  repeat (first | refine wf_cons ?_ | refine wf_asg ?_ | refine wf_iff ?_ | refine wf_ret ?_ | refine wf_ex ?_ | refine wf_setI ?_ | refine wf_aug ?_ | refine wf_asgT ?_ | refine wf_nil ?_ | refine wf_retN ?_ | refine wf_pass ?_ | refine wf_brk ?_ | refine wf_cnt ?_ | refine we_cst ?_ | refine we_d rfl ?_ | refine we_l rfl ?_ | refine we_bin ?_ | refine we_cmp ?_ | refine we_chn ?_ | refine we_ix ?_ | refine we_sl ?_ | refine we_blt ?_ | refine we_mut ?_ | refine we_call ?_ | refine we_tup ?_ | refine we_lst ?_ | refine we_not ?_ | refine we_and ?_ | refine we_or ?_ | refine we_ite ?_ | refine we_isN ?_ | refine we_isC ?_ | refine we_neg ?_ | refine we_gcon ?_ | refine we_lc ?_ | refine wa_cons ?_ | refine wa_nil ?_ | refine wp_none ?_ | refine wp_some ?_ | refine wt_not ?_ | refine wt_and ?_ | refine wt_or ?_ | refine wt_nil ?_ | refine wt_one ?_ | refine wi_seq ?_ | refine wi_rng ?_ | refine wi_enum ?_ | refine wi_zip ?_ | refine wi_rev ?_ | refine wo_turn ?_ | refine wt_val rfl ?_ | refine ⟨rfl, ?_⟩ | refine ⟨_, rfl, rfl, ?_⟩ | refine ⟨_, _, rfl, rfl, ?_⟩ | refine ⟨_, _, _, rfl, rfl, rfl, ?_⟩ | refine ⟨_, _, _, rfl, rfl, mul_r (by decide), ?_⟩ | refine ⟨_, _, rfl, ?_⟩ | refine ⟨_, rfl, ?_⟩ | refine br_t ?_ | refine br_f ?_ | refine rt_own rfl ?_)
  obtain ⟨_, z1, ds, rfl⟩ := box_ok (w := w) (k := k') F.h5 F.h6 F.h8 (by omega) ns
  refine we_callV z1 rfl rfl rfl ?_
  repeat (first | refine wf_cons ?_ | refine wf_asg ?_ | refine wf_iff ?_ | refine wf_ret ?_ | refine wf_ex ?_ | refine wf_setI ?_ | refine wf_aug ?_ | refine wf_asgT ?_ | refine wf_nil ?_ | refine wf_retN ?_ | refine wf_pass ?_ | refine wf_brk ?_ | refine wf_cnt ?_ | refine we_cst ?_ | refine we_d rfl ?_ | refine we_l rfl ?_ | refine we_bin ?_ | refine we_cmp ?_ | refine we_chn ?_ | refine we_ix ?_ | refine we_sl ?_ | refine we_blt ?_ | refine we_mut ?_ | refine we_call ?_ | refine we_tup ?_ | refine we_lst ?_ | refine we_not ?_ | refine we_and ?_ | refine we_or ?_ | refine we_ite ?_ | refine we_isN ?_ | refine we_isC ?_ | refine we_neg ?_ | refine we_gcon ?_ | refine we_lc ?_ | refine wa_cons ?_ | refine wa_nil ?_ | refine wp_none ?_ | refine wp_some ?_ | refine wt_not ?_ | refine wt_and ?_ | refine wt_or ?_ | refine wt_nil ?_ | refine wt_one ?_ | refine wi_seq ?_ | refine wi_rng ?_ | refine wi_enum ?_ | refine wi_zip ?_ | refine wi_rev ?_ | refine wo_turn ?_ | refine wt_val rfl ?_ | refine ⟨rfl, ?_⟩ | refine ⟨_, rfl, rfl, ?_⟩ | refine ⟨_, _, rfl, rfl, ?_⟩ | refine ⟨_, _, _, rfl, rfl, rfl, ?_⟩ | refine ⟨_, _, _, rfl, rfl, mul_r (by decide), ?_⟩ | refine ⟨_, _, rfl, ?_⟩ | refine ⟨_, rfl, ?_⟩ | refine br_t ?_ | refine br_f ?_ | refine rt_own rfl ?_)
  refine wf_fr ?_
  repeat (first | refine wf_cons ?_ | refine wf_asg ?_ | refine wf_iff ?_ | refine wf_ret ?_ | refine wf_ex ?_ | refine wf_setI ?_ | refine wf_aug ?_ | refine wf_asgT ?_ | refine wf_nil ?_ | refine wf_retN ?_ | refine wf_pass ?_ | refine wf_brk ?_ | refine wf_cnt ?_ | refine we_cst ?_ | refine we_d rfl ?_ | refine we_l rfl ?_ | refine we_bin ?_ | refine we_cmp ?_ | refine we_chn ?_ | refine we_ix ?_ | refine we_sl ?_ | refine we_blt ?_ | refine we_mut ?_ | refine we_call ?_ | refine we_tup ?_ | refine we_lst ?_ | refine we_not ?_ | refine we_and ?_ | refine we_or ?_ | refine we_ite ?_ | refine we_isN ?_ | refine we_isC ?_ | refine we_neg ?_ | refine we_gcon ?_ | refine we_lc ?_ | refine wa_cons ?_ | refine wa_nil ?_ | refine wp_none ?_ | refine wp_some ?_ | refine wt_not ?_ | refine wt_and ?_ | refine wt_or ?_ | refine wt_nil ?_ | refine wt_one ?_ | refine wi_seq ?_ | refine wi_rng ?_ | refine wi_enum ?_ | refine wi_zip ?_ | refine wi_rev ?_ | refine wo_turn ?_ | refine wt_val rfl ?_ | refine ⟨rfl, ?_⟩ | refine ⟨_, rfl, rfl, ?_⟩ | refine ⟨_, _, rfl, rfl, ?_⟩ | refine ⟨_, _, _, rfl, rfl, rfl, ?_⟩ | refine ⟨_, _, _, rfl, rfl, mul_r (by decide), ?_⟩ | refine ⟨_, _, rfl, ?_⟩ | refine ⟨_, rfl, ?_⟩ | refine br_t ?_ | refine br_f ?_ | refine rt_own rfl ?_)
  simp only [stillF_nil, stillF_v]
  refine for_inv (its := rngI 0 5) (fun i c => ∃ a ts a3 a4 a6 a7, Dt a6 ∧ ts.length = i ∧ (∀ t ∈ ts, KF t) ∧ c = [some (.d (.lst (dis ns))), some (bx ds a), some (.l ts), a3, a4, none, a6, a7, none]) ⟨0, [], none, none, none, none, .inl rfl, rfl, by simp, rfl⟩ ?_ ?_
  · rintro i d c hi ⟨a, ts, a3, a4, a6, a7, h6, hl, hts, rfl⟩
    obtain ⟨rfl, hi⟩ := rng_get hi
    refine ⟨_, rfl, ?_⟩
    repeat (first | refine wf_cons ?_ | refine wf_asg ?_ | refine wf_iff ?_ | refine wf_ret ?_ | refine wf_ex ?_ | refine wf_setI ?_ | refine wf_aug ?_ | refine wf_asgT ?_ | refine wf_nil ?_ | refine wf_retN ?_ | refine wf_pass ?_ | refine wf_brk ?_ | refine wf_cnt ?_ | refine we_cst ?_ | refine we_d rfl ?_ | refine we_l rfl ?_ | refine we_bin ?_ | refine we_cmp ?_ | refine we_chn ?_ | refine we_ix ?_ | refine we_sl ?_ | refine we_blt ?_ | refine we_mut ?_ | refine we_call ?_ | refine we_tup ?_ | refine we_lst ?_ | refine we_not ?_ | refine we_and ?_ | refine we_or ?_ | refine we_ite ?_ | refine we_isN ?_ | refine we_isC ?_ | refine we_neg ?_ | refine we_gcon ?_ | refine we_lc ?_ | refine wa_cons ?_ | refine wa_nil ?_ | refine wp_none ?_ | refine wp_some ?_ | refine wt_not ?_ | refine wt_and ?_ | refine wt_or ?_ | refine wt_nil ?_ | refine wt_one ?_ | refine wi_seq ?_ | refine wi_rng ?_ | refine wi_enum ?_ | refine wi_zip ?_ | refine wi_rev ?_ | refine wo_turn ?_ | refine wt_val rfl ?_ | refine ⟨rfl, ?_⟩ | refine ⟨_, rfl, rfl, ?_⟩ | refine ⟨_, _, rfl, rfl, ?_⟩ | refine ⟨_, _, _, rfl, rfl, rfl, ?_⟩ | refine ⟨_, _, _, rfl, rfl, mul_r (by decide), ?_⟩ | refine ⟨_, _, rfl, ?_⟩ | refine ⟨_, rfl, ?_⟩ | refine br_t ?_ | refine br_f ?_ | refine rt_own rfl ?_)
    obtain ⟨_, y1, r1, hr1, rfl⟩ := draw_ok (w := w) (k := k') F.h7 (by omega) ds a 4 (by omega)
    refine we_callV (by exact y1) rfl rfl rfl ?_
    repeat (first | refine wf_cons ?_ | refine wf_asg ?_ | refine wf_iff ?_ | refine wf_ret ?_ | refine wf_ex ?_ | refine wf_setI ?_ | refine wf_aug ?_ | refine wf_asgT ?_ | refine wf_nil ?_ | refine wf_retN ?_ | refine wf_pass ?_ | refine wf_brk ?_ | refine wf_cnt ?_ | refine we_cst ?_ | refine we_d rfl ?_ | refine we_l rfl ?_ | refine we_bin ?_ | refine we_cmp ?_ | refine we_chn ?_ | refine we_ix ?_ | refine we_sl ?_ | refine we_blt ?_ | refine we_mut ?_ | refine we_call ?_ | refine we_tup ?_ | refine we_lst ?_ | refine we_not ?_ | refine we_and ?_ | refine we_or ?_ | refine we_ite ?_ | refine we_isN ?_ | refine we_isC ?_ | refine we_neg ?_ | refine we_gcon ?_ | refine we_lc ?_ | refine wa_cons ?_ | refine wa_nil ?_ | refine wp_none ?_ | refine wp_some ?_ | refine wt_not ?_ | refine wt_and ?_ | refine wt_or ?_ | refine wt_nil ?_ | refine wt_one ?_ | refine wi_seq ?_ | refine wi_rng ?_ | refine wi_enum ?_ | refine wi_zip ?_ | refine wi_rev ?_ | refine wo_turn ?_ | refine wt_val rfl ?_ | refine ⟨rfl, ?_⟩ | refine ⟨_, rfl, rfl, ?_⟩ | refine ⟨_, _, rfl, rfl, ?_⟩ | refine ⟨_, _, _, rfl, rfl, rfl, ?_⟩ | refine ⟨_, _, _, rfl, rfl, mul_r (by decide), ?_⟩ | refine ⟨_, _, rfl, ?_⟩ | refine ⟨_, rfl, ?_⟩ | refine br_t ?_ | refine br_f ?_ | refine rt_own rfl ?_)
    obtain ⟨_, y2, r2, hr2, rfl⟩ := draw_ok (w := w) (k := k') F.h7 (by omega) ds (a + 1) 12 (by omega)
    refine we_callV (by exact y2) rfl rfl rfl ?_
    repeat (first | refine wf_cons ?_ | refine wf_asg ?_ | refine wf_iff ?_ | refine wf_ret ?_ | refine wf_ex ?_ | refine wf_setI ?_ | refine wf_aug ?_ | refine wf_asgT ?_ | refine wf_nil ?_ | refine wf_retN ?_ | refine wf_pass ?_ | refine wf_brk ?_ | refine wf_cnt ?_ | refine we_cst ?_ | refine we_d rfl ?_ | refine we_l rfl ?_ | refine we_bin ?_ | refine we_cmp ?_ | refine we_chn ?_ | refine we_ix ?_ | refine we_sl ?_ | refine we_blt ?_ | refine we_mut ?_ | refine we_call ?_ | refine we_tup ?_ | refine we_lst ?_ | refine we_not ?_ | refine we_and ?_ | refine we_or ?_ | refine we_ite ?_ | refine we_isN ?_ | refine we_isC ?_ | refine we_neg ?_ | refine we_gcon ?_ | refine we_lc ?_ | refine wa_cons ?_ | refine wa_nil ?_ | refine wp_none ?_ | refine wp_some ?_ | refine wt_not ?_ | refine wt_and ?_ | refine wt_or ?_ | refine wt_nil ?_ | refine wt_one ?_ | refine wi_seq ?_ | refine wi_rng ?_ | refine wi_enum ?_ | refine wi_zip ?_ | refine wi_rev ?_ | refine wo_turn ?_ | refine wt_val rfl ?_ | refine ⟨rfl, ?_⟩ | refine ⟨_, rfl, rfl, ?_⟩ | refine ⟨_, _, rfl, rfl, ?_⟩ | refine ⟨_, _, _, rfl, rfl, rfl, ?_⟩ | refine ⟨_, _, _, rfl, rfl, mul_r (by decide), ?_⟩ | refine ⟨_, _, rfl, ?_⟩ | refine ⟨_, rfl, ?_⟩ | refine br_t ?_ | refine br_f ?_ | refine rt_own rfl ?_)
    obtain ⟨_, y3, us, a2, b2, rfl, q1, q2, q3⟩ := kdp_ok (w := w) F.h7 F.h12 ds r1 (a + 1 + 1) r2 k' (by omega) (by omega)
    refine we_callV y3 rfl rfl rfl ?_
    have hkf : KF (.tup us) := ⟨by unfold isK; exact q1, by show htDs us + 1 ≤ 4; omega, by show szDs us + 1 ≤ 13; omega⟩
    repeat (first | refine wf_cons ?_ | refine wf_asg ?_ | refine wf_iff ?_ | refine wf_ret ?_ | refine wf_ex ?_ | refine wf_setI ?_ | refine wf_aug ?_ | refine wf_asgT ?_ | refine wf_nil ?_ | refine wf_retN ?_ | refine wf_pass ?_ | refine wf_brk ?_ | refine wf_cnt ?_ | refine we_cst ?_ | refine we_d rfl ?_ | refine we_l rfl ?_ | refine we_bin ?_ | refine we_cmp ?_ | refine we_chn ?_ | refine we_ix ?_ | refine we_sl ?_ | refine we_blt ?_ | refine we_mut ?_ | refine we_call ?_ | refine we_tup ?_ | refine we_lst ?_ | refine we_not ?_ | refine we_and ?_ | refine we_or ?_ | refine we_ite ?_ | refine we_isN ?_ | refine we_isC ?_ | refine we_neg ?_ | refine we_gcon ?_ | refine we_lc ?_ | refine wa_cons ?_ | refine wa_nil ?_ | refine wp_none ?_ | refine wp_some ?_ | refine wt_not ?_ | refine wt_and ?_ | refine wt_or ?_ | refine wt_nil ?_ | refine wt_one ?_ | refine wi_seq ?_ | refine wi_rng ?_ | refine wi_enum ?_ | refine wi_zip ?_ | refine wi_rev ?_ | refine wo_turn ?_ | refine wt_val rfl ?_ | refine ⟨rfl, ?_⟩ | refine ⟨_, rfl, rfl, ?_⟩ | refine ⟨_, _, rfl, rfl, ?_⟩ | refine ⟨_, _, _, rfl, rfl, rfl, ?_⟩ | refine ⟨_, _, _, rfl, rfl, mul_r (by decide), ?_⟩ | refine ⟨_, _, rfl, ?_⟩ | refine ⟨_, rfl, ?_⟩ | refine br_t ?_ | refine br_f ?_ | refine rt_own rfl ?_)
    refine ⟨_, _, _, _, _, _, rfl, rfl, mutA (fits_of (by omega)), rfl, ?_⟩
    repeat (first | refine wf_cons ?_ | refine wf_asg ?_ | refine wf_iff ?_ | refine wf_ret ?_ | refine wf_ex ?_ | refine wf_setI ?_ | refine wf_aug ?_ | refine wf_asgT ?_ | refine wf_nil ?_ | refine wf_retN ?_ | refine wf_pass ?_ | refine wf_brk ?_ | refine wf_cnt ?_ | refine we_cst ?_ | refine we_d rfl ?_ | refine we_l rfl ?_ | refine we_bin ?_ | refine we_cmp ?_ | refine we_chn ?_ | refine we_ix ?_ | refine we_sl ?_ | refine we_blt ?_ | refine we_mut ?_ | refine we_call ?_ | refine we_tup ?_ | refine we_lst ?_ | refine we_not ?_ | refine we_and ?_ | refine we_or ?_ | refine we_ite ?_ | refine we_isN ?_ | refine we_isC ?_ | refine we_neg ?_ | refine we_gcon ?_ | refine we_lc ?_ | refine wa_cons ?_ | refine wa_nil ?_ | refine wp_none ?_ | refine wp_some ?_ | refine wt_not ?_ | refine wt_and ?_ | refine wt_or ?_ | refine wt_nil ?_ | refine wt_one ?_ | refine wi_seq ?_ | refine wi_rng ?_ | refine wi_enum ?_ | refine wi_zip ?_ | refine wi_rev ?_ | refine wo_turn ?_ | refine wt_val rfl ?_ | refine ⟨rfl, ?_⟩ | refine ⟨_, rfl, rfl, ?_⟩ | refine ⟨_, _, rfl, rfl, ?_⟩ | refine ⟨_, _, _, rfl, rfl, rfl, ?_⟩ | refine ⟨_, _, _, rfl, rfl, mul_r (by decide), ?_⟩ | refine ⟨_, _, rfl, ?_⟩ | refine ⟨_, rfl, ?_⟩ | refine br_t ?_ | refine br_f ?_ | refine rt_own rfl ?_)
    obtain ⟨_, y4, rfl⟩ := right (.tup us) hkf
    refine we_callV y4 rfl rfl rfl ?_
    repeat (first | refine wf_cons ?_ | refine wf_asg ?_ | refine wf_iff ?_ | refine wf_ret ?_ | refine wf_ex ?_ | refine wf_setI ?_ | refine wf_aug ?_ | refine wf_asgT ?_ | refine wf_nil ?_ | refine wf_retN ?_ | refine wf_pass ?_ | refine wf_brk ?_ | refine wf_cnt ?_ | refine we_cst ?_ | refine we_d rfl ?_ | refine we_l rfl ?_ | refine we_bin ?_ | refine we_cmp ?_ | refine we_chn ?_ | refine we_ix ?_ | refine we_sl ?_ | refine we_blt ?_ | refine we_mut ?_ | refine we_call ?_ | refine we_tup ?_ | refine we_lst ?_ | refine we_not ?_ | refine we_and ?_ | refine we_or ?_ | refine we_ite ?_ | refine we_isN ?_ | refine we_isC ?_ | refine we_neg ?_ | refine we_gcon ?_ | refine we_lc ?_ | refine wa_cons ?_ | refine wa_nil ?_ | refine wp_none ?_ | refine wp_some ?_ | refine wt_not ?_ | refine wt_and ?_ | refine wt_or ?_ | refine wt_nil ?_ | refine wt_one ?_ | refine wi_seq ?_ | refine wi_rng ?_ | refine wi_enum ?_ | refine wi_zip ?_ | refine wi_rev ?_ | refine wo_turn ?_ | refine wt_val rfl ?_ | refine ⟨rfl, ?_⟩ | refine ⟨_, rfl, rfl, ?_⟩ | refine ⟨_, _, rfl, rfl, ?_⟩ | refine ⟨_, _, _, rfl, rfl, rfl, ?_⟩ | refine ⟨_, _, _, rfl, rfl, mul_r (by decide), ?_⟩ | refine ⟨_, _, rfl, ?_⟩ | refine ⟨_, rfl, ?_⟩ | refine br_t ?_ | refine br_f ?_ | refine rt_own rfl ?_)
    refine wf_fr ?_
    repeat (first | refine wf_cons ?_ | refine wf_asg ?_ | refine wf_iff ?_ | refine wf_ret ?_ | refine wf_ex ?_ | refine wf_setI ?_ | refine wf_aug ?_ | refine wf_asgT ?_ | refine wf_nil ?_ | refine wf_retN ?_ | refine wf_pass ?_ | refine wf_brk ?_ | refine wf_cnt ?_ | refine we_cst ?_ | refine we_d rfl ?_ | refine we_l rfl ?_ | refine we_bin ?_ | refine we_cmp ?_ | refine we_chn ?_ | refine we_ix ?_ | refine we_sl ?_ | refine we_blt ?_ | refine we_mut ?_ | refine we_call ?_ | refine we_tup ?_ | refine we_lst ?_ | refine we_not ?_ | refine we_and ?_ | refine we_or ?_ | refine we_ite ?_ | refine we_isN ?_ | refine we_isC ?_ | refine we_neg ?_ | refine we_gcon ?_ | refine we_lc ?_ | refine wa_cons ?_ | refine wa_nil ?_ | refine wp_none ?_ | refine wp_some ?_ | refine wt_not ?_ | refine wt_and ?_ | refine wt_or ?_ | refine wt_nil ?_ | refine wt_one ?_ | refine wi_seq ?_ | refine wi_rng ?_ | refine wi_enum ?_ | refine wi_zip ?_ | refine wi_rev ?_ | refine wo_turn ?_ | refine wt_val rfl ?_ | refine ⟨rfl, ?_⟩ | refine ⟨_, rfl, rfl, ?_⟩ | refine ⟨_, _, rfl, rfl, ?_⟩ | refine ⟨_, _, _, rfl, rfl, rfl, ?_⟩ | refine ⟨_, _, _, rfl, rfl, mul_r (by decide), ?_⟩ | refine ⟨_, _, rfl, ?_⟩ | refine ⟨_, rfl, ?_⟩ | refine br_t ?_ | refine br_f ?_ | refine rt_own rfl ?_)
    simp only [stillF_nil, stillF_v]
    refine for_inv (its := rngI 0 3) (fun j c => ∃ a a6 a7, Dt a6 ∧ c = [some (.d (.lst (dis ns))), some (bx ds a), some (.l (ts ++ [.tup us])), some (.d (.int (0 + (i : Int)))), some (.d (.tup us)), none, a6, a7, none]) ⟨a2, a6, a7, h6, rfl⟩ ?_ ?_
    · rintro j d c hj ⟨a, a6, a7, h6, rfl⟩
      obtain ⟨rfl, hj⟩ := rng_get hj
      refine ⟨_, rfl, ?_⟩
      repeat (first | refine wf_cons ?_ | refine wf_asg ?_ | refine wf_iff ?_ | refine wf_ret ?_ | refine wf_ex ?_ | refine wf_setI ?_ | refine wf_aug ?_ | refine wf_asgT ?_ | refine wf_nil ?_ | refine wf_retN ?_ | refine wf_pass ?_ | refine wf_brk ?_ | refine wf_cnt ?_ | refine we_cst ?_ | refine we_d rfl ?_ | refine we_l rfl ?_ | refine we_bin ?_ | refine we_cmp ?_ | refine we_chn ?_ | refine we_ix ?_ | refine we_sl ?_ | refine we_blt ?_ | refine we_mut ?_ | refine we_call ?_ | refine we_tup ?_ | refine we_lst ?_ | refine we_not ?_ | refine we_and ?_ | refine we_or ?_ | refine we_ite ?_ | refine we_isN ?_ | refine we_isC ?_ | refine we_neg ?_ | refine we_gcon ?_ | refine we_lc ?_ | refine wa_cons ?_ | refine wa_nil ?_ | refine wp_none ?_ | refine wp_some ?_ | refine wt_not ?_ | refine wt_and ?_ | refine wt_or ?_ | refine wt_nil ?_ | refine wt_one ?_ | refine wi_seq ?_ | refine wi_rng ?_ | refine wi_enum ?_ | refine wi_zip ?_ | refine wi_rev ?_ | refine wo_turn ?_ | refine wt_val rfl ?_ | refine ⟨rfl, ?_⟩ | refine ⟨_, rfl, rfl, ?_⟩ | refine ⟨_, _, rfl, rfl, ?_⟩ | refine ⟨_, _, _, rfl, rfl, rfl, ?_⟩ | refine ⟨_, _, _, rfl, rfl, mul_r (by decide), ?_⟩ | refine ⟨_, _, rfl, ?_⟩ | refine ⟨_, rfl, ?_⟩ | refine br_t ?_ | refine br_f ?_ | refine rt_own rfl ?_)
      obtain ⟨_, y5, x, a', rfl, hs⟩ := spo_ok (w := w) F.h7 F.h15 ds 4 a (.tup us) k' hkf.2.1 (by omega) (by omega) hkf.1 (by have := hkf.2.2; omega)
      have hs := hs.vf hkf
      refine we_callV y5 rfl rfl rfl ?_
      repeat (first | refine wf_cons ?_ | refine wf_asg ?_ | refine wf_iff ?_ | refine wf_ret ?_ | refine wf_ex ?_ | refine wf_setI ?_ | refine wf_aug ?_ | refine wf_asgT ?_ | refine wf_nil ?_ | refine wf_retN ?_ | refine wf_pass ?_ | refine wf_brk ?_ | refine wf_cnt ?_ | refine we_cst ?_ | refine we_d rfl ?_ | refine we_l rfl ?_ | refine we_bin ?_ | refine we_cmp ?_ | refine we_chn ?_ | refine we_ix ?_ | refine we_sl ?_ | refine we_blt ?_ | refine we_mut ?_ | refine we_call ?_ | refine we_tup ?_ | refine we_lst ?_ | refine we_not ?_ | refine we_and ?_ | refine we_or ?_ | refine we_ite ?_ | refine we_isN ?_ | refine we_isC ?_ | refine we_neg ?_ | refine we_gcon ?_ | refine we_lc ?_ | refine wa_cons ?_ | refine wa_nil ?_ | refine wp_none ?_ | refine wp_some ?_ | refine wt_not ?_ | refine wt_and ?_ | refine wt_or ?_ | refine wt_nil ?_ | refine wt_one ?_ | refine wi_seq ?_ | refine wi_rng ?_ | refine wi_enum ?_ | refine wi_zip ?_ | refine wi_rev ?_ | refine wo_turn ?_ | refine wt_val rfl ?_ | refine ⟨rfl, ?_⟩ | refine ⟨_, rfl, rfl, ?_⟩ | refine ⟨_, _, rfl, rfl, ?_⟩ | refine ⟨_, _, _, rfl, rfl, rfl, ?_⟩ | refine ⟨_, _, _, rfl, rfl, mul_r (by decide), ?_⟩ | refine ⟨_, _, rfl, ?_⟩ | refine ⟨_, rfl, ?_⟩ | refine br_t ?_ | refine br_f ?_ | refine rt_own rfl ?_)
      have hv : VF x := ⟨hs.1, by have := hs.2.1; omega, by have := hs.2.2; omega⟩
      obtain ⟨_, y1, rfl⟩ := isk_ok (w := w) (k := k') F.h0 (by omega) x hv.1 (by have := hv.2.2; omega) (by have := hv.2.2; omega)
      refine we_callV y1 rfl rfl rfl ?_
      repeat (first | refine wf_cons ?_ | refine wf_asg ?_ | refine wf_iff ?_ | refine wf_ret ?_ | refine wf_ex ?_ | refine wf_setI ?_ | refine wf_aug ?_ | refine wf_asgT ?_ | refine wf_nil ?_ | refine wf_retN ?_ | refine wf_pass ?_ | refine wf_brk ?_ | refine wf_cnt ?_ | refine we_cst ?_ | refine we_d rfl ?_ | refine we_l rfl ?_ | refine we_bin ?_ | refine we_cmp ?_ | refine we_chn ?_ | refine we_ix ?_ | refine we_sl ?_ | refine we_blt ?_ | refine we_mut ?_ | refine we_call ?_ | refine we_tup ?_ | refine we_lst ?_ | refine we_not ?_ | refine we_and ?_ | refine we_or ?_ | refine we_ite ?_ | refine we_isN ?_ | refine we_isC ?_ | refine we_neg ?_ | refine we_gcon ?_ | refine we_lc ?_ | refine wa_cons ?_ | refine wa_nil ?_ | refine wp_none ?_ | refine wp_some ?_ | refine wt_not ?_ | refine wt_and ?_ | refine wt_or ?_ | refine wt_nil ?_ | refine wt_one ?_ | refine wi_seq ?_ | refine wi_rng ?_ | refine wi_enum ?_ | refine wi_zip ?_ | refine wi_rev ?_ | refine wo_turn ?_ | refine wt_val rfl ?_ | refine ⟨rfl, ?_⟩ | refine ⟨_, rfl, rfl, ?_⟩ | refine ⟨_, _, rfl, rfl, ?_⟩ | refine ⟨_, _, _, rfl, rfl, rfl, ?_⟩ | refine ⟨_, _, _, rfl, rfl, mul_r (by decide), ?_⟩ | refine ⟨_, _, rfl, ?_⟩ | refine ⟨_, rfl, ?_⟩ | refine br_t ?_ | refine br_f ?_ | refine rt_own rfl ?_)
      obtain ⟨_, y2, rfl⟩ := lisk_ok (w := w) F.h13 60 x k' hv.2.1 (by omega) (by omega) hv.1 (by have := hv.2.2; omega)
      refine we_callV y2 rfl rfl rfl ?_
      repeat (first | refine wf_cons ?_ | refine wf_asg ?_ | refine wf_iff ?_ | refine wf_ret ?_ | refine wf_ex ?_ | refine wf_setI ?_ | refine wf_aug ?_ | refine wf_asgT ?_ | refine wf_nil ?_ | refine wf_retN ?_ | refine wf_pass ?_ | refine wf_brk ?_ | refine wf_cnt ?_ | refine we_cst ?_ | refine we_d rfl ?_ | refine we_l rfl ?_ | refine we_bin ?_ | refine we_cmp ?_ | refine we_chn ?_ | refine we_ix ?_ | refine we_sl ?_ | refine we_blt ?_ | refine we_mut ?_ | refine we_call ?_ | refine we_tup ?_ | refine we_lst ?_ | refine we_not ?_ | refine we_and ?_ | refine we_or ?_ | refine we_ite ?_ | refine we_isN ?_ | refine we_isC ?_ | refine we_neg ?_ | refine we_gcon ?_ | refine we_lc ?_ | refine wa_cons ?_ | refine wa_nil ?_ | refine wp_none ?_ | refine wp_some ?_ | refine wt_not ?_ | refine wt_and ?_ | refine wt_or ?_ | refine wt_nil ?_ | refine wt_one ?_ | refine wi_seq ?_ | refine wi_rng ?_ | refine wi_enum ?_ | refine wi_zip ?_ | refine wi_rev ?_ | refine wo_turn ?_ | refine wt_val rfl ?_ | refine ⟨rfl, ?_⟩ | refine ⟨_, rfl, rfl, ?_⟩ | refine ⟨_, _, rfl, rfl, ?_⟩ | refine ⟨_, _, _, rfl, rfl, rfl, ?_⟩ | refine ⟨_, _, _, rfl, rfl, mul_r (by decide), ?_⟩ | refine ⟨_, _, rfl, ?_⟩ | refine ⟨_, rfl, ?_⟩ | refine br_t ?_ | refine br_f ?_ | refine rt_own rfl ?_)
      obtain ⟨_, y3, rfl⟩ := same_ok (w := w) F.h9 0 (.bl (isK x)) k' (Nat.zero_le _) (by omega) rfl (by show 1 ≤ _; omega)
      refine we_callV y3 rfl rfl rfl ?_
      repeat (first | refine wf_cons ?_ | refine wf_asg ?_ | refine wf_iff ?_ | refine wf_ret ?_ | refine wf_ex ?_ | refine wf_setI ?_ | refine wf_aug ?_ | refine wf_asgT ?_ | refine wf_nil ?_ | refine wf_retN ?_ | refine wf_pass ?_ | refine wf_brk ?_ | refine wf_cnt ?_ | refine we_cst ?_ | refine we_d rfl ?_ | refine we_l rfl ?_ | refine we_bin ?_ | refine we_cmp ?_ | refine we_chn ?_ | refine we_ix ?_ | refine we_sl ?_ | refine we_blt ?_ | refine we_mut ?_ | refine we_call ?_ | refine we_tup ?_ | refine we_lst ?_ | refine we_not ?_ | refine we_and ?_ | refine we_or ?_ | refine we_ite ?_ | refine we_isN ?_ | refine we_isC ?_ | refine we_neg ?_ | refine we_gcon ?_ | refine we_lc ?_ | refine wa_cons ?_ | refine wa_nil ?_ | refine wp_none ?_ | refine wp_some ?_ | refine wt_not ?_ | refine wt_and ?_ | refine wt_or ?_ | refine wt_nil ?_ | refine wt_one ?_ | refine wi_seq ?_ | refine wi_rng ?_ | refine wi_enum ?_ | refine wi_zip ?_ | refine wi_rev ?_ | refine wo_turn ?_ | refine wt_val rfl ?_ | refine ⟨rfl, ?_⟩ | refine ⟨_, rfl, rfl, ?_⟩ | refine ⟨_, _, rfl, rfl, ?_⟩ | refine ⟨_, _, _, rfl, rfl, rfl, ?_⟩ | refine ⟨_, _, _, rfl, rfl, mul_r (by decide), ?_⟩ | refine ⟨_, _, rfl, ?_⟩ | refine ⟨_, rfl, ?_⟩ | refine br_t ?_ | refine br_f ?_ | refine rt_own rfl ?_)
      exact ⟨_, _, _, .inr ⟨_, rfl⟩, rfl⟩
    · rintro c ⟨a, a6, a7, h6, rfl⟩
      repeat (first | refine wf_cons ?_ | refine wf_asg ?_ | refine wf_iff ?_ | refine wf_ret ?_ | refine wf_ex ?_ | refine wf_setI ?_ | refine wf_aug ?_ | refine wf_asgT ?_ | refine wf_nil ?_ | refine wf_retN ?_ | refine wf_pass ?_ | refine wf_brk ?_ | refine wf_cnt ?_ | refine we_cst ?_ | refine we_d rfl ?_ | refine we_l rfl ?_ | refine we_bin ?_ | refine we_cmp ?_ | refine we_chn ?_ | refine we_ix ?_ | refine we_sl ?_ | refine we_blt ?_ | refine we_mut ?_ | refine we_call ?_ | refine we_tup ?_ | refine we_lst ?_ | refine we_not ?_ | refine we_and ?_ | refine we_or ?_ | refine we_ite ?_ | refine we_isN ?_ | refine we_isC ?_ | refine we_neg ?_ | refine we_gcon ?_ | refine we_lc ?_ | refine wa_cons ?_ | refine wa_nil ?_ | refine wp_none ?_ | refine wp_some ?_ | refine wt_not ?_ | refine wt_and ?_ | refine wt_or ?_ | refine wt_nil ?_ | refine wt_one ?_ | refine wi_seq ?_ | refine wi_rng ?_ | refine wi_enum ?_ | refine wi_zip ?_ | refine wi_rev ?_ | refine wo_turn ?_ | refine wt_val rfl ?_ | refine ⟨rfl, ?_⟩ | refine ⟨_, rfl, rfl, ?_⟩ | refine ⟨_, _, rfl, rfl, ?_⟩ | refine ⟨_, _, _, rfl, rfl, rfl, ?_⟩ | refine ⟨_, _, _, rfl, rfl, mul_r (by decide), ?_⟩ | refine ⟨_, _, rfl, ?_⟩ | refine ⟨_, rfl, ?_⟩ | refine br_t ?_ | refine br_f ?_ | refine rt_own rfl ?_)
      refine ⟨a, ts ++ [.tup us], _, _, _, _, h6, by simp [hl], ?_, rfl⟩
      intro t ht
      rcases List.mem_append.mp ht with ht | ht
      · exact hts t ht
      · rw [List.mem_singleton.mp ht]; exact hkf
  rintro c ⟨a, ts, a3, a4, a6, a7, h6, hl, hts, rfl⟩
  have hl : ts.length = 5 := hl
  obtain ⟨t0, t1, t2, t3, t4, rfl⟩ : ∃ t0 t1 t2 t3 t4, ts = [t0, t1, t2, t3, t4] := by
    match ts, hl with
    | [t0, t1, t2, t3, t4], _ => exact ⟨t0, t1, t2, t3, t4, rfl⟩
  have k0 : KF t0 := hts t0 (by simp)
  have k1 : KF t1 := hts t1 (by simp)
  have k2 : KF t2 := hts t2 (by simp)
  have k3 : KF t3 := hts t3 (by simp)
  have k4 : KF t4 := hts t4 (by simp)
  have hwts : wlDs [t0, t1, t2, t3, t4] = true := wlDs_of fun t ht => (hts t ht).vf.1
  repeat (first | refine wf_cons ?_ | refine wf_asg ?_ | refine wf_iff ?_ | refine wf_ret ?_ | refine wf_ex ?_ | refine wf_setI ?_ | refine wf_aug ?_ | refine wf_asgT ?_ | refine wf_nil ?_ | refine wf_retN ?_ | refine wf_pass ?_ | refine wf_brk ?_ | refine wf_cnt ?_ | refine we_cst ?_ | refine we_d rfl ?_ | refine we_l rfl ?_ | refine we_bin ?_ | refine we_cmp ?_ | refine we_chn ?_ | refine we_ix ?_ | refine we_sl ?_ | refine we_blt ?_ | refine we_mut ?_ | refine we_call ?_ | refine we_tup ?_ | refine we_lst ?_ | refine we_not ?_ | refine we_and ?_ | refine we_or ?_ | refine we_ite ?_ | refine we_isN ?_ | refine we_isC ?_ | refine we_neg ?_ | refine we_gcon ?_ | refine we_lc ?_ | refine wa_cons ?_ | refine wa_nil ?_ | refine wp_none ?_ | refine wp_some ?_ | refine wt_not ?_ | refine wt_and ?_ | refine wt_or ?_ | refine wt_nil ?_ | refine wt_one ?_ | refine wi_seq ?_ | refine wi_rng ?_ | refine wi_enum ?_ | refine wi_zip ?_ | refine wi_rev ?_ | refine wo_turn ?_ | refine wt_val rfl ?_ | refine ⟨rfl, ?_⟩ | refine ⟨_, rfl, rfl, ?_⟩ | refine ⟨_, _, rfl, rfl, ?_⟩ | refine ⟨_, _, _, rfl, rfl, rfl, ?_⟩ | refine ⟨_, _, _, rfl, rfl, mul_r (by decide), ?_⟩ | refine ⟨_, _, rfl, ?_⟩ | refine ⟨_, rfl, ?_⟩ | refine br_t ?_ | refine br_f ?_ | refine rt_own rfl ?_)
  refine wf_fr ?_
  repeat (first | refine wf_cons ?_ | refine wf_asg ?_ | refine wf_iff ?_ | refine wf_ret ?_ | refine wf_ex ?_ | refine wf_setI ?_ | refine wf_aug ?_ | refine wf_asgT ?_ | refine wf_nil ?_ | refine wf_retN ?_ | refine wf_pass ?_ | refine wf_brk ?_ | refine wf_cnt ?_ | refine we_cst ?_ | refine we_d rfl ?_ | refine we_l rfl ?_ | refine we_bin ?_ | refine we_cmp ?_ | refine we_chn ?_ | refine we_ix ?_ | refine we_sl ?_ | refine we_blt ?_ | refine we_mut ?_ | refine we_call ?_ | refine we_tup ?_ | refine we_lst ?_ | refine we_not ?_ | refine we_and ?_ | refine we_or ?_ | refine we_ite ?_ | refine we_isN ?_ | refine we_isC ?_ | refine we_neg ?_ | refine we_gcon ?_ | refine we_lc ?_ | refine wa_cons ?_ | refine wa_nil ?_ | refine wp_none ?_ | refine wp_some ?_ | refine wt_not ?_ | refine wt_and ?_ | refine wt_or ?_ | refine wt_nil ?_ | refine wt_one ?_ | refine wi_seq ?_ | refine wi_rng ?_ | refine wi_enum ?_ | refine wi_zip ?_ | refine wi_rev ?_ | refine wo_turn ?_ | refine wt_val rfl ?_ | refine ⟨rfl, ?_⟩ | refine ⟨_, rfl, rfl, ?_⟩ | refine ⟨_, _, rfl, rfl, ?_⟩ | refine ⟨_, _, _, rfl, rfl, rfl, ?_⟩ | refine ⟨_, _, _, rfl, rfl, mul_r (by decide), ?_⟩ | refine ⟨_, _, rfl, ?_⟩ | refine ⟨_, rfl, ?_⟩ | refine br_t ?_ | refine br_f ?_ | refine rt_own rfl ?_)
  refine for_inv (its := [t0, t1, t2, t3, t4]) (fun i c => ∃ a4, c = [some (.d (.lst (dis ns))), some (bx ds a), some (.l [t0, t1, t2, t3, t4]), a3, a4, none, a6, a7, none]) ⟨a4, rfl⟩ ?_ ?_
  · rintro i d c hi ⟨a4, rfl⟩
    obtain ⟨hi2, rfl⟩ := get_of (xs := [t0, t1, t2, t3, t4]) hi
    have hkf := hts _ (List.getElem_mem hi2)
    generalize [t0, t1, t2, t3, t4][i] = d at hkf ⊢
    refine ⟨_, rfl, ?_⟩
    refine wf_still ?_
    repeat (first | refine wf_cons ?_ | refine wf_asg ?_ | refine wf_iff ?_ | refine wf_ret ?_ | refine wf_ex ?_ | refine wf_setI ?_ | refine wf_aug ?_ | refine wf_asgT ?_ | refine wf_nil ?_ | refine wf_retN ?_ | refine wf_pass ?_ | refine wf_brk ?_ | refine wf_cnt ?_ | refine we_cst ?_ | refine we_d rfl ?_ | refine we_l rfl ?_ | refine we_bin ?_ | refine we_cmp ?_ | refine we_chn ?_ | refine we_ix ?_ | refine we_sl ?_ | refine we_blt ?_ | refine we_mut ?_ | refine we_call ?_ | refine we_tup ?_ | refine we_lst ?_ | refine we_not ?_ | refine we_and ?_ | refine we_or ?_ | refine we_ite ?_ | refine we_isN ?_ | refine we_isC ?_ | refine we_neg ?_ | refine we_gcon ?_ | refine we_lc ?_ | refine wa_cons ?_ | refine wa_nil ?_ | refine wp_none ?_ | refine wp_some ?_ | refine wt_not ?_ | refine wt_and ?_ | refine wt_or ?_ | refine wt_nil ?_ | refine wt_one ?_ | refine wi_seq ?_ | refine wi_rng ?_ | refine wi_enum ?_ | refine wi_zip ?_ | refine wi_rev ?_ | refine wo_turn ?_ | refine wt_val rfl ?_ | refine ⟨rfl, ?_⟩ | refine ⟨_, rfl, rfl, ?_⟩ | refine ⟨_, _, rfl, rfl, ?_⟩ | refine ⟨_, _, _, rfl, rfl, rfl, ?_⟩ | refine ⟨_, _, _, rfl, rfl, mul_r (by decide), ?_⟩ | refine ⟨_, _, rfl, ?_⟩ | refine ⟨_, rfl, ?_⟩ | refine br_t ?_ | refine br_f ?_ | refine rt_own rfl ?_)
    obtain ⟨_, y4, rfl⟩ := right d hkf
    refine we_callV y4 rfl rfl rfl ?_
    repeat (first | refine wf_cons ?_ | refine wf_asg ?_ | refine wf_iff ?_ | refine wf_ret ?_ | refine wf_ex ?_ | refine wf_setI ?_ | refine wf_aug ?_ | refine wf_asgT ?_ | refine wf_nil ?_ | refine wf_retN ?_ | refine wf_pass ?_ | refine wf_brk ?_ | refine wf_cnt ?_ | refine we_cst ?_ | refine we_d rfl ?_ | refine we_l rfl ?_ | refine we_bin ?_ | refine we_cmp ?_ | refine we_chn ?_ | refine we_ix ?_ | refine we_sl ?_ | refine we_blt ?_ | refine we_mut ?_ | refine we_call ?_ | refine we_tup ?_ | refine we_lst ?_ | refine we_not ?_ | refine we_and ?_ | refine we_or ?_ | refine we_ite ?_ | refine we_isN ?_ | refine we_isC ?_ | refine we_neg ?_ | refine we_gcon ?_ | refine we_lc ?_ | refine wa_cons ?_ | refine wa_nil ?_ | refine wp_none ?_ | refine wp_some ?_ | refine wt_not ?_ | refine wt_and ?_ | refine wt_or ?_ | refine wt_nil ?_ | refine wt_one ?_ | refine wi_seq ?_ | refine wi_rng ?_ | refine wi_enum ?_ | refine wi_zip ?_ | refine wi_rev ?_ | refine wo_turn ?_ | refine wt_val rfl ?_ | refine ⟨rfl, ?_⟩ | refine ⟨_, rfl, rfl, ?_⟩ | refine ⟨_, _, rfl, rfl, ?_⟩ | refine ⟨_, _, _, rfl, rfl, rfl, ?_⟩ | refine ⟨_, _, _, rfl, rfl, mul_r (by decide), ?_⟩ | refine ⟨_, _, rfl, ?_⟩ | refine ⟨_, rfl, ?_⟩ | refine br_t ?_ | refine br_f ?_ | refine rt_own rfl ?_)
    exact ⟨still_l hwts, _, rfl⟩
  rintro c ⟨a4, rfl⟩
  exact M k' ds R N ek (fun _ _ _ _ _ _ _ _ _ => hR _ _ _ rfl ⟨_, rfl⟩) t0 t1 t2 t3 t4 a a3 a4 a6 a7 k0 k1 k2 k3 k4 h6
end G
namespace G
open PySem
theorem fns_all : Fns prg := ⟨⟨fi_0, rfl, rfl, rfl, rfl⟩, ⟨fi_1, rfl, rfl, rfl, rfl⟩, ⟨fi_2, rfl, rfl, rfl, rfl⟩, ⟨fi_3, rfl, rfl, rfl, rfl⟩, ⟨fi_4, rfl, rfl, rfl, rfl⟩, ⟨fi_5, rfl, rfl, rfl, rfl⟩, ⟨fi_6, rfl, rfl, rfl, rfl⟩, ⟨fi_7, rfl, rfl, rfl, rfl⟩, ⟨fi_8, rfl, rfl, rfl, rfl⟩, ⟨fi_9, rfl, rfl, rfl, rfl⟩, ⟨fi_10, rfl, rfl, rfl, rfl⟩, ⟨fi_11, rfl, rfl, rfl, rfl⟩, ⟨fi_12, rfl, rfl, rfl, rfl⟩, ⟨fi_13, rfl, rfl, rfl, rfl⟩, ⟨fi_14, rfl, rfl, rfl, rfl⟩, ⟨fi_15, rfl, rfl, rfl, rfl⟩, ⟨fi_16, rfl, rfl, rfl, rfl⟩, ⟨fi_17, rfl, rfl, rfl, rfl⟩⟩
theorem law_plain (ns : List Int) (h : ns.length ≤ 63) : ∃ outs, run prg 20000 200 17 [.d (.lst (ns.map .int))] = .ok ⟨.v (.d (.bl true)), outs⟩ := by
  obtain ⟨_, h, o, rfl⟩ := law_fst (P := prg) (w := 20000) (k := 200) fns_all (by omega) (by omega) ns fun k' ds R N e hR =>
    law_mid fns_all (by omega) (by omega) (law_tail fns_all (by omega) (by omega) hR)
  exact ⟨_, h⟩
end G
namespace G
open PySem L2
def top (i : Nat) : Stmt := PySem.Challenge.pw_playsense_k00_kinds_and_their_places.main.body.getD i (.Pass ⟨0, 0, 0, 0⟩)
def tab : Tab := ⟨[("is_kind", 0), ("places_beneath", 1), ("places", 2), ("kind_at", 3), ("depth", 4), ("_law_cell", 5), ("_law_digits", 6), ("_law_draw", 7), ("_law_box", 8), ("_law_same", 9), ("_law_at", 10), ("_law_places", 11), ("_law_kind_deep", 12), ("_law_is_kind", 13), ("_law_deep", 14), ("_law_spoilt_kind", 15), ("_law_right", 16), ("law", 17)], []⟩
abbrev d_0 : He.DefD := ⟨("is_kind", none), "is_kind", "is_kind", defArgs (top 1), defBody (top 1), defScope (top 1), [], []⟩
abbrev d_1 : He.DefD := ⟨("places_beneath", none), "places_beneath", "places_beneath", defArgs (top 2), defBody (top 2), defScope (top 2), [], []⟩
abbrev d_2 : He.DefD := ⟨("places", none), "places", "places", defArgs (top 3), defBody (top 3), defScope (top 3), [], []⟩
abbrev d_3 : He.DefD := ⟨("kind_at", none), "kind_at", "kind_at", defArgs (top 4), defBody (top 4), defScope (top 4), [], []⟩
abbrev d_4 : He.DefD := ⟨("depth", none), "depth", "depth", defArgs (top 5), defBody (top 5), defScope (top 5), [], []⟩
abbrev d_5 : He.DefD := ⟨("_law_cell", none), "_law_cell", "_law_cell", defArgs (top 7), defBody (top 7), defScope (top 7), [], []⟩
abbrev d_6 : He.DefD := ⟨("_law_digits", none), "_law_digits", "_law_digits", defArgs (top 8), defBody (top 8), defScope (top 8), [], []⟩
abbrev d_7 : He.DefD := ⟨("_law_draw", none), "_law_draw", "_law_draw", defArgs (top 9), defBody (top 9), defScope (top 9), [], []⟩
abbrev d_8 : He.DefD := ⟨("_law_box", none), "_law_box", "_law_box", defArgs (top 10), defBody (top 10), defScope (top 10), [], []⟩
abbrev d_9 : He.DefD := ⟨("_law_same", none), "_law_same", "_law_same", defArgs (top 11), defBody (top 11), defScope (top 11), [], []⟩
abbrev d_10 : He.DefD := ⟨("_law_at", none), "_law_at", "_law_at", defArgs (top 12), defBody (top 12), defScope (top 12), [], []⟩
abbrev d_11 : He.DefD := ⟨("_law_places", none), "_law_places", "_law_places", defArgs (top 13), defBody (top 13), defScope (top 13), [], []⟩
abbrev d_12 : He.DefD := ⟨("_law_kind_deep", none), "_law_kind_deep", "_law_kind_deep", defArgs (top 14), defBody (top 14), defScope (top 14), [], []⟩
abbrev d_13 : He.DefD := ⟨("_law_is_kind", none), "_law_is_kind", "_law_is_kind", defArgs (top 15), defBody (top 15), defScope (top 15), [], []⟩
abbrev d_14 : He.DefD := ⟨("_law_deep", none), "_law_deep", "_law_deep", defArgs (top 16), defBody (top 16), defScope (top 16), [], []⟩
abbrev d_15 : He.DefD := ⟨("_law_spoilt_kind", none), "_law_spoilt_kind", "_law_spoilt_kind", defArgs (top 17), defBody (top 17), defScope (top 17), [], []⟩
abbrev d_16 : He.DefD := ⟨("_law_right", none), "_law_right", "_law_right", defArgs (top 18), defBody (top 18), defScope (top 18), [], []⟩
abbrev d_17 : He.DefD := ⟨("law", none), "law", "law", defArgs (top 19), defBody (top 19), defScope (top 19), [], []⟩
def fnD : List He.DefD := [d_0, d_1, d_2, d_3, d_4, d_5, d_6, d_7, d_8, d_9, d_10, d_11, d_12, d_13, d_14, d_15, d_16, d_17]
def faD : List He.Fa := blNames.map (fun x => .free (x : Str)) ++ fnD.map fun d => .glo d.name
def tfD : List He.Defn := fnD.map fun d => (d.name, none)
def exD (K : PySem.W.Frag) : Bool := tab.cons.all (conK K)
theorem sc_0 : FnScope ["value", "waiting", "kind"] ["value"] (defScope (top 1)) := ⟨rfl, rfl, rfl, by decide +kernel, rfl, by decide +kernel, by decide +kernel⟩
theorem ck_0 : chkSts tab ["value", "waiting", "kind"] b_is_kind (defScope (top 1)) (fun _ => true) (defBody (top 1)) = true := by decide +kernel
theorem fc_0 {K : PySem.W.Frag} {w : World} {h : Heap} (c : He.SaysX faD fnD [] tfD exD w h K) : ∃ fd, FunD K "is_kind" "is_kind" (defArgs (top 1)) (defBody (top 1)) (defScope (top 1)) [] [] (He.ga K "is_kind") fd ∧ FnFact K tab (tfD.map (He.cT K)) fi_0 (He.ga K "is_kind") fd ["value"] := by
  obtain ⟨fd, F⟩ := c.t.d.defs (d := d_0) (List.mem_of_getElem? (i := 0) rfl)
  exact ⟨fd, F, "is_kind", top 1, F, sc_0, rfl, by decide, F.bindsN (fun _ _ _ _ _ _ us hl => match us, hl with | [_], _ => rfl), ck_0, fun _ hc => tab_mem F (List.mem_map.mpr ⟨d_0, List.mem_of_getElem? (i := 0) rfl, rfl⟩) hc⟩
theorem sc_1 : FnScope ["kind", "place", "found", "number", "argument"] ["kind", "place"] (defScope (top 2)) := ⟨rfl, rfl, rfl, by decide +kernel, rfl, by decide +kernel, by decide +kernel⟩
theorem ck_1 : chkSts tab ["kind", "place", "found", "number", "argument"] b_places_beneath (defScope (top 2)) (fun _ => true) (defBody (top 2)) = true := by decide +kernel
theorem fc_1 {K : PySem.W.Frag} {w : World} {h : Heap} (c : He.SaysX faD fnD [] tfD exD w h K) : ∃ fd, FunD K "places_beneath" "places_beneath" (defArgs (top 2)) (defBody (top 2)) (defScope (top 2)) [] [] (He.ga K "places_beneath") fd ∧ FnFact K tab (tfD.map (He.cT K)) fi_1 (He.ga K "places_beneath") fd ["kind", "place"] := by
  obtain ⟨fd, F⟩ := c.t.d.defs (d := d_1) (List.mem_of_getElem? (i := 1) rfl)
  exact ⟨fd, F, "places_beneath", top 2, F, sc_1, rfl, by decide, F.bindsN (fun _ _ _ _ _ _ us hl => match us, hl with | [_, _], _ => rfl), ck_1, fun _ hc => tab_mem F (List.mem_map.mpr ⟨d_1, List.mem_of_getElem? (i := 1) rfl, rfl⟩) hc⟩
theorem sc_2 : FnScope ["kind"] ["kind"] (defScope (top 3)) := ⟨rfl, rfl, rfl, by decide +kernel, rfl, by decide +kernel, by decide +kernel⟩
theorem ck_2 : chkSts tab ["kind"] b_places (defScope (top 3)) (fun _ => true) (defBody (top 3)) = true := by decide +kernel
theorem fc_2 {K : PySem.W.Frag} {w : World} {h : Heap} (c : He.SaysX faD fnD [] tfD exD w h K) : ∃ fd, FunD K "places" "places" (defArgs (top 3)) (defBody (top 3)) (defScope (top 3)) [] [] (He.ga K "places") fd ∧ FnFact K tab (tfD.map (He.cT K)) fi_2 (He.ga K "places") fd ["kind"] := by
  obtain ⟨fd, F⟩ := c.t.d.defs (d := d_2) (List.mem_of_getElem? (i := 2) rfl)
  exact ⟨fd, F, "places", top 3, F, sc_2, rfl, by decide, F.bindsN (fun _ _ _ _ _ _ us hl => match us, hl with | [_], _ => rfl), ck_2, fun _ hc => tab_mem F (List.mem_map.mpr ⟨d_2, List.mem_of_getElem? (i := 2) rfl, rfl⟩) hc⟩
theorem sc_3 : FnScope ["kind", "place", "number"] ["kind", "place"] (defScope (top 4)) := ⟨rfl, rfl, rfl, by decide +kernel, rfl, by decide +kernel, by decide +kernel⟩
theorem ck_3 : chkSts tab ["kind", "place", "number"] b_kind_at (defScope (top 4)) (fun _ => true) (defBody (top 4)) = true := by decide +kernel
theorem fc_3 {K : PySem.W.Frag} {w : World} {h : Heap} (c : He.SaysX faD fnD [] tfD exD w h K) : ∃ fd, FunD K "kind_at" "kind_at" (defArgs (top 4)) (defBody (top 4)) (defScope (top 4)) [] [] (He.ga K "kind_at") fd ∧ FnFact K tab (tfD.map (He.cT K)) fi_3 (He.ga K "kind_at") fd ["kind", "place"] := by
  obtain ⟨fd, F⟩ := c.t.d.defs (d := d_3) (List.mem_of_getElem? (i := 3) rfl)
  exact ⟨fd, F, "kind_at", top 4, F, sc_3, rfl, by decide, F.bindsN (fun _ _ _ _ _ _ us hl => match us, hl with | [_, _], _ => rfl), ck_3, fun _ hc => tab_mem F (List.mem_map.mpr ⟨d_3, List.mem_of_getElem? (i := 3) rfl, rfl⟩) hc⟩
theorem sc_4 : FnScope ["kind", "argument"] ["kind"] (defScope (top 5)) := ⟨rfl, rfl, rfl, by decide +kernel, rfl, by decide +kernel, by decide +kernel⟩
theorem ck_4 : chkSts tab ["kind", "argument"] b_depth (defScope (top 5)) (fun _ => true) (defBody (top 5)) = true := by decide +kernel
theorem fc_4 {K : PySem.W.Frag} {w : World} {h : Heap} (c : He.SaysX faD fnD [] tfD exD w h K) : ∃ fd, FunD K "depth" "depth" (defArgs (top 5)) (defBody (top 5)) (defScope (top 5)) [] [] (He.ga K "depth") fd ∧ FnFact K tab (tfD.map (He.cT K)) fi_4 (He.ga K "depth") fd ["kind"] := by
  obtain ⟨fd, F⟩ := c.t.d.defs (d := d_4) (List.mem_of_getElem? (i := 4) rfl)
  exact ⟨fd, F, "depth", top 5, F, sc_4, rfl, by decide, F.bindsN (fun _ _ _ _ _ _ us hl => match us, hl with | [_], _ => rfl), ck_4, fun _ hc => tab_mem F (List.mem_map.mpr ⟨d_4, List.mem_of_getElem? (i := 4) rfl, rfl⟩) hc⟩
theorem sc_5 : FnScope ["_law_script", "_law_k"] ["_law_script", "_law_k"] (defScope (top 7)) := ⟨rfl, rfl, rfl, by decide +kernel, rfl, by decide +kernel, by decide +kernel⟩
theorem ck_5 : chkSts tab ["_law_script", "_law_k"] b_L_cell (defScope (top 7)) (fun _ => true) (defBody (top 7)) = true := by decide +kernel
theorem fc_5 {K : PySem.W.Frag} {w : World} {h : Heap} (c : He.SaysX faD fnD [] tfD exD w h K) : ∃ fd, FunD K "_law_cell" "_law_cell" (defArgs (top 7)) (defBody (top 7)) (defScope (top 7)) [] [] (He.ga K "_law_cell") fd ∧ FnFact K tab (tfD.map (He.cT K)) fi_5 (He.ga K "_law_cell") fd ["_law_script", "_law_k"] := by
  obtain ⟨fd, F⟩ := c.t.d.defs (d := d_5) (List.mem_of_getElem? (i := 5) rfl)
  exact ⟨fd, F, "_law_cell", top 7, F, sc_5, rfl, by decide, F.bindsN (fun _ _ _ _ _ _ us hl => match us, hl with | [_, _], _ => rfl), ck_5, fun _ hc => tab_mem F (List.mem_map.mpr ⟨d_5, List.mem_of_getElem? (i := 5) rfl, rfl⟩) hc⟩
theorem sc_6 : FnScope ["_law_script", "_law_first", "_law_last", "_law_digits_here", "_law_k", "_law_cell_here", "_law_turn", "_law_seed"] ["_law_script", "_law_first", "_law_last"] (defScope (top 8)) := ⟨rfl, rfl, rfl, by decide +kernel, rfl, by decide +kernel, by decide +kernel⟩
theorem ck_6 : chkSts tab ["_law_script", "_law_first", "_law_last", "_law_digits_here", "_law_k", "_law_cell_here", "_law_turn", "_law_seed"] b_L_digits (defScope (top 8)) (fun _ => true) (defBody (top 8)) = true := by decide +kernel
theorem fc_6 {K : PySem.W.Frag} {w : World} {h : Heap} (c : He.SaysX faD fnD [] tfD exD w h K) : ∃ fd, FunD K "_law_digits" "_law_digits" (defArgs (top 8)) (defBody (top 8)) (defScope (top 8)) [] [] (He.ga K "_law_digits") fd ∧ FnFact K tab (tfD.map (He.cT K)) fi_6 (He.ga K "_law_digits") fd ["_law_script", "_law_first", "_law_last"] := by
  obtain ⟨fd, F⟩ := c.t.d.defs (d := d_6) (List.mem_of_getElem? (i := 6) rfl)
  exact ⟨fd, F, "_law_digits", top 8, F, sc_6, rfl, by decide, F.bindsN (fun _ _ _ _ _ _ us hl => match us, hl with | [_, _, _], _ => rfl), ck_6, fun _ hc => tab_mem F (List.mem_map.mpr ⟨d_6, List.mem_of_getElem? (i := 6) rfl, rfl⟩) hc⟩
theorem sc_7 : FnScope ["_law_box_here", "_law_many", "_law_at_here"] ["_law_box_here", "_law_many"] (defScope (top 9)) := ⟨rfl, rfl, rfl, by decide +kernel, rfl, by decide +kernel, by decide +kernel⟩
theorem ck_7 : chkSts tab ["_law_box_here", "_law_many", "_law_at_here"] b_L_draw (defScope (top 9)) (fun _ => true) (defBody (top 9)) = true := by decide +kernel
theorem fc_7 {K : PySem.W.Frag} {w : World} {h : Heap} (c : He.SaysX faD fnD [] tfD exD w h K) : ∃ fd, FunD K "_law_draw" "_law_draw" (defArgs (top 9)) (defBody (top 9)) (defScope (top 9)) [] [] (He.ga K "_law_draw") fd ∧ FnFact K tab (tfD.map (He.cT K)) fi_7 (He.ga K "_law_draw") fd ["_law_box_here", "_law_many"] := by
  obtain ⟨fd, F⟩ := c.t.d.defs (d := d_7) (List.mem_of_getElem? (i := 7) rfl)
  exact ⟨fd, F, "_law_draw", top 9, F, sc_7, rfl, by decide, F.bindsN (fun _ _ _ _ _ _ us hl => match us, hl with | [_, _], _ => rfl), ck_7, fun _ hc => tab_mem F (List.mem_map.mpr ⟨d_7, List.mem_of_getElem? (i := 7) rfl, rfl⟩) hc⟩
theorem sc_8 : FnScope ["_law_script", "_law_first", "_law_last"] ["_law_script", "_law_first", "_law_last"] (defScope (top 10)) := ⟨rfl, rfl, rfl, by decide +kernel, rfl, by decide +kernel, by decide +kernel⟩
theorem ck_8 : chkSts tab ["_law_script", "_law_first", "_law_last"] b_L_box (defScope (top 10)) (fun _ => true) (defBody (top 10)) = true := by decide +kernel
theorem fc_8 {K : PySem.W.Frag} {w : World} {h : Heap} (c : He.SaysX faD fnD [] tfD exD w h K) : ∃ fd, FunD K "_law_box" "_law_box" (defArgs (top 10)) (defBody (top 10)) (defScope (top 10)) [] [] (He.ga K "_law_box") fd ∧ FnFact K tab (tfD.map (He.cT K)) fi_8 (He.ga K "_law_box") fd ["_law_script", "_law_first", "_law_last"] := by
  obtain ⟨fd, F⟩ := c.t.d.defs (d := d_8) (List.mem_of_getElem? (i := 8) rfl)
  exact ⟨fd, F, "_law_box", top 10, F, sc_8, rfl, by decide, F.bindsN (fun _ _ _ _ _ _ us hl => match us, hl with | [_, _, _], _ => rfl), ck_8, fun _ hc => tab_mem F (List.mem_map.mpr ⟨d_8, List.mem_of_getElem? (i := 8) rfl, rfl⟩) hc⟩
theorem sc_9 : FnScope ["_law_actual", "_law_expected", "_law_k"] ["_law_actual", "_law_expected"] (defScope (top 11)) := ⟨rfl, rfl, rfl, by decide +kernel, rfl, by decide +kernel, by decide +kernel⟩
theorem ck_9 : chkSts tab ["_law_actual", "_law_expected", "_law_k"] b_L_same (defScope (top 11)) (fun _ => true) (defBody (top 11)) = true := by decide +kernel
theorem fc_9 {K : PySem.W.Frag} {w : World} {h : Heap} (c : He.SaysX faD fnD [] tfD exD w h K) : ∃ fd, FunD K "_law_same" "_law_same" (defArgs (top 11)) (defBody (top 11)) (defScope (top 11)) [] [] (He.ga K "_law_same") fd ∧ FnFact K tab (tfD.map (He.cT K)) fi_9 (He.ga K "_law_same") fd ["_law_actual", "_law_expected"] := by
  obtain ⟨fd, F⟩ := c.t.d.defs (d := d_9) (List.mem_of_getElem? (i := 9) rfl)
  exact ⟨fd, F, "_law_same", top 11, F, sc_9, rfl, by decide, F.bindsN (fun _ _ _ _ _ _ us hl => match us, hl with | [_, _], _ => rfl), ck_9, fun _ hc => tab_mem F (List.mem_map.mpr ⟨d_9, List.mem_of_getElem? (i := 9) rfl, rfl⟩) hc⟩
theorem sc_10 : FnScope ["_law_kind", "_law_place", "_law_k"] ["_law_kind", "_law_place"] (defScope (top 12)) := ⟨rfl, rfl, rfl, by decide +kernel, rfl, by decide +kernel, by decide +kernel⟩
theorem ck_10 : chkSts tab ["_law_kind", "_law_place", "_law_k"] b_L_at (defScope (top 12)) (fun _ => true) (defBody (top 12)) = true := by decide +kernel
theorem fc_10 {K : PySem.W.Frag} {w : World} {h : Heap} (c : He.SaysX faD fnD [] tfD exD w h K) : ∃ fd, FunD K "_law_at" "_law_at" (defArgs (top 12)) (defBody (top 12)) (defScope (top 12)) [] [] (He.ga K "_law_at") fd ∧ FnFact K tab (tfD.map (He.cT K)) fi_10 (He.ga K "_law_at") fd ["_law_kind", "_law_place"] := by
  obtain ⟨fd, F⟩ := c.t.d.defs (d := d_10) (List.mem_of_getElem? (i := 10) rfl)
  exact ⟨fd, F, "_law_at", top 12, F, sc_10, rfl, by decide, F.bindsN (fun _ _ _ _ _ _ us hl => match us, hl with | [_, _], _ => rfl), ck_10, fun _ hc => tab_mem F (List.mem_map.mpr ⟨d_10, List.mem_of_getElem? (i := 10) rfl, rfl⟩) hc⟩
theorem sc_11 : FnScope ["_law_kind", "_law_rows", "_law_k", "_law_row"] ["_law_kind"] (defScope (top 13)) := ⟨rfl, rfl, rfl, by decide +kernel, rfl, by decide +kernel, by decide +kernel⟩
theorem ck_11 : chkSts tab ["_law_kind", "_law_rows", "_law_k", "_law_row"] b_L_places (defScope (top 13)) (fun _ => true) (defBody (top 13)) = true := by decide +kernel
theorem fc_11 {K : PySem.W.Frag} {w : World} {h : Heap} (c : He.SaysX faD fnD [] tfD exD w h K) : ∃ fd, FunD K "_law_places" "_law_places" (defArgs (top 13)) (defBody (top 13)) (defScope (top 13)) [] [] (He.ga K "_law_places") fd ∧ FnFact K tab (tfD.map (He.cT K)) fi_11 (He.ga K "_law_places") fd ["_law_kind"] := by
  obtain ⟨fd, F⟩ := c.t.d.defs (d := d_11) (List.mem_of_getElem? (i := 11) rfl)
  exact ⟨fd, F, "_law_places", top 13, F, sc_11, rfl, by decide, F.bindsN (fun _ _ _ _ _ _ us hl => match us, hl with | [_], _ => rfl), ck_11, fun _ hc => tab_mem F (List.mem_map.mpr ⟨d_11, List.mem_of_getElem? (i := 11) rfl, rfl⟩) hc⟩
theorem sc_12 : FnScope ["_law_box_here", "_law_deep_here", "_law_budget", "_law_parts", "_law_k"] ["_law_box_here", "_law_deep_here", "_law_budget"] (defScope (top 14)) := ⟨rfl, rfl, rfl, by decide +kernel, rfl, by decide +kernel, by decide +kernel⟩
theorem ck_12 : chkSts tab ["_law_box_here", "_law_deep_here", "_law_budget", "_law_parts", "_law_k"] b_L_kind_deep (defScope (top 14)) (fun _ => true) (defBody (top 14)) = true := by decide +kernel
theorem fc_12 {K : PySem.W.Frag} {w : World} {h : Heap} (c : He.SaysX faD fnD [] tfD exD w h K) : ∃ fd, FunD K "_law_kind_deep" "_law_kind_deep" (defArgs (top 14)) (defBody (top 14)) (defScope (top 14)) [] [] (He.ga K "_law_kind_deep") fd ∧ FnFact K tab (tfD.map (He.cT K)) fi_12 (He.ga K "_law_kind_deep") fd ["_law_box_here", "_law_deep_here", "_law_budget"] := by
  obtain ⟨fd, F⟩ := c.t.d.defs (d := d_12) (List.mem_of_getElem? (i := 12) rfl)
  exact ⟨fd, F, "_law_kind_deep", top 14, F, sc_12, rfl, by decide, F.bindsN (fun _ _ _ _ _ _ us hl => match us, hl with | [_, _, _], _ => rfl), ck_12, fun _ hc => tab_mem F (List.mem_map.mpr ⟨d_12, List.mem_of_getElem? (i := 12) rfl, rfl⟩) hc⟩
theorem sc_13 : FnScope ["_law_value", "_law_part"] ["_law_value"] (defScope (top 15)) := ⟨rfl, rfl, rfl, by decide +kernel, rfl, by decide +kernel, by decide +kernel⟩
theorem ck_13 : chkSts tab ["_law_value", "_law_part"] b_L_is_kind (defScope (top 15)) (fun _ => true) (defBody (top 15)) = true := by decide +kernel
theorem fc_13 {K : PySem.W.Frag} {w : World} {h : Heap} (c : He.SaysX faD fnD [] tfD exD w h K) : ∃ fd, FunD K "_law_is_kind" "_law_is_kind" (defArgs (top 15)) (defBody (top 15)) (defScope (top 15)) [] [] (He.ga K "_law_is_kind") fd ∧ FnFact K tab (tfD.map (He.cT K)) fi_13 (He.ga K "_law_is_kind") fd ["_law_value"] := by
  obtain ⟨fd, F⟩ := c.t.d.defs (d := d_13) (List.mem_of_getElem? (i := 13) rfl)
  exact ⟨fd, F, "_law_is_kind", top 15, F, sc_13, rfl, by decide, F.bindsN (fun _ _ _ _ _ _ us hl => match us, hl with | [_], _ => rfl), ck_13, fun _ hc => tab_mem F (List.mem_map.mpr ⟨d_13, List.mem_of_getElem? (i := 13) rfl, rfl⟩) hc⟩
theorem sc_14 : FnScope ["_law_kind", "_law_part"] ["_law_kind"] (defScope (top 16)) := ⟨rfl, rfl, rfl, by decide +kernel, rfl, by decide +kernel, by decide +kernel⟩
theorem ck_14 : chkSts tab ["_law_kind", "_law_part"] b_L_deep (defScope (top 16)) (fun _ => true) (defBody (top 16)) = true := by decide +kernel
theorem fc_14 {K : PySem.W.Frag} {w : World} {h : Heap} (c : He.SaysX faD fnD [] tfD exD w h K) : ∃ fd, FunD K "_law_deep" "_law_deep" (defArgs (top 16)) (defBody (top 16)) (defScope (top 16)) [] [] (He.ga K "_law_deep") fd ∧ FnFact K tab (tfD.map (He.cT K)) fi_14 (He.ga K "_law_deep") fd ["_law_kind"] := by
  obtain ⟨fd, F⟩ := c.t.d.defs (d := d_14) (List.mem_of_getElem? (i := 14) rfl)
  exact ⟨fd, F, "_law_deep", top 16, F, sc_14, rfl, by decide, F.bindsN (fun _ _ _ _ _ _ us hl => match us, hl with | [_], _ => rfl), ck_14, fun _ hc => tab_mem F (List.mem_map.mpr ⟨d_14, List.mem_of_getElem? (i := 14) rfl, rfl⟩) hc⟩
theorem sc_15 : FnScope ["_law_box_here", "_law_value", "_law_menu", "_law_k"] ["_law_box_here", "_law_value"] (defScope (top 17)) := ⟨rfl, rfl, rfl, by decide +kernel, rfl, by decide +kernel, by decide +kernel⟩
theorem ck_15 : chkSts tab ["_law_box_here", "_law_value", "_law_menu", "_law_k"] b_L_spoilt_kind (defScope (top 17)) (fun _ => true) (defBody (top 17)) = true := by decide +kernel
theorem fc_15 {K : PySem.W.Frag} {w : World} {h : Heap} (c : He.SaysX faD fnD [] tfD exD w h K) : ∃ fd, FunD K "_law_spoilt_kind" "_law_spoilt_kind" (defArgs (top 17)) (defBody (top 17)) (defScope (top 17)) [] [] (He.ga K "_law_spoilt_kind") fd ∧ FnFact K tab (tfD.map (He.cT K)) fi_15 (He.ga K "_law_spoilt_kind") fd ["_law_box_here", "_law_value"] := by
  obtain ⟨fd, F⟩ := c.t.d.defs (d := d_15) (List.mem_of_getElem? (i := 15) rfl)
  exact ⟨fd, F, "_law_spoilt_kind", top 17, F, sc_15, rfl, by decide, F.bindsN (fun _ _ _ _ _ _ us hl => match us, hl with | [_, _], _ => rfl), ck_15, fun _ hc => tab_mem F (List.mem_map.mpr ⟨d_15, List.mem_of_getElem? (i := 15) rfl, rfl⟩) hc⟩
theorem sc_16 : FnScope ["_law_kind", "_law_rows", "_law_place", "_law_found", "_law_many"] ["_law_kind"] (defScope (top 18)) := ⟨rfl, rfl, rfl, by decide +kernel, rfl, by decide +kernel, by decide +kernel⟩
theorem ck_16 : chkSts tab ["_law_kind", "_law_rows", "_law_place", "_law_found", "_law_many"] b_L_right (defScope (top 18)) (fun _ => true) (defBody (top 18)) = true := by decide +kernel
theorem fc_16 {K : PySem.W.Frag} {w : World} {h : Heap} (c : He.SaysX faD fnD [] tfD exD w h K) : ∃ fd, FunD K "_law_right" "_law_right" (defArgs (top 18)) (defBody (top 18)) (defScope (top 18)) [] [] (He.ga K "_law_right") fd ∧ FnFact K tab (tfD.map (He.cT K)) fi_16 (He.ga K "_law_right") fd ["_law_kind"] := by
  obtain ⟨fd, F⟩ := c.t.d.defs (d := d_16) (List.mem_of_getElem? (i := 16) rfl)
  exact ⟨fd, F, "_law_right", top 18, F, sc_16, rfl, by decide, F.bindsN (fun _ _ _ _ _ _ us hl => match us, hl with | [_], _ => rfl), ck_16, fun _ hc => tab_mem F (List.mem_map.mpr ⟨d_16, List.mem_of_getElem? (i := 16) rfl, rfl⟩) hc⟩
theorem sc_17 : FnScope ["_law_script", "_law_box_here", "_law_found", "_law_turn", "_law_kind", "_law_great", "_law_value", "_law_step", "_law_pick"] ["_law_script"] (defScope (top 19)) := ⟨rfl, rfl, rfl, by decide +kernel, rfl, by decide +kernel, by decide +kernel⟩
theorem ck_17 : chkSts tab ["_law_script", "_law_box_here", "_law_found", "_law_turn", "_law_kind", "_law_great", "_law_value", "_law_step", "_law_pick"] b_law (defScope (top 19)) (fun _ => true) (defBody (top 19)) = true := by decide +kernel
theorem fc_17 {K : PySem.W.Frag} {w : World} {h : Heap} (c : He.SaysX faD fnD [] tfD exD w h K) : ∃ fd, FunD K "law" "law" (defArgs (top 19)) (defBody (top 19)) (defScope (top 19)) [] [] (He.ga K "law") fd ∧ FnFact K tab (tfD.map (He.cT K)) fi_17 (He.ga K "law") fd ["_law_script"] := by
  obtain ⟨fd, F⟩ := c.t.d.defs (d := d_17) (List.mem_of_getElem? (i := 17) rfl)
  exact ⟨fd, F, "law", top 19, F, sc_17, rfl, by decide, F.bindsN (fun _ _ _ _ _ _ us hl => match us, hl with | [_], _ => rfl), ck_17, fun _ hc => tab_mem F (List.mem_map.mpr ⟨d_17, List.mem_of_getElem? (i := 17) rfl, rfl⟩) hc⟩
theorem pf {K : PySem.W.Frag} {w : World} {h : Heap} {mg : Str → Option Value} (ca : Nat → Option Addr) (X : K.In h) (G : h.Ns PySem.mainGlobals mg) (c : He.SaysX faD fnD [] tfD exD w h K) : PF ⟨K, ca, (tfD.map (He.cT K)).map (·.2)⟩ tab (tfD.map (He.cT K)) prg K mg where
  hK := rfl
  hT := fun p hp => List.mem_map.mpr ⟨p, hp, rfl⟩
  con := fun p hp => conK_ok X G (List.all_eq_true.mp c.more p hp)
  blt := fun x hx => He.free_ok X G (c.t.d.facts (List.mem_append_left _ (List.mem_map.mpr ⟨x, hx, rfl⟩)))
  fns := List.forall_mem_cons.mpr ⟨(by obtain ⟨fd, _, F⟩ := fc_0 c; exact ⟨fi_0, _, fd, _, rfl, He.glo_ok X G (c.t.d.facts (List.mem_append_right _ (List.mem_map.mpr ⟨d_0, List.mem_of_getElem? (i := 0) rfl, rfl⟩))), F⟩), List.forall_mem_cons.mpr ⟨(by obtain ⟨fd, _, F⟩ := fc_1 c; exact ⟨fi_1, _, fd, _, rfl, He.glo_ok X G (c.t.d.facts (List.mem_append_right _ (List.mem_map.mpr ⟨d_1, List.mem_of_getElem? (i := 1) rfl, rfl⟩))), F⟩), List.forall_mem_cons.mpr ⟨(by obtain ⟨fd, _, F⟩ := fc_2 c; exact ⟨fi_2, _, fd, _, rfl, He.glo_ok X G (c.t.d.facts (List.mem_append_right _ (List.mem_map.mpr ⟨d_2, List.mem_of_getElem? (i := 2) rfl, rfl⟩))), F⟩), List.forall_mem_cons.mpr ⟨(by obtain ⟨fd, _, F⟩ := fc_3 c; exact ⟨fi_3, _, fd, _, rfl, He.glo_ok X G (c.t.d.facts (List.mem_append_right _ (List.mem_map.mpr ⟨d_3, List.mem_of_getElem? (i := 3) rfl, rfl⟩))), F⟩), List.forall_mem_cons.mpr ⟨(by obtain ⟨fd, _, F⟩ := fc_4 c; exact ⟨fi_4, _, fd, _, rfl, He.glo_ok X G (c.t.d.facts (List.mem_append_right _ (List.mem_map.mpr ⟨d_4, List.mem_of_getElem? (i := 4) rfl, rfl⟩))), F⟩), List.forall_mem_cons.mpr ⟨(by obtain ⟨fd, _, F⟩ := fc_5 c; exact ⟨fi_5, _, fd, _, rfl, He.glo_ok X G (c.t.d.facts (List.mem_append_right _ (List.mem_map.mpr ⟨d_5, List.mem_of_getElem? (i := 5) rfl, rfl⟩))), F⟩), List.forall_mem_cons.mpr ⟨(by obtain ⟨fd, _, F⟩ := fc_6 c; exact ⟨fi_6, _, fd, _, rfl, He.glo_ok X G (c.t.d.facts (List.mem_append_right _ (List.mem_map.mpr ⟨d_6, List.mem_of_getElem? (i := 6) rfl, rfl⟩))), F⟩), List.forall_mem_cons.mpr ⟨(by obtain ⟨fd, _, F⟩ := fc_7 c; exact ⟨fi_7, _, fd, _, rfl, He.glo_ok X G (c.t.d.facts (List.mem_append_right _ (List.mem_map.mpr ⟨d_7, List.mem_of_getElem? (i := 7) rfl, rfl⟩))), F⟩), List.forall_mem_cons.mpr ⟨(by obtain ⟨fd, _, F⟩ := fc_8 c; exact ⟨fi_8, _, fd, _, rfl, He.glo_ok X G (c.t.d.facts (List.mem_append_right _ (List.mem_map.mpr ⟨d_8, List.mem_of_getElem? (i := 8) rfl, rfl⟩))), F⟩), List.forall_mem_cons.mpr ⟨(by obtain ⟨fd, _, F⟩ := fc_9 c; exact ⟨fi_9, _, fd, _, rfl, He.glo_ok X G (c.t.d.facts (List.mem_append_right _ (List.mem_map.mpr ⟨d_9, List.mem_of_getElem? (i := 9) rfl, rfl⟩))), F⟩), List.forall_mem_cons.mpr ⟨(by obtain ⟨fd, _, F⟩ := fc_10 c; exact ⟨fi_10, _, fd, _, rfl, He.glo_ok X G (c.t.d.facts (List.mem_append_right _ (List.mem_map.mpr ⟨d_10, List.mem_of_getElem? (i := 10) rfl, rfl⟩))), F⟩), List.forall_mem_cons.mpr ⟨(by obtain ⟨fd, _, F⟩ := fc_11 c; exact ⟨fi_11, _, fd, _, rfl, He.glo_ok X G (c.t.d.facts (List.mem_append_right _ (List.mem_map.mpr ⟨d_11, List.mem_of_getElem? (i := 11) rfl, rfl⟩))), F⟩), List.forall_mem_cons.mpr ⟨(by obtain ⟨fd, _, F⟩ := fc_12 c; exact ⟨fi_12, _, fd, _, rfl, He.glo_ok X G (c.t.d.facts (List.mem_append_right _ (List.mem_map.mpr ⟨d_12, List.mem_of_getElem? (i := 12) rfl, rfl⟩))), F⟩), List.forall_mem_cons.mpr ⟨(by obtain ⟨fd, _, F⟩ := fc_13 c; exact ⟨fi_13, _, fd, _, rfl, He.glo_ok X G (c.t.d.facts (List.mem_append_right _ (List.mem_map.mpr ⟨d_13, List.mem_of_getElem? (i := 13) rfl, rfl⟩))), F⟩), List.forall_mem_cons.mpr ⟨(by obtain ⟨fd, _, F⟩ := fc_14 c; exact ⟨fi_14, _, fd, _, rfl, He.glo_ok X G (c.t.d.facts (List.mem_append_right _ (List.mem_map.mpr ⟨d_14, List.mem_of_getElem? (i := 14) rfl, rfl⟩))), F⟩), List.forall_mem_cons.mpr ⟨(by obtain ⟨fd, _, F⟩ := fc_15 c; exact ⟨fi_15, _, fd, _, rfl, He.glo_ok X G (c.t.d.facts (List.mem_append_right _ (List.mem_map.mpr ⟨d_15, List.mem_of_getElem? (i := 15) rfl, rfl⟩))), F⟩), List.forall_mem_cons.mpr ⟨(by obtain ⟨fd, _, F⟩ := fc_16 c; exact ⟨fi_16, _, fd, _, rfl, He.glo_ok X G (c.t.d.facts (List.mem_append_right _ (List.mem_map.mpr ⟨d_16, List.mem_of_getElem? (i := 16) rfl, rfl⟩))), F⟩), List.forall_mem_cons.mpr ⟨(by obtain ⟨fd, _, F⟩ := fc_17 c; exact ⟨fi_17, _, fd, _, rfl, He.glo_ok X G (c.t.d.facts (List.mem_append_right _ (List.mem_map.mpr ⟨d_17, List.mem_of_getElem? (i := 17) rfl, rfl⟩))), F⟩), fun _ h => nomatch h⟩⟩⟩⟩⟩⟩⟩⟩⟩⟩⟩⟩⟩⟩⟩⟩⟩⟩
def lo_0 : List PySem.Str := ["is_kind", "places_beneath", "places", "kind_at", "depth", "_law_cell", "_law_digits", "_law_draw", "_law_box", "_law_same", "_law_at", "_law_places", "_law_kind_deep", "_law_is_kind", "_law_deep", "_law_spoilt_kind", "_law_right"]
def loose : List PySem.Str := lo_0
abbrev RR_ : PySem.W.OpenRow := PySem.W.OpenLaw.row PySem.Challenge.rw_playsense_k00_kinds_and_their_places
abbrev hk : PySem.W.Hook := He.hookX 4 faD fnD [] tfD exD
def obk (s : PySem.W.SharedT) : He.AlX := He.obsX 4 faD fnD [] tfD exD (HandSHeadRun.getT s)
theorem ob_eq (s : PySem.W.SharedT) : obk s = hk.obs s.abs := He.obsX_eq (HandSHeadRun.getT_eq s)
theorem hrun (w : World) : HandSHeadRun.RunEq RR_ (PySem.W.view RR_.prog [19]) hk obk 6000 loose w := by
  intro os
  kernel_rfl
end G
open PySem PySem.W PySem.Calls PyProof.Rows
set_option maxRecDepth 100000 in
set_option maxHeartbeats 0 in
theorem PySem.Challenge.cw_playsense_k00_kinds_and_their_places_holds : PySem.Challenge.rw_playsense_k00_kinds_and_their_places.Holds := by
  w_on; o_law
  refine HandSHeadRun.head_any (r := OpenLaw.row PySem.Challenge.rw_playsense_k00_kinds_and_their_places) (q := view (OpenLaw.row PySem.Challenge.rw_playsense_k00_kinds_and_their_places).prog [19]) (H := G.hk) (ob := G.obk) (M := 6000) (loose := G.loose) (d := HandSHeadRun.topDef (OpenLaw.row PySem.Challenge.rw_playsense_k00_kinds_and_their_places).prog 19) (kwd := []) G.ob_eq
    (by kernel_rfl) (fun s => by kernel_rfl) G.hrun (by kernel_rfl) (by kernel_rfl) (by kernel_rfl) (by rfl) (by first | assumption | decide +kernel) (by decide +kernel) ⟨rfl, rfl, rfl, rfl, rfl, by decide +kernel⟩ ?hw ?hc
  case hw => w_witness2
  case hc =>
    refine LamX.walk_ofTsE (l := PySem.Challenge.rw_playsense_k00_kinds_and_their_places) (n := 63) (k := 200) (x := "_law_script") (CX := fun _ => L2.CX0) rfl (by decide) (by kernel_rfl) ⟨rfl, by decide, by decide⟩ ?F (fun _ _ _ _ _ z => z)
    intro w mg fa h Y G0 hmg0
    obtain ⟨K, X, c⟩ := Y
    have hmg : mg ("law" : PySem.Str) = some (.ref fa) := by
      have e : (HandSHeadRun.topDef (OpenLaw.row PySem.Challenge.rw_playsense_k00_kinds_and_their_places).prog 19).name = ("law" : PySem.Str) := by kernel_rfl
      rw [← e]
      exact hmg0
    obtain ⟨fd, F, FF⟩ := G.fc_17 c
    have eg := hmg.symm.trans (He.glo_ok X G0 (c.t.d.facts (List.mem_append_right _ (List.mem_map.mpr ⟨G.d_17, List.mem_of_getElem? (i := 17) rfl, rfl⟩))))
    cases eg
    exact ⟨K, X, G.law_at (ww := 20000) X G0 c (fun _ => none) (G.pf (fun _ => none) X G0 c) rfl FF (fun s v => L2.FunD.bindsA F (ps := ["_law_script"]) (fun _ _ _ _ _ _ us hl => match us, hl with | [_], _ => rfl) s [v] rfl) G.law_plain⟩
