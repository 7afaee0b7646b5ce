import PyProof.Rows.All
import Wide.All
import OpenK.AllK
import Wide.FinOn
import HandS.ForExc
import HandS.Comp
import HandS.Iter
import HandS.Walk
import HandS.Flow
import HandS.Style
import HandS.TupAny
import HandS.Conv
import HandS.Deep
import HandS.Rev
import HandS.SortInts
import HandS.IsInst
import HandS.Dict
import HandS.More
import HandS.Zip
import HandS.TryMany
import HandS.Defaults
import HandS.Wide
import HandS.TupMul
import HandS.Text
import KE.KRevSl
import KE.DataMinMax
import KE.SortData
import HandS.SetKeys
import KE.KUnpack
import HandS.Small
import HandS.NoneIn
import HandS.ExcOwn
import HandS.WordsExc
import HandS.Head0
import HandS.Head1
import HandS.Head2
import HandS.HeadEnd
import HandS.HeadHook1
import HandS.HeadHook2
import HandS.HeadHook3
import HandS.HeadHook4
import PyProof.ExcBaseAll.ValueError
import KE.BitLaws
import PySem.Challenge.RW_icetracks_k14_arms_and_darts
set_option Elab.async false
set_option maxRecDepth 100000
/-! Ic0: a small evaluator of the used part of Python over plain data: values D, stores, trees T with free picks, expressions E, statements Sm. -/
namespace Ic
open PySem (Str)

/-- plain data; obj n: the n-th object of the store; rng: a source of draws -/
inductive D where
  | non | bl (b : Bool) | int (i : Int) | str (s : Str)
  | tup (xs : List D) | lst (xs : List D) | scr (xs : List Int) | dct (kvs : List (D × D)) | set (xs : List Int)
  | ins (c : Nat) (fs : List (Nat × D)) | rng | obj (n : Nat)
  deriving Inhabited
abbrev Store := List D
abbrev Slots := List (Option D)
/-- an exception: its class, what it was made with -/
structure Exc where
  c : Nat
  arg : D
/-- what a run comes to; pick n k: any number from 0 below n, then on -/
inductive T (α : Type) where
  | ret (a : α) (S : Store) | exc (e : Exc) (S : Store) | bad | pick (n : Int) (k : Int → T α)
def T.bind {α β : Type} : T α → (α → Store → T β) → T β
  | .ret a S, f => f a S
  | .exc e S, _ => .exc e S
  | .bad, _ => .bad
  | .pick n k, f => .pick n fun v => (k v).bind f
/-- an exception is taken up -/
def T.hand {α : Type} : T α → (Exc → Store → T α) → T α
  | .ret a S, _ => .ret a S
  | .exc e S, g => g e S
  | .bad, _ => .bad
  | .pick n k, g => .pick n fun v => (k v).hand g
/-- where no exception may come -/
def T.nox {α : Type} : T α → T α
  | .ret a S => .ret a S
  | .exc _ _ => .bad
  | .bad => .bad
  | .pick n k => .pick n fun v => (k v).nox
def T.All {α : Type} (P : α → Store → Prop) (X : Exc → Store → Prop) : T α → Prop
  | .ret a S => P a S
  | .exc e S => X e S
  | .bad => False
  | .pick n k => ∀ v, 0 ≤ v → v < n → (k v).All P X
@[simp] theorem T.bind_ret {α β : Type} (a : α) (S : Store) (f : α → Store → T β) : (T.ret a S).bind f = f a S := rfl
@[simp] theorem T.bind_exc {α β : Type} (e : Exc) (S : Store) (f : α → Store → T β) : (T.exc e S : T α).bind f = .exc e S := rfl
@[simp] theorem T.bind_bad {α β : Type} (f : α → Store → T β) : (T.bad : T α).bind f = .bad := rfl
@[simp] theorem T.bind_pick {α β : Type} (n : Int) (k : Int → T α) (f : α → Store → T β) : (T.pick n k).bind f = .pick n fun v => (k v).bind f := rfl
@[simp] theorem T.hand_ret {α : Type} (a : α) (S : Store) (g : Exc → Store → T α) : (T.ret a S).hand g = .ret a S := rfl
@[simp] theorem T.hand_exc {α : Type} (e : Exc) (S : Store) (g : Exc → Store → T α) : (T.exc e S : T α).hand g = g e S := rfl
@[simp] theorem T.All_ret {α : Type} {P : α → Store → Prop} {X : Exc → Store → Prop} (a : α) (S : Store) : (T.ret a S).All P X ↔ P a S := Iff.rfl
@[simp] theorem T.All_exc {α : Type} {P : α → Store → Prop} {X : Exc → Store → Prop} (e : Exc) (S : Store) : (T.exc e S : T α).All P X ↔ X e S := Iff.rfl
@[simp] theorem T.All_bad {α : Type} {P : α → Store → Prop} {X : Exc → Store → Prop} : (T.bad : T α).All P X ↔ False := Iff.rfl
@[simp] theorem T.All_pick {α : Type} {P : α → Store → Prop} {X : Exc → Store → Prop} (n : Int) (k : Int → T α) : (T.pick n k).All P X ↔ ∀ v, 0 ≤ v → v < n → (k v).All P X := Iff.rfl
theorem T.All_bind {α β : Type} {P : β → Store → Prop} {X : Exc → Store → Prop} (t : T α) (f : α → Store → T β) : (t.bind f).All P X ↔ t.All (fun a S => (f a S).All P X) X := by
  induction t with
  | ret a S => exact Iff.rfl
  | exc e S => exact Iff.rfl
  | bad => exact Iff.rfl
  | pick n k ih => exact ⟨fun h v h0 h1 => (ih v).mp (h v h0 h1), fun h v h0 h1 => (ih v).mpr (h v h0 h1)⟩
theorem T.All_hand {α : Type} {P : α → Store → Prop} {X : Exc → Store → Prop} (t : T α) (g : Exc → Store → T α) : (t.hand g).All P X ↔ t.All P (fun e S => (g e S).All P X) := by
  induction t with
  | ret a S => exact Iff.rfl
  | exc e S => exact Iff.rfl
  | bad => exact Iff.rfl
  | pick n k ih => exact ⟨fun h v h0 h1 => (ih v).mp (h v h0 h1), fun h v h0 h1 => (ih v).mpr (h v h0 h1)⟩
@[simp] theorem T.nox_ret {α : Type} (a : α) (S : Store) : (T.ret a S).nox = .ret a S := rfl
@[simp] theorem T.nox_bad {α : Type} : (T.bad : T α).nox = .bad := rfl
theorem T.All_nox {α : Type} {P : α → Store → Prop} {X : Exc → Store → Prop} (t : T α) : t.nox.All P X ↔ t.All P (fun _ _ => False) := by
  induction t with
  | ret a S => exact Iff.rfl
  | exc e S => exact Iff.rfl
  | bad => exact Iff.rfl
  | pick n k ih => exact ⟨fun h v h0 h1 => (ih v).mp (h v h0 h1), fun h v h0 h1 => (ih v).mpr (h v h0 h1)⟩
theorem T.All.mono {α : Type} {P P' : α → Store → Prop} {X X' : Exc → Store → Prop} {t : T α} (h : t.All P X) (hp : ∀ a S, P a S → P' a S) (hx : ∀ e S, X e S → X' e S) : t.All P' X' := by
  induction t with
  | ret a S => exact hp _ _ h
  | exc e S => exact hx _ _ h
  | bad => exact h
  | pick n k ih => exact fun v h0 h1 => ih v (h v h0 h1)
theorem T.bind_assoc {α β γ : Type} (t : T α) (f : α → Store → T β) (g : β → Store → T γ) : (t.bind f).bind g = t.bind fun a S => (f a S).bind g := by
  induction t with
  | ret a S => rfl
  | exc e S => rfl
  | bad => rfl
  | pick n k ih => exact congrArg (T.pick n) (funext ih)

/-! ### no objects within; what it is without the store's objects -/
mutual
def D.pu : D → Bool
  | .non | .bl _ | .int _ | .str _ | .scr _ | .set _ | .rng => true
  | .tup xs | .lst xs => pus xs
  | .dct kvs => puks kvs
  | .ins _ fs => pufs fs
  | .obj _ => false
def pus : List D → Bool
  | [] => true
  | x :: xs => x.pu && pus xs
def puks : List (D × D) → Bool
  | [] => true
  | (k, v) :: r => k.pu && v.pu && puks r
def pufs : List (Nat × D) → Bool
  | [] => true
  | (_, v) :: r => v.pu && pufs r
end
mutual
/-- objects are put in place by g -/
def D.frz (g : Nat → Option D) : D → Option D
  | .non => some .non | .bl b => some (.bl b) | .int i => some (.int i) | .str s => some (.str s) | .scr xs => some (.scr xs) | .set xs => some (.set xs) | .rng => some .rng
  | .tup xs => (frzs g xs).map .tup
  | .lst xs => (frzs g xs).map .lst
  | .dct kvs => (frzks g kvs).map .dct
  | .ins c fs => (frzfs g fs).map (.ins c)
  | .obj n => g n
def frzs (g : Nat → Option D) : List D → Option (List D)
  | [] => some []
  | x :: xs => (x.frz g).bind fun y => (frzs g xs).map fun ys => y :: ys
def frzks (g : Nat → Option D) : List (D × D) → Option (List (D × D))
  | [] => some []
  | (k, v) :: r => (k.frz g).bind fun k' => (v.frz g).bind fun v' => (frzks g r).map fun r' => (k', v') :: r'
def frzfs (g : Nat → Option D) : List (Nat × D) → Option (List (Nat × D))
  | [] => some []
  | (f, v) :: r => (v.frz g).bind fun v' => (frzfs g r).map fun r' => (f, v') :: r'
end
/-- the n-th object as plain data, if n ≥ lo; lesser ones stay -/
def deref (S : Store) (lo : Nat) : Nat → Nat → Option D
  | 0, n => if n < lo then some (.obj n) else none
  | k + 1, n => if n < lo then some (.obj n) else (S[n]?).bind fun d => d.frz (deref S lo k)
def freeze (S : Store) (lo : Nat) (d : D) : Option D := d.frz (deref S lo 8)
mutual
theorem D.frz_pu (g : Nat → Option D) : ∀ {d : D}, d.pu = true → d.frz g = some d
  | .non, _ | .bl _, _ | .int _, _ | .str _, _ | .scr _, _ | .set _, _ | .rng, _ => by simp [D.frz]
  | .tup xs, h => by simp [D.frz, frzs_pu g (xs := xs) (by simpa [D.pu] using h)]
  | .lst xs, h => by simp [D.frz, frzs_pu g (xs := xs) (by simpa [D.pu] using h)]
  | .dct kvs, h => by simp [D.frz, frzks_pu g (xs := kvs) (by simpa [D.pu] using h)]
  | .ins c fs, h => by simp [D.frz, frzfs_pu g (xs := fs) (by simpa [D.pu] using h)]
  | .obj n, h => by simp [D.pu] at h
theorem frzs_pu (g : Nat → Option D) : ∀ {xs : List D}, pus xs = true → frzs g xs = some xs
  | [], _ => by simp [frzs]
  | x :: xs, h => by
    have h' : x.pu = true ∧ pus xs = true := by simpa [pus] using h
    simp [frzs, D.frz_pu g h'.1, frzs_pu g h'.2]
theorem frzks_pu (g : Nat → Option D) : ∀ {xs : List (D × D)}, puks xs = true → frzks g xs = some xs
  | [], _ => by simp [frzks]
  | (k, v) :: xs, h => by
    have h' : (k.pu = true ∧ v.pu = true) ∧ puks xs = true := by simpa [puks] using h
    simp [frzks, D.frz_pu g h'.1.1, D.frz_pu g h'.1.2, frzks_pu g h'.2]
theorem frzfs_pu (g : Nat → Option D) : ∀ {xs : List (Nat × D)}, pufs xs = true → frzfs g xs = some xs
  | [], _ => by simp [frzfs]
  | (f, v) :: xs, h => by
    have h' : v.pu = true ∧ pufs xs = true := by simpa [pufs] using h
    simp [frzfs, D.frz_pu g h'.1, frzfs_pu g h'.2]
end
theorem freeze_pu {S : Store} {lo : Nat} {d : D} (h : d.pu = true) : freeze S lo d = some d := D.frz_pu _ h
mutual
/-- all objects within are below n -/
def D.bel (n : Nat) : D → Bool
  | .non | .bl _ | .int _ | .str _ | .scr _ | .set _ | .rng => true
  | .tup xs | .lst xs => belows n xs
  | .dct kvs => belowks n kvs
  | .ins _ fs => belowfs n fs
  | .obj m => decide (m < n)
def belows (n : Nat) : List D → Bool
  | [] => true
  | x :: xs => x.bel n && belows n xs
def belowks (n : Nat) : List (D × D) → Bool
  | [] => true
  | (k, v) :: r => k.bel n && v.bel n && belowks n r
def belowfs (n : Nat) : List (Nat × D) → Bool
  | [] => true
  | (_, v) :: r => v.bel n && belowfs n r
end
mutual
/-- objects named anew, k further -/
def D.shift (k : Nat) : D → D
  | .non => .non | .bl b => .bl b | .int i => .int i | .str s => .str s | .scr xs => .scr xs | .set xs => .set xs | .rng => .rng
  | .tup xs => .tup (shifts k xs)
  | .lst xs => .lst (shifts k xs)
  | .dct kvs => .dct (shiftks k kvs)
  | .ins c fs => .ins c (shiftfs k fs)
  | .obj m => .obj (m + k)
def shifts (k : Nat) : List D → List D
  | [] => []
  | x :: xs => x.shift k :: shifts k xs
def shiftks (k : Nat) : List (D × D) → List (D × D)
  | [] => []
  | (a, v) :: r => (a.shift k, v.shift k) :: shiftks k r
def shiftfs (k : Nat) : List (Nat × D) → List (Nat × D)
  | [] => []
  | (f, v) :: r => (f, v.shift k) :: shiftfs k r
end
mutual
/-- the same data -/
def D.beq : D → D → Bool
  | .non, .non => true
  | .bl a, .bl b => a == b
  | .int a, .int b => a == b
  | .str a, .str b => a == b
  | .tup a, .tup b => beqs a b
  | .lst a, .lst b => beqs a b
  | .scr a, .scr b => a == b
  | .set a, .set b => a == b
  | .dct a, .dct b => beqks a b
  | .ins c a, .ins d b => c == d && beqfs a b
  | .rng, .rng => true
  | .obj a, .obj b => a == b
  | _, _ => false
def beqs : List D → List D → Bool
  | [], [] => true
  | x :: xs, y :: ys => x.beq y && beqs xs ys
  | _, _ => false
def beqks : List (D × D) → List (D × D) → Bool
  | [], [] => true
  | (a, b) :: xs, (c, d) :: ys => a.beq c && b.beq d && beqks xs ys
  | _, _ => false
def beqfs : List (Nat × D) → List (Nat × D) → Bool
  | [], [] => true
  | (a, b) :: xs, (c, d) :: ys => a == c && b.beq d && beqfs xs ys
  | _, _ => false
end

/-! ### equality as Python has it -/
mutual
def D.eqv : D → D → Bool
  | .non, .non => true
  | .bl a, .bl b => a == b
  | .bl a, .int j => (if a then 1 else 0) == j
  | .int i, .bl b => i == (if b then 1 else 0)
  | .int i, .int j => i == j
  | .str x, .str y => x == y
  | .lst xs, .lst ys => eqvs xs ys
  | .tup xs, .tup ys => eqvs xs ys
  | _, _ => false
def eqvs : List D → List D → Bool
  | [], [] => true
  | x :: xs, y :: ys => x.eqv y && eqvs xs ys
  | _, _ => false
end
mutual
/-- can be compared: no dicts, objects, instances within; at most n deep -/
def D.ok : Nat → D → Bool
  | _, .non | _, .bl _ | _, .int _ => true
  | _, .str s => PySem.PyData.strOk s
  | n + 1, .tup xs | n + 1, .lst xs => oks n xs
  | _, _ => false
def oks : Nat → List D → Bool
  | _, [] => true
  | n, x :: xs => x.ok n && oks n xs
end

/-! ### operations on data -/
abbrev line : Nat := 16777216
inductive Op where
  | add | sub | mul | fdiv | mod | pow | xor | band
inductive Cm where
  | eq | ne | lt | le | gt | ge | is | isnot | isin | notin
inductive Ty where
  | tup | lst | int | bool | str | dct
/-- the object itself -/
def view (S : Store) : D → D
  | .obj n => (S[n]?).getD (.obj n)
  | d => d
def truth : D → Option Bool
  | .non => some false
  | .bl b => some b
  | .int i => some (i != 0)
  | .str s => if s.length ≤ line then some ((s.length : Int) != 0) else none
  | .tup xs | .lst xs => some (!xs.isEmpty)
  | .dct kvs => some (!kvs.isEmpty)
  | _ => none
def mulOk (i j : Int) : Bool := (decide (-(2 ^ 64) < i) && decide (i < 2 ^ 64)) || (decide (-(2 ^ 64) < j) && decide (j < 2 ^ 64)) || (decide (i.natAbs < 2 ^ 1000) && decide (j.natAbs < 2 ^ 1000))
def binop : Op → D → D → Option D
  | .add, .int i, .int j => some (.int (i + j))
  | .add, .str a, .str b => if a.length + b.length ≤ line then some (.str (a ++ b)) else none
  | .add, .tup xs, .tup ys => if xs.length + ys.length ≤ line then some (.tup (xs ++ ys)) else none
  | .add, .lst xs, .lst ys => if xs.length + ys.length ≤ line then some (.lst (xs ++ ys)) else none
  | .sub, .int i, .int j => some (.int (i - j))
  | .mul, .int i, .int j => if mulOk i j then some (.int (i * j)) else none
  | .mul, .lst xs, .int k => if -(2 ^ 63) ≤ k ∧ k < 2 ^ 63 ∧ xs.length * k.toNat ≤ line then some (.lst (List.replicate k.toNat xs).flatten) else none
  | .mul, .tup xs, .int k => if xs.isEmpty = false ∧ 2 ≤ k ∧ k ≤ 1000 ∧ xs.length ≤ 1000 then some (.tup (List.replicate k.toNat xs).flatten) else none
  | .fdiv, .int i, .int j => if 0 < j ∧ j < 1073741824 then some (.int (i / j)) else none
  | .mod, .int i, .int j => if 0 < j then some (.int (i % j)) else none
  | .pow, .int i, .int j => if (0 ≤ j ∧ j ≤ 1000000 ∧ i.natAbs < 2 ^ 64) ∨ (0 ≤ j ∧ j ≤ 1000 ∧ i.natAbs < 2 ^ 1000) then some (.int (i ^ j.toNat)) else none
  | .xor, .int i, .int j => some (.int (PySem.Builtin.bitXor i j))
  | .band, .int i, .int j => some (.int (PySem.Builtin.bitAnd i j))
  | _, _, _ => none
/-- name op= e: of ints -/
def intop : Op → Int → Int → Option Int
  | .add, i, j => some (i + j)
  | .sub, i, j => some (i - j)
  | .mul, i, j => if (-(2 ^ 64) < i ∧ i < 2 ^ 64) ∨ (-(2 ^ 64) < j ∧ j < 2 ^ 64) then some (i * j) else none
  | .fdiv, i, j => if 0 < j ∧ j < 1073741824 then some (i / j) else none
  | .mod, i, j => if 0 < j then some (i % j) else none
  | _, _, _ => none
def augop (op : Op) : D → D → Option D
  | .int i, .int j => (intop op i j).map .int
  | _, _ => none
def intsOf : List D → Option (List Int)
  | [] => some []
  | .int i :: r => (intsOf r).map (i :: ·)
  | _ => none
def bools : List D → Option (List Bool)
  | [] => some []
  | .bl b :: r => (bools r).map (b :: ·)
  | _ => none
def lexLt : List Int → List Int → Bool
  | [], [] => false
  | [], _ :: _ => true
  | _ :: _, [] => false
  | x :: xs, y :: ys => if x = y then lexLt xs ys else decide (x < y)
/-- a dict's key -/
def keyOk : D → Bool
  | .int _ => true | .str _ => true | _ => false
def dget (kvs : List (D × D)) (k : D) : Option D := (kvs.find? fun p => p.1.beq k).map (·.2)
def dput (kvs : List (D × D)) (k v : D) : List (D × D) := if (kvs.any fun p => p.1.beq k) = true then kvs.map (fun p => if p.1.beq k = true then (p.1, v) else p) else kvs ++ [(k, v)]
def D.flat : D → Bool
  | .non | .bl _ | .int _ | .str _ => true
  | _ => false
def isIn (x : D) : D → Option Bool
  | .lst ys => if x.ok 40 && oks 39 ys then some (ys.any fun y => y.eqv x) else none
  | .tup ys => if x.flat && ys.all D.flat then some (ys.any fun y => y.eqv x) else none
  | .dct kvs => if keyOk x then some (dget kvs x).isSome else none
  | _ => none
def compare : Cm → D → D → Option Bool
  | .eq, a, b => if a.ok 40 && b.ok 40 then some (a.eqv b) else none
  | .ne, a, b => if a.ok 40 && b.ok 40 then some (!a.eqv b) else none
  | .lt, .int i, .int j => some (decide (i < j))
  | .lt, .tup a, .tup b => (intsOf a).bind fun ns => (intsOf b).map fun ms => lexLt ns ms
  | .le, .int i, .int j => some (decide (i ≤ j))
  | .gt, .int i, .int j => some (decide (j < i))
  | .ge, .int i, .int j => some (decide (j ≤ i))
  | .is, .non, .non => some true
  | .is, _, .non => some false
  | .is, .bl a, .bl b => some (a == b)
  | .is, _, .bl _ => some false
  | .isnot, .non, .non => some false
  | .isnot, _, .non => some true
  | .isnot, .bl a, .bl b => some (a != b)
  | .isnot, _, .bl _ => some true
  | .isin, x, y => isIn x y
  | .notin, x, y => (isIn x y).map (!·)
  | _, _, _ => none
def ixN (n : Nat) (i : Int) : Option Nat := if 0 ≤ i then (if i < n then some i.toNat else none) else if -(n : Int) ≤ i then some (i + n).toNat else none
def atI {α : Type} (xs : List α) (i : Int) : Option α := (ixN xs.length i).bind fun j => xs[j]?
def index : D → D → Option D
  | .lst xs, .int i | .tup xs, .int i => atI xs i
  | .dct kvs, k => if keyOk k then dget kvs k else none
  | .str s, .int i => if s.length ≤ line then (atI s.cps.toList i).map fun c => .str ⟨#[c]⟩ else none
  | _, _ => none
def sIx (n d : Nat) : Option Int → Nat
  | none => d
  | some v => if v < 0 then (v + (n : Int)).toNat else min v.toNat n
def cut {α : Type} (xs : List α) (lo hi : Option Int) : List α := (xs.drop (sIx xs.length 0 lo)).take (sIx xs.length xs.length hi - sIx xs.length 0 lo)
def slice : D → Option Int → Option Int → Option D
  | .lst xs, lo, hi => some (.lst (cut xs lo hi))
  | .scr xs, lo, hi => some (.lst ((cut xs lo hi).map .int))
  | .tup xs, lo, hi => some (.tup (cut xs lo hi))
  | .str s, lo, hi => if s.length ≤ line then some (.str ⟨(cut s.cps.toList lo hi).toArray⟩) else none
  | _, _, _ => none
def backw : D → Option D
  | .lst xs => some (.lst xs.reverse)
  | .tup xs => some (.tup xs.reverse)
  | _ => none
def isTy : Ty → D → Option Bool
  | _, .rng => none
  | _, .obj _ => none
  | _, .ins _ _ => none
  | _, .set _ => none
  | .tup, .tup _ => some true
  | .lst, .lst _ => some true
  | .lst, .scr _ => some true
  | .int, .int _ => some true
  | .int, .bl _ => some true
  | .bool, .bl _ => some true
  | .str, .str _ => some true
  | .dct, .dct _ => some true
  | _, _ => some false
/-- sorted, of ints -/
def insI (x : Int) : List Int → List Int
  | [] => [x]
  | y :: r => if x ≤ y then x :: y :: r else y :: insI x r
def sortI : List Int → List Int
  | [] => []
  | x :: r => insI x (sortI r)
def itemsOf : D → Option (List D)
  | .lst xs | .tup xs => some xs
  | .scr ns => some (ns.map .int)
  | _ => none
def rangeL (lo hi : Int) : List D := (List.range (hi - lo).toNat).map fun (k : Nat) => .int (lo + (k : Int))
/-- tuples of ints -/
def intss : List D → Option (List (List Int))
  | [] => some []
  | .tup xs :: r => (intsOf xs).bind fun ns => (intss r).map (ns :: ·)
  | _ => none
/-- the first of the least ones, up to an index -/
def bestT (nss : List (List Int)) : Nat → Nat
  | 0 => 0
  | k + 1 => if lexLt (nss.getD (k + 1) []) (nss.getD (bestT nss k) []) then k + 1 else bestT nss k
inductive Bi where
  | len | tuple | list | listR | sorted | sum | max | min | abs | int | all | any | isi (t : Ty) | isi2 (t u : Ty) | set | str
def bi : Bi → List D → Option D
  | .len, [.lst xs] | .len, [.tup xs] => some (.int xs.length)
  | .len, [.scr xs] => some (.int xs.length)
  | .len, [.dct kvs] => some (.int kvs.length)
  | .len, [.str s] => if s.length ≤ line then some (.int s.length) else none
  | .tuple, [.lst xs] | .tuple, [.tup xs] => some (.tup xs)
  | .list, [.lst xs] | .list, [.tup xs] => some (.lst xs)
  | .list, [.scr ns] => some (.lst (ns.map .int))
  | .listR, [.int n] => if -(2 ^ 62) ≤ n ∧ n ≤ line then some (.lst (rangeL 0 n)) else none
  | .listR, [.int a, .int b] => if -(2 ^ 62) ≤ a ∧ a < 2 ^ 62 ∧ -(2 ^ 62) ≤ b ∧ b < 2 ^ 62 ∧ b - a ≤ line then some (.lst (rangeL a b)) else none
  | .sorted, [.lst xs] => (intsOf xs).map fun ns => .lst ((sortI ns).map .int)
  | .sum, [.lst xs] => (intsOf xs).map fun ns => .int ns.sum
  | .max, [.int i, .int j] => some (.int (if j > i then j else i))
  | .min, [.int i, .int j] => some (.int (if j < i then j else i))
  | .min, [.tup xs, .tup ys] => (intsOf xs).bind fun ns => (intsOf ys).map fun ms => .tup (if lexLt ms ns then ys else xs)
  | .min, [.lst xs] => (intss xs).bind fun nss => if nss.isEmpty then none else xs[bestT nss (nss.length - 1)]?
  | .abs, [.int i] => some (.int (if i < 0 then -i else i))
  | .int, [.int i] => some (.int i)
  | .int, [.bl b] => some (.int (if b then 1 else 0))
  | .all, [.lst xs] => (bools xs).map fun bs => .bl (bs.all id)
  | .any, [.lst xs] => (bools xs).map fun bs => .bl (bs.any id)
  | .isi t, [d] => (isTy t d).map .bl
  | .isi2 t u, [d] => (isTy t d).bind fun b => (isTy u d).map fun c => .bl (b || c)
  | _, _ => none
inductive Me where
  | append | extend | pop | setdefault | get | index | count | update
/-- the kind of object that has the method -/
def meTy : Me → D → Bool
  | .append, .lst _ | .extend, .lst _ | .pop, .lst _ | .index, .lst _ | .count, .lst _ => true
  | .setdefault, .dct _ | .get, .dct _ | .update, .dct _ => true
  | _, _ => false
/-- a method of an object n (mutable), or of plain data -/
def mth (S : Store) : Me → D → List D → Option (D × Store)
  | .append, .obj n, [x] => match S[n]? with
    | some (.lst xs) => if xs.length < line then some (.non, S.set n (.lst (xs ++ [x]))) else none
    | _ => none
  | .extend, .obj n, [y] => match S[n]?, view S y with
    | some (.lst xs), .lst ys => if xs.length + ys.length ≤ line then some (.non, S.set n (.lst (xs ++ ys))) else none
    | _, _ => none
  | .pop, .obj n, [] => match S[n]? with
    | some (.lst xs) => (xs[xs.length - 1]?).map fun y => (y, S.set n (.lst xs.dropLast))
    | _ => none
  | .setdefault, .obj n, [k, v] => match S[n]? with
    | some (.dct kvs) => if keyOk k && decide (kvs.length < line) then
        (match dget kvs k with
        | some w => some (w, S)
        | none => some (v, S.set n (.dct (kvs ++ [(k, v)])))) else none
    | _ => none
  | .get, d, [k] => match view S d with
    | .dct kvs => if keyOk k then some ((dget kvs k).getD .non, S) else none
    | _ => none
  | .get, d, [k, v] => match view S d with
    | .dct kvs => if keyOk k then some ((dget kvs k).getD v, S) else none
    | _ => none
  | .index, d, [x] => match view S d with
    | .lst ys => if x.ok 40 && oks 39 ys then (ys.findIdx? fun y => y.eqv x).map fun (j : Nat) => (D.int (j : Int), S) else none
    | _ => none
  | _, _, _ => none

/-! ### expressions, statements -/
/-- names to which is assigned -/
inductive NPat where
  | nm (i : Nat) | tup (ps : List NPat)
/-- what is walked: a value's items, range(..), enumerate(..), zip(..) .. -/
inductive Itk where
  | val | range1 | range2 | enum | zip | rev
inductive E where
  | var (i : Nat) | lit (d : D) | glob (i : Nat)
  | bin (op : Op) (mu : Bool) (a b : E)
  | neg (a : E) | not (a : E)
  | cmp (a : E) (op : Cm) (b : E) | cmp2 (a : E) (op : Cm) (b : E) (op2 : Cm) (c : E)
  | and (es : List E) | or (es : List E)
  | ife (c a b : E)
  | tup (es : List E) | lst (mu : Bool) (es : List E) | dict (mu : Bool) (ks vs : List E)
  | idx (a b : E) | slc (mu : Bool) (a : E) (lo hi : Option E) | back (mu : Bool) (a : E)
  | fld (a : E) (f : Nat)
  | call (f : Nat) (mu : Bool) (es : List E) (perm : List Nat)
  | callk (f : Nat) (mu : Bool) (np nk : Nat) (es ks : List E) (perm : List Nat)
  | bi (b : Bi) (mu : Bool) (es : List E)
  | mth (m : Me) (a : E) (es : List E)
  | own (m : Nat) (mu : Bool) (a : E) (es : List E)
  | new (c : Nat) (mu : Bool) (es : List E)
  | comp (mu : Bool) (own : List Nat) (elt : E) (p : NPat) (k : Itk) (its : List E) (cs : List E)
  | comp2 (mu : Bool) (own : List Nat) (elt : E) (p : NPat) (k : Itk) (its : List E) (cs : List E) (own2 : List Nat) (p2 : NPat) (k2 : Itk) (its2 : List E) (cs2 : List E)
  | bad
inductive Tg where
  | nm (p : NPat) | idx (o i : E) | fld (o : E) (f : Nat) | tup (ts : List Tg)
inductive Sm where
  | expr (e : E) | asg (t : Tg) (e : E) | aug (op : Op) (i : Nat) (e : E) | augf (op : Op) (o : E) (f : Nat) (e : E)
  | ret (e : E) | ite (c : E) (a b : List Sm)
  | for (p : NPat) (k : Itk) (its : List E) (body : List Sm) | whl (c : E) (body : List Sm)
  | brk | cnt | pass | raise (c : Nat) (e : Option E)
  | try (body : List Sm) (hs : List (Nat × List (Nat × D)))
  | bad
/-- how a statement ends -/
inductive Flow where
  | nx (env : Slots) | rt (d : D) | bk (env : Slots) | ct (env : Slots) | ex (e : Exc) (env : Slots)

def some? {α β : Type} (o : Option α) (f : α → T β) : T β := match o with
  | some a => f a
  | none => .bad
@[simp] theorem some?_some {α β : Type} (a : α) (f : α → T β) : some? (some a) f = f a := rfl
@[simp] theorem some?_none {α β : Type} (f : α → T β) : some? (none : Option α) f = .bad := rfl
/-- new data: an object, where it is to be changed -/
def mk (mu : Bool) (d : D) (S : Store) : T D := match mu, d with
  | true, .lst xs => .ret (.obj S.length) (S ++ [.lst xs])
  | true, .dct xs => .ret (.obj S.length) (S ++ [.dct xs])
  | _, d => .ret d S
@[simp] theorem mk_f (d : D) (S : Store) : mk false d S = .ret d S := by cases d <;> rfl
@[simp] theorem mk_tl (xs : List D) (S : Store) : mk true (.lst xs) S = .ret (.obj S.length) (S ++ [.lst xs]) := rfl
@[simp] theorem mk_td (xs : List (D × D)) (S : Store) : mk true (.dct xs) S = .ret (.obj S.length) (S ++ [.dct xs]) := rfl
mutual
def npSet (S : Store) : NPat → D → Slots → Option Slots
  | .nm i, d, env => some (env.set i (some d))
  | .tup ps, d, env => match view S d with
    | .tup xs => if xs.length = ps.length then npSets S ps xs env else none
    | .lst xs => if xs.length = ps.length then npSets S ps xs env else none
    | _ => none
def npSets (S : Store) : List NPat → List D → Slots → Option Slots
  | [], [], env => some env
  | p :: ps, x :: xs, env => (npSet S p x env).bind fun env' => npSets S ps xs env'
  | _, _, _ => none
end
def itemsK (S : Store) : Itk → List D → Option (List D)
  | .val, [d] => itemsOf (view S d)
  | .range1, [.int n] => if -(2 ^ 62) ≤ n ∧ n ≤ line then some (rangeL 0 n) else none
  | .range2, [.int a, .int b] => if -(2 ^ 62) ≤ a ∧ a < 2 ^ 62 ∧ -(2 ^ 62) ≤ b ∧ b < 2 ^ 62 ∧ b - a ≤ line then some (rangeL a b) else none
  | .enum, [d] => match view S d with
    | .lst xs => some (xs.zipIdx.map fun p => .tup [.int p.2, p.1])
    | _ => none
  | .zip, [d, e] => match view S d, view S e with
    | .lst xs, .lst ys => some ((xs.zip ys).map fun p => .tup [p.1, p.2])
    | .tup xs, .tup ys => some ((xs.zip ys).map fun p => .tup [p.1, p.2])
    | _, _ => none
  | .rev, [d] => match view S d with
    | .lst xs => some xs.reverse
    | _ => none
  | _, _ => none
/-- slots forgotten -/
def wipeD (env : Slots) : List Nat → Slots
  | [] => env
  | v :: vs => (wipeD env vs).set v none
/-- the objects that are walked -/
def objsOf : List D → List Nat
  | [] => []
  | .obj n :: r => n :: objsOf r
  | _ :: r => objsOf r
/-- they stand as they stood -/
def still (S0 S : Store) (os : List Nat) : Bool := os.all fun n => match S0[n]?, S[n]? with
  | some a, some b => a.beq b
  | _, _ => false
/-- a new item -/
def push (acc : List D) : Option D → Option (List D)
  | some y => if acc.length < line then some (acc ++ [y]) else none
  | none => some acc
/-- a comprehension's turns: f gives a new item or none -/
def compLoop (ok : Store → Bool) (f : D → Store → T (Option D)) : List D → List D → Store → T (List D)
  | [], acc, S => .ret acc S
  | x :: xs, acc, S => (f x S).bind fun o S' => if ok S' then some? (push acc o) fun acc' => compLoop ok f xs acc' S' else .bad
def compLoop2 (ok : Store → Bool) (f : D → List D → Store → T (List D)) : List D → List D → Store → T (List D)
  | [], acc, S => .ret acc S
  | x :: xs, acc, S => (f x acc S).bind fun acc' S' => if ok S' then compLoop2 ok f xs acc' S' else .bad
def forLoop (ok : Store → Bool) (f : D → Slots → Store → T Flow) : List D → Slots → Store → T Flow
  | [], env, S => .ret (.nx env) S
  | x :: xs, env, S => (f x env S).bind fun fl S' => match fl with
    | .nx env' | .ct env' => if ok S' then forLoop ok f xs env' S' else .bad
    | .bk env' => .ret (.nx env') S'
    | .rt d => .ret (.rt d) S'
    | .ex e env' => .ret (.ex e env') S'
def whlLoop (c : Slots → Store → T Flow) (b : Slots → Store → T Flow) : Nat → Slots → Store → T Flow
  | 0, _, _ => .bad
  | k + 1, env, S => (c env S).bind fun fl S1 => match fl with
    | .bk env1 => .ret (.nx env1) S1
    | .ex e env1 => .ret (.ex e env1) S1
    | _ => (b env S1).bind fun fl S2 => match fl with
      | .nx env' | .ct env' => whlLoop c b k env' S2
      | .bk env' => .ret (.nx env') S2
      | .rt d => .ret (.rt d) S2
      | .ex e env' => .ret (.ex e env') S2
def fuel : Nat := 1000000

/-- what a run of expressions may call: defs, methods (class, name), classes' makers; the module's constants -/
structure Rn where
  call : Nat → Bool → List D → Store → T D
  mth : Nat → Nat → Option Nat
  new : Nat → Bool → List D → Store → T D
  glob : Nat → Option D
def lookF (fs : List (Nat × D)) (f : Nat) : Option D := (fs.find? fun p => p.1 == f).map (·.2)
def putF (fs : List (Nat × D)) (f : Nat) (v : D) : List (Nat × D) := match fs with
  | [] => [(f, v)]
  | (a, b) :: r => if a == f then (a, v) :: r else (a, b) :: putF r f v
def permG (ds : List D) : List Nat → Option (List D)
  | [] => some []
  | i :: r => (ds[i]?).bind fun d => (permG ds r).map fun q => d :: q
def permute (ds : List D) (l : List Nat) : Option (List D) := if ds.length = l.length then permG ds l else none
mutual
def evE (R : Rn) : E → Slots → Store → T D
  | .var i, env, S => some? (env[i]?) fun o => some? o fun d => .ret d S
  | .lit d, _, S => .ret d S
  | .glob i, _, S => some? (R.glob i) fun d => .ret d S
  | .bin op mu a b, env, S => (evE R a env S).bind fun x S => (evE R b env S).bind fun y S => some? (binop op (view S x) (view S y)) fun d => mk mu d S
  | .neg a, env, S => (evE R a env S).bind fun x S => match x with
    | .int i => .ret (.int (-i)) S
    | _ => .bad
  | .not a, env, S => (evE R a env S).bind fun x S => some? (truth (view S x)) fun b => .ret (.bl (!b)) S
  | .cmp a op b, env, S => (evE R a env S).bind fun x S => (evE R b env S).bind fun y S => some? (compare op (view S x) (view S y)) fun b => .ret (.bl b) S
  | .cmp2 a op b op2 c, env, S => (evE R a env S).bind fun x S => (evE R b env S).bind fun y S => some? (compare op (view S x) (view S y)) fun t =>
      if t then (evE R c env S).bind fun z S => some? (compare op2 (view S y) (view S z)) fun u => .ret (.bl u) S else .ret (.bl false) S
  | .and es, env, S => evAnd R es env S
  | .or es, env, S => evOr R es env S
  | .ife c a b, env, S => (evE R c env S).bind fun x S => some? (truth (view S x)) fun t => if t then evE R a env S else evE R b env S
  | .tup es, env, S => (evEs R es env S).bind fun ds S => if ds.length ≤ line then .ret (.tup ds) S else .bad
  | .lst mu es, env, S => (evEs R es env S).bind fun ds S => if ds.length ≤ line then mk mu (.lst ds) S else .bad
  | .dict mu ks vs, env, S => match ks with
    | [] => mk mu (.dct []) S
    | _ => (evEs R ks env S).bind fun _ S => (evEs R vs env S).bind fun _ _ => .bad
  | .idx a b, env, S => (evE R a env S).bind fun x S => (evE R b env S).bind fun y S => some? (index (view S x) y) fun d => .ret d S
  | .slc mu a lo hi, env, S => (evE R a env S).bind fun x S => (evO R lo env S).bind fun l S => (evO R hi env S).bind fun h S => some? (slice (view S x) l h) fun d => mk mu d S
  | .back mu a, env, S => (evE R a env S).bind fun x S => some? (backw (view S x)) fun d => mk mu d S
  | .fld a f, env, S => (evE R a env S).bind fun x S => match view S x with
    | .ins _ fs => some? (lookF fs f) fun d => .ret d S
    | _ => .bad
  | .call f mu es perm, env, S => (evEs R es env S).bind fun ds S => some? (permute ds perm) fun qs => R.call f mu qs S
  | .callk f mu np nk es ks perm, env, S => (evEs R es env S).bind fun xs S => (evEs R ks env S).bind fun ys S => if xs.length = np ∧ ys.length = nk then some? (permute (xs ++ ys) perm) fun qs => R.call f mu qs S else .bad
  | .bi b mu es, env, S => (evEs R es env S).bind fun ds S => some? (bi b (ds.map (view S))) fun d => mk mu d S
  | .mth m a es, env, S => (evE R a env S).bind fun x S => if meTy m (view S x) then (evEs R es env S).bind fun ds S => some? (mth S m x ds) fun q => .ret q.1 q.2 else .bad
  | .own m mu a es, env, S => (evE R a env S).bind fun x S => match view S x with
    | .ins c _ => some? (R.mth c m) fun f => (evEs R es env S).bind fun ds S => R.call f mu (x :: ds) S
    | _ => .bad
  | .new c mu es, env, S => (evEs R es env S).bind fun ds S => R.new c mu ds S
  | .comp mu own elt p k its cs, env, S => (evEs R its env S).bind fun ds S => some? (itemsK S k ds) fun items =>
      (compLoop (fun S' => still S S' (objsOf ds)) (fun x S => some? (npSet S p x (wipeD env own)) fun env' => (evC R cs env' S).bind fun t S => if t then (evE R elt env' S).bind fun y S => .ret (some y) S else .ret none S) items [] S).nox.bind fun ys S =>
        if ys.length ≤ line then mk mu (.lst ys) S else .bad
  | .comp2 mu own elt p k its cs own2 p2 k2 its2 cs2, env, S => (evEs R its env S).bind fun ds S => some? (itemsK S k ds) fun items =>
      (compLoop2 (fun S' => still S S' (objsOf ds)) (fun x acc S => some? (npSet S p x (wipeD env own)) fun env1 => (evC R cs env1 S).bind fun t S => if t then
        (evEs R its2 env1 S).bind fun ds2 S => some? (itemsK S k2 ds2) fun items2 =>
          compLoop (fun S' => still S S' (objsOf ds2)) (fun y S => some? (npSet S p2 y (wipeD env1 own2)) fun env2 => (evC R cs2 env2 S).bind fun t S => if t then (evE R elt env2 S).bind fun y S => .ret (some y) S else .ret none S) items2 acc S
        else .ret acc S) items [] S).nox.bind fun ys S =>
        if ys.length ≤ line then mk mu (.lst ys) S else .bad
  | .bad, _, _ => .bad
def evEs (R : Rn) : List E → Slots → Store → T (List D)
  | [], _, S => .ret [] S
  | e :: es, env, S => (evE R e env S).bind fun x S => (evEs R es env S).bind fun xs S => .ret (x :: xs) S
def evO (R : Rn) : Option E → Slots → Store → T (Option Int)
  | none, _, S => .ret none S
  | some e, env, S => (evE R e env S).bind fun x S => match x with
    | .int i => .ret (some i) S
    | _ => .bad
def evAnd (R : Rn) : List E → Slots → Store → T D
  | [], _, _ => .bad
  | e :: es, env, S => match es with
    | [] => evE R e env S
    | _ => (evE R e env S).bind fun x S => some? (truth (view S x)) fun t => if t then evAnd R es env S else .ret x S
def evOr (R : Rn) : List E → Slots → Store → T D
  | [], _, _ => .bad
  | e :: es, env, S => match es with
    | [] => evE R e env S
    | _ => (evE R e env S).bind fun x S => some? (truth (view S x)) fun t => if t then .ret x S else evOr R es env S
/-- a comprehension's conditions -/
def evC (R : Rn) : List E → Slots → Store → T Bool
  | [], _, S => .ret true S
  | e :: es, env, S => (evE R e env S).bind fun x S => some? (truth (view S x)) fun t => if t then evC R es env S else .ret false S
end

/-! ### statements -/
/-- o[i] = d, o.f = d -/
def setIdx (S : Store) (o i d : D) : Option Store := match o with
  | .obj n => match S[n]?, i with
    | some (.lst xs), .int k => (ixN xs.length k).map fun j => S.set n (.lst (xs.set j d))
    | some (.dct kvs), _ => if keyOk i && decide (kvs.length < line) then some (S.set n (.dct (dput kvs i d))) else none
    | _, _ => none
  | _ => none
def setFld (S : Store) (o : D) (f : Nat) (d : D) : Option Store := match o with
  | .obj n => match S[n]? with
    | some (.ins c fs) => if fs.length < 1000 then some (S.set n (.ins c (putF fs f d))) else none
    | _ => none
  | _ => none
def insC : D → Nat → Bool
  | .ins c _, d => c == d
  | _, _ => false
mutual
def tgSet (R : Rn) : Tg → D → Slots → Store → T Slots
  | .nm p, d, env, S => some? (npSet S p d env) fun env' => .ret env' S
  | .idx o i, d, env, S => (evE R o env S).bind fun x S => (evE R i env S).bind fun y S => some? (setIdx S x y d) fun S' => .ret env S'
  | .fld o f, d, env, S => (evE R o env S).bind fun x S => some? (setFld S x f d) fun S' => .ret env S'
  | .tup ts, d, env, S => match view S d with
    | .tup xs => if xs.length = ts.length then tgSets R ts xs env S else .bad
    | .lst xs => if xs.length = ts.length then tgSets R ts xs env S else .bad
    | _ => .bad
def tgSets (R : Rn) : List Tg → List D → Slots → Store → T Slots
  | [], [], env, S => .ret env S
  | t :: ts, x :: xs, env, S => (tgSet R t x env S).bind fun env' S' => tgSets R ts xs env' S'
  | _, _, _, _ => .bad
end
/-- an expression within a statement: an exception ends the statement -/
def T.stm {α : Type} : T α → Slots → (α → Store → T Flow) → T Flow
  | .ret a S, _, f => f a S
  | .exc e S, env, _ => .ret (.ex e env) S
  | .bad, _, _ => .bad
  | .pick n k, env, f => .pick n fun v => (k v).stm env f
@[simp] theorem T.stm_ret {α : Type} (a : α) (S : Store) (env : Slots) (f : α → Store → T Flow) : (T.ret a S).stm env f = f a S := rfl
@[simp] theorem T.stm_exc {α : Type} (e : Exc) (S : Store) (env : Slots) (f : α → Store → T Flow) : (T.exc e S : T α).stm env f = .ret (.ex e env) S := rfl
@[simp] theorem T.stm_bad {α : Type} (env : Slots) (f : α → Store → T Flow) : (T.bad : T α).stm env f = .bad := rfl
theorem T.All_stm {α : Type} {P : Flow → Store → Prop} {X : Exc → Store → Prop} (t : T α) (env : Slots) (f : α → Store → T Flow) : (t.stm env f).All P X ↔ t.All (fun a S => (f a S).All P X) (fun e S => P (.ex e env) S) := by
  induction t with
  | ret a S => exact Iff.rfl
  | exc e S => exact Iff.rfl
  | bad => exact Iff.rfl
  | pick n k ih => exact ⟨fun h v h0 h1 => (ih v).mp (h v h0 h1), fun h v h0 h1 => (ih v).mpr (h v h0 h1)⟩
/-- the first clause that takes an exception of class c; below c h: c is h or below it -/
def clause (below : Nat → Nat → Bool) (c : Nat) : List (Nat × α) → Option α
  | [] => none
  | (h, a) :: r => if below c h then some a else clause below c r
def evH (below : Nat → Nat → Bool) : List (Nat × List (Nat × D)) → Exc → Slots → Store → T Flow
  | [], e, env, S => .ret (.ex e env) S
  | (h, as) :: r, e, env, S => if below e.c h then .ret (.nx (as.foldl (fun env p => env.set p.1 (some p.2)) env)) S else evH below r e env S

mutual
def evS (R : Rn) (below : Nat → Nat → Bool) : Sm → Slots → Store → T Flow
  | .expr e, env, S => (evE R e env S).stm env fun _ S => .ret (.nx env) S
  | .asg t e, env, S => (evE R e env S).stm env fun d S => (tgSet R t d env S).nox.bind fun env' S => .ret (.nx env') S
  | .aug op i e, env, S => some? (env[i]?) fun o => some? o fun x => (evE R e env S).stm env fun y S => some? (augop op x y) fun d => .ret (.nx (env.set i (some d))) S
  | .augf op o f e, env, S => (evE R o env S).stm env fun x S => match view S x with
    | .ins c fs => some? (lookF fs f) fun z => (evE R e env S).stm env fun v S => some? (augop op z v) fun d => if insC (view S x) c then some? (setFld S x f d) fun S' => .ret (.nx env) S' else .bad
    | _ => .bad
  | .ret e, env, S => (evE R e env S).stm env fun d S => .ret (.rt d) S
  | .ite c a b, env, S => (evE R c env S).stm env fun x S => some? (truth (view S x)) fun t => if t then evSs R below a env S else evSs R below b env S
  | .for p k its body, env, S => (evEs R its env S).stm env fun ds S => some? (itemsK S k ds) fun items =>
      forLoop (fun S' => still S S' (objsOf ds)) (fun x env S => some? (npSet S p x env) fun env' => evSs R below body env' S) items env S
  | .whl c body, env, S => whlLoop (fun env S => (evE R c env S).stm env fun x S => some? (truth (view S x)) fun t => if t then .ret (.nx env) S else .ret (.bk env) S) (evSs R below body) fuel env S
  | .brk, env, S => .ret (.bk env) S
  | .cnt, env, S => .ret (.ct env) S
  | .pass, env, S => .ret (.nx env) S
  | .raise c e, env, S => match e with
    | none => .ret (.ex ⟨c, .non⟩ env) S
    | some e => (evE R e env S).stm env fun d S => .ret (.ex ⟨c, d⟩ env) S
  | .try body hs, env, S => (evSs R below body env S).bind fun fl S => match fl with
    | .ex e env' => evH below hs e env' S
    | fl => .ret fl S
  | .bad, _, _ => .bad
def evSs (R : Rn) (below : Nat → Nat → Bool) : List Sm → Slots → Store → T Flow
  | [], env, S => .ret (.nx env) S
  | s :: ss, env, S => (evS R below s env S).bind fun fl S => match fl with
    | .nx env' => evSs R below ss env' S
    | fl => .ret fl S
end

/-! ### programs -/
structure Fn where
  np : Nat
  nl : Nat
  body : List Sm
structure Prog where
  fns : List Fn
  ext : Nat → Option (List D → T D)
  mth : Nat → Nat → Option Nat
  init : Nat → Option Nat
  below : Nat → Nat → Bool
  globs : List D
/-- a run within a store of its own -/
def T.iso {α : Type} : T α → Store → (α → Store → T D) → T D
  | .ret a S', _, f => f a S'
  | .exc e _, S, _ => if e.arg.pu then .exc e S else .bad
  | .bad, _, _ => .bad
  | .pick n k, S, f => .pick n fun v => (k v).iso S f
@[simp] theorem T.iso_ret {α : Type} (a : α) (S S' : Store) (f : α → Store → T D) : (T.ret a S').iso S f = f a S' := rfl
@[simp] theorem T.iso_bad {α : Type} (S : Store) (f : α → Store → T D) : (T.bad : T α).iso S f = .bad := rfl
theorem T.All_iso {α : Type} {P : D → Store → Prop} {X : Exc → Store → Prop} (t : T α) (S : Store) (f : α → Store → T D) : (t.iso S f).All P X ↔ t.All (fun a S' => (f a S').All P X) (fun e _ => e.arg.pu = true ∧ X e S) := by
  induction t with
  | ret a S => exact Iff.rfl
  | exc e S' =>
    show T.All P X (if e.arg.pu then .exc e S else .bad) ↔ _
    by_cases h : e.arg.pu = true <;> simp [h]
  | bad => exact Iff.rfl
  | pick n k ih => exact ⟨fun h v h0 h1 => (ih v).mp (h v h0 h1), fun h v h0 h1 => (ih v).mpr (h v h0 h1)⟩
/-- what comes of a run in a store of its own: data without objects, or (mu) one new object -/
def outOf (mu : Bool) (S : Store) (d : D) (S' : Store) : T D := if mu then
    (match d with
    | .obj n => some? (S'[n]?) fun c => if c.pu then .ret (.obj S.length) (S ++ [c]) else .bad
    | _ => .bad)
  else some? (freeze S' 0 d) fun d' => .ret d' S
/-- .. of a run in the store S: its objects are let go, where nothing holds them -/
def dropOf (S : Store) (d : D) (S' : Store) : T D :=
  if belows S.length (S'.take S.length) then (match freeze S' S.length d with
    | some d' => .ret d' (S'.take S.length)
    | none => .ret d S') else .ret d S'
def callD (run : Nat → List D → Store → T D) (f : Nat) (mu : Bool) (args : List D) (S : Store) : T D :=
  if pus args then (run f args []).iso S (outOf mu S) else (run f args S).bind (dropOf S)
def newD (init : Nat → Option Nat) (run : Nat → List D → Store → T D) (c : Nat) (mu : Bool) (args : List D) (S : Store) : T D :=
  some? (init c) fun f => if !mu && pus args then
    (run f (.obj 0 :: args) [.ins c []]).iso S fun d S' => match d with
      | .non => some? (freeze S' 0 (.obj 0)) fun d' => .ret d' S
      | _ => .bad
  else (run f (.obj S.length :: args) (S ++ [.ins c []])).bind fun d S' => match d with
    | .non => .ret (.obj S.length) S'
    | _ => .bad
def rnOf (P : Prog) (run : Nat → List D → Store → T D) : Rn where
  call := callD run
  mth := P.mth
  new := newD P.init run
  glob := fun i => P.globs[i]?
/-- how a def's body ends -/
def endOf (fl : Flow) (S : Store) : T D := match fl with
  | .rt d => .ret d S
  | .nx _ => .ret .non S
  | .ex e _ => .exc e S
  | _ => .bad
def run (P : Prog) : Nat → Nat → List D → Store → T D
  | 0, _, _, _ => .bad
  | k + 1, f, args, S => match P.ext f with
    | some g => (g args).iso S fun d _ => .ret d S
    | none => some? (P.fns[f]?) fun fn => if args.length = fn.np then
        (evSs (rnOf P (run P k)) P.below fn.body (args.map some ++ List.replicate (fn.nl - fn.np) none) S).nox.bind endOf
      else .bad
end Ic

set_option Elab.async false
set_option linter.all false
set_option maxRecDepth 100000
set_option maxHeartbeats 1000000
/-! Ic1: how plain data stand in the abstract heap; what a step keeps. -/
namespace Ic
open PySem PySem.Spec PyProof.Rows L2

structure Nm where
  cls : List Addr
  att : List Str
  exc : List Addr
  rg : Option (List Int) → List Int → Prop
/-- where the store's objects, the sources of draws stand -/
structure Rl where
  m : List Addr
  R : List Addr
  B : List Addr
def Off (r : Rl) (a : Addr) : Prop := a ∉ r.m ∧ a ∉ r.R ∧ a ∉ r.B
def keyR : D → Key → Prop
  | .int i, k => k = .inl i
  | .str s, k => k = .inr s
  | _, _ => False
def KLst (K : PySem.W.Frag) (a : Addr) (xs : List V) : Prop :=
  ∃ (o : Obj) (its : Array Value) (n : Nat), K.lookup a = some o ∧ o.cls = .type "list" ∧ o.dict = none ∧ o.data = .seq its n ∧ its.size ≤ sizeLine ∧ Vals xs its.toList
def Scr (K : PySem.W.Frag) (r : Rl) (H : Hp) (a : Addr) (ns : List Int) : Prop := (Rd H a (.lst (ns.map V.int)) ∧ Off r a) ∨ KLst K a (ns.map V.int)
theorem Scr.sq {K : PySem.W.Frag} {r : Rl} {H : Hp} {a : Addr} {ns : List Int} (h : Scr K r H a ns) : SqL K H a (ns.map V.int) := h.elim (fun q => .inl q.1) .inr

section
variable (K : PySem.W.Frag) (nm : Nm) (r : Rl) (H : Hp)
mutual
def Rel : D → V → Prop
  | .non, v => v = .non
  | .bl b, v => v = .bl b
  | .int i, v => v = .int i
  | .str s, v => v = .str s
  | .tup xs, v => ∃ a vs, v = .ref a ∧ SqT K H a vs ∧ Rels xs vs
  | .lst xs, v => ∃ a vs, v = .ref a ∧ Off r a ∧ H a = some (.lst vs) ∧ Rels xs vs
  | .scr ns, v => ∃ a, v = .ref a ∧ Scr K r H a ns
  | .dct kvs, v => ∃ a ks, v = .ref a ∧ Off r a ∧ H a = some (.dK ks) ∧ RelKs kvs ks
  | .set ns, v => ∃ a S, v = .ref a ∧ Off r a ∧ H a = some (.set S ns.length) ∧ ∀ i, S i = ns.contains i
  | .ins c fs, v => ∃ a C dx fvs, v = .ref a ∧ Off r a ∧ nm.cls[c]? = some C ∧ H a = some (.ins C dx fvs) ∧ RelFs fs fvs
  | .rng, v => ∃ a, v = .ref a ∧ a ∈ r.R
  | .obj n, v => ∃ a, v = .ref a ∧ r.m[n]? = some a
def Rels : List D → List V → Prop
  | [], vs => vs = []
  | x :: xs, vs => ∃ v ws, vs = v :: ws ∧ Rel x v ∧ Rels xs ws
def RelKs : List (D × D) → List (Key × V) → Prop
  | [], ks => ks = []
  | (k, d) :: r, ks => ∃ key v ws, ks = (key, v) :: ws ∧ keyR k key ∧ Rel d v ∧ RelKs r ws
def RelFs : List (Nat × D) → List (Str × V) → Prop
  | [], fs => fs = []
  | (f, d) :: r, fs => ∃ s v ws, fs = (s, v) :: ws ∧ nm.att[f]? = some s ∧ Rel d v ∧ RelFs r ws
end
/-- an object of the store, at its place -/
def Cel : D → Addr → Prop
  | .lst xs, a => ∃ vs, H a = some (.lst vs) ∧ Rels K nm r H xs vs
  | .dct kvs, a => ∃ ks, H a = some (.dK ks) ∧ RelKs K nm r H kvs ks
  | .ins c fs, a => ∃ C dx fvs, nm.cls[c]? = some C ∧ H a = some (.ins C dx fvs) ∧ RelFs K nm r H fs fvs
  | _, _ => False
/-- a source of draws -/
def Src (a : Addr) : Prop :=
  (∃ c ns is, H a = some (.lst (.ref c :: is.map V.int)) ∧ H c = some (.lst (ns.map V.int)) ∧ Off r c ∧ nm.rg (some ns) is) ∨
  ∃ is, H a = some (.lst (is.map V.int)) ∧ nm.rg none is
structure Sto (S : Store) : Prop where
  len : r.m.length = S.length
  nd : r.m.Nodup
  dj : ∀ a ∈ r.m, a ∉ r.R ∧ a ∉ r.B
  dR : ∀ a ∈ r.R, a ∉ r.B
  bt : ∀ a ∈ r.B, Mut (H a)
  src : ∀ a ∈ r.R, Src nm r H a
  cel : ∀ (n : Nat) a d, r.m[n]? = some a → S[n]? = some d → Cel K nm r H d a
def EnvR (env : Slots) (σ : L2.St) : Prop := env.length = σ.length ∧ ∀ (i : Nat) d, env[i]? = some (some d) → ∃ v, σ[i]? = some (some v) ∧ Rel K nm r H d v
end
/-- what a step keeps -/
structure Ext0 (K : PySem.W.Frag) (r : Rl) (H : Hp) (r' : Rl) (H' : Hp) : Prop where
  pre : r.m <+: r'.m
  sub : ∀ a ∈ r.R, a ∈ r'.R
  tup : ∀ a xs, SqT K H a xs → SqT K H' a xs
  keep : ∀ a o, H a = some o → Off r a → H' a = some o ∧ Off r' a
  new : ∀ (n : Nat) a, r.m.length ≤ n → r'.m[n]? = some a → H a = none
  there : ∀ a o, H a = some o → ∃ o', H' a = some o'
/-- .. with the same busy lists -/
structure Ext (K : PySem.W.Frag) (r : Rl) (H : Hp) (r' : Rl) (H' : Hp) : Prop extends Ext0 K r H r' H' where
  eB : r'.B = r.B
  bus : ∀ a ∈ r.B, ∀ o, H a = some o → H' a = some o
section
variable {K : PySem.W.Frag} {nm : Nm} {r r' r'' : Rl} {H H' H'' : Hp} {a p : Addr} {o : HO}
theorem Ext0.refl : Ext0 K r H r H := ⟨List.prefix_rfl, fun _ h => h, fun _ _ h => h, fun _ _ h q => ⟨h, q⟩, fun n a h e => by
  have := (List.getElem?_eq_some_iff.mp e).1
  omega, fun _ o h => ⟨o, h⟩⟩
theorem Ext.refl : Ext K r H r H := ⟨Ext0.refl, rfl, fun _ _ _ h => h⟩
theorem Ext0.get (x : Ext0 K r H r' H') {n : Nat} (e : r.m[n]? = some a) : r'.m[n]? = some a := by
  obtain ⟨t, ht⟩ := x.pre
  rw [← ht, List.getElem?_append_left (List.getElem?_eq_some_iff.mp e).1]
  exact e
theorem Rd.ext0 (x : Ext0 K r H r' H') (of : Off r a) {u : HO} (h : Rd H a u) : Rd H' a u ∧ Off r' a := by
  rcases h with h | ⟨ob, h⟩
  · exact ⟨.inl (x.keep a _ h of).1, (x.keep a _ h of).2⟩
  · exact ⟨.inr ⟨ob, (x.keep a _ h of).1⟩, (x.keep a _ h of).2⟩
theorem Scr.ext0 (x : Ext0 K r H r' H') {ns : List Int} (h : Scr K r H a ns) : Scr K r' H' a ns := by
  rcases h with ⟨h, of⟩ | h
  · exact .inl (Rd.ext0 x of h)
  · exact .inr h
mutual
theorem Rel.ext0 (x : Ext0 K r H r' H') : ∀ {d : D} {v : V}, Rel K nm r H d v → Rel K nm r' H' d v
  | .non, _, h => h
  | .bl _, _, h => h
  | .int _, _, h => h
  | .str _, _, h => h
  | .tup xs, _, h => by
    obtain ⟨a, vs, e, q, rs⟩ := h
    exact ⟨a, vs, e, x.tup a vs q, Rels.ext0 x rs⟩
  | .lst xs, _, h => by
    obtain ⟨a, vs, e, of, q, rs⟩ := h
    exact ⟨a, vs, e, (x.keep a _ q of).2, (x.keep a _ q of).1, Rels.ext0 x rs⟩
  | .scr ns, _, h => by
    obtain ⟨a, e, q⟩ := h
    exact ⟨a, e, q.ext0 x⟩
  | .dct kvs, _, h => by
    obtain ⟨a, ks, e, of, q, rs⟩ := h
    exact ⟨a, ks, e, (x.keep a _ q of).2, (x.keep a _ q of).1, RelKs.ext0 x rs⟩
  | .set ns, _, h => by
    obtain ⟨a, S, e, of, q, rs⟩ := h
    exact ⟨a, S, e, (x.keep a _ q of).2, (x.keep a _ q of).1, rs⟩
  | .ins c fs, _, h => by
    obtain ⟨a, C, dx, fvs, e, of, c1, q, rs⟩ := h
    exact ⟨a, C, dx, fvs, e, (x.keep a _ q of).2, c1, (x.keep a _ q of).1, RelFs.ext0 x rs⟩
  | .rng, _, h => by
    obtain ⟨a, e, q⟩ := h
    exact ⟨a, e, x.sub a q⟩
  | .obj n, _, h => by
    obtain ⟨a, e, q⟩ := h
    exact ⟨a, e, x.get q⟩
theorem Rels.ext0 (x : Ext0 K r H r' H') : ∀ {ds : List D} {vs : List V}, Rels K nm r H ds vs → Rels K nm r' H' ds vs
  | [], _, h => h
  | d :: ds, _, h => by
    obtain ⟨v, ws, e, h1, h2⟩ := h
    exact ⟨v, ws, e, Rel.ext0 x h1, Rels.ext0 x h2⟩
theorem RelKs.ext0 (x : Ext0 K r H r' H') : ∀ {ds : List (D × D)} {vs : List (Key × V)}, RelKs K nm r H ds vs → RelKs K nm r' H' ds vs
  | [], _, h => h
  | (k, d) :: ds, _, h => by
    obtain ⟨key, v, ws, e, h0, h1, h2⟩ := h
    exact ⟨key, v, ws, e, h0, Rel.ext0 x h1, RelKs.ext0 x h2⟩
theorem RelFs.ext0 (x : Ext0 K r H r' H') : ∀ {ds : List (Nat × D)} {vs : List (Str × V)}, RelFs K nm r H ds vs → RelFs K nm r' H' ds vs
  | [], _, h => h
  | (k, d) :: ds, _, h => by
    obtain ⟨s, v, ws, e, h0, h1, h2⟩ := h
    exact ⟨s, v, ws, e, h0, Rel.ext0 x h1, RelFs.ext0 x h2⟩
end
theorem EnvR.ext0 (x : Ext0 K r H r' H') {env : Slots} {σ : L2.St} (h : EnvR K nm r H env σ) : EnvR K nm r' H' env σ :=
  ⟨h.1, fun i d e => let ⟨v, q, q'⟩ := h.2 i d e; ⟨v, q, q'.ext0 x⟩⟩
theorem Ext0.off (x : Ext0 K r H r' H') (h : H a = some o) (of : Off r a) : Off r' a := (x.keep a o h of).2
theorem Ext0.trans (x : Ext0 K r H r' H') (y : Ext0 K r' H' r'' H'') : Ext0 K r H r'' H'' := by
  refine ⟨x.pre.trans y.pre, fun a h => y.sub a (x.sub a h), fun a xs h => y.tup a xs (x.tup a xs h), fun a o h of => ?_, fun n a h e => ?_, fun a o h => ?_⟩
  · obtain ⟨h1, o1⟩ := x.keep a o h of
    exact y.keep a o h1 o1
  · by_cases hn : n < r'.m.length
    · have e' : r'.m[n]? = some r'.m[n] := List.getElem?_eq_getElem hn
      have q := y.get e'
      rw [e] at q
      cases q
      exact x.new n _ h e'
    · have q := y.new n a (by omega) e
      cases z : H a with
      | none => rfl
      | some u =>
        obtain ⟨o', h'⟩ := x.there a u z
        rw [q] at h'
        cases h'
  · obtain ⟨o', h'⟩ := x.there a o h
    exact y.there a o' h'
theorem Ext.trans (x : Ext K r H r' H') (y : Ext K r' H' r'' H'') : Ext K r H r'' H'' :=
  ⟨x.toExt0.trans y.toExt0, y.eB.trans x.eB, fun a h o q => y.bus a (by rw [x.eB]; exact h) o (x.bus a h o q)⟩
theorem Ext.get (x : Ext K r H r' H') {n : Nat} (e : r.m[n]? = some a) : r'.m[n]? = some a := x.toExt0.get e
theorem Rel.ext (x : Ext K r H r' H') {d : D} {v : V} (h : Rel K nm r H d v) : Rel K nm r' H' d v := h.ext0 x.toExt0
theorem Rels.ext (x : Ext K r H r' H') {d : List D} {v : List V} (h : Rels K nm r H d v) : Rels K nm r' H' d v := h.ext0 x.toExt0
theorem RelKs.ext (x : Ext K r H r' H') {d : List (D × D)} {v : List (Key × V)} (h : RelKs K nm r H d v) : RelKs K nm r' H' d v := h.ext0 x.toExt0
theorem RelFs.ext (x : Ext K r H r' H') {d : List (Nat × D)} {v : List (Str × V)} (h : RelFs K nm r H d v) : RelFs K nm r' H' d v := h.ext0 x.toExt0
theorem EnvR.ext (x : Ext K r H r' H') {env : Slots} {σ : L2.St} (h : EnvR K nm r H env σ) : EnvR K nm r' H' env σ := h.ext0 x.toExt0
/-! ### steps -/
theorem Rd.new (hp : H p = none) {u : HO} (h : Rd H a u) : Rd (upd H p o) a u := by
  rcases h with h | ⟨ob, h⟩
  · exact .inl (by rw [upd_ne (ne_of_none h hp)]; exact h)
  · exact .inr ⟨ob, by rw [upd_ne (ne_of_none h hp)]; exact h⟩
theorem SqT.new (hp : H p = none) {xs : List V} (h : SqT K H a xs) : SqT K (upd H p o) a xs := h.elim (fun q => .inl (Rd.new hp q)) .inr
/-- something new, in no list of ours -/
theorem Ext.fresh (hp : H p = none) : Ext K r H r (upd H p o) :=
  ⟨⟨List.prefix_rfl, fun _ h => h, fun _ _ h => SqT.new hp h, fun a u h of => ⟨by rw [upd_ne (ne_of_none h hp)]; exact h, of⟩, fun n a h e => by
    have := (List.getElem?_eq_some_iff.mp e).1
    omega, fun a u h => ⟨u, by rw [upd_ne (ne_of_none h hp)]; exact h⟩⟩, rfl, fun a _ u h => by rw [upd_ne (ne_of_none h hp)]; exact h⟩
abbrev Rl.add (r : Rl) (p : Addr) : Rl := ⟨r.m ++ [p], r.R, r.B⟩
/-- something new, an object of the store -/
theorem Ext.cell (hp : H p = none) : Ext K r H (r.add p) (upd H p o) := by
  refine ⟨⟨List.prefix_append _ _, fun _ h => h, fun _ _ h => SqT.new hp h, fun a u h of => ⟨by rw [upd_ne (ne_of_none h hp)]; exact h, fun q => ?_, of.2⟩, fun n a h e => ?_, fun a u h => ⟨u, by rw [upd_ne (ne_of_none h hp)]; exact h⟩⟩, rfl, fun a _ u h => by rw [upd_ne (ne_of_none h hp)]; exact h⟩
  · rcases List.mem_append.mp q with q | q
    · exact of.1 q
    · have : a = p := by simpa using q
      rw [this, hp] at h
      cases h
  · have e' : (r.m ++ [p])[n]? = some a := e
    rw [List.getElem?_append_right h] at e'
    have : a = p := by
      cases q : n - r.m.length with
      | zero => rw [q] at e'; simpa using e'.symm
      | succ k => rw [q] at e'; simp at e'
    rw [this]; exact hp
theorem Cel.ext0 (x : Ext0 K r H r' H') (e : H' a = H a) : ∀ {d : D}, Cel K nm r H d a → Cel K nm r' H' d a
  | .lst _, h => let ⟨vs, q, z⟩ := h; ⟨vs, e.trans q, z.ext0 x⟩
  | .dct _, h => let ⟨vs, q, z⟩ := h; ⟨vs, e.trans q, z.ext0 x⟩
  | .ins _ _, h => let ⟨C, dx, vs, c, q, z⟩ := h; ⟨C, dx, vs, c, e.trans q, z.ext0 x⟩
  | .non, h => h.elim
  | .bl _, h => h.elim
  | .int _, h => h.elim
  | .str _, h => h.elim
  | .tup _, h => h.elim
  | .scr _, h => h.elim
  | .set _, h => h.elim
  | .rng, h => h.elim
  | .obj _, h => h.elim
/-- what an object of the store is in the heap -/
theorem Cel.what : ∀ {d : D}, Cel K nm r H d a → (∃ vs, H a = some (.lst vs)) ∨ (∃ ks, H a = some (.dK ks)) ∨ ∃ C dx fs, H a = some (.ins C dx fs)
  | .lst _, h => let ⟨vs, q, _⟩ := h; .inl ⟨vs, q⟩
  | .dct _, h => let ⟨vs, q, _⟩ := h; .inr (.inl ⟨vs, q⟩)
  | .ins _ _, h => let ⟨C, dx, vs, c, q, z⟩ := h; .inr (.inr ⟨C, dx, vs, q⟩)
  | .non, h => h.elim
  | .bl _, h => h.elim
  | .int _, h => h.elim
  | .str _, h => h.elim
  | .tup _, h => h.elim
  | .scr _, h => h.elim
  | .set _, h => h.elim
  | .rng, h => h.elim
  | .obj _, h => h.elim
theorem Cel.tracked {d : D} (h : Cel K nm r H d a) : ∃ u, H a = some u := by
  rcases h.what with ⟨_, q⟩ | ⟨_, q⟩ | ⟨_, _, _, q⟩ <;> exact ⟨_, q⟩
theorem Cel.mut {d : D} (h : Cel K nm r H d a) : Mut (H a) := by
  rcases h.what with ⟨_, q⟩ | ⟨_, q⟩ | ⟨_, _, _, q⟩ <;> (rw [q]; trivial)
theorem Src.ext0 (x : Ext0 K r H r' H') (e : H' a = H a) (h : Src nm r H a) : Src nm r' H' a := by
  rcases h with ⟨c, ns, is, h1, h2, of, g⟩ | ⟨is, h1, g⟩
  · exact .inl ⟨c, ns, is, e.trans h1, (x.keep c _ h2 of).1, (x.keep c _ h2 of).2, g⟩
  · exact .inr ⟨is, e.trans h1, g⟩
theorem Src.tracked (h : Src nm r H a) : ∃ u, H a = some u := by
  rcases h with ⟨c, ns, is, h1, _⟩ | ⟨is, h1, _⟩ <;> exact ⟨_, h1⟩
section
variable {S : Store} {n : Nat} {d : D}
theorem Sto.at (st : Sto K nm r H S) (hm : r.m[n]? = some a) : ∃ d, S[n]? = some d ∧ Cel K nm r H d a := by
  have hn : n < S.length := by rw [← st.len]; exact (List.getElem?_eq_some_iff.mp hm).1
  exact ⟨S[n], List.getElem?_eq_getElem hn, st.cel n a _ hm (List.getElem?_eq_getElem hn)⟩
theorem Sto.tracked (st : Sto K nm r H S) (h : a ∈ r.m) : ∃ u, H a = some u := by
  obtain ⟨i, hi, he⟩ := List.getElem_of_mem h
  obtain ⟨d, _, c⟩ := st.at (n := i) (a := a) (by rw [List.getElem?_eq_getElem hi, he])
  exact c.tracked
theorem Sto.new (st : Sto K nm r H S) (hp : H p = none) : Off r p :=
  ⟨fun h => let ⟨_, q⟩ := st.tracked h; (by rw [hp] at q; cases q), fun h => let ⟨_, q⟩ := (st.src p h).tracked; (by rw [hp] at q; cases q), fun h => (by have q := st.bt p h; rw [hp] at q; exact q)⟩
/-- the same lists, no place of ours changed, but (e) one of the busy lists -/
theorem Sto.still (st : Sto K nm r H S) (x : Ext0 K r H r H') (e : ∀ a, (a ∈ r.m ∨ a ∈ r.R) → H' a = H a) (eb : ∀ a ∈ r.B, Mut (H' a)) : Sto K nm r H' S :=
  ⟨st.len, st.nd, st.dj, st.dR, eb, fun a h => (st.src a h).ext0 x (e a (.inr h)), fun n a d h1 h2 => (st.cel n a d h1 h2).ext0 x (e a (.inl (List.mem_of_getElem? h1)))⟩
theorem Sto.fresh (st : Sto K nm r H S) (hp : H p = none) : Sto K nm r (upd H p o) S :=
  st.still (Ext.fresh hp).toExt0 (fun a h => by
    have : a ≠ p := by
      rintro rfl
      rcases h with h | h
      · exact (st.new hp).1 h
      · exact (st.new hp).2.1 h
    exact upd_ne this) fun a h => by
      have : a ≠ p := by rintro rfl; exact (st.new hp).2.2 h
      rw [upd_ne this]
      exact st.bt a h
theorem Sto.cell (st : Sto K nm r H S) (hp : H p = none) (c : Cel K nm (r.add p) (upd H p o) d p) : Sto K nm (r.add p) (upd H p o) (S ++ [d]) := by
  have of := st.new hp
  have x : Ext K r H (r.add p) (upd H p o) := Ext.cell hp
  refine ⟨by simp [st.len], ?_, fun a h => ?_, st.dR, fun a h => ?_, fun a h => ?_, fun n a d' h1 h2 => ?_⟩
  · show (r.m ++ [p]).Nodup
    rw [List.nodup_append]
    exact ⟨st.nd, by simp, fun a ha b hb => by
      have : b = p := by simpa using hb
      rintro rfl
      rw [this] at ha
      exact of.1 ha⟩
  · rcases List.mem_append.mp h with h | h
    · exact st.dj a h
    · have : a = p := by simpa using h
      rw [this]; exact of.2
  · have ne : a ≠ p := by rintro rfl; exact of.2.2 h
    rw [upd_ne ne]
    exact st.bt a h
  · have ne : a ≠ p := by rintro rfl; exact of.2.1 h
    exact (st.src a h).ext0 x.toExt0 (upd_ne ne)
  · have h1' : (r.m ++ [p])[n]? = some a := h1
    by_cases hn : n < r.m.length
    · rw [List.getElem?_append_left hn] at h1'
      rw [List.getElem?_append_left (by rw [← st.len]; exact hn)] at h2
      have ne : a ≠ p := by rintro rfl; exact of.1 (List.mem_of_getElem? h1')
      exact (st.cel n a d' h1' h2).ext0 x.toExt0 (upd_ne ne)
    · have hn2 : n < (r.m ++ [p]).length := (List.getElem?_eq_some_iff.mp h1').1
      have hl : n = r.m.length := by simp at hn2; omega
      subst hl
      rw [List.getElem?_append_right (Nat.le_refl _)] at h1'
      rw [List.getElem?_append_right (by rw [st.len]; exact Nat.le_refl _)] at h2
      rw [st.len] at h2
      simp at h1' h2
      rw [← h1', ← h2]
      exact c
/-- something that is none of the plain data is written -/
theorem Ext0.writeAt (hm : ¬ Off r a) (mu : Mut (H a)) : Ext0 K r H r (upd H a o) := by
  refine ⟨List.prefix_rfl, fun _ h => h, fun b xs h => ?_, fun b u h of => ⟨?_, of⟩, fun n b h e => ?_, fun b u h => ?_⟩
  · rcases h with h | h
    · have ne : b ≠ a := by
        rintro rfl
        rcases h with h | ⟨ob, h⟩ <;> (rw [h] at mu; exact mu)
      rcases h with h | ⟨ob, h⟩
      · exact .inl (.inl (by rw [upd_ne ne]; exact h))
      · exact .inl (.inr ⟨ob, by rw [upd_ne ne]; exact h⟩)
    · exact .inr h
  · have ne : b ≠ a := by rintro rfl; exact hm of
    rw [upd_ne ne]; exact h
  · have := (List.getElem?_eq_some_iff.mp e).1
    omega
  · by_cases e : b = a
    · exact ⟨o, by rw [e, upd_same]⟩
    · exact ⟨u, by rw [upd_ne e]; exact h⟩
/-- an object of the store is written -/
theorem Ext.write (st : Sto K nm r H S) (hm : a ∈ r.m) (mu : Mut (H a)) : Ext K r H r (upd H a o) :=
  ⟨Ext0.writeAt (fun of => of.1 hm) mu, rfl, fun b hb u h => by
    have ne : b ≠ a := by rintro rfl; exact (st.dj b hm).2 hb
    rw [upd_ne ne]; exact h⟩
theorem Sto.write (st : Sto K nm r H S) (hm : r.m[n]? = some a) (c : Cel K nm r (upd H a o) d a) : Sto K nm r (upd H a o) (S.set n d) := by
  have hmem : a ∈ r.m := List.mem_of_getElem? hm
  obtain ⟨d0, h0, c0⟩ := st.at hm
  have x : Ext K r H r (upd H a o) := Ext.write st hmem c0.mut
  refine ⟨by simp [st.len], st.nd, st.dj, st.dR, fun b h => ?_, fun b h => ?_, fun k b d' h1 h2 => ?_⟩
  · have ne : b ≠ a := by rintro rfl; exact (st.dj b hmem).2 h
    rw [upd_ne ne]
    exact st.bt b h
  · have ne : b ≠ a := by rintro rfl; exact (st.dj b hmem).1 h
    exact (st.src b h).ext0 x.toExt0 (upd_ne ne)
  · by_cases hk : n = k
    · subst hk
      rw [hm] at h1
      cases h1
      have hn : n < S.length := by rw [← st.len]; exact (List.getElem?_eq_some_iff.mp hm).1
      rw [List.getElem?_set_self hn] at h2
      cases h2
      exact c
    · rw [List.getElem?_set_ne hk] at h2
      have ne : b ≠ a := by
        rintro rfl
        obtain ⟨h3, e3⟩ := List.getElem?_eq_some_iff.mp hm
        obtain ⟨h4, e4⟩ := List.getElem?_eq_some_iff.mp h1
        exact hk ((List.getElem_inj st.nd).mp (e3.trans e4.symm))
      exact (st.cel k b d' h1 h2).ext0 x.toExt0 (upd_ne ne)
/-- a new list is kept busy -/
abbrev Rl.busy (r : Rl) (p : Addr) : Rl := ⟨r.m, r.R, p :: r.B⟩
theorem Ext0.busy (hp : H p = none) : Ext0 K r H (r.busy p) (upd H p o) := by
  refine ⟨List.prefix_rfl, fun _ h => h, fun _ _ h => SqT.new hp h, fun a u h of => ⟨by rw [upd_ne (ne_of_none h hp)]; exact h, of.1, of.2.1, fun q => ?_⟩, fun n a h e => ?_, fun a u h => ⟨u, by rw [upd_ne (ne_of_none h hp)]; exact h⟩⟩
  · rcases List.mem_cons.mp q with q | q
    · rw [q, hp] at h
      cases h
    · exact of.2.2 q
  · have := (List.getElem?_eq_some_iff.mp e).1
    exact absurd this (Nat.not_lt.mpr h)
theorem Sto.busy {vs : List V} (st : Sto K nm r H S) (hp : H p = none) : Sto K nm (r.busy p) (upd H p (.lst vs)) S := by
  have of := st.new hp
  have x : Ext0 K r H (r.busy p) (upd H p (.lst vs)) := Ext0.busy hp
  have nem : ∀ a ∈ r.m, a ≠ p := fun a h e => of.1 (e ▸ h)
  have neR : ∀ a ∈ r.R, a ≠ p := fun a h e => of.2.1 (e ▸ h)
  refine ⟨st.len, st.nd, fun a h => ⟨(st.dj a h).1, fun q => ?_⟩, fun a h q => ?_, fun a h => ?_, fun a h => (st.src a h).ext0 x (upd_ne (neR a h)), fun n a d h1 h2 => (st.cel n a d h1 h2).ext0 x (upd_ne (nem a (List.mem_of_getElem? h1)))⟩
  · rcases List.mem_cons.mp q with q | q
    · exact nem a h q
    · exact (st.dj a h).2 q
  · rcases List.mem_cons.mp q with q | q
    · exact neR a h q
    · exact st.dR a h q
  · by_cases e : a = p
    · rw [e, upd_same]; trivial
    · rw [upd_ne e]
      rcases List.mem_cons.mp h with q | q
      · exact absurd q e
      · exact st.bt a q
/-- a busy list is written -/
theorem Sto.fill {vs : List V} (st : Sto K nm r H S) (hb : p ∈ r.B) : Sto K nm r (upd H p (.lst vs)) S ∧ Ext0 K r H r (upd H p (.lst vs)) := by
  have x : Ext0 K r H r (upd H p (.lst vs)) := Ext0.writeAt (fun of => of.2.2 hb) (st.bt p hb)
  refine ⟨st.still x (fun a h => upd_ne ?_) (fun a h => ?_), x⟩
  · rintro rfl
    rcases h with h | h
    · exact (st.dj a h).2 hb
    · exact st.dR a h hb
  · by_cases e : a = p
    · rw [e, upd_same]; trivial
    · rw [upd_ne e]; exact st.bt a h
/-- a list is busy no more -/
theorem Ext0.free (p : Addr) : Ext0 K (r.busy p) H r H :=
  ⟨List.prefix_rfl, fun _ h => h, fun _ _ h => h, fun a o h of => ⟨h, of.1, of.2.1, fun q => of.2.2 (List.mem_cons_of_mem _ q)⟩, fun n a h e => by
    have := (List.getElem?_eq_some_iff.mp e).1
    exact absurd this (Nat.not_lt.mpr h), fun _ o h => ⟨o, h⟩⟩
theorem Sto.free (st : Sto K nm (r.busy p) H S) : Sto K nm r H S :=
  ⟨st.len, st.nd, fun a h => ⟨(st.dj a h).1, fun q => (st.dj a h).2 (List.mem_cons_of_mem _ q)⟩, fun a h q => st.dR a h (List.mem_cons_of_mem _ q), fun a h => st.bt a (List.mem_cons_of_mem _ h),
    fun a h => (st.src a h).ext0 (K := K) (Ext0.free p) rfl, fun n a d h1 h2 => (st.cel n a d h1 h2).ext0 (Ext0.free p) rfl⟩
/-- a value, objects looked through -/
def VRel (K : PySem.W.Frag) (nm : Nm) (r : Rl) (H : Hp) (d : D) (v : V) : Prop := match d with
  | .lst xs => ∃ a vs, v = .ref a ∧ H a = some (.lst vs) ∧ Rels K nm r H xs vs
  | .dct kvs => ∃ a ks, v = .ref a ∧ H a = some (.dK ks) ∧ RelKs K nm r H kvs ks
  | .ins c fs => ∃ a C dx fvs, v = .ref a ∧ nm.cls[c]? = some C ∧ H a = some (.ins C dx fvs) ∧ RelFs K nm r H fs fvs
  | .obj _ => False
  | d => Rel K nm r H d v
theorem Cel.vrel : ∀ {d : D}, Cel K nm r H d a → VRel K nm r H d (.ref a)
  | .lst _, h => let ⟨vs, q, z⟩ := h; ⟨a, vs, rfl, q, z⟩
  | .dct _, h => let ⟨vs, q, z⟩ := h; ⟨a, vs, rfl, q, z⟩
  | .ins _ _, h => let ⟨C, dx, vs, c, q, z⟩ := h; ⟨a, C, dx, vs, rfl, c, q, z⟩
  | .non, h => h.elim
  | .bl _, h => h.elim
  | .int _, h => h.elim
  | .str _, h => h.elim
  | .tup _, h => h.elim
  | .scr _, h => h.elim
  | .set _, h => h.elim
  | .rng, h => h.elim
  | .obj _, h => h.elim
theorem Rel.view (st : Sto K nm r H S) : ∀ {d : D} {v : V}, Rel K nm r H d v → VRel K nm r H (view S d) v
  | .lst _, _, h => let ⟨a, vs, e, _, q, z⟩ := h; ⟨a, vs, e, q, z⟩
  | .dct _, _, h => let ⟨a, vs, e, _, q, z⟩ := h; ⟨a, vs, e, q, z⟩
  | .ins _ _, _, h => let ⟨a, C, dx, vs, e, _, c, q, z⟩ := h; ⟨a, C, dx, vs, e, c, q, z⟩
  | .non, _, h => h
  | .bl _, _, h => h
  | .int _, _, h => h
  | .str _, _, h => h
  | .tup _, _, h => h
  | .scr _, _, h => h
  | .set _, _, h => h
  | .rng, _, h => h
  | .obj n, v, h => by
    obtain ⟨a, e, hm⟩ := h
    obtain ⟨c, hc, q⟩ := st.at hm
    have : Ic.view S (.obj n) = c := by simp [Ic.view, hc]
    rw [this, e]
    exact q.vrel
end

/-! ### readings -/
section
variable (K : PySem.W.Frag) (nm : Nm)
/-- how an exception stands -/
def Xr (r : Rl) (H : Hp) (e : Exc) (c : Value) (d : Option Addr) : Prop := ∃ C, nm.exc[e.c]? = some C ∧ c = .ref C ∧ d = none ∧ e.arg = .non
def XP (W : WX) (σ : L2.St) (r : Rl) (H : Hp) (e : Exc) (S : Store) : Prop := ∀ r' H', Ext K r H r' H' → Sto K nm r' H' S → ∀ c d, Xr nm r' H' e c d → W c d σ H'
/-- a tree's reading: where the heap stands as the store says, and all that the tree comes to is wanted -/
def tT {α β : Type} (C : Rl → Hp → Prop) (rel : Rl → Hp → α → β → Prop) (W : WX) (t : Slots → Store → T α) : L2.St → Hp → (β → Hp → Prop) → Prop := fun σ H Q =>
  ∃ r env S P, Sto K nm r H S ∧ EnvR K nm r H env σ ∧ C r H ∧ (t env S).All P (XP K nm W σ r H) ∧
    ∀ d S' v r' H', P d S' → Ext K r H r' H' → Sto K nm r' H' S' → rel r' H' d v → Q v H'
def Mono (C : Rl → Hp → Prop) : Prop := ∀ r H r' H', Ext K r H r' H' → C r H → C r' H'
abbrev C0 : Rl → Hp → Prop := fun _ _ => True
end
theorem XP.ext {W : WX} {σ : L2.St} {e : Exc} {S : Store} (x : Ext K r H r' H') (h : XP K nm W σ r H e S) : XP K nm W σ r' H' e S :=
  fun r2 H2 y st c d q => h r2 H2 (x.trans y) st c d q
section
variable {α β γ δ : Type} {C : Rl → Hp → Prop} {rel : Rl → Hp → α → β → Prop} {rel1 : Rl → Hp → γ → δ → Prop} {W : WX} {σ : L2.St} {Q Q' : β → Hp → Prop}
theorem tT_mono {t : Slots → Store → T α} (h : tT K nm C rel W t σ H Q) (hq : ∀ v H, Q v H → Q' v H) : tT K nm C rel W t σ H Q' := by
  obtain ⟨r, env, S, P, st, en, c, al, po⟩ := h
  exact ⟨r, env, S, P, st, en, c, al, fun d S' v r' H' p x s l => hq v H' (po d S' v r' H' p x s l)⟩
theorem tT_bind (hC : Mono K C) {t : Slots → Store → T γ} {f : Slots → γ → Store → T α} (h : tT K nm C rel W (fun env S => (t env S).bind (f env)) σ H Q) :
    tT K nm C0 rel1 W t σ H fun v H1 => ∃ x, tT K nm (fun r H => C r H ∧ rel1 r H x v) rel W (fun env S => f env x S) σ H1 Q := by
  obtain ⟨r, env, S, P, st, en, c, al, po⟩ := h
  rw [T.All_bind] at al
  exact ⟨r, env, S, fun a S1 => (f env a S1).All P (XP K nm W σ r H), st, en, trivial, al, fun x S1 v r1 H1 p e st1 rl =>
    ⟨x, r1, env, S1, P, st1, en.ext e, ⟨hC _ _ _ _ e c, rl⟩, p.mono (fun _ _ z => z) (fun _ _ z => z.ext e), fun d S' u r2 H2 pp e2 st2 rl2 => po d S' u r2 H2 pp (e.trans e2) st2 rl2⟩⟩
theorem Mono.and {C C' : Rl → Hp → Prop} (a : Mono K C) (b : Mono K C') : Mono K fun r H => C r H ∧ C' r H := fun _ _ _ _ x h => ⟨a _ _ _ _ x h.1, b _ _ _ _ x h.2⟩
theorem Mono.c0 : Mono K C0 := fun _ _ _ _ _ _ => trivial
theorem Mono.relD {d : D} {v : V} : Mono K fun r H => Rel K nm r H d v := fun _ _ _ _ x h => h.ext x
theorem Mono.relDs {d : List D} {v : List V} : Mono K fun r H => Rels K nm r H d v := fun _ _ _ _ x h => h.ext x
end
end
end Ic

set_option Elab.async false
set_option linter.all false
set_option maxRecDepth 100000
set_option maxHeartbeats 1000000
/-! Ic2: operators, comparisons, subscripts on data. -/
namespace Ic
open PySem PySem.Spec PyProof.Rows L2
section
variable {K : PySem.W.Frag} {nm : Nm} {r r' : Rl} {H H' : Hp} {a p : Addr} {S : Store}
theorem Rels.length : ∀ {ds : List D} {vs : List V}, Rels K nm r H ds vs → vs.length = ds.length
  | [], _, h => by rw [show _ = [] from h]; rfl
  | _ :: ds, _, h => by
    obtain ⟨v, ws, e, _, h2⟩ := h
    rw [e]; simp [Rels.length h2]
theorem Rels.append : ∀ {ds es : List D} {vs ws : List V}, Rels K nm r H ds vs → Rels K nm r H es ws → Rels K nm r H (ds ++ es) (vs ++ ws)
  | [], _, _, _, h, g => by rw [show _ = [] from h]; exact g
  | _ :: ds, _, _, _, h, g => by
    obtain ⟨v, ws', e, h1, h2⟩ := h
    rw [e]
    exact ⟨v, _, rfl, h1, Rels.append h2 g⟩
theorem Rels.get : ∀ {ds : List D} {vs : List V} {i : Nat} {d : D}, Rels K nm r H ds vs → ds[i]? = some d → ∃ v, vs[i]? = some v ∧ Rel K nm r H d v
  | [], _, _, _, _, e => by simp at e
  | d :: ds, _, 0, _, h, e => by
    obtain ⟨v, ws, e1, h1, h2⟩ := h
    simp at e
    exact ⟨v, by rw [e1]; rfl, e ▸ h1⟩
  | d :: ds, _, i + 1, _, h, e => by
    obtain ⟨v, ws, e1, h1, h2⟩ := h
    simp at e
    obtain ⟨w, q, z⟩ := Rels.get h2 e
    exact ⟨w, by rw [e1]; simpa using q, z⟩
theorem Rels.get' : ∀ {ds : List D} {vs : List V} {i : Nat} {v : V}, Rels K nm r H ds vs → vs[i]? = some v → ∃ d, ds[i]? = some d ∧ Rel K nm r H d v
  | [], _, _, _, h, e => by rw [show _ = [] from h] at e; simp at e
  | d :: ds, _, 0, _, h, e => by
    obtain ⟨v, ws, e1, h1, h2⟩ := h
    rw [e1] at e
    simp at e
    exact ⟨d, rfl, e ▸ h1⟩
  | d :: ds, _, i + 1, _, h, e => by
    obtain ⟨v, ws, e1, h1, h2⟩ := h
    rw [e1] at e
    simp at e
    obtain ⟨w, q, z⟩ := Rels.get' h2 e
    exact ⟨w, by simpa using q, z⟩
theorem Rels.take : ∀ {ds : List D} {vs : List V} (n : Nat), Rels K nm r H ds vs → Rels K nm r H (ds.take n) (vs.take n)
  | ds, vs, 0, _ => by simp [Rels]
  | [], _, _ + 1, h => by rw [show _ = [] from h]; exact rfl
  | d :: ds, _, n + 1, h => by
    obtain ⟨v, ws, e, h1, h2⟩ := h
    rw [e]
    exact ⟨v, _, rfl, h1, Rels.take n h2⟩
theorem Rels.drop : ∀ {ds : List D} {vs : List V} (n : Nat), Rels K nm r H ds vs → Rels K nm r H (ds.drop n) (vs.drop n)
  | ds, vs, 0, h => h
  | [], _, _ + 1, h => by rw [show _ = [] from h]; exact rfl
  | d :: ds, _, n + 1, h => by
    obtain ⟨v, ws, e, h1, h2⟩ := h
    rw [e]
    exact Rels.drop n h2
theorem Rels.one {d : D} {v : V} (h : Rel K nm r H d v) : Rels K nm r H [d] [v] := ⟨v, [], rfl, h, rfl⟩
theorem Rels.reverse : ∀ {ds : List D} {vs : List V}, Rels K nm r H ds vs → Rels K nm r H ds.reverse vs.reverse
  | [], _, h => by rw [show _ = [] from h]; exact rfl
  | d :: ds, _, h => by
    obtain ⟨v, ws, e, h1, h2⟩ := h
    rw [e, List.reverse_cons, List.reverse_cons]
    exact (Rels.reverse h2).append (.one h1)
theorem Rels.rep {ds : List D} {vs : List V} (h : Rels K nm r H ds vs) : ∀ k : Nat, Rels K nm r H (List.replicate k ds).flatten (List.replicate k vs).flatten
  | 0 => rfl
  | k + 1 => by
    rw [List.replicate_succ, List.replicate_succ, List.flatten_cons, List.flatten_cons]
    exact h.append (Rels.rep h k)
theorem Rels.set : ∀ {ds : List D} {vs : List V} {d : D} {v : V} (i : Nat), Rels K nm r H ds vs → Rel K nm r H d v → Rels K nm r H (ds.set i d) (vs.set i v)
  | [], _, _, _, _, h, _ => by rw [show _ = [] from h]; exact rfl
  | _ :: ds, _, _, _, 0, h, g => by
    obtain ⟨v, ws, e, h1, h2⟩ := h
    rw [e]
    exact ⟨_, _, rfl, g, h2⟩
  | _ :: ds, _, _, _, i + 1, h, g => by
    obtain ⟨v, ws, e, h1, h2⟩ := h
    rw [e]
    exact ⟨_, _, rfl, h1, Rels.set i h2 g⟩
theorem Rels.ints : ∀ {ds : List D} {vs : List V} {ns : List Int}, Rels K nm r H ds vs → intsOf ds = some ns → vs = ns.map V.int
  | [], _, _, h, e => by
    have e' : some [] = some _ := e
    cases e'
    exact h
  | d :: ds, _, _, h, e => by
    obtain ⟨v, ws, e1, h1, h2⟩ := h
    cases d <;> simp [intsOf] at e
    obtain ⟨ns, e2, rfl⟩ := e
    rw [e1, show v = _ from h1, Rels.ints h2 e2]
    rfl
theorem rels_ints : ∀ (ns : List Int), Rels K nm r H (ns.map D.int) (ns.map V.int)
  | [] => rfl
  | n :: ns => ⟨_, _, rfl, rfl, rels_ints ns⟩
theorem Rels.bools : ∀ {ds : List D} {vs : List V} {ns : List Bool}, Rels K nm r H ds vs → bools ds = some ns → vs = ns.map V.bl
  | [], _, _, h, e => by
    have e' : some [] = some _ := e
    cases e'
    exact h
  | d :: ds, _, _, h, e => by
    obtain ⟨v, ws, e1, h1, h2⟩ := h
    cases d <;> simp [Ic.bools] at e
    obtain ⟨ns, e2, rfl⟩ := e
    rw [e1, show v = _ from h1, Rels.bools h2 e2]
    rfl
theorem Rels.dropLast {ds : List D} {vs : List V} (h : Rels K nm r H ds vs) : Rels K nm r H ds.dropLast vs.dropLast := by
  rw [List.dropLast_eq_take, List.dropLast_eq_take, h.length]
  exact h.take _

/-- a value's reading at its end: g's value, made as data or as an object -/
def Fin' (K : PySem.W.Frag) (nm : Nm) (C : Rl → Hp → Prop) (g : Store → Option D) (mu : Bool) (H : Hp) (Q : VK) : Prop := ∃ r S d, Sto K nm r H S ∧ C r H ∧ g S = some d ∧
  ∀ d' S' v r' H', mk mu d S = .ret d' S' → Ext K r H r' H' → Sto K nm r' H' S' → Rel K nm r' H' d' v → Q v H'
theorem mk_ret (mu : Bool) (d : D) (S : Store) : ∃ d' S', mk mu d S = .ret d' S' := by
  cases mu <;> cases d <;> exact ⟨_, _, rfl⟩
theorem tT_fin {C : Rl → Hp → Prop} {W : WX} {σ : L2.St} {Q : VK} {g : Slots → Store → Option D} {mu : Bool} (h : tT K nm C (Rel K nm) W (fun env S => some? (g env S) fun d => mk mu d S) σ H Q) :
    ∃ env, Fin' K nm C (g env) mu H Q := by
  obtain ⟨r, env, S, P, st, en, c, al, po⟩ := h
  cases e : g env S with
  | none => simp [e] at al
  | some d =>
    obtain ⟨d1, S1, e1⟩ := mk_ret mu d S
    simp only [e, some?_some, e1, T.All_ret] at al
    exact ⟨env, r, S, d, st, c, e, fun d' S' v r' H' q x s l => by
      rw [e1] at q
      cases q
      exact po _ _ v r' H' al x s l⟩
/-- without objects -/
theorem tT_fin0 {C : Rl → Hp → Prop} {W : WX} {σ : L2.St} {Q : VK} {g : Slots → Store → Option D} (h : tT K nm C (Rel K nm) W (fun env S => some? (g env S) fun d => .ret d S) σ H Q) :
    ∃ env, Fin' K nm C (g env) false H Q := by
  refine tT_fin (W := W) (σ := σ) (g := g) (mu := false) ?_
  simpa only [mk_f] using h
section
variable {d : D} {ds : List D} {vs : List V} {mu : Bool} {Q : VK}
abbrev Kont (K : PySem.W.Frag) (nm : Nm) (r : Rl) (H : Hp) (S : Store) (mu : Bool) (d : D) (Q : VK) : Prop :=
  ∀ d' S' v r' H', mk mu d S = .ret d' S' → Ext K r H r' H' → Sto K nm r' H' S' → Rel K nm r' H' d' v → Q v H'
theorem Kont.tup (k : Kont K nm r H S mu (.tup ds) Q) (st : Sto K nm r H S) (hp : H p = none) (rs : Rels K nm r H ds vs) : Q (.ref p) (upd H p (.tup vs)) := by
  have e : mk mu (.tup ds) S = .ret (.tup ds) S := by cases mu <;> rfl
  exact k _ _ _ r _ e (Ext.fresh hp) (st.fresh hp) ⟨p, vs, rfl, SqT.of upd_same, rs.ext (Ext.fresh hp)⟩
theorem Kont.lst (k : Kont K nm r H S mu (.lst ds) Q) (st : Sto K nm r H S) (hp : H p = none) (rs : Rels K nm r H ds vs) : Q (.ref p) (upd H p (.lst vs)) := by
  cases mu with
  | false => exact k _ _ _ r _ rfl (Ext.fresh hp) (st.fresh hp) ⟨p, vs, rfl, st.new hp, upd_same, rs.ext (Ext.fresh hp)⟩
  | true =>
    have x : Ext K r H (r.add p) (upd H p (.lst vs)) := Ext.cell hp
    exact k _ _ _ _ _ rfl x (st.cell hp ⟨vs, upd_same, rs.ext x⟩) ⟨p, rfl, by rw [← st.len]; simp⟩
theorem Kont.dct {kvs : List (D × D)} {ks : List (Key × V)} (k : Kont K nm r H S mu (.dct kvs) Q) (st : Sto K nm r H S) (hp : H p = none) (rs : RelKs K nm r H kvs ks) : Q (.ref p) (upd H p (.dK ks)) := by
  cases mu with
  | false => exact k _ _ _ r _ rfl (Ext.fresh hp) (st.fresh hp) ⟨p, ks, rfl, st.new hp, upd_same, rs.ext (Ext.fresh hp)⟩
  | true =>
    have x : Ext K r H (r.add p) (upd H p (.dK ks)) := Ext.cell hp
    exact k _ _ _ _ _ rfl x (st.cell hp ⟨ks, upd_same, rs.ext x⟩) ⟨p, rfl, by rw [← st.len]; simp⟩
/-- the value as it is -/
theorem Kont.same {v : V} (k : Kont K nm r H S false d Q) (st : Sto K nm r H S) (h : Rel K nm r H d v) : Q v H := k _ _ _ r _ (mk_f _ _) Ext.refl st h
theorem Kont.tupS {v : V} (k : Kont K nm r H S mu (.tup ds) Q) (st : Sto K nm r H S) (h : Rel K nm r H (.tup ds) v) : Q v H :=
  k (.tup ds) S _ r _ (by cases mu <;> rfl) Ext.refl st h
theorem Kont.int {i : Int} (k : Kont K nm r H S mu (.int i) Q) (st : Sto K nm r H S) : Q (.int i) H := k (.int i) S _ r _ (by cases mu <;> rfl) Ext.refl st rfl
theorem Kont.bl {i : Bool} (k : Kont K nm r H S mu (.bl i) Q) (st : Sto K nm r H S) : Q (.bl i) H := k (.bl i) S _ r _ (by cases mu <;> rfl) Ext.refl st rfl
theorem Kont.str {i : Str} (k : Kont K nm r H S mu (.str i) Q) (st : Sto K nm r H S) : Q (.str i) H := k (.str i) S _ r _ (by cases mu <;> rfl) Ext.refl st rfl
theorem Kont.non (k : Kont K nm r H S mu .non Q) (st : Sto K nm r H S) : Q .non H := k .non S _ r _ (by cases mu <;> rfl) Ext.refl st rfl
end
/-- two values' reading -/
def Fin2 (K : PySem.W.Frag) (nm : Nm) (g : D → D → Option D) (mu : Bool) : R2 := fun x y H Q => ∃ dx dy, Fin' K nm (fun r H => Rel K nm r H dx x ∧ Rel K nm r H dy y) (fun S => g (view S dx) (view S dy)) mu H Q
end
theorem line_eq : line = sizeLine := by rw [sizeLine_eq]
section
variable {X : Cx} {nm : Nm} {mu : Bool}
/-- a rule for two values from one for the views -/
theorem opr_of {f : Value → Value → Sem Value} {g : D → D → Option D} (h : ∀ (pins : List (Addr × Obj)) (s : Shared) (σ : L2.St) (H : Hp) (x y : V) (v u : Value) (Q : VK), Inv X pins σ H s → RelV x v → RelV y u →
      ∀ (r : Rl) (S : Store) (a b d : D), Sto X.K nm r H S → VRel X.K nm r H a x → VRel X.K nm r H b y → g a b = some d → Kont X.K nm r H S mu d Q → wpAny (model X.prog X.w) X.A (f v u) (EP X pins σ Q) X.xe s) :
    OpR X f (Fin2 X.K nm g mu) := by
  intro pins s σ H x y v u Q I rx ry ⟨dx, dy, r, S, d, st, ⟨h1, h2⟩, e, k⟩
  exact h pins s σ H x y v u Q I rx ry r S _ _ d st (h1.view st) (h2.view st) e k
theorem op_addD : OpR X (binaryOp .Add) (Fin2 X.K nm (binop .add) mu) := by
  refine opr_of fun pins s σ H x y v u Q I rx ry r S a b d st h1 h2 e k => ?_
  cases a <;> cases b <;> simp [binop] at e
  · subst e
    cases h1; cases h2
    exact op_add pins s σ H _ _ v u Q I rx ry ⟨_, _, rfl, rfl, k.int st⟩
  · obtain ⟨e1, e⟩ := e
    subst e
    cases h1; cases h2
    exact op_add_str pins s σ H _ _ v u Q I rx ry ⟨_, _, rfl, rfl, by rw [← line_eq]; exact e1, k.str st⟩
  · obtain ⟨e1, e⟩ := e
    subst e
    rename_i xs ys
    obtain ⟨a, vs, rfl, q1, z1⟩ := h1
    obtain ⟨b, ws, rfl, q2, z2⟩ := h2
    have l1 := z1.length
    have l2 := z2.length
    refine op_catA pins s σ H _ _ v u Q I rx ry ⟨a, b, vs, ws, rfl, rfl, q1, q2, by rw [l1, l2, ← line_eq]; exact e1, fun e => ?_, fun e e2 => ?_, fun _ _ p hp => k.tup st hp (z1.append z2)⟩
    · subst e
      have : xs = [] := by cases xs <;> simp at l1 ⊢
      subst this
      exact k.tupS st ⟨b, ws, rfl, q2, z2⟩
    · subst e2
      have : ys = [] := by cases ys <;> simp at l2 ⊢
      subst this
      rw [List.append_nil] at k
      exact k.tupS st ⟨a, vs, rfl, q1, z1⟩
  · obtain ⟨e1, e⟩ := e
    subst e
    obtain ⟨a, vs, rfl, q1, z1⟩ := h1
    obtain ⟨b, ws, rfl, q2, z2⟩ := h2
    have l1 := z1.length
    have l2 := z2.length
    exact op_cat pins s σ H _ _ v u Q I rx ry ⟨a, b, vs, ws, rfl, rfl, q1, q2, by rw [l1, l2, ← line_eq]; exact e1, fun p hp => k.lst st hp (z1.append z2)⟩
theorem op_subD : OpR X (binaryOp .Sub) (Fin2 X.K nm (binop .sub) mu) := by
  refine opr_of fun pins s σ H x y v u Q I rx ry r S a b d st h1 h2 e k => ?_
  cases a <;> cases b <;> simp [binop] at e
  subst e
  cases h1; cases h2
  exact op_sub pins s σ H _ _ v u Q I rx ry ⟨_, _, rfl, rfl, k.int st⟩
theorem op_mulD : OpR X (binaryOp .Mult) (Fin2 X.K nm (binop .mul) mu) := by
  refine opr_of fun pins s σ H x y v u Q I rx ry r S a b d st h1 h2 e k => ?_
  cases a <;> cases b <;> simp only [binop, reduceCtorEq] at e
  · rename_i i j
    cases h1; cases h2
    by_cases hm : mulOk i j = true
    · rw [if_pos hm] at e
      cases e
      have hm' : (-(2 ^ 64) < i ∧ i < 2 ^ 64) ∨ (-(2 ^ 64) < j ∧ j < 2 ^ 64) ∨ (i.natAbs < 2 ^ 1000 ∧ j.natAbs < 2 ^ 1000) := by
        simp only [mulOk, Bool.or_eq_true, Bool.and_eq_true, decide_eq_true_eq] at hm
        rcases hm with (h | h) | h
        · exact .inl h
        · exact .inr (.inl h)
        · exact .inr (.inr h)
      rcases hm' with h | h | h
      · exact op_mul pins s σ H _ _ v u Q I rx ry ⟨_, _, rfl, rfl, .inl h, k.int st⟩
      · exact op_mul pins s σ H _ _ v u Q I rx ry ⟨_, _, rfl, rfl, .inr h, k.int st⟩
      · exact op_mulW pins s σ H _ _ v u Q I rx ry ⟨_, _, rfl, rfl, wide_mul h.1 h.2 (by decide) (by decide) (by decide), k.int st⟩
    · rw [if_neg hm] at e
      cases e
  · split at e
    · cases e
      obtain ⟨a, vs, rfl, q1, z1⟩ := h1
      cases h2
      rename_i hc
      have l1 := z1.length
      refine op_repT pins s σ H _ _ v u Q I rx ry ⟨a, _, vs, rfl, rfl, q1, fun e => ?_, hc.2.1, hc.2.2.1, by rw [l1]; exact hc.2.2.2, fun p hp => k.tup st hp (z1.rep _)⟩
      subst e
      have h0 := hc.1
      rename_i xs _
      cases xs <;> simp at l1 h0
    · cases e
  · split at e
    · cases e
      obtain ⟨a, vs, rfl, q1, z1⟩ := h1
      cases h2
      rename_i hc
      have l1 := z1.length
      exact op_rep pins s σ H _ _ v u Q I rx ry ⟨a, _, vs, rfl, rfl, q1, hc.1, hc.2.1, by rw [l1, ← line_eq]; exact hc.2.2, fun p hp => k.lst st hp (z1.rep _)⟩
    · cases e
theorem op_fdivD : OpR X (binaryOp .FloorDiv) (Fin2 X.K nm (binop .fdiv) mu) := by
  refine opr_of fun pins s σ H x y v u Q I rx ry r S a b d st h1 h2 e k => ?_
  cases a <;> cases b <;> simp [binop] at e
  obtain ⟨e1, e⟩ := e
  subst e
  cases h1; cases h2
  exact op_fdiv pins s σ H _ _ v u Q I rx ry ⟨_, _, rfl, rfl, e1, k.int st⟩
theorem op_modD : OpR X (binaryOp .Mod) (Fin2 X.K nm (binop .mod) mu) := by
  refine opr_of fun pins s σ H x y v u Q I rx ry r S a b d st h1 h2 e k => ?_
  cases a <;> cases b <;> simp [binop] at e
  obtain ⟨e1, e⟩ := e
  subst e
  cases h1; cases h2
  exact op_mod pins s σ H _ _ v u Q I rx ry ⟨_, _, rfl, rfl, e1, k.int st⟩
theorem pow_wide {i j : Int} (h0 : 0 ≤ j) (h1 : j ≤ 1000) (h2 : i.natAbs < 2 ^ 1000) : (Builtin.Int.intBits i : Int) * j ≤ 2 ^ 27 := by
  have hb : Builtin.Int.intBits i ≤ 1000 := intBits_le h2
  have h3 : (Builtin.Int.intBits i : Int) * j ≤ 1000 * j := Int.mul_le_mul_of_nonneg_right (by omega) h0
  omega
theorem op_powW : OpR X (binaryOp .Pow) (rI (fun i j => 0 ≤ j ∧ (Builtin.Int.intBits i : Int) * j ≤ 2 ^ 27) fun i j => .int (i ^ j.toNat)) := opI fun _ _ _ _ _ _ _ hc q => pow_int hc.1 hc.2 q
theorem op_powD : OpR X (binaryOp .Pow) (Fin2 X.K nm (binop .pow) mu) := by
  refine opr_of fun pins s σ H x y v u Q I rx ry r S a b d st h1 h2 e k => ?_
  cases a <;> cases b <;> simp only [binop, reduceCtorEq] at e
  split at e
  · cases e
    rename_i hc
    cases h1; cases h2
    rcases hc with hc | hc
    · exact op_pow pins s σ H _ _ v u Q I rx ry ⟨_, _, rfl, rfl, hc, k.int st⟩
    · exact op_powW pins s σ H _ _ v u Q I rx ry ⟨_, _, rfl, rfl, ⟨hc.1, pow_wide hc.1 hc.2.1 hc.2.2⟩, k.int st⟩
  · cases e
theorem op_xorD : OpR X (binaryOp .BitXor) (Fin2 X.K nm (binop .xor) mu) := by
  refine opr_of fun pins s σ H x y v u Q I rx ry r S a b d st h1 h2 e k => ?_
  cases a <;> cases b <;> simp [binop] at e
  subst e
  cases h1; cases h2
  exact op_xor pins s σ H _ _ v u Q I rx ry ⟨_, _, rfl, rfl, k.int st⟩
theorem op_bandD : OpR X (binaryOp .BitAnd) (Fin2 X.K nm (binop .band) mu) := by
  refine opr_of fun pins s σ H x y v u Q I rx ry r S a b d st h1 h2 e k => ?_
  cases a <;> cases b <;> simp [binop] at e
  subst e
  cases h1; cases h2
  exact op_and pins s σ H _ _ v u Q I rx ry ⟨_, _, rfl, rfl, k.int st⟩
/-- the model's operator of ours -/
def Op.py : Op → Operator
  | .add => .Add | .sub => .Sub | .mul => .Mult | .fdiv => .FloorDiv | .mod => .Mod | .pow => .Pow | .xor => .BitXor | .band => .BitAnd
theorem op_binD : ∀ op : Op, OpR X (binaryOp op.py) (Fin2 X.K nm (binop op) mu)
  | .add => op_addD | .sub => op_subD | .mul => op_mulD | .fdiv => op_fdivD | .mod => op_modD | .pow => op_powD | .xor => op_xorD | .band => op_bandD
end
/-! ### comparisons -/
section
variable {K : PySem.W.Frag} {nm : Nm} {r : Rl} {H : Hp} {S : Store}
mutual
/-- data as the library has them -/
def pyD : D → PyData
  | .bl b => .bool b | .int i => .int i | .str s => .str s
  | .tup xs => .tuple (pyDs xs)
  | .lst xs => .list (pyDs xs)
  | _ => .none
def pyDs : List D → List PyData
  | [] => []
  | x :: xs => pyD x :: pyDs xs
end
mutual
theorem pyD_eqv : ∀ (m n : Nat) (a b : D), a.ok m = true → b.ok n = true → PyData.eqv (pyD a) (pyD b) = a.eqv b
  | m, n, a, b, h, g => by
    cases a <;> cases b <;> simp only [pyD, D.eqv, PyData.eqv]
    all_goals first
      | (simp [D.ok] at h; done)
      | (simp [D.ok] at g; done)
      | (cases m <;> cases n <;> simp [D.ok] at h g; exact pyDs_eqv _ _ _ _ h g)
theorem pyDs_eqv : ∀ (m n : Nat) (a b : List D), oks m a = true → oks n b = true → PyData.eqvAll (pyDs a) (pyDs b) = eqvs a b
  | _, _, [], [], _, _ => by simp [pyDs, PyData.eqvAll, eqvs]
  | _, _, [], _ :: _, _, _ => by simp [pyDs, PyData.eqvAll, eqvs]
  | _, _, _ :: _, [], _, _ => by simp [pyDs, PyData.eqvAll, eqvs]
  | m, n, x :: xs, y :: ys, h, g => by
    simp only [oks, Bool.and_eq_true] at h g
    simp only [pyDs, PyData.eqvAll, eqvs]
    rw [pyD_eqv m n x y h.1 g.1, pyDs_eqv m n xs ys h.2 g.2]
end
mutual
theorem pyD_lay : ∀ (n : Nat) (a : D), a.ok n = true → (pyD a).canLay0 = true ∧ (pyD a).depth ≤ n + 1
  | n, a, h => by
    cases a with
    | tup xs =>
      cases n with
      | zero => simp [D.ok] at h
      | succ n =>
        have q := pyDs_lay n xs (by simpa [D.ok] using h)
        simp only [pyD, PyData.canLay0, PyData.depth]
        exact ⟨q.1, by omega⟩
    | lst xs =>
      cases n with
      | zero => simp [D.ok] at h
      | succ n =>
        have q := pyDs_lay n xs (by simpa [D.ok] using h)
        simp only [pyD, PyData.canLay0, PyData.depth]
        exact ⟨q.1, by omega⟩
    | str s =>
      simp only [pyD, PyData.canLay0, PyData.depth]
      exact ⟨by simpa [D.ok] using h, by omega⟩
    | _ => first | (simp [D.ok] at h; done) | (simp only [pyD, PyData.canLay0, PyData.depth]; exact ⟨trivial, by omega⟩)
theorem pyDs_lay : ∀ (n : Nat) (a : List D), oks n a = true → PyData.canLayAll0 (pyDs a) = true ∧ PyData.depthAll (pyDs a) ≤ n + 1
  | n, [], _ => by simp [pyDs, PyData.canLayAll0, PyData.depthAll]
  | n, x :: xs, h => by
    simp only [oks, Bool.and_eq_true] at h
    have q1 := pyD_lay n x h.1
    have q2 := pyDs_lay n xs h.2
    simp only [pyDs, PyData.canLayAll0, PyData.depthAll]
    exact ⟨by simp [q1.1, q2.1], by omega⟩
end
theorem shaped_of {a : D} (h : a.ok 40 = true) : SeqAt.shaped (pyD a) = true := by
  have q := pyD_lay 40 a h
  unfold SeqAt.shaped
  simp only [Bool.and_eq_true, decide_eq_true_eq]
  exact ⟨q.1, by omega⟩
mutual
theorem dp_of : ∀ (n : Nat) (d : D) (v : V), d.ok n = true → Rel K nm r H d v → Dp K H v (pyD d)
  | n, d, v, h, q => by
    cases d with
    | non => cases q; exact .non
    | bl b => cases q; exact .bl b
    | int i => cases q; exact .int i
    | str s => cases q; exact .str s
    | tup xs =>
      cases n with
      | zero => simp [D.ok] at h
      | succ n =>
        obtain ⟨a, vs, rfl, q1, z⟩ := q
        exact .tup q1 (dps_of n xs vs (by simpa [D.ok] using h) z)
    | lst xs =>
      cases n with
      | zero => simp [D.ok] at h
      | succ n =>
        obtain ⟨a, vs, rfl, _, q1, z⟩ := q
        exact .lst (SqL.of q1) (dps_of n xs vs (by simpa [D.ok] using h) z)
    | _ => simp [D.ok] at h
theorem dps_of : ∀ (n : Nat) (d : List D) (v : List V), oks n d = true → Rels K nm r H d v → DpAll K H v (pyDs d)
  | n, [], _, _, q => by rw [show _ = [] from q]; exact .nil
  | n, x :: xs, _, h, q => by
    simp only [oks, Bool.and_eq_true] at h
    obtain ⟨v, ws, e, q1, q2⟩ := q
    rw [e]
    exact .cons (dp_of n x v h.1 q1) (dps_of n xs ws h.2 q2)
end
theorem VRel.dp {d : D} {v : V} {n : Nat} (h : d.ok n = true) (q : VRel K nm r H d v) : Dp K H v (pyD d) := by
  cases d with
  | lst xs =>
    cases n with
    | zero => simp [D.ok] at h
    | succ n =>
      obtain ⟨a, vs, rfl, q1, z⟩ := q
      exact .lst (SqL.of q1) (dps_of n xs vs (by simpa [D.ok] using h) z)
  | dct _ => simp [D.ok] at h
  | ins _ _ => simp [D.ok] at h
  | obj _ => exact q.elim
  | _ => exact dp_of (nm := nm) (r := r) n _ v h q
end
section
variable {X : Cx} {nm : Nm}
def cmpD (op : Cm) (a b : D) : Option D := (compare op a b).map .bl
theorem op_eqD' (hu : X.A.units + 64 < cLine) : OpR X (compareOp .Eq) (Fin2 X.K nm (cmpD .eq) false) := by
  refine opr_of fun pins s σ H x y v u Q I rx ry r S a b d st h1 h2 e k => ?_
  simp only [cmpD, compare] at e
  split at e
  · rename_i hc
    cases e
    simp only [Bool.and_eq_true] at hc
    refine op_eqD hu pins s σ H _ _ v u Q I rx ry ⟨_, _, h1.dp hc.1, h2.dp hc.2, shaped_of hc.1, shaped_of hc.2, ?_⟩
    rw [pyD_eqv 40 40 a b hc.1 hc.2]
    exact k.bl st
  · cases e
theorem op_neD' (hu : X.A.units + 64 < cLine) : OpR X (compareOp .NotEq) (Fin2 X.K nm (cmpD .ne) false) := by
  refine opr_of fun pins s σ H x y v u Q I rx ry r S a b d st h1 h2 e k => ?_
  simp only [cmpD, compare] at e
  split at e
  · rename_i hc
    cases e
    simp only [Bool.and_eq_true] at hc
    refine op_neD hu pins s σ H _ _ v u Q I rx ry ⟨_, _, h1.dp hc.1, h2.dp hc.2, shaped_of hc.1, shaped_of hc.2, ?_⟩
    rw [pyD_eqv 40 40 a b hc.1 hc.2]
    exact k.bl st
  · cases e
theorem lexLt_ht : ∀ ns ms : List Int, HT.lexLt ns ms = lexLt ns ms
  | [], [] => rfl
  | [], _ :: _ => rfl
  | _ :: _, [] => rfl
  | x :: xs, y :: ys => by
    show (if x = y then HT.lexLt xs ys else decide (x < y)) = if x = y then lexLt xs ys else decide (x < y)
    rw [lexLt_ht xs ys]
theorem op_ltD (hu : X.A.units < cLine) : OpR X (compareOp .Lt) (Fin2 X.K nm (cmpD .lt) false) := by
  refine opr_of fun pins s σ H x y v u Q I rx ry r S a b d st h1 h2 e k => ?_
  cases a <;> cases b <;> simp only [cmpD, compare, Option.map_some, Option.map_none, reduceCtorEq] at e
  · cases e
    cases h1; cases h2
    exact op_lt pins s σ H _ _ v u Q I rx ry ⟨_, _, rfl, rfl, k.bl st⟩
  · rename_i xs ys
    obtain ⟨a, vs, rfl, q1, z1⟩ := h1
    obtain ⟨b, ws, rfl, q2, z2⟩ := h2
    cases e1 : intsOf xs with
    | none => simp [e1] at e
    | some ns =>
      cases e2 : intsOf ys with
      | none => simp [e1, e2] at e
      | some ms =>
        simp [e1, e2] at e
        subst e
        have w1 := z1.ints e1
        have w2 := z2.ints e2
        subst w1
        subst w2
        exact op_ltT hu pins s σ H _ _ v u Q I rx ry ⟨a, b, ns, ms, rfl, rfl, q1, q2, by rw [lexLt_ht]; exact k.bl st⟩
theorem op_leD : OpR X (compareOp .LtE) (Fin2 X.K nm (cmpD .le) false) := by
  refine opr_of fun pins s σ H x y v u Q I rx ry r S a b d st h1 h2 e k => ?_
  cases a <;> cases b <;> simp only [cmpD, compare, Option.map_some, Option.map_none, reduceCtorEq] at e
  cases e
  cases h1; cases h2
  exact op_le pins s σ H _ _ v u Q I rx ry ⟨_, _, rfl, rfl, k.bl st⟩
theorem op_gtD : OpR X (compareOp .Gt) (Fin2 X.K nm (cmpD .gt) false) := by
  refine opr_of fun pins s σ H x y v u Q I rx ry r S a b d st h1 h2 e k => ?_
  cases a <;> cases b <;> simp only [cmpD, compare, Option.map_some, Option.map_none, reduceCtorEq] at e
  cases e
  cases h1; cases h2
  exact op_gt pins s σ H _ _ v u Q I rx ry ⟨_, _, rfl, rfl, k.bl st⟩
theorem op_geD : OpR X (compareOp .GtE) (Fin2 X.K nm (cmpD .ge) false) := by
  refine opr_of fun pins s σ H x y v u Q I rx ry r S a b d st h1 h2 e k => ?_
  cases a <;> cases b <;> simp only [cmpD, compare, Option.map_some, Option.map_none, reduceCtorEq] at e
  cases e
  cases h1; cases h2
  exact op_ge pins s σ H _ _ v u Q I rx ry ⟨_, _, rfl, rfl, k.bl st⟩
theorem VRel.none {K : PySem.W.Frag} {r : Rl} {H : Hp} {d : D} {v : V} (h : VRel K nm r H d v) : (v = V.non ↔ d = .non) := by
  cases d with
  | non => exact ⟨fun _ => rfl, fun _ => h⟩
  | bl _ => cases h; simp
  | int _ => cases h; simp
  | str _ => cases h; simp
  | tup _ => obtain ⟨_, _, rfl, _⟩ := h; simp
  | lst _ => obtain ⟨_, _, rfl, _⟩ := h; simp
  | scr _ => obtain ⟨_, rfl, _⟩ := h; simp
  | dct _ => obtain ⟨_, _, rfl, _⟩ := h; simp
  | set _ => obtain ⟨_, _, rfl, _⟩ := h; simp
  | ins _ _ => obtain ⟨_, _, _, _, rfl, _⟩ := h; simp
  | rng => obtain ⟨_, rfl, _⟩ := h; simp
  | obj _ => exact h.elim
theorem plainIs_bl {x : V} {v : Value} (h : RelV x v) (b : Bool) : plainIs v (.bool b) = true := by
  cases x with
  | non => cases h; rfl
  | bl _ => cases h; rfl
  | int _ => obtain ⟨t, rfl⟩ := h; rfl
  | str _ => obtain ⟨t, rfl⟩ := h; rfl
  | byt _ => obtain ⟨t, rfl⟩ := h; rfl
  | flt _ => obtain ⟨t, rfl⟩ := h; rfl
  | ref _ => cases h; rfl
  | ty _ => cases h; rfl
theorem relV_bl {x : V} {v : Value} (h : RelV x v) (b : Bool) : (v == Value.bool b) = decide (x = .bl b) := by
  cases x with
  | non => cases h; rfl
  | bl c => cases h; cases b <;> cases c <;> rfl
  | int _ => obtain ⟨t, rfl⟩ := h; rfl
  | str _ => obtain ⟨t, rfl⟩ := h; rfl
  | byt _ => obtain ⟨t, rfl⟩ := h; rfl
  | flt _ => obtain ⟨t, rfl⟩ := h; rfl
  | ref _ => cases h; rfl
  | ty _ => cases h; rfl
theorem VRel.bl {K : PySem.W.Frag} {r : Rl} {H : Hp} {d : D} {v : V} (h : VRel K nm r H d v) (b : Bool) : (v = V.bl b ↔ d = .bl b) := by
  cases d with
  | non => cases h; simp
  | bl _ => cases h; simp
  | int _ => cases h; simp
  | str _ => cases h; simp
  | tup _ => obtain ⟨_, _, rfl, _⟩ := h; simp
  | lst _ => obtain ⟨_, _, rfl, _⟩ := h; simp
  | scr _ => obtain ⟨_, rfl, _⟩ := h; simp
  | dct _ => obtain ⟨_, _, rfl, _⟩ := h; simp
  | set _ => obtain ⟨_, _, rfl, _⟩ := h; simp
  | ins _ _ => obtain ⟨_, _, _, _, rfl, _⟩ := h; simp
  | rng => obtain ⟨_, rfl, _⟩ := h; simp
  | obj _ => exact h.elim
theorem is_eq (a b : D) (t : Bool) (h : compare .is a b = some t) : (b = .non ∧ (t = true ↔ a = .non)) ∨ ∃ c, b = .bl c ∧ (t = true ↔ a = .bl c) := by
  cases b with
  | non => cases a <;> simp [compare] at h <;> (subst h; simp)
  | bl c => cases a <;> simp [compare] at h <;> (subst h; simp)
  | _ => cases a <;> simp [compare] at h
theorem isnot_eq (a b : D) (t : Bool) (h : compare .isnot a b = some t) : compare .is a b = some (!t) := by
  cases b with
  | non => cases a <;> simp [compare] at h <;> (subst h; simp [compare])
  | bl c => cases a <;> simp [compare] at h <;> (subst h; simp [compare])
            all_goals (rename_i q; cases q <;> cases c <;> rfl)
  | _ => cases a <;> simp [compare] at h
theorem op_isD : OpR X (compareOp .Is) (Fin2 X.K nm (cmpD .is) false) := by
  refine opr_of fun pins s σ H x y v u Q I rx ry r S a b d st h1 h2 e k => ?_
  simp only [cmpD, Option.map_eq_some_iff] at e
  obtain ⟨t, e, rfl⟩ := e
  rcases is_eq a b t e with ⟨rfl, q⟩ | ⟨c, rfl, q⟩
  · cases h2
    have : decide (x = V.non) = t := by
      have z := h1.none
      by_cases hx : x = .non
      · rw [decide_eq_true hx, q.mpr (z.mp hx)]
      · rw [decide_eq_false hx]
        cases t with
        | false => rfl
        | true => exact absurd (z.mpr (q.mp rfl)) hx
    exact op_isN pins s σ H _ _ v u Q I rx ry ⟨rfl, by rw [this]; exact k.bl st⟩
  · cases h2
    cases ry
    have : decide (x = V.bl c) = t := by
      have z := h1.bl c
      by_cases hx : x = .bl c
      · rw [decide_eq_true hx, q.mpr (z.mp hx)]
      · rw [decide_eq_false hx]
        cases t with
        | false => rfl
        | true => exact absurd (z.mpr (q.mp rfl)) hx
    refine wpAny_is_plain (plainIs_bl rx c) ?_
    rw [relV_bl rx c, this]
    exact ⟨.bl t, H, I, rfl, k.bl st⟩
theorem op_isnotD : OpR X (compareOp .IsNot) (Fin2 X.K nm (cmpD .isnot) false) := by
  refine opr_of fun pins s σ H x y v u Q I rx ry r S a b d st h1 h2 e k => ?_
  simp only [cmpD, Option.map_eq_some_iff] at e
  obtain ⟨t, e, rfl⟩ := e
  rcases is_eq a b _ (isnot_eq a b t e) with ⟨rfl, q⟩ | ⟨c, rfl, q⟩
  · cases h2
    have : (!decide (x = V.non)) = t := by
      have z := h1.none
      by_cases hx : x = .non
      · rw [decide_eq_true hx]
        have := q.mpr (z.mp hx)
        cases t <;> simp_all
      · rw [decide_eq_false hx]
        cases t with
        | true => rfl
        | false => exact absurd (z.mpr (q.mp rfl)) hx
    exact op_notN pins s σ H _ _ v u Q I rx ry ⟨rfl, by rw [this]; exact k.bl st⟩
  · cases h2
    cases ry
    have : (!decide (x = V.bl c)) = t := by
      have z := h1.bl c
      by_cases hx : x = .bl c
      · rw [decide_eq_true hx]
        have := q.mpr (z.mp hx)
        cases t <;> simp_all
      · rw [decide_eq_false hx]
        cases t with
        | true => rfl
        | false => exact absurd (z.mpr (q.mp rfl)) hx
    refine wpAny_isNot_plain (plainIs_bl rx c) ?_
    rw [relV_bl rx c, this]
    exact ⟨.bl t, H, I, rfl, k.bl st⟩
end
/-! ### dicts, in, subscripts -/
section
variable {K : PySem.W.Frag} {nm : Nm} {r : Rl} {H : Hp} {S : Store}
theorem keyR_ok {k : D} (h : keyOk k = true) {v : V} (q : Rel K nm r H k v) : ∃ key, keyR k key ∧ v = kV key := by
  cases k <;> simp [keyOk] at h
  · cases q; exact ⟨_, rfl, rfl⟩
  · cases q; exact ⟨_, rfl, rfl⟩
theorem keyR_beq {a b : D} {ka kb : Key} (h : keyR a ka) (g : keyR b kb) : a.beq b = decide (ka = kb) := by
  cases a <;> first | exact h.elim | skip
  · have h' : ka = .inl _ := h
    subst h'
    cases b <;> first | exact g.elim | skip
    · have g' : kb = .inl _ := g
      subst g'
      simp only [D.beq]
      exact (key_ll _ _).symm
    · have g' : kb = .inr _ := g
      subst g'
      simp [D.beq]
  · have h' : ka = .inr _ := h
    subst h'
    cases b <;> first | exact g.elim | skip
    · have g' : kb = .inl _ := g
      subst g'
      simp [D.beq]
    · have g' : kb = .inr _ := g
      subst g'
      simp only [D.beq]
      rw [key_rr]
      rename_i x y
      by_cases e : x = y
      · simp [e]
      · simp [e]
theorem dget_rel {k : D} {key : Key} (hk : keyR k key) : ∀ {kvs : List (D × D)} {ks : List (Key × V)}, RelKs K nm r H kvs ks →
    (∃ d v, dget kvs k = some d ∧ valV ks key = some v ∧ Rel K nm r H d v) ∨ (dget kvs k = none ∧ valV ks key = none)
  | [], _, h => .inr ⟨rfl, by rw [show _ = [] from h]; rfl⟩
  | (a, d) :: kvs, _, h => by
    obtain ⟨ka, v, ws, e, h0, h1, h2⟩ := h
    rw [e]
    have q := keyR_beq h0 hk
    by_cases z : ka = key
    · rw [decide_eq_true z] at q
      exact .inl ⟨d, v, by simp [dget, List.find?_cons, q], valV_pos z, h1⟩
    · rw [decide_eq_false z] at q
      have e1 : dget ((a, d) :: kvs) k = dget kvs k := by simp [dget, List.find?_cons, q]
      rw [e1, valV_neg z]
      exact dget_rel hk h2
theorem RelKs.length : ∀ {ds : List (D × D)} {vs : List (Key × V)}, RelKs K nm r H ds vs → vs.length = ds.length
  | [], _, h => by rw [show _ = [] from h]; rfl
  | (_, _) :: ds, _, h => by
    obtain ⟨k, v, ws, e, _, _, h2⟩ := h
    rw [e]; simp [RelKs.length h2]
theorem RelKs.append {k d : D} {key : Key} {v : V} (hk : keyR k key) (hd : Rel K nm r H d v) : ∀ {ds : List (D × D)} {vs : List (Key × V)}, RelKs K nm r H ds vs → RelKs K nm r H (ds ++ [(k, d)]) (vs ++ [(key, v)])
  | [], _, h => by rw [show _ = [] from h]; exact ⟨_, _, _, rfl, hk, hd, rfl⟩
  | (_, _) :: ds, _, h => by
    obtain ⟨k', v', ws, e, h0, h1, h2⟩ := h
    rw [e]
    exact ⟨_, _, _, rfl, h0, h1, RelKs.append hk hd h2⟩
theorem flat_eqV {a b : D} {x y : V} (ha : a.flat = true) (hb : b.flat = true) (h : Rel K nm r H a x) (g : Rel K nm r H b y) : eqV x y = a.eqv b := by
  cases a <;> cases b <;> simp [D.flat] at ha hb <;> (cases h; cases g) <;> simp [eqV, D.eqv]
theorem flat_V {a : D} {x : V} (ha : a.flat = true) (h : Rel K nm r H a x) : flatV x = true := by
  cases a <;> simp [D.flat] at ha <;> (cases h; rfl)
theorem flats_V : ∀ {ds : List D} {vs : List V}, ds.all D.flat = true → Rels K nm r H ds vs → vs.all flatV = true
  | [], _, _, h => by rw [show _ = [] from h]; rfl
  | d :: ds, _, q, h => by
    obtain ⟨v, ws, e, h1, h2⟩ := h
    simp only [List.all_cons, Bool.and_eq_true] at q
    rw [e, List.all_cons, flat_V q.1 h1, flats_V q.2 h2]
    rfl
theorem flats_in {a : D} {x : V} (ha : a.flat = true) (h : Rel K nm r H a x) : ∀ {ds : List D} {vs : List V}, ds.all D.flat = true → Rels K nm r H ds vs → inV x vs = ds.any fun y => y.eqv a
  | [], _, _, h => by rw [show _ = [] from h]; rfl
  | d :: ds, _, q, g => by
    obtain ⟨v, ws, e, h1, h2⟩ := g
    simp only [List.all_cons, Bool.and_eq_true] at q
    have ih := flats_in ha h q.2 h2
    unfold inV at ih ⊢
    rw [e, List.any_cons, List.any_cons, ih, flat_eqV q.1 ha h1 h]
theorem pyD_any {m n : Nat} {a : D} (ha : a.ok m = true) : ∀ {ds : List D}, oks n ds = true → ((pyDs ds).any fun z => PyData.eqv z (pyD a)) = ds.any fun y => y.eqv a
  | [], _ => by simp [pyDs]
  | d :: ds, h => by
    simp only [oks, Bool.and_eq_true] at h
    rw [pyDs, List.any_cons, List.any_cons, pyD_any ha h.2, pyD_eqv n m d a h.1 ha]
theorem ok_mono : ∀ {d : D} {n m : Nat}, n ≤ m → d.ok n = true → d.ok m = true := by
  have key : ∀ n, (∀ d : D, d.ok n = true → d.ok (n + 1) = true) ∧ (∀ ds : List D, oks n ds = true → oks (n + 1) ds = true) := by
    have lst : ∀ n, (∀ d : D, d.ok n = true → d.ok (n + 1) = true) → ∀ ds : List D, oks n ds = true → oks (n + 1) ds = true := by
      intro n h ds
      induction ds with
      | nil => intro _; simp [oks]
      | cons x xs ih =>
        intro q
        simp only [oks, Bool.and_eq_true] at q ⊢
        exact ⟨h x q.1, ih q.2⟩
    intro n
    induction n with
    | zero =>
      have a : ∀ d : D, d.ok 0 = true → d.ok 1 = true := by
        intro d h
        cases d <;> simp [D.ok] at h ⊢
        exact h
      exact ⟨a, lst 0 a⟩
    | succ n ih =>
      have a : ∀ d : D, d.ok (n + 1) = true → d.ok (n + 2) = true := by
        intro d h
        cases d <;> simp [D.ok] at h ⊢
        · exact h
        · exact ih.2 _ h
        · exact ih.2 _ h
      exact ⟨a, lst _ a⟩
  intro d n m hnm
  induction hnm with
  | refl => exact fun h => h
  | step _ ih => exact fun h => (key _).1 d (ih h)
end
section
variable {X : Cx} {nm : Nm}
theorem op_inG (neg : Bool) (hu : X.A.units + 65 < cLine) : OpR X (compareOp (if neg then .NotIn else .In)) (Fin2 X.K nm (fun a b => (isIn a b).map fun t => .bl (if neg then !t else t)) false) := by
  intro pins s σ H x y v u Q I rx ry ⟨dx, dy, r, S, d, st, ⟨h1, h2⟩, e, k⟩
  have w1 := h1.view st
  have w2 := h2.view st
  simp only [Option.map_eq_some_iff] at e
  obtain ⟨t, e, rfl⟩ := e
  cases eb : view S dy <;> rw [eb] at e w2 <;> simp only [isIn, reduceCtorEq] at e
  · -- tup
    split at e
    · rename_i hc
      cases e
      simp only [Bool.and_eq_true] at hc
      obtain ⟨b, ws, rfl, q2, z2⟩ := w2
      have w1' : Rel X.K nm r H (view S dx) x := by
        have hf := hc.1
        generalize view S dx = a at w1 hf
        cases a <;> simp [D.flat] at hf <;> exact w1
      have fl := flats_in hc.1 w1' hc.2 z2
      cases neg with
      | false => exact op_in_seq pins s σ H _ _ v u Q I rx ry ⟨b, ws, rfl, .inr q2, flat_V hc.1 w1', flats_V hc.2 z2, by rw [fl]; exact Kont.bl k st⟩
      | true => exact op_notIn_seq pins s σ H _ _ v u Q I rx ry ⟨b, ws, rfl, .inr q2, flat_V hc.1 w1', flats_V hc.2 z2, by rw [fl]; exact Kont.bl k st⟩
    · cases e
  · -- lst
    split at e
    · rename_i ys hc
      cases e
      simp only [Bool.and_eq_true] at hc
      have o2 : (D.lst ys).ok 40 = true := by simpa [D.ok] using hc.2
      have d2 : Dp X.K H y (pyD (.lst ys)) := w2.dp o2
      have s2 := shaped_of o2
      cases neg with
      | false => exact op_inD hu pins s σ H _ _ v u Q I rx ry ⟨_, _, w1.dp hc.1, d2, shaped_of hc.1, s2, by rw [pyD_any hc.1 hc.2]; exact Kont.bl k st⟩
      | true => exact op_notInD hu pins s σ H _ _ v u Q I rx ry ⟨_, _, w1.dp hc.1, d2, shaped_of hc.1, s2, by rw [pyD_any hc.1 hc.2]; exact Kont.bl k st⟩
    · cases e
  · -- dct
    split at e
    · rename_i kvs hc
      cases e
      obtain ⟨b, ks, rfl, q2, z2⟩ := w2
      have w1' : Rel X.K nm r H (view S dx) x := by
        generalize view S dx = a at w1 hc
        cases a <;> simp [keyOk] at hc <;> exact w1
      obtain ⟨key, hk, rfl⟩ := keyR_ok hc w1'
      have g : DGet H b (kV key) (valV ks key) := DGet.k q2
      have e2 : (valV ks key).isSome = (dget kvs (view S dx)).isSome := by
        rcases dget_rel hk z2 with ⟨d, v, e1, e2, _⟩ | ⟨e1, e2⟩ <;> rw [e1, e2] <;> rfl
      obtain rfl : u = Value.ref b := ry
      cases neg with
      | false => exact d_in (by omega) I g rx fun s' I' => ⟨.bl _, H, I', rfl, by rw [e2]; exact Kont.bl k st⟩
      | true => exact d_notIn (by omega) I g rx fun s' I' => ⟨.bl _, H, I', rfl, by rw [e2]; exact Kont.bl k st⟩
    · cases e
theorem op_inD' (hu : X.A.units + 65 < cLine) : OpR X (compareOp .In) (Fin2 X.K nm (cmpD .isin) false) := by
  have h := op_inG (X := X) (nm := nm) false hu
  intro pins s σ H x y v u Q I rx ry ⟨dx, dy, r, S, d, st, hh, e, k⟩
  exact h pins s σ H x y v u Q I rx ry ⟨dx, dy, r, S, d, st, hh, by simpa [cmpD, compare] using e, k⟩
theorem op_notinD' (hu : X.A.units + 65 < cLine) : OpR X (compareOp .NotIn) (Fin2 X.K nm (cmpD .notin) false) := by
  have h := op_inG (X := X) (nm := nm) true hu
  intro pins s σ H x y v u Q I rx ry ⟨dx, dy, r, S, d, st, hh, e, k⟩
  exact h pins s σ H x y v u Q I rx ry ⟨dx, dy, r, S, d, st, hh, by
    simp only [cmpD, compare, Option.map_map] at e
    simpa [Function.comp_def] using e, k⟩
def Cm.py : Cm → CmpOp
  | .eq => .Eq | .ne => .NotEq | .lt => .Lt | .le => .LtE | .gt => .Gt | .ge => .GtE | .is => .Is | .isnot => .IsNot | .isin => .In | .notin => .NotIn
theorem op_cmpD (hu : X.A.units + 65 < cLine) : ∀ op : Cm, OpR X (compareOp op.py) (Fin2 X.K nm (cmpD op) false)
  | .eq => op_eqD' (by omega) | .ne => op_neD' (by omega) | .lt => op_ltD (by omega) | .le => op_leD | .gt => op_gtD | .ge => op_geD | .is => op_isD | .isnot => op_isnotD | .isin => op_inD' hu | .notin => op_notinD' hu
/-- a[b] -/
theorem ixN_l2 (n : Nat) (i : Int) : Ic.ixN n i = L2.ixN n i := rfl
theorem atI_rel {K : PySem.W.Frag} {r : Rl} {H : Hp} {ds : List D} {vs : List V} {i : Int} {d : D} (z : Rels K nm r H ds vs) (h : Ic.atI ds i = some d) : ∃ v, L2.atI vs i = some v ∧ Rel K nm r H d v := by
  unfold Ic.atI at h
  unfold L2.atI
  rw [z.length, ← ixN_l2]
  cases e : Ic.ixN ds.length i with
  | none => rw [e] at h; cases h
  | some j =>
    rw [e] at h
    exact z.get (i := j) h
theorem ix_D (hu : X.A.units + 1 < cLine) : IxR X (fun x y H Q => ∃ dx dy, Fin' X.K nm (fun r H => Rel X.K nm r H dx x ∧ Rel X.K nm r H dy y) (fun S => index (view S dx) dy) false H Q) := by
  intro value slice pins s σ H x y v u Q I rx ry ⟨dx, dy, r, S, d, st, ⟨h1, h2⟩, e, k⟩ hs
  have w1 := h1.view st
  cases ea : view S dx <;> rw [ea] at w1 <;> simp only [ea, index, reduceCtorEq] at e
  · -- str
    cases dy <;> simp only [index, reduceCtorEq] at e
    split at e
    · rename_i hc
      obtain ⟨c, hc1, rfl⟩ := Option.map_eq_some_iff.mp e
      cases w1
      cases h2
      exact ix_str value slice pins s σ H _ _ v u Q I rx ry ⟨_, _, c, rfl, rfl, by rw [← line_eq]; exact hc, hc1, Kont.str k st⟩ hs
    · cases e
  · cases dy <;> simp only [index, reduceCtorEq] at e
    cases h2
    obtain ⟨b, ws, rfl, q, z⟩ := w1
    obtain ⟨w, hw, hr⟩ := atI_rel z e
    exact ix_tup value slice pins s σ H _ _ v u Q I rx ry ⟨b, ws, _, w, rfl, rfl, q, hw, Kont.same k st hr⟩ hs
  · cases dy <;> simp only [index, reduceCtorEq] at e
    cases h2
    obtain ⟨b, ws, rfl, q, z⟩ := w1
    obtain ⟨w, hw, hr⟩ := atI_rel z e
    exact ix_list value slice pins s σ H _ _ v u Q I rx ry ⟨b, ws, _, w, rfl, rfl, SqL.of q, hw, Kont.same k st hr⟩ hs
  · split at e
    · rename_i hc
      obtain ⟨b, ks, rfl, q, z⟩ := w1
      obtain ⟨key, hk, rfl⟩ := keyR_ok hc h2
      obtain rfl : v = Value.ref b := rx
      rcases dget_rel hk z with ⟨d', w, e1, e2, hr⟩ | ⟨e1, e2⟩
      · rw [e1] at e
        cases e
        have g : DGet H b (kV key) (some w) := e2 ▸ DGet.k q
        exact tail_any (dict_typeIs I g) PySem.F.slot_dict_getitem.lookup (d_getItem hu I g ry fun w' s' I' rw' => ⟨w, H, I', rw', Kont.same k st hr⟩) hs
      · rw [e1] at e
        cases e
    · cases e
end
end Ic

set_option Elab.async false
set_option linter.all false
set_option maxRecDepth 100000
set_option maxHeartbeats 1000000
/-! Ic2b: t[::-1] of a tuple; slices of data. -/
namespace HT
open PySem PySem.Spec PyProof.Rows
section
variable {prog : Program} {w : World} {A : Around} {E : Value → Shared → Prop} {s : Shared}
theorem sliceApplied_back {sl : Addr} {vs : Value} {n : Nat} {Q : Int × Int × Nat → Shared → Prop} (hs : s.heap.IsSliceOf sl .none .none vs) (ps : IsPart vs (some (-1)))
    (h : Q ((n : Int) - 1, -1, n) s) : wpAny (model prog w) A (Builtin.Slice.sliceApplied (.ref sl) (pure (n : Int))) Q E s := by
  obtain ⟨os, hos, hcs, hds⟩ := id hs
  unfold Builtin.Slice.sliceApplied Builtin.Slice.sliceFields
  refine wpAny_bind (wpAny_bind (wpAny_field hos hds (x := .none) rfl (wpAny_bind (wpAny_field hos hds (x := .none) rfl (wpAny_bind (wpAny_field hos hds (x := vs) rfl (wpAny_pure ?_)))))))
  refine wpAny_bind (slicePart_ ps ?_)
  show wpAny _ _ (if ((-1 : Int) == 0) = true then _ else _) _ _ s
  rw [if_neg (by decide)]
  refine wpAny_bind (slicePart_none (wpAny_bind (slicePart_none (wpAny_bind (wpAny_pure ?_)))))
  show wpAny _ _ (match Builtin.Slice.sliceAdjust none none (-1) (n : Int) with | (lo, hi) => pure (lo, (-1 : Int), Builtin.Slice.slicePlaces lo hi (-1))) _ _ s
  have e1 : Builtin.Slice.sliceAdjust none none (-1) (n : Int) = ((n : Int) - 1, -1) := by
    unfold Builtin.Slice.sliceAdjust
    simp
  rw [e1]
  have e2 : Builtin.Slice.slicePlaces ((n : Int) - 1) (-1) (-1) = n := by
    unfold Builtin.Slice.slicePlaces
    simp
    omega
  show wpAny _ _ (pure ((n : Int) - 1, (-1 : Int), Builtin.Slice.slicePlaces ((n : Int) - 1) (-1) (-1))) _ _ s
  rw [e2]
  exact wpAny_pure h
theorem pick_back (xs : Array Value) : ((List.range xs.size).filterMap fun (m : Nat) => xs[(((xs.size : Int) - 1) + (m : Int) * (-1)).toNat]?).toArray = xs.toList.reverse.toArray := by
  have e : (List.range xs.size).filterMap (fun (m : Nat) => xs[(((xs.size : Int) - 1) + (m : Int) * (-1)).toNat]?) = ((List.range xs.size).map fun k => xs.size - 1 - k).filterMap (xs[·]?) := by
    rw [List.filterMap_map]
    congr
    funext m
    have : (((xs.size : Int) - 1) + (m : Int) * (-1)).toNat = xs.size - 1 - m := by omega
    show xs[(((xs.size : Int) - 1) + (m : Int) * (-1)).toNat]? = xs[xs.size - 1 - m]?
    rw [this]
  rw [e, PySem.W.krv_range, List.filterMap_reverse, PySem.W.krv_all]
theorem getItem_tuple_back {t sl : Addr} {items : Array Value} {vs : Value} {Q : Value → Shared → Prop} (ht : IsTup s.heap t items) (hs : s.heap.IsSliceOf sl .none .none vs) (ps : IsPart vs (some (-1)))
    (h : Q (.ref s.heap.objs.size) { s with heap := s.heap.push { cls := .type "tuple", data := .seq items.toList.reverse.toArray } })
    (hsz : items.size ≤ sizeLine) : wpAny (model prog w) A (getItem (.ref t) (.ref sl)) Q E s := by
  have htake : sizeOk (.seq items.toList.reverse.toArray) := by
    show items.toList.reverse.toArray.size ≤ sizeLine
    rw [List.size_toArray, List.length_reverse, Array.length_toList]
    exact hsz
  obtain ⟨os, hos, hcs, hds⟩ := id hs
  have hTs : s.TypeIs (.ref sl) "slice" := ⟨os, hos, hcs⟩
  unfold getItem
  try with_reducible refine wpAny_holding ?_
  first | refine wpAny_bind (wpAny_pure ?_) | skip
  refine wpAny_bind (wpAny_sequenceKey ht.typeIs (by decide) ?_)
  refine wpAny_bind (wpAny_callSpecial?_slot (name := Str.ofString "__getitem__") ht.typeIs PyProof.Rows.slot_tuple_getitem
    (wpAny_call_entry PyProof.Rows.slot_tuple_getitem ht.typeIs entry_tuple_getitem ?_ (args_tuple_getitem _ _)))
  show wpAny _ _ (Builtin.Tuple.tupleItemsOf (.ref t) >>= _) _ _ s
  refine wpAny_bind (tupleItemsOf_ ht ?_)
  refine wpAny_bind (wpAny_typeOf hTs ?_)
  rw [if_pos (by decide)]
  refine wpAny_bind (sliceApplied_back hs ps ?_)
  have hno : ¬ ((((items.size : Int) - 1) == 0 && (-1 : Int) == 1 && items.size == items.size) = true) := by
    intro q
    rw [Bool.and_eq_true, Bool.and_eq_true] at q
    exact absurd q.1.2 (by decide)
  show wpAny _ _ (if (((items.size : Int) - 1) == 0 && (-1 : Int) == 1 && items.size == items.size) = true then _ else _) _ _ s
  rw [if_neg hno, pick_back]
  first
    | exact wpAny_bind (m := Builtin.Tuple.tupleExact _) (wpAny_newObj_type (wpAny_pure ⟨_, rfl, wpAny_pure h⟩) htake)
    | exact wpAny_bind (m := Builtin.Tuple.tupleExact _) (wpAny_newObj_type (wpAny_bind (wpAny_pure (wpAny_pure ⟨_, rfl, wpAny_pure h⟩))) htake)
    | exact wpAny_bind (wpAny_bind (m := Builtin.Tuple.tupleExact _) (wpAny_newObj_type (wpAny_pure (wpAny_pure ⟨_, rfl, wpAny_pure h⟩)) htake))
    | exact wpAny_bind (wpAny_bind (m := Builtin.Tuple.tupleExact _) (wpAny_newObj_type (wpAny_pure ⟨_, rfl, wpAny_pure h⟩) htake))
end
end HT
namespace L2
open PySem PySem.Spec PyProof.Rows
section
variable {X : Cx} {pos : Pos}
/-- x[::-1] of a list or a tuple -/
def tRevA (K : PySem.W.Frag) (te : TE) : TE := fun σ H Q => te σ H fun x H1 => ∃ a xs, x = .ref a ∧
  ((SqL K H1 a xs ∧ ∀ p, H1 p = none → Q (.ref p) (upd H1 p (.lst xs.reverse))) ∨ (SqT K H1 a xs ∧ ∀ p, H1 p = none → Q (.ref p) (upd H1 p (.tup xs.reverse))))
theorem pe_revA {e : Expr} {te : TE} {k : Nat} {p1 p2 p3 pos : Pos} (he : PE X e te) : PE X (.Subscript e (.Slice none none (some (.UnaryOp .USub (.Constant (.int 1) k p1) p2)) p3) pos) (tRevA X.K te) := by
  refine ⟨fun pins s σ H Q I h => ?_⟩
  refine Subscript_ (thn (he.run pins s σ H _ I h) fun v s1 ⟨x, H1, I1, r1, q1⟩ => ?_)
  obtain ⟨a, xs, ex, hx⟩ := q1
  subst ex
  cases r1
  have hst : PO X (some (.UnaryOp .USub (.Constant (.int 1) k p1) p2)) (tPart (tUn (rU fun i => .int (-i)) (tC (.int 1)))) := po_some (pe_un un_neg pe_int)
  refine wpAny_Slice (thn (po_none.run pins s1 σ H1 (fun o H2 => o = none ∧ H2 = H1) I1 ⟨rfl, rfl⟩) fun vl s2 ⟨l, H2, I2, pl, el, e2⟩ => ?_)
  subst el e2
  refine thn (po_none.run pins s2 σ H2 (fun o H3 => o = none ∧ H3 = H2) I2 ⟨rfl, rfl⟩) fun vu s3 ⟨u, H3, I3, pu, eu, e3⟩ => ?_
  subst eu e3
  refine thn (hst.run pins s3 σ H3 (fun o H4 => o = some (-1) ∧ H4 = H3) I3 ⟨1, rfl, -1, rfl, rfl, rfl⟩) fun vs s4 ⟨o, H4, I4, ps, eo, e4⟩ => ?_
  subst eo e4
  have I5 : Inv X pins σ H4 { s4 with heap := s4.heap.push { cls := .type "slice", data := .fields #[vl, vu, vs] } } := I4.kept (t' := s4.toks) fun b ob q => Heap.get?_push_of_some _ q
  show wpAny (model X.prog X.w) X.A (subscriptTail e (.Slice none none (some (.UnaryOp .USub (.Constant (.int 1) k p1) p2)) p3) (.ref a) (.ref s4.heap.objs.size)) (EP X pins σ Q) X.xe { s4 with heap := s4.heap.push { cls := .type "slice", data := .fields #[vl, vu, vs] } }
  rcases hx with ⟨hx, q⟩ | ⟨hx, q⟩
  · obtain ⟨its, r, ht, hz⟩ := I5.list hx
    have hlen := r.length
    refine tail_any (ops := [.ref a, .ref s4.heap.objs.size]) ht.isList.typeIs (PySem.slot_list_getitem.lookup) ?_ (by with_unfolding_all rfl)
    refine wpAny_getItem_list_slice ht.isList (Heap.IsSliceOf.new _ vl vu vs) pl pu ps (by decide) ?_ (by rw [List.size_toArray]; omega)
    rw [PySem.W.krv_pick]
    refine ⟨.ref _, _, I5.laid (t' := s4.toks) (o := .lst xs.reverse) (fun b ob q => Heap.get?_push_of_some _ q) (Nat.le_refl _) ?_, rfl, q _ (I5.hok.fresh (Nat.le_refl _))⟩
    exact ⟨by rw [List.length_reverse]; exact hz, _, 0, r.reverse, Heap.get?_push_size _ rfl⟩
  · obtain ⟨its, r, ht, hz⟩ := I5.tuple hx
    have hlen := r.length
    have el : vl = Value.none := by cases pl; rfl
    have eu : vu = Value.none := by cases pu; rfl
    subst el eu
    refine tail_any (ops := [.ref a, .ref s4.heap.objs.size]) ht.typeIs (PyProof.Rows.slot_tuple_getitem.lookup) ?_ (by with_unfolding_all rfl)
    refine HT.getItem_tuple_back ht (Heap.IsSliceOf.new _ _ _ vs) ps ?_ (by rw [List.size_toArray]; omega)
    refine ⟨.ref _, _, I5.laid (t' := s4.toks) (o := .tup xs.reverse) (fun b ob q => Heap.get?_push_of_some _ q) (Nat.le_refl _) ?_, rfl, q _ (I5.hok.fresh (Nat.le_refl _))⟩
    exact ⟨by rw [List.length_reverse]; exact hz, _, by simpa using r.reverse, ⟨_, Heap.get?_push_size _ rfl, rfl, _, rfl⟩⟩
end
end L2
namespace Ic
open PySem PySem.Spec PyProof.Rows L2
section
variable {X : Cx} {nm : Nm} {mu : Bool}
theorem sIx_ht (n d : Nat) (o : Option Int) : sIx n d o = HT.sIx n d o := by cases o <;> rfl
theorem cut_rel {K : PySem.W.Frag} {r : Rl} {H : Hp} {ds : List D} {vs : List V} (z : Rels K nm r H ds vs) (lo hi : Option Int) : Rels K nm r H (cut ds lo hi) (cutV vs lo hi) := by
  unfold cut cutV
  rw [z.length, ← sIx_ht, ← sIx_ht]
  exact (z.drop _).take _
theorem sl_D : SlR X (fun x lo hi H Q => ∃ dx, Fin' X.K nm (fun r H => Rel X.K nm r H dx x) (fun S => slice (view S dx) lo hi) mu H Q) := by
  intro pins s σ H x v vl vu lo hi sl Q I rx hs pl pu ⟨dx, r, S, d, st, h1, e, k⟩
  have w1 := h1.view st
  cases ea : view S dx <;> rw [ea] at w1 <;> simp only [ea, slice, reduceCtorEq] at e
  · split at e
    · rename_i hc
      cases e
      cases w1
      refine sl_str pins s σ H _ v vl vu lo hi sl Q I rx hs pl pu ⟨_, rfl, by rw [← line_eq]; exact hc, ?_⟩
      have := Kont.str k st
      simp only [cut, Array.length_toList] at this
      unfold cutS
      simpa [sIx_ht, Str.length] using this
    · cases e
  · cases e
    obtain ⟨b, ws, rfl, q, z⟩ := w1
    refine sl_tupA pins s σ H _ v vl vu lo hi sl Q I rx hs pl pu ⟨b, ws, rfl, q, fun hh => ?_, fun _ p hp => Kont.tup k st hp (cut_rel z lo hi)⟩
    rename_i xs
    have e2 : cut xs lo hi = xs := by
      unfold cut
      rw [← z.length, sIx_ht, sIx_ht, hh.1, hh.2, z.length]
      simp
    rw [e2] at k
    exact Kont.tupS k st ⟨b, ws, rfl, q, z⟩
  · cases e
    obtain ⟨b, ws, rfl, q, z⟩ := w1
    exact sl_list pins s σ H _ v vl vu lo hi sl Q I rx hs pl pu ⟨b, ws, rfl, SqL.of q, fun p hp => Kont.lst k st hp (cut_rel z lo hi)⟩
  · cases e
    obtain ⟨b, rfl, q⟩ := w1
    refine sl_list pins s σ H _ v vl vu lo hi sl Q I rx hs pl pu ⟨b, _, rfl, q.sq, fun p hp => Kont.lst k st hp ?_⟩
    rename_i ns
    have := cut_rel (rels_ints (K := X.K) (nm := nm) (r := r) (H := H) ns) lo hi
    unfold cut at this ⊢
    simpa [List.map_take, List.map_drop] using this
end
end Ic

set_option Elab.async false
set_option linter.all false
set_option maxRecDepth 100000
set_option maxHeartbeats 1000000
/-! Ic2c: the least one of tuples of ints. -/
namespace Ic
open PySem PySem.Spec PyProof.Rows L2
open Sem (wp)
open PySem.SeqAt
/-- a tuple of ints, as the library has it -/
def tiP (ns : List Int) : PyData := .tuple (ns.map .int)
theorem lexLt_lt : ∀ ns ms : List Int, lexLt ns ms = decide (ns < ms)
  | [], [] => by simp [lexLt]
  | [], _ :: _ => by simp [lexLt]
  | _ :: _, [] => by simp [lexLt]
  | x :: xs, y :: ys => by
    rw [lexLt, lexLt_lt xs ys]
    by_cases h : x = y
    · subst h
      simp [List.cons_lt_cons_iff]
    · simp [List.cons_lt_cons_iff, h]
theorem dataLt_ti (ns ms : List Int) : PySem.W.dataLt (tiP ns) (tiP ms) = lexLt ns ms := by
  rw [lexLt_lt, ← PySem.W.dataLt_ints]
  unfold tiP
  rw [PySem.W.dataLt_tuple]
  rfl
theorem alike_ti (ns ms : List Int) : PySem.W.alike (tiP ns) (tiP ms) = true := by
  have h : ∀ ns ms : List Int, PySem.W.alikeAll (ns.map .int) (ms.map .int) = true := by
    intro ns
    induction ns with
    | nil => intro ms; simp [PySem.W.alikeAll]
    | cons n ns ih =>
      intro ms
      cases ms with
      | nil => simp [PySem.W.alikeAll]
      | cons m ms => simp [PySem.W.alikeAll, PySem.W.alike, ih]
  simp [tiP, PySem.W.alike, h]
theorem alikeAll_ti (nss : List (List Int)) : PySem.W.AlikeAll (nss.map tiP) := by
  refine ⟨fun x hx y hy => ?_, fun x hx => ?_⟩
  · obtain ⟨a, _, rfl⟩ := List.mem_map.mp hx
    obtain ⟨b, _, rfl⟩ := List.mem_map.mp hy
    exact alike_ti a b
  · obtain ⟨a, _, rfl⟩ := List.mem_map.mp hx
    simp [tiP]
theorem depth_ti (nss : List (List Int)) : PyData.depthAll (nss.map tiP) ≤ 3 := by
  have h1 : ∀ ns : List Int, PyData.depthAll (ns.map .int) ≤ 1 := by
    intro ns
    induction ns with
    | nil => simp [PyData.depthAll]
    | cons n ns ih =>
      simp only [List.map_cons, PyData.depthAll, PyData.depth]
      omega
  induction nss with
  | nil => simp [PyData.depthAll]
  | cons n nss ih =>
    have := h1 n
    simp only [List.map_cons, PyData.depthAll, tiP, PyData.depth] at ih ⊢
    omega
section
variable {prog : Program} {w : World} {A : Around} {E : Value → Shared → Prop} {s : Shared}
/-- min of a list of tuples of ints: the item itself, by its index -/
theorem min_list_ti {l : Addr} {vs : Array Value} {nss : List (List Int)} {as : List Addr} {Q : Value → Shared → Prop} (hh : A.handled = none) (hl : s.heap.IsList l vs) (hr : ReadsAll s.heap vs.toList (nss.map tiP) as) (hne : nss ≠ []) (hu : A.units + 10 < cLine)
    (h : ∀ v h' tk, vs[argBest (fun i j => lexLt (nss.getD i []) (nss.getD j [])) (nss.length - 1)]? = some v → (∀ b o, s.heap.get? b = some o → h'.get? b = some o) → Q v { s with heap := h', toks := tk }) :
    wpAny (model prog w) A (call (.builtin "min") [.ref l]) Q E s := by
  have hn : vs.size = nss.length := by
    have := PySem.W.readsAll_len hr
    simpa using this
  have hpos : 0 < nss.length := List.length_pos_iff.mpr hne
  have hd := depth_ti nss
  refine call_min_walkH (PySem.W.iter_listW (A := A.in1) hh hl fun s₂ e W st hfp hw hk => ?_)
  refine ⟨_, _, _, _, _, _, _, s.heap, _, rfl, W, st, hfp, by omega, hw, hk, PySem.W.cmpIn_lt (A := A.in1) hr (alikeAll_ti nss) (by show A.units + 1 + _ < _; omega), fun v s' hP m => ?_⟩
  obtain ⟨h', tk, rfl, hk'⟩ := PySem.W.moved_old e rfl m
  refine h v h' tk ?_ hk'
  have e2 : ∀ k, k < nss.length → argBest (fun i j => lexLt (nss.getD i []) (nss.getD j [])) k = argBest (fun i j => PySem.W.dataLt ((nss.map tiP).getD i PyData.none) ((nss.map tiP).getD j PyData.none)) k ∧ argBest (fun i j => lexLt (nss.getD i []) (nss.getD j [])) k ≤ k := by
    intro k
    induction k with
    | zero => intro _; exact ⟨rfl, Nat.le_refl _⟩
    | succ k ih =>
      intro hk
      obtain ⟨i1, i2⟩ := ih (by omega)
      have g : ∀ i, i < nss.length → (nss.map tiP).getD i PyData.none = tiP (nss.getD i []) := by
        intro i hi
        simp [List.getD, hi]
      have e3 : PySem.W.dataLt ((nss.map tiP).getD (k + 1) PyData.none) ((nss.map tiP).getD (argBest (fun i j => lexLt (nss.getD i []) (nss.getD j [])) k) PyData.none) = lexLt (nss.getD (k + 1) []) (nss.getD (argBest (fun i j => lexLt (nss.getD i []) (nss.getD j [])) k) []) := by
        rw [g _ hk, g _ (by omega), dataLt_ti]
      refine ⟨?_, ?_⟩
      · simp only [argBest]
        rw [← i1]
        simp only [e3]
      · simp only [argBest]
        split <;> omega
  rw [hn] at hP
  rw [(e2 (nss.length - 1) (by omega)).1]
  exact hP
end
theorem bestT_arg (nss : List (List Int)) : ∀ k, bestT nss k = argBest (fun i j => lexLt (nss.getD i []) (nss.getD j [])) k
  | 0 => rfl
  | k + 1 => by
    simp only [bestT, argBest, bestT_arg nss k]
/-! ### the calls -/
section
variable {prog : Program} {w : World} {A : Around} {E : Value → Shared → Prop} {s : Shared}
/-- min(a, b) of two tuples of ints -/
theorem min_two_ti {a b : Value} {ns ms : List Int} {as : List Addr} {Q : Value → Shared → Prop} (hh : A.handled = none) (hr : ReadsAll s.heap [a, b] [tiP ns, tiP ms] as) (hu : A.units + 10 < cLine)
    (h : ∀ h' tk, (∀ c o, s.heap.get? c = some o → h'.get? c = some o) → Q (if lexLt ms ns then b else a) { s with heap := h', toks := tk }) :
    wpAny (model prog w) A (call (.builtin "min") [a, b]) Q E s := by
  have hname : (toString "min" ++ toString ".loop" : String) = "min.loop" := by decide
  refine call_function_tree F.kind_min F.plain_min F.entry_min (F.args_min2 _ _) ?_
  show wpAny _ A.in1 (Builtin.Builtins.bindParams "min" ["key", "default"] 0 ⟨[], []⟩ >>= _) _ _ s
  refine wpAny_bind (wpAny_of_eq (show Builtin.Builtins.bindParams "min" ["key", "default"] 0 ⟨[], []⟩ = pure [none, none] from rfl) ?_)
  show wpAny _ A.in1 (newTuple [a, b] >>= _) _ _ s
  refine wpAny_bind (wpAny_newObj_type ?_)
  have hsz : (s.heap.push { cls := .type "tuple", data := .seq #[a, b] }).objs.size = s.heap.objs.size + 1 := Heap.size_push ..
  have hT : (s.heap.push { cls := .type "tuple", data := .seq #[a, b] }).IsTuple s.heap.objs.size #[a, b] := ⟨_, Heap.get?_push_size _ rfl, rfl, 0, rfl⟩
  have hr' : ReadsAll (s.heap.push { cls := .type "tuple", data := .seq #[a, b] }) (#[a, b] : Array Value).toList ([ns, ms].map tiP) as := ReadsAll.keeps (fun c o e => Heap.get?_push_of_some _ e) hr
  refine wpAny_bind (PySem.W.iter_tupleW (A := A.in1) hh hT fun s₂ e W st hfp hw hk => ?_)
  refine wpAny_bind (wpAny_newObj_type ?_)
  have hSf : s₂.heap.objs.size ∉ [(s.heap.push { cls := .type "tuple", data := .seq #[a, b] }).objs.size, s.heap.objs.size] := fun hm => Nat.lt_irrefl _ (hfp _ hm)
  have hd := depth_ti [ns, ms]
  rw [hname]
  refine wpAny_pure ⟨plainId_quiet F.plain_min_loop _, codeAny_min_loop_firstH W _ hw _ (PySem.W.cmpIn_lt (A := A.in1) hr' (alikeAll_ti [ns, ms]) (by show A.units + 1 + _ < _; omega)) s₂.heap.objs.size hSf (fresh_in hk) _ (by simp) (fun c o e => Heap.get?_push_of_some _ (hk c o e)) (W.frame 0 s₂ _ s₂.toks st (Nat.le_refl _) fun c _ o e => Heap.get?_push_of_some _ e) (Heap.get?_push_size _ rfl) fun v s' hP hm => ?_⟩
  obtain ⟨h', tk, rfl, hk'⟩ := PySem.W.moved_old e rfl (Moved.drop_new (tk := s₂.toks) hm (Nat.le_refl _))
  have hv : v = if lexLt ms ns then b else a := by
    have hP' : (#[a, b] : Array Value)[argBest (fun i j => PySem.W.dataLt (([ns, ms].map tiP).getD i PyData.none) (([ns, ms].map tiP).getD j PyData.none)) 1]? = some v := hP
    have e2 : argBest (fun i j => PySem.W.dataLt (([ns, ms].map tiP).getD i PyData.none) (([ns, ms].map tiP).getD j PyData.none)) 1 = if lexLt ms ns then 1 else 0 := by
      show (if PySem.W.dataLt (tiP ms) (tiP ns) then 1 else 0) = _
      rw [dataLt_ti]
    rw [e2] at hP'
    by_cases hl : lexLt ms ns = true
    · rw [if_pos hl] at hP' ⊢
      simpa using hP'.symm
    · rw [if_neg hl] at hP' ⊢
      simpa using hP'.symm
  rw [hv]
  exact h h' tk fun c o e => hk' c o (Heap.get?_push_of_some _ e)
end
end Ic

set_option Elab.async false
set_option linter.all false
set_option maxRecDepth 100000
set_option maxHeartbeats 1000000
/-! Ic3: from the text's own syntax to E and Sm. -/
namespace Ic
open PySem PySem.Spec PyProof.Rows L2

/-- what the names of a body stand for -/
structure Sym where
  N : List Str
  sc : Scope
  fns : List (Str × Nat × Nat)
  kws : List (Str × Nat × List Str × List Nat)
  cls : List (Str × Nat)
  exc : List (Str × Nat)
  globs : List (Str × Nat)
  att : List (Str × Nat)
  mts : List (Str × Nat)
  mu : List (Str × Nat)
  blt : List Str
def find? {α : Type} (l : List (Str × α)) (x : Str) : Option α := (l.find? fun p => p.1 == x).map (·.2)
def Sym.mut (Y : Sym) (x : Str) : Nat := (find? Y.mu x).getD 0
def Sym.loc (Y : Sym) (x : Str) : Bool := match Y.sc.names.lookup x with
  | some .local | some .cell | some .free => true
  | _ => false
def Sym.sto (Y : Sym) (x : Str) : Bool := match Y.sc.names.lookup x with
  | some .local | some .cell => true
  | _ => false
def Sym.glo (Y : Sym) (x : Str) : Bool := decide (Y.sc.names.lookup x = some .globalImplicit)
def Sym.slot (Y : Sym) (x : Str) : Option Nat := Y.N.findIdx? (· == x)
def Sym.free (Y : Sym) (x : Str) : Bool := Y.glo x && Y.blt.contains x
def opOf : Operator → Option Op
  | .Add => some .add | .Sub => some .sub | .Mult => some .mul | .FloorDiv => some .fdiv | .Mod => some .mod | .Pow => some .pow | .BitXor => some .xor | .BitAnd => some .band
  | _ => none
def cmOf : CmpOp → Cm
  | .Eq => .eq | .NotEq => .ne | .Lt => .lt | .LtE => .le | .Gt => .gt | .GtE => .ge | .Is => .is | .IsNot => .isnot | .In => .isin | .NotIn => .notin
def tyOf (x : Str) : Option Ty :=
  if x = "tuple" then some .tup else if x = "list" then some .lst else if x = "int" then some .int else if x = "bool" then some .bool else if x = "str" then some .str else if x = "dict" then some .dct else none
def biOf (x : Str) : Option Bi :=
  if x = "len" then some .len else if x = "tuple" then some .tuple else if x = "list" then some .list else if x = "sorted" then some .sorted else if x = "sum" then some .sum else if x = "max" then some .max else
  if x = "min" then some .min else if x = "abs" then some .abs else if x = "int" then some .int else if x = "all" then some .all else if x = "any" then some .any else none
def meOf (x : Str) (n : Nat) : Option Me :=
  if x = "append" ∧ n = 1 then some .append else if x = "extend" ∧ n = 1 then some .extend else if x = "pop" ∧ n = 0 then some .pop else if x = "setdefault" ∧ n = 2 then some .setdefault else
  if x = "get" ∧ (n = 1 ∨ n = 2) then some .get else if x = "index" ∧ n = 1 then some .index else none
def ownOf (N : List Str) (scope : Scope) : Option (List (Str × Nat)) := some ((scope.names.filter fun y => y.2 == .local || y.2 == .cell).filterMap fun y => (N.findIdx? (· == y.1)).map fun i => (y.1, i))
def isName : Expr → Option Str
  | .Name x _ => some x
  | _ => none
/-- names stored by a pattern -/
def npOf (Y : Sym) : Expr → Option NPat
  | .Name x _ => if Y.sto x then (Y.slot x).map .nm else none
  | .Tuple es _ _ => (npsOf Y es).map .tup
  | _ => none
where npsOf (Y : Sym) : List Expr → Option (List NPat)
  | [] => some []
  | e :: es => (npOf Y e).bind fun p => (npsOf Y es).map (p :: ·)
def isTupT : Expr → Bool
  | .Tuple _ _ _ => true
  | _ => false
def NPat.isTup : NPat → Bool
  | .tup _ => true
  | _ => false
mutual
def NPat.slots : NPat → List Nat
  | .nm i => [i]
  | .tup ps => slotss ps
def slotss : List NPat → List Nat
  | [] => []
  | p :: ps => p.slots ++ slotss ps
end
def isStar : Expr → Bool
  | .Starred _ _ => true
  | _ => false
def isSetE : Expr → Bool
  | .Set _ _ _ => true
  | _ => false
def E.or? (o : Option E) : E := o.getD .bad
/-- what is walked; tup: the target is a tuple -/
def irI (g : Bool → Sym → Nat → Expr → E) (Y : Sym) (tup : Bool) (it : Expr) : Itk × List E := match it with
  | .Call (.Name x p) es [] q =>
    if x == "__debug__" || es.any isStar then (.val, [.bad])
    else if Y.free x && decide (x = "range") && decide (es.length = 1) then (.range1, es.map (g false Y 0))
    else if Y.free x && decide (x = "range") && decide (es.length = 2) then (.range2, es.map (g false Y 0))
    else if Y.free x && decide (x = "enumerate") && decide (es.length = 1) then (if tup then (.enum, es.map (g false Y 0)) else (.val, [.bad]))
    else if Y.free x && decide (x = "zip") && decide (es.length = 2) then (if tup then (.zip, es.map (g false Y 0)) else (.val, [.bad]))
    else if Y.free x && decide (x = "reversed") && decide (es.length = 1) then (.rev, es.map (g false Y 0))
    else (.val, [g false Y 0 (.Call (.Name x p) es [] q)])
  | .Set _ _ _ => (.val, [.bad])
  | e => (.val, [g false Y 0 e])
/-- a test -/
def irT (g : Bool → Sym → Nat → Expr → E) (Y : Sym) (e : Expr) : E := match e with
  | .UnaryOp .Not a _ => .not (g true Y 0 a)
  | .BoolOp .And (e :: es) _ => .and ((e :: es).map (g true Y 0))
  | .BoolOp .Or (e :: es) _ => .or ((e :: es).map (g true Y 0))
  | .Compare a [op] [b] _ => if behindInMarks op b then .bad else .cmp (g false Y 0 a) (cmOf op) (g false Y 0 b)
  | .Compare a [op, op2] [b, c] _ => if lastMarks [op, op2] [b, c] then .bad else .cmp2 (g false Y 0 a) (cmOf op) (g false Y 0 b) (cmOf op2) (g false Y 0 c)
  | .Compare _ _ _ _ => .bad
  | .BoolOp _ _ _ => .bad
  | .IfExp _ _ _ _ => .bad
  | .Starred _ _ => .bad
  | e => g false Y 0 e
def irV (g : Bool → Sym → Nat → Expr → E) (Y : Sym) (n : Nat) (e : Expr) : E := match e with
  | .Name x _ => if x == "__debug__" || x == "__classdict__" then .bad else if Y.loc x then E.or? ((Y.slot x).map .var) else if Y.glo x then E.or? ((find? Y.globs x).map .glob) else .bad
  | .Constant c _ _ => (match c with
    | .int i => .lit (.int i)
    | .bool b => .lit (.bl b)
    | .none => .lit .non
    | .str s => .lit (.str s)
    | _ => .bad)
  | .BinOp a op b _ => E.or? ((opOf op).map fun o => .bin o (decide (0 < n)) (g false Y 0 a) (g false Y 0 b))
  | .UnaryOp op a _ => (match op with
    | .USub => .neg (g false Y 0 a)
    | .Not => .not (g false Y 0 a)
    | _ => .bad)
  | .BoolOp op es _ => (match op with
    | .And => .and (es.map (g false Y 0))
    | .Or => .or (es.map (g false Y 0)))
  | .Compare a [op] [b] _ => if behindInMarks op b then .bad else .cmp (g false Y 0 a) (cmOf op) (g false Y 0 b)
  | .Compare a [op, op2] [b, c] _ => if lastMarks [op, op2] [b, c] then .bad else .cmp2 (g false Y 0 a) (cmOf op) (g false Y 0 b) (cmOf op2) (g false Y 0 c)
  | .IfExp c a b _ => .ife (g true Y 0 c) (g false Y n a) (g false Y n b)
  | .Tuple es _ _ => .tup (es.map (g false Y 0))
  | .List es _ => .lst (decide (0 < n)) (es.map (g false Y (n - 1)))
  | .Dict [] [] _ => .dict (decide (0 < n)) [] []
  | .Subscript a (.Slice lo hi none _) _ => .slc (decide (0 < n)) (g false Y 0 a) (lo.map (g false Y 0)) (hi.map (g false Y 0))
  | .Subscript a (.Slice none none (some (.UnaryOp .USub (.Constant (.int 1) _ _) _)) _) _ => .back (decide (0 < n)) (g false Y 0 a)
  | .Subscript _ (.Slice _ _ _ _) _ => .bad
  | .Subscript a b _ => .idx (g false Y 0 a) (g false Y 0 b)
  | .Attribute a f _ => (match a with
    | .Call _ [] [] _ => .bad
    | a => E.or? ((find? Y.att f).map fun i => .fld (g false Y 0 a) i))
  | .Call (.Name x _) es [] _ =>
    if x == "__debug__" || es.any isStar then .bad
    else if Y.free x then
      (if x = "isinstance" then
        (match es with
        | [a, .Name t _] => if Y.free t then E.or? ((tyOf t).map fun ty => .bi (.isi ty) false [g false Y 0 a]) else .bad
        | [a, .Tuple [.Name t _, .Name u _] _ _] => if Y.free t && Y.free u then E.or? ((tyOf t).bind fun ty => (tyOf u).map fun tu => .bi (.isi2 ty tu) false [g false Y 0 a]) else .bad
        | _ => .bad)
      else if x = "list" then
        (match es with
        | [.Call (.Name r _) as [] _] => if Y.free r && decide (r = "range") && decide (as.length ≤ 2) && !(as.any isStar) then .bi .listR (decide (0 < n)) (as.map (g false Y 0)) else .bi .list (decide (0 < n)) (es.map (g false Y 0))
        | es => .bi .list (decide (0 < n)) (es.map (g false Y 0)))
      else E.or? ((biOf x).map fun b => .bi b (decide (0 < n)) (es.map (g false Y 0))))
    else if Y.glo x then
      (match find? Y.fns x with
      | some (f, m) => if es.length = m then .call f (decide (0 < n)) (es.map (g false Y 0)) (List.range m) else .bad
      | none => E.or? ((find? Y.cls x).map fun c => .new c (decide (0 < n)) (es.map (g false Y 0))))
    else .bad
  | .Call (.Name x _) es kws _ =>
    if x == "__debug__" || es.any isStar then .bad
    else if Y.glo x then
      (match find? Y.fns x, Y.kws.find? fun q => q.1 == x && q.2.1 == es.length && q.2.2.1 == kws.map fun k => k.arg.getD Str.empty with
      | some (f, _), some q => if kws.all fun k => k.arg.isSome then .callk f (decide (0 < n)) q.2.1 q.2.2.1.length (es.map (g false Y 0)) (kws.map fun k => g false Y 0 k.value) q.2.2.2 else .bad
      | _, _ => .bad)
    else .bad
  | .Call (.Attribute a m ap) es [] cp => (match a with
    | .Call _ [] [] _ => .bad
    | a => if !(ap.endLine == cp.line) || es.any isStar || !decide (es.length < 30) then .bad else match meOf m es.length with
      | some q => .mth q (g false Y 0 a) (es.map (g false Y 0))
      | none => E.or? ((find? Y.mts m).map fun i => .own i (decide (0 < n)) (g false Y 0 a) (es.map (g false Y 0))))
  | .ListComp elt [⟨tg, iter, ifs, 0⟩] scope _ => (match ownOf Y.N scope with
    | none => .bad
    | some own => if blkC Y.N Y.sc scope own && decide (ifs.length ≤ 1) && !isSetE iter then
        (match npOf { Y with sc := scope } tg with
        | none => .bad
        | some p =>
            if p.slots.all fun i => (own.map (·.2)).contains i then
              .comp (decide (0 < n)) (own.map (·.2)) (g false { Y with sc := relS scope Y.sc } (n - 1) elt) p (irI g Y (isTupT tg) iter).1 (irI g Y (isTupT tg) iter).2 (ifs.map (g true { Y with sc := relS scope Y.sc } 0))
            else .bad) else .bad)
  | .ListComp elt [⟨tg, iter, ifs, 0⟩, ⟨tg2, iter2, ifs2, 0⟩] scope _ => (match ownOf Y.N scope with
    | none => .bad
    | some own => if blkC Y.N Y.sc scope own && decide (ifs.length ≤ 1) && decide (ifs2.length ≤ 1) && !isSetE iter && !isSetE iter2 then
        (match npOf { Y with sc := scope } tg, npOf { Y with sc := scope } tg2 with
        | some p, some p2 =>
            if (p.slots.all fun i => (own.map (·.2)).contains i) && (p2.slots.all fun i => (own.map (·.2)).contains i) then
              .comp2 (decide (0 < n)) (own.map (·.2)) (g false { Y with sc := relS scope Y.sc } (n - 1) elt) p (irI g Y (isTupT tg) iter).1 (irI g Y (isTupT tg) iter).2 (ifs.map (g true { Y with sc := relS scope Y.sc } 0))
                p2.slots p2 (irI g { Y with sc := relS scope Y.sc } (isTupT tg2) iter2).1 (irI g { Y with sc := relS scope Y.sc } (isTupT tg2) iter2).2 (ifs2.map (g true { Y with sc := relS scope Y.sc } 0))
            else .bad
        | _, _ => .bad) else .bad)
  | _ => .bad
def ir : Nat → Bool → Sym → Nat → Expr → E
  | 0, _, _, _, _ => .bad
  | k + 1, true, Y, _, e => irT (ir k) Y e
  | k + 1, false, Y, n, e => irV (ir k) Y n e
/-! ### statements -/
def constOf : Expr → Option D
  | .Constant (.int i) _ _ => some (.int i)
  | .Constant (.bool b) _ _ => some (.bl b)
  | .Constant .none _ _ => some .non
  | .Constant (.str s) _ _ => some (.str s)
  | _ => none
def isLC : Expr → Bool
  | .ListComp _ _ _ _ | .SetComp _ _ _ _ | .DictComp _ _ _ _ _ => true
  | _ => false
def isSD : Expr → Bool
  | .SetComp _ _ _ _ | .DictComp _ _ _ _ _ => true
  | _ => false
/-- how much of what is stored there is to be changed later -/
def tgN (Y : Sym) : Expr → Nat
  | .Name x _ => Y.mut x
  | .Attribute _ f _ => Y.mut f
  | .Subscript (.Name x _) _ _ => Y.mut x - 1
  | .Subscript (.Attribute _ f _) _ _ => Y.mut f - 1
  | _ => 0
def tgNs (Y : Sym) (ts : List Expr) : Nat := ts.foldl (fun n t => max n (tgN Y t)) 0
def irTg (g : Expr → E) (Y : Sym) : Expr → Option Tg
  | .Name x p => (npOf Y (.Name x p)).map .nm
  | .Tuple es _ _ => (irTgs g Y es).map .tup
  | .Subscript o i _ => match i with
    | .Slice _ _ _ _ => none
    | i => some (.idx (g o) (g i))
  | .Attribute o f _ => (find? Y.att f).map fun i => .fld (g o) i
  | _ => none
where irTgs (g : Expr → E) (Y : Sym) : List Expr → Option (List Tg)
  | [] => some []
  | t :: ts => (irTg g Y t).bind fun a => (irTgs g Y ts).map (a :: ·)
/-- names of a swapped store -/
def swNames (sc : Scope) (ts : List Expr) : List Str :=
  ts.filterMap fun
    | .Name id pos => if sc.names.lookup id == some .local && pos.line == (ts.head?.map (·.pos.line)).getD 0 then some id else none
    | _ => none
/-- name = [..], stored by the comprehension itself -/
def swapL (Y : Sym) (t v : Expr) : Bool := match t, v with
  | .Name y py, .ListComp _ _ scope pos => Y.sc.names.lookup y == some .local && py.line == pos.line && !(scope.names.any fun (n, k) => n == y && (k == .local || k == .cell))
  | _, _ => false
inductive Sw where
  | no | yes | not
/-- a, b = x, y: stored from the right? -/
def swapT (Y : Sym) (t v : Expr) : Sw := match t, v with
  | .Tuple ts _ _, .Tuple vs _ _ =>
    if vs.any isStar then .not
    else if !(ts.length == 2 || ts.length == 3) || vs.length != ts.length then .no
    else if (swNames Y.sc ts).length != ts.length then .no
    else if vs.all (foldedForSure 8) then .no
    else if vs.all (constantsAlone 8) then .not
    else match ts, vs with
      | [.Name x px, .Name y py], [_, _] => if Y.sc.names.lookup x == some .local && Y.sc.names.lookup y == some .local && py.line == px.line && x != y then .yes else .not
      | [.Name x px, .Name y py, .Name z pz], [_, _, _] => if Y.sc.names.lookup x == some .local && Y.sc.names.lookup y == some .local && Y.sc.names.lookup z == some .local && py.line == px.line && pz.line == px.line && x != y && x != z && y != z then .yes else .not
      | _, _ => .not
  | .List _ _, _ => .not
  | _, _ => .no
def zipE (g : Bool → Sym → Nat → Expr → E) (Y : Sym) : List Expr → List Expr → List E
  | t :: ts, v :: vs => g false Y (tgN Y t) v :: zipE g Y ts vs
  | _, _ => []
/-- the value that is stored -/
def valE (g : Bool → Sym → Nat → Expr → E) (Y : Sym) (t v : Expr) : E := match t, v with
  | .Tuple ts _ _, .Tuple vs _ _ => if ts.length = vs.length then .tup (zipE g Y ts vs) else .bad
  | .Tuple ts _ _, .ListComp e gs sc p => irV g Y (if tgNs Y ts = 0 then 0 else tgNs Y ts + 1) (.ListComp e gs sc p)
  | t, v => irV g Y (tgN Y t) v
def irA (g : Bool → Sym → Nat → Expr → E) (Y : Sym) (t v : Expr) : Sm := match t with
  | .Attribute o f _ => ((find? Y.att f).map fun i => Sm.asg (.fld (g false Y 0 o) i) (irV g Y (tgN Y t) v)).getD .bad
  | t => match irTg (g false Y 0) Y t with
    | none => .bad
    | some tg => if isSD v || decide (Y.sc.kind ≠ .function) then .bad else match swapT Y t v with
      | .not => .bad
      | _ => .asg tg (valE g Y t v)
def asOf (Y : Sym) : Stmt → Option (Nat × D)
  | .Assign [.Name y _] v _ => if Y.sto y then (Y.slot y).bind fun i => (constOf v).map fun d => (i, d) else none
  | _ => none
def asOfs (Y : Sym) : List Stmt → Option (List (Nat × D))
  | [] => some []
  | s :: ss => (asOf Y s).bind fun a => (asOfs Y ss).map (a :: ·)
def irH (Y : Sym) : ExceptHandler → Option (Nat × List (Nat × D))
  | .ExceptHandler (some (.Name x _)) none (b :: bs) _ => if x == "__debug__" || !Y.glo x then none else (find? Y.exc x).bind fun c => (asOfs Y (b :: bs)).map fun as => (c, as)
  | _ => none
def irHs (Y : Sym) : List ExceptHandler → Option (List (Nat × List (Nat × D)))
  | [] => some []
  | h :: hs => (irH Y h).bind fun a => (irHs Y hs).map (a :: ·)
def irS (g : Bool → Sym → Nat → Expr → E) (Y : Sym) : Nat → Stmt → Sm
  | 0, _ => .bad
  | k + 1, st => match st with
    | .Expr v _ => if isLC v then .bad else .expr (g false Y 0 v)
    | .Assign [t] v _ => irA g Y t v
    | .AugAssign t op v _ => ((opOf op).map fun o => match t with
      | .Name x _ => if Y.sto x then ((Y.slot x).map fun i => Sm.aug o i (g false Y 0 v)).getD .bad else .bad
      | .Attribute a f _ => ((find? Y.att f).map fun i => Sm.augf o (g false Y 0 a) i (g false Y 0 v)).getD .bad
      | _ => .bad).getD .bad
    | .Return (some v) _ => .ret (g false Y (Y.mut "return") v)
    | .Return none _ => .ret (.lit .non)
    | .If c a b _ => .ite (g true Y 0 c) (a.map (irS g Y k)) (b.map (irS g Y k))
    | .For t it body [] _ => (match npOf Y t with
      | some p => if isSetE it then .bad else .for p (irI g Y (isTupT t) it).1 (irI g Y (isTupT t) it).2 (body.map (irS g Y k))
      | none => .bad)
    | .While c body [] _ => .whl (g true Y 0 c) (body.map (irS g Y k))
    | .Break _ => .brk
    | .Continue _ => .cnt
    | .Pass _ => .pass
    | .Raise (some (.Call (.Name x _) [.Constant (.str _) _ _] [] _)) none _ => if x == "__debug__" || !Y.glo x then .bad else ((find? Y.exc x).map fun c => Sm.raise c none).getD .bad
    | .Try body (h :: hs) [] [] _ => ((irHs Y (h :: hs)).map fun as => Sm.try (body.map (irS g Y k)) as).getD .bad
    | _ => .bad
end Ic

set_option Elab.async false
set_option linter.all false
set_option maxRecDepth 100000
set_option maxHeartbeats 1000000
/-! Ic4: the translated expression tells what the text's own does. -/
namespace Ic
open PySem PySem.Spec PyProof.Rows L2

/-- a def's promise: what its run comes to -/
def spF (K : PySem.W.Frag) (nm : Nm) (n : Nat) (t : List D → Store → T D) : Sp := fun vs H Q E => ∃ r S args P, Sto K nm r H S ∧ Rels K nm r H args vs ∧ args.length = n ∧
  (t args S).All P (fun e S' => ∀ r' H', Ext K r H r' H' → Sto K nm r' H' S' → ∀ c d, Xr nm r' H' e c d → E c d H') ∧
  ∀ d S' v r' H', P d S' → Ext K r H r' H' → Sto K nm r' H' S' → Rel K nm r' H' d v → Q v H'
/-- what is known where a body runs -/
structure Good (X : Cx) (nm : Nm) (Y : Sym) (P : Prog) (run : Nat → List D → Store → T D) (W : WX) : Prop where
  calm : X.calm = true
  nd : X.N.Nodup
  eN : Y.N = X.N
  eS : Y.sc = X.env.scope
  tk : Takes X W
  room : X.A.units + 65 < cLine
  blt : ∀ x, Y.blt.contains x = true → X.mg x = none
  fns : ∀ x f n, find? Y.fns x = some (f, n) → ∃ fa k fd ps, X.mg x = some (.ref fa) ∧ PySem.W.keepIn X.K (.ref fa) = true ∧ FnOk X.prog X.w X.K X.mg X.base (L2.CX X.prog X.w) k fa fd ps (spF X.K nm n (run f)) ∧ Room k X.A ∧ Binds X.K fd ps [] ∧ ps.length = n ∧
    ∀ q ∈ Y.kws, q.1 = x → ∃ (g : List Value → List Value → List Value) (gV : List V → List V → List V), KBinds X.K fd ps q.2.2.1 g gV ∧ ∀ (ds es zs : List D) (r : Rl) (H : Hp) vs ws, ds.length = q.2.1 → es.length = q.2.2.1.length → permute (ds ++ es) q.2.2.2 = some zs → Rels X.K nm r H ds vs → Rels X.K nm r H es ws → Rels X.K nm r H zs (gV vs ws) ∧ zs.length = n
  glo : ∀ x (i : Nat), find? Y.globs x = some i → ∃ d u v, P.globs[i]? = some d ∧ X.mg x = some u ∧ RelV v u ∧ ∀ r H, Rel X.K nm r H d v
  att : ∀ x (i : Nat), find? Y.att x = some i → nm.att[i]? = some x
  ainj : nm.att.Nodup
  cls : ∀ (c : Nat) C, nm.cls[c]? = some C → Cls X.K C ∧ ∀ x i, find? Y.att x = some i → NoAttr X.K C x
  tyC : ∀ (c : Nat) C, nm.cls[c]? = some C → PySem.W.findIn X.K (.ref C) "__class__" = some (some (.builtin "object.__class__")) ∧ PySem.W.specialIn X.K (.builtin "object.__class__") "__get__" = some (some (.builtin "getset_descriptor.__get__")) ∧ PySem.W.takesIn X.K (.builtin "object.__class__") = some true ∧ PySem.W.mroIn X.K C (.type "object") = some true
  mts : ∀ (c : Nat) C m i f, nm.cls[c]? = some C → find? Y.mts m = some i → P.mth c i = some f → ∃ g k fd ps, Meth X.K C m g ∧ FnOk X.prog X.w X.K X.mg X.base (L2.CX X.prog X.w) k g fd ps (spF X.K nm ps.length (run f)) ∧ Room k X.A ∧ Binds X.K fd ps [] ∧ m ∉ nm.att ∧ ∀ args S, args.length ≠ ps.length → run f args S = .bad
  cni : ∀ x (c : Nat), find? Y.cls x = some c → ∃ f C k g fd ps, P.init c = some f ∧ nm.cls[c]? = some C ∧ X.mg x = some (.ref C) ∧ Mk X.K C g ∧ FnOk X.prog X.w X.K X.mg X.base (L2.CX X.prog X.w) k g fd ps (spF X.K nm ps.length (run f)) ∧ Room (k + 1) X.A ∧ Binds X.K fd ps [] ∧ ∀ args S, args.length ≠ ps.length → run f args S = .bad
/-- what is known in a comprehension's block -/
theorem Good.blk {X : Cx} {nm : Nm} {Y : Sym} {P : Prog} {run : Nat → List D → Store → T D} {W : WX} (G : Good X nm Y P run W) (s : Shared) (H : Hp) (scope : Scope) (cl : List (Str × Addr)) (C : Addr) (fp : List Addr) :
    Good (X.blk s H scope (compEnvC scope cl C X.env) fp) nm { Y with sc := relS scope Y.sc } P run (fun _ _ _ _ => False) where
  calm := G.calm
  nd := G.nd
  eN := G.eN
  eS := by rw [G.eS]; rfl
  tk := takes_none5
  room := G.room
  blt := G.blt
  fns := G.fns
  glo := G.glo
  att := G.att
  ainj := G.ainj
  cls := G.cls
  tyC := G.tyC
  mts := G.mts
  cni := G.cni
/-- the reading of an expression -/
abbrev tE (K : PySem.W.Frag) (nm : Nm) (W : WX) (R : Rn) (e : E) : TE := tT K nm C0 (Rel K nm) W (evE R e)
/-- .. of expressions -/
abbrev tEs (K : PySem.W.Frag) (nm : Nm) (W : WX) (R : Rn) (es : List E) : TA := tT K nm C0 (Rels K nm) W (evEs R es)
/-- .. of a test -/
abbrev tB (K : PySem.W.Frag) (nm : Nm) (W : WX) (R : Rn) (e : E) : TT := tT K nm C0 (fun _ _ (b c : Bool) => b = c) W (fun env S => (evE R e env S).bind fun x S => some? (truth (view S x)) fun t => .ret t S)
section
variable {X : Cx} {K : PySem.W.Frag} {nm : Nm} {Y : Sym} {P : Prog} {run : Nat → List D → Store → T D} {W : WX} {R : Rn}
theorem _root_.L2.PE.weak {e : Expr} {t t' : TE} (h : PE X e t) (w : ∀ σ H Q, t' σ H Q → t σ H Q) : PE X e t' := ⟨fun pins s σ H Q I q => h.run pins s σ H Q I (w σ H Q q)⟩
theorem _root_.L2.PT.weak {e : Expr} {t t' : TT} (h : PT X e t) (w : ∀ σ H Q, t' σ H Q → t σ H Q) : PT X e t' := ⟨fun pins s σ H Q I q => h.run pins s σ H Q I (w σ H Q q)⟩
theorem _root_.L2.PW.weak {e : Expr} {t t' : TT} (h : PW X e t) (w : ∀ σ H Q, t' σ H Q → t σ H Q) : PW X e t' := ⟨fun wh pins s σ H Q I q => h.run wh pins s σ H Q I (w σ H Q q)⟩
theorem _root_.L2.PA.weak {e : List Expr} {t t' : TA} (h : PA X e t) (w : ∀ σ H Q, t' σ H Q → t σ H Q) : PA X e t' := ⟨fun pos pins s σ H Q I q => h.run pos pins s σ H Q I (w σ H Q q)⟩
theorem _root_.L2.PE.none {e : Expr} {t : TE} (w : ∀ σ H Q, ¬ t σ H Q) : PE X e t := ⟨fun pins s σ H Q I q => absurd q (w σ H Q)⟩
theorem _root_.L2.PT.none {e : Expr} {t : TT} (w : ∀ σ H Q, ¬ t σ H Q) : PT X e t := ⟨fun pins s σ H Q I q => absurd q (w σ H Q)⟩
theorem _root_.L2.PA.none {e : List Expr} {t : TA} (w : ∀ σ H Q, ¬ t σ H Q) : PA X e t := ⟨fun pos pins s σ H Q I q => absurd q (w σ H Q)⟩
theorem tT_bad {α β : Type} {C : Rl → Hp → Prop} {rel : Rl → Hp → α → β → Prop} {t : Slots → Store → T α} (h : ∀ env S, t env S = .bad) {σ : L2.St} {H : Hp} {Q : β → Hp → Prop} : ¬ tT K nm C rel W t σ H Q := by
  rintro ⟨r, env, S, P, st, en, c, al, po⟩
  rw [h] at al
  exact al
theorem tE_bad {σ : L2.St} {H : Hp} {Q : VK} : ¬ tE K nm W R .bad σ H Q := tT_bad fun _ _ => by simp [evE]
theorem tB_bad {σ : L2.St} {H : Hp} {Q : Bool → Hp → Prop} : ¬ tB K nm W R .bad σ H Q := tT_bad fun _ _ => by simp [evE]
/-- the reading that holds of one expression holds of one with the same runs -/
theorem tT_eq {α β : Type} {C : Rl → Hp → Prop} {rel : Rl → Hp → α → β → Prop} {t t' : Slots → Store → T α} (e : ∀ env S, t env S = t' env S) {σ : L2.St} {H : Hp} {Q : β → Hp → Prop} (h : tT K nm C rel W t σ H Q) : tT K nm C rel W t' σ H Q := by
  have : t = t' := funext fun env => funext fun S => e env S
  rwa [← this]
/-- at the end: a value as it is -/
theorem tT_ret {α β : Type} {C : Rl → Hp → Prop} {rel : Rl → Hp → α → β → Prop} {a : α} {σ : L2.St} {H : Hp} {Q : β → Hp → Prop} (h : tT K nm C rel W (fun _ S => .ret a S) σ H Q) : ∃ r, C r H ∧ ∀ v, rel r H a v → Q v H := by
  obtain ⟨r, env, S, P, st, en, c, al, po⟩ := h
  exact ⟨r, c, fun v q => po a S v r H al Ext.refl st q⟩
/-! ### names, constants -/
theorem slot_at {N : List Str} {x : Str} {i : Nat} (h : N.findIdx? (· == x) = some i) : N[i]? = some x := by
  obtain ⟨h1, h2, _⟩ := List.findIdx?_eq_some_iff_getElem.mp h
  rw [List.getElem?_eq_getElem h1]
  exact congrArg some (beq_iff_eq.mp h2)
theorem Good.vis (G : Good X nm Y P run W) {x : Str} (h : Y.loc x = true) : Vis X.env.scope x := by
  rw [← G.eS]
  unfold Sym.loc at h
  unfold Vis
  split at h <;> first | (exact absurd h Bool.false_ne_true) | simp_all
theorem Good.isLoc (G : Good X nm Y P run W) {x : Str} (h : Y.sto x = true) : L2.Loc X.env.scope x := by
  rw [← G.eS]
  unfold Sym.sto at h
  unfold L2.Loc
  split at h <;> first | (exact absurd h Bool.false_ne_true) | simp_all
theorem Good.isGl (G : Good X nm Y P run W) {x : Str} (h : Y.glo x = true) : Gl X x := by
  have h' : Y.sc.names.lookup x = some .globalImplicit := of_decide_eq_true h
  rw [G.eS] at h'
  exact h'
theorem pe_nameD (G : Good X nm Y P run W) (x : Str) (n : Nat) (pos : Pos) (g : Bool → Sym → Nat → Expr → E) : PE X (.Name x pos) (tE X.K nm W (rnOf P run) (irV g Y n (.Name x pos))) := by
  simp only [irV]
  by_cases hx : (x == "__debug__" || x == "__classdict__") = true
  · rw [if_pos hx]
    exact PE.none fun _ _ _ => tE_bad
  · rw [if_neg hx]
    simp only [Bool.or_eq_true, not_or, Bool.not_eq_true] at hx
    by_cases hl : Y.loc x = true
    · rw [if_pos hl]
      cases e : Y.slot x with
      | none => exact PE.none fun _ _ _ => tE_bad
      | some i =>
        have hi : X.N[i]? = some x := by rw [← G.eN]; exact slot_at e
        refine (pe_var (i := i) hi (G.vis hl) hx.1 hx.2).weak fun σ H Q h => ?_
        obtain ⟨r, env, S, P, st, en, c, al, po⟩ := h
        simp only [E.or?, Option.map_some, Option.getD_some, evE] at al
        cases e1 : env[i]? with
        | none => simp [e1] at al
        | some o =>
          cases o with
          | none => simp [e1] at al
          | some d =>
            simp [e1] at al
            obtain ⟨v, h1, h2⟩ := en.2 i d e1
            exact ⟨v, h1, po d S v r H al Ext.refl st h2⟩
    · rw [if_neg hl]
      by_cases hg : Y.glo x = true
      · rw [if_pos hg]
        cases e : find? Y.globs x with
        | none => exact PE.none fun _ _ _ => tE_bad
        | some i =>
          obtain ⟨d, u, v, h1, h2, h3, h4⟩ := G.glo x i e
          refine (pe_glob (G.isGl hg) h2 h3 hx.1).weak fun σ H Q h => ?_
          obtain ⟨r, env, S, Pp, st, en, c, al, po⟩ := h
          simp only [E.or?, Option.map_some, Option.getD_some, evE, rnOf, h1, some?_some, T.All_ret] at al
          exact po d S v r H al Ext.refl st (h4 r H)
      · rw [if_neg hg]
        exact PE.none fun _ _ _ => tE_bad
theorem pe_litD {e : Expr} {d : D} {v : V} (h : PE X e (tC v)) (q : ∀ r H, Rel X.K nm r H d v) : PE X e (tE X.K nm W R (.lit d)) :=
  h.weak fun σ H Q hw => by
    have hw' : tT X.K nm C0 (Rel X.K nm) W (fun _ S => .ret d S) σ H Q := tT_eq (fun env S => by simp [evE]) hw
    obtain ⟨r, _, k⟩ := tT_ret hw'
    exact k v (q r H)
/-! ### operators -/
theorem pe_binD {a b : Expr} {ea eb : E} {op : Op} {mu : Bool} {pos : Pos} (ha : PE X a (tE X.K nm W R ea)) (hb : PE X b (tE X.K nm W R eb)) : PE X (.BinOp a op.py b pos) (tE X.K nm W R (.bin op mu ea eb)) :=
  (pe_op (op_binD (nm := nm) (mu := mu) op) ha hb).weak fun σ H Q h => by
    have h1 := tT_bind (rel1 := Rel X.K nm) (t := evE R ea) (f := fun env x S => (evE R eb env S).bind fun y S => some? (binop op (view S x) (view S y)) fun d => mk mu d S) Mono.c0 (tT_eq (fun env S => by simp [evE]) h)
    refine tT_mono h1 fun v H1 ⟨x, h2⟩ => ?_
    have h3 := tT_bind (rel1 := Rel X.K nm) (t := evE R eb) (f := fun env y S => some? (binop op (view S x) (view S y)) fun d => mk mu d S) (Mono.c0.and .relD) h2
    refine tT_mono h3 fun u H2 ⟨y, h4⟩ => ?_
    obtain ⟨env, r, S, d, st, c, e, k⟩ := tT_fin (g := fun _ S => binop op (view S x) (view S y)) h4
    exact ⟨x, y, r, S, d, st, ⟨c.1.2, c.2⟩, e, k⟩
theorem bind1 {α β : Type} {C : Rl → Hp → Prop} {rel : Rl → Hp → α → β → Prop} {ea : E} {f : Slots → D → Store → T α} {σ : L2.St} {H : Hp} {Q : β → Hp → Prop} (hC : Mono K C)
    (h : tT K nm C rel W (fun env S => (evE R ea env S).bind (f env)) σ H Q) : tE K nm W R ea σ H fun v H1 => ∃ x, tT K nm (fun r H => C r H ∧ Rel K nm r H x v) rel W (fun env S => f env x S) σ H1 Q := tT_bind hC h
theorem bind1s {α β : Type} {C : Rl → Hp → Prop} {rel : Rl → Hp → α → β → Prop} {ea : List E} {f : Slots → List D → Store → T α} {σ : L2.St} {H : Hp} {Q : β → Hp → Prop} (hC : Mono K C)
    (h : tT K nm C rel W (fun env S => (evEs R ea env S).bind (f env)) σ H Q) : tEs K nm W R ea σ H fun v H1 => ∃ x, tT K nm (fun r H => C r H ∧ Rels K nm r H x v) rel W (fun env S => f env x S) σ H1 Q := tT_bind hC h
/-- a tree's reading at a state -/
def Raw {α β : Type} (K : PySem.W.Frag) (nm : Nm) (C : Rl → Hp → Prop) (rel : Rl → Hp → α → β → Prop) (W : WX) (t : T α) (σ : L2.St) (env : Slots) (r : Rl) (H : Hp) (Q : β → Hp → Prop) : Prop :=
  EnvR K nm r H env σ ∧ C r H ∧ ∃ P, t.All P (XP K nm W σ r H) ∧ ∀ d S' v r' H', P d S' → Ext K r H r' H' → Sto K nm r' H' S' → rel r' H' d v → Q v H'
theorem Raw.ext {α β : Type} {C : Rl → Hp → Prop} {rel : Rl → Hp → α → β → Prop} {t : T α} {σ : L2.St} {env : Slots} {r r' : Rl} {H H' : Hp} {Q : β → Hp → Prop} (hC : Mono K C) (h : Raw K nm C rel W t σ env r H Q) (x : Ext K r H r' H') : Raw K nm C rel W t σ env r' H' Q := by
  obtain ⟨en, c, P, al, po⟩ := h
  exact ⟨en.ext x, hC _ _ _ _ x c, P, al.mono (fun _ _ z => z) (fun _ _ z => z.ext x), fun d S' v r2 H2 p y st l => po d S' v r2 H2 p (x.trans y) st l⟩
theorem Raw.tT {α β : Type} {C : Rl → Hp → Prop} {rel : Rl → Hp → α → β → Prop} {t : Slots → Store → T α} {σ : L2.St} {env : Slots} {r : Rl} {H : Hp} {S : Store} {Q : β → Hp → Prop} (h : Raw K nm C rel W (t env S) σ env r H Q) (st : Sto K nm r H S) : Ic.tT K nm C rel W t σ H Q := by
  obtain ⟨en, c, P, al, po⟩ := h
  exact ⟨r, env, S, P, st, en, c, al, po⟩
theorem tT_raw {α β : Type} {C : Rl → Hp → Prop} {rel : Rl → Hp → α → β → Prop} {t : Slots → Store → T α} {σ : L2.St} {H : Hp} {Q : β → Hp → Prop} (h : tT K nm C rel W t σ H Q) : ∃ r env S, Sto K nm r H S ∧ Raw K nm C rel W (t env S) σ env r H Q := by
  obtain ⟨r, env, S, P, st, en, c, al, po⟩ := h
  exact ⟨r, env, S, st, en, c, P, al, po⟩
/-- one look at the data, then on -/
theorem tT_some {α β γ : Type} {C : Rl → Hp → Prop} {rel : Rl → Hp → α → β → Prop} {g : Slots → Store → Option γ} {f : Slots → γ → Store → T α} {σ : L2.St} {H : Hp} {Q : β → Hp → Prop}
    (h : tT K nm C rel W (fun env S => some? (g env S) fun c => f env c S) σ H Q) : ∃ r env S c, Sto K nm r H S ∧ C r H ∧ g env S = some c ∧ Raw K nm C rel W (f env c S) σ env r H Q := by
  obtain ⟨r, env, S, P, st, en, c, al, po⟩ := h
  cases e : g env S with
  | none => simp [e] at al
  | some q =>
    simp only [e, some?_some] at al
    exact ⟨r, env, S, q, st, c, e, en, c, P, al, po⟩
theorem Raw.ret {α β : Type} {C : Rl → Hp → Prop} {rel : Rl → Hp → α → β → Prop} {a : α} {S : Store} {σ : L2.St} {env : Slots} {r : Rl} {H : Hp} {Q : β → Hp → Prop} (h : Raw K nm C rel W (.ret a S) σ env r H Q) (st : Sto K nm r H S) {v : β} (l : rel r H a v) : Q v H := by
  obtain ⟨en, c, P, al, po⟩ := h
  exact po a S v r H al Ext.refl st l
theorem VRel.tru {d : D} {v : V} {b : Bool} {r : Rl} {H : Hp} (h : VRel K nm r H d v) (e : truth d = some b) : TruV K v H b := by
  cases d <;> simp only [truth, reduceCtorEq] at e
  · cases e; cases h; rfl
  · cases e; cases h; rfl
  · cases e; cases h; rfl
  · split at e
    · rename_i hc
      cases e; cases h
      exact ⟨by rw [← line_eq]; exact hc, rfl⟩
    · cases e
  · cases e
    obtain ⟨a, vs, rfl, q, z⟩ := h
    refine .inr (.inl ⟨vs, q, ?_⟩)
    have := z.length
    rename_i xs
    cases xs <;> cases vs <;> simp at this ⊢
  · cases e
    obtain ⟨a, vs, rfl, q, z⟩ := h
    refine .inl ⟨vs, SqL.of q, ?_⟩
    have := z.length
    rename_i xs
    cases xs <;> cases vs <;> simp at this ⊢
  · cases e
    obtain ⟨a, vs, rfl, q, z⟩ := h
    refine .inr (.inr ⟨vs, q, ?_⟩)
    have := z.length
    rename_i xs
    cases xs <;> cases vs <;> simp at this ⊢
theorem pe_negD {a : Expr} {ea : E} {pos : Pos} (ha : PE X a (tE X.K nm W R ea)) : PE X (.UnaryOp .USub a pos) (tE X.K nm W R (.neg ea)) :=
  (pe_un un_neg ha).weak fun σ H Q h => by
    refine tT_mono (bind1 Mono.c0 (f := fun _ x S => match x with
    | .int i => .ret (.int (-i)) S
    | _ => .bad) (tT_eq (fun env S => by (simp [evE]) <;> rfl) h)) fun v H1 ⟨x, h2⟩ => ?_
    cases x with
    | int i =>
      obtain ⟨r, c, k⟩ := tT_ret h2
      exact ⟨i, c.2, k (.int (-i)) rfl⟩
    | _ => exact (tT_bad (fun _ _ => rfl) h2).elim
theorem pe_notD {a : Expr} {ea : E} {pos : Pos} (ha : PE X a (tE X.K nm W R ea)) : PE X (.UnaryOp .Not a pos) (tE X.K nm W R (.not ea)) :=
  (pe_notT ha).weak fun σ H Q h => by
    refine tT_mono (bind1 Mono.c0 (f := fun _ x S => some? (truth (view S x)) fun b => .ret (.bl (!b)) S) (tT_eq (fun env S => by simp [evE]) h)) fun v H1 ⟨x, h2⟩ => ?_
    obtain ⟨r, env, S, b, st, c, e, h3⟩ := tT_some h2
    exact ⟨b, (c.2.view st).tru e, h3.ret st rfl⟩
theorem cmp_weak {ea eb : E} {op : Cm} {σ : L2.St} {H : Hp} {Q : VK} (h : tE K nm W R (.cmp ea op eb) σ H Q) : tOp (Fin2 K nm (cmpD op) false) (tE K nm W R ea) (tE K nm W R eb) σ H Q := by
    refine tT_mono (bind1 Mono.c0 (f := fun env x S => (evE R eb env S).bind fun y S => some? (compare op (view S x) (view S y)) fun b => .ret (.bl b) S) (tT_eq (fun env S => by simp [evE]) h)) fun v H1 ⟨x, h2⟩ => ?_
    refine tT_mono (bind1 (Mono.c0.and .relD) h2) fun u H2 ⟨y, h4⟩ => ?_
    have h5 : tT K nm (fun r H => (C0 r H ∧ Rel K nm r H x v) ∧ Rel K nm r H y u) (Rel K nm) W (fun _ S => some? (cmpD op (view S x) (view S y)) fun d => .ret d S) σ H2 Q :=
      tT_eq (fun env S => by unfold cmpD; cases compare op (view S x) (view S y) <;> rfl) h4
    obtain ⟨env, r, S, d, st, c, e, k⟩ := tT_fin0 h5
    exact ⟨x, y, r, S, d, st, ⟨c.1.2, c.2⟩, e, k⟩
theorem pe_cmpD {a b : Expr} {ea eb : E} {op : Cm} {pos : Pos} (hu : X.A.units + 65 < cLine) (ha : PE X a (tE X.K nm W R ea)) (hb : PE X b (tE X.K nm W R eb)) (hm : behindInMarks op.py b = false) : PE X (.Compare a [op.py] [b] pos) (tE X.K nm W R (.cmp ea op eb)) :=
  (pe_cmpR (op_cmpD (nm := nm) hu op) ha hb hm).weak fun σ H Q h => cmp_weak h
theorem pt_cmpD0 {a b : Expr} {ea eb : E} {op : Cm} {pos : Pos} (hu : X.A.units + 65 < cLine) (ha : PE X a (tE X.K nm W R ea)) (hb : PE X b (tE X.K nm W R eb)) (hm : behindInMarks op.py b = false) : PT X (.Compare a [op.py] [b] pos) (tTest (tE X.K nm W R (.cmp ea op eb))) :=
  (pt_cmpR (op_cmpD (nm := nm) hu op) ha hb hm).weak fun σ H Q h => cmp_weak h
theorem cmp2_weak {ea eb ec : E} {op op2 : Cm} {σ : L2.St} {H : Hp} {Q : VK} (h : tE K nm W R (.cmp2 ea op eb op2 ec) σ H Q) : tChain (Fin2 K nm (cmpD op) false) (Fin2 K nm (cmpD op2) false) (tE K nm W R ea) (tE K nm W R eb) (tE K nm W R ec) σ H Q := by
    refine tT_mono (bind1 Mono.c0 (f := fun env x S => (evE R eb env S).bind fun y S => some? (compare op (view S x) (view S y)) fun t =>
      if t then (evE R ec env S).bind fun z S => some? (compare op2 (view S y) (view S z)) fun u => .ret (.bl u) S else .ret (.bl false) S) (tT_eq (fun env S => by simp [evE]) h)) fun v H1 ⟨x, h2⟩ => ?_
    refine tT_mono (bind1 (Mono.c0.and .relD) h2) fun u H2 ⟨y, h4⟩ => ?_
    obtain ⟨r, env, S, t, st, c, e, h5⟩ := tT_some h4
    refine ⟨x, y, r, S, .bl t, st, ⟨c.1.2, c.2⟩, by simp only [cmpD, e, Option.map_some], fun d' S' w r' H' e1 x1 st1 rl => ?_⟩
    rw [mk_f] at e1
    cases e1
    cases rl
    refine ⟨t, rfl, ?_⟩
    have h6 := h5.ext ((Mono.c0.and .relD).and .relD) x1
    cases t with
    | false => exact h6.ret st1 rfl
    | true =>
      simp only [if_pos]
      have h7 : tT K nm (fun r H => (C0 r H ∧ Rel K nm r H x v) ∧ Rel K nm r H y u) (Rel K nm) W (fun env S => (evE R ec env S).bind fun z S => some? (compare op2 (view S y) (view S z)) fun u => .ret (.bl u) S) σ H' Q := Raw.tT (env := env) (S := S) (by simpa using h6) st1
      refine tT_mono (bind1 ((Mono.c0.and .relD).and .relD) h7) fun w H3 ⟨z, h8⟩ => ?_
      have h9 : tT K nm (fun r H => ((C0 r H ∧ Rel K nm r H x v) ∧ Rel K nm r H y u) ∧ Rel K nm r H z w) (Rel K nm) W (fun _ S => some? (cmpD op2 (view S y) (view S z)) fun d => .ret d S) σ H3 Q :=
        tT_eq (fun env S => by unfold cmpD; cases compare op2 (view S y) (view S z) <;> rfl) h8
      obtain ⟨env', r2, S2, d2, st2, c2, e2, k2⟩ := tT_fin0 h9
      exact ⟨y, z, r2, S2, d2, st2, ⟨c2.1.2, c2.2⟩, e2, k2⟩
theorem pe_cmp2D {a b c : Expr} {ea eb ec : E} {op op2 : Cm} {pos : Pos} (hu : X.A.units + 65 < cLine) (ha : PE X a (tE X.K nm W R ea)) (hb : PE X b (tE X.K nm W R eb)) (hc : PE X c (tE X.K nm W R ec)) (hm : lastMarks [op.py, op2.py] [b, c] = false) :
    PE X (.Compare a [op.py, op2.py] [b, c] pos) (tE X.K nm W R (.cmp2 ea op eb op2 ec)) :=
  (pe_chain (op_cmpD (nm := nm) hu op) (op_cmpD (nm := nm) hu op2) ha hb hc hm).weak fun σ H Q h => cmp2_weak h
theorem pt_cmp2D0 {a b c : Expr} {ea eb ec : E} {op op2 : Cm} {pos : Pos} (hu : X.A.units + 65 < cLine) (ha : PE X a (tE X.K nm W R ea)) (hb : PE X b (tE X.K nm W R eb)) (hc : PE X c (tE X.K nm W R ec)) (hm : lastMarks [op.py, op2.py] [b, c] = false) :
    PT X (.Compare a [op.py, op2.py] [b, c] pos) (tTest (tE X.K nm W R (.cmp2 ea op eb op2 ec))) :=
  (pt_chain (op_cmpD (nm := nm) hu op) (op_cmpD (nm := nm) hu op2) ha hb hc hm).weak fun σ H Q h => cmp2_weak h
/-! ### and, or, if -/
theorem pe_andD {pos : Pos} : ∀ (es : List Expr) (ds : List E), es.length = ds.length → (∀ (i : Nat) e d, es[i]? = some e → ds[i]? = some d → PE X e (tE X.K nm W R d)) → PE X (.BoolOp .And es pos) (tE X.K nm W R (.and ds))
  | [], [], _, _ => PE.none fun _ _ _ => tT_bad fun _ _ => by simp [evE, evAnd]
  | [], _ :: _, h, _ => by simp at h
  | _ :: _, [], h, _ => by simp at h
  | [e], [d], _, h => (pe_one (h 0 e d rfl rfl)).weak fun σ H Q q => tT_eq (fun env S => by simp [evE, evAnd]) q
  | [_], _ :: _ :: _, h, _ => by simp at h
  | _ :: _ :: _, [_], h, _ => by simp at h
  | e :: e2 :: es, d :: d2 :: ds, hl, h => by
    have ih := pe_andD (pos := pos) (e2 :: es) (d2 :: ds) (by simpa using hl) fun i e d h1 h2 => h (i + 1) e d (by simpa using h1) (by simpa using h2)
    refine (pe_andT (h 0 e d rfl rfl) ih).weak fun σ H Q q => ?_
    refine tT_mono (bind1 Mono.c0 (f := fun env x S => some? (truth (view S x)) fun t => if t then evAnd R (d2 :: ds) env S else .ret x S) (tT_eq (fun env S => by simp [evE, evAnd]) q)) fun v H1 ⟨x, h2⟩ => ?_
    obtain ⟨r, env, S, b, st, c, e1, h3⟩ := tT_some h2
    refine ⟨b, (c.2.view st).tru e1, ?_⟩
    cases b with
    | false => exact h3.ret st c.2
    | true =>
      obtain ⟨en, _, P, al, po⟩ := h3
      exact ⟨r, env, S, P, st, en, trivial, by simpa [evE] using al, po⟩
theorem pe_orD {pos : Pos} : ∀ (es : List Expr) (ds : List E), es.length = ds.length → (∀ (i : Nat) e d, es[i]? = some e → ds[i]? = some d → PE X e (tE X.K nm W R d)) → PE X (.BoolOp .Or es pos) (tE X.K nm W R (.or ds))
  | [], [], _, _ => PE.none fun _ _ _ => tT_bad fun _ _ => by simp [evE, evOr]
  | [], _ :: _, h, _ => by simp at h
  | _ :: _, [], h, _ => by simp at h
  | [e], [d], _, h => (pe_one (h 0 e d rfl rfl)).weak fun σ H Q q => tT_eq (fun env S => by simp [evE, evOr]) q
  | [_], _ :: _ :: _, h, _ => by simp at h
  | _ :: _ :: _, [_], h, _ => by simp at h
  | e :: e2 :: es, d :: d2 :: ds, hl, h => by
    have ih := pe_orD (pos := pos) (e2 :: es) (d2 :: ds) (by simpa using hl) fun i e d h1 h2 => h (i + 1) e d (by simpa using h1) (by simpa using h2)
    refine (pe_orT (h 0 e d rfl rfl) ih).weak fun σ H Q q => ?_
    refine tT_mono (bind1 Mono.c0 (f := fun env x S => some? (truth (view S x)) fun t => if t then .ret x S else evOr R (d2 :: ds) env S) (tT_eq (fun env S => by simp [evE, evOr]) q)) fun v H1 ⟨x, h2⟩ => ?_
    obtain ⟨r, env, S, b, st, c, e1, h3⟩ := tT_some h2
    refine ⟨b, (c.2.view st).tru e1, ?_⟩
    cases b with
    | true => exact h3.ret st c.2
    | false =>
      obtain ⟨en, _, P, al, po⟩ := h3
      exact ⟨r, env, S, P, st, en, trivial, by simpa [evE] using al, po⟩
theorem pe_ifD {c a b : Expr} {ec ea eb : E} {pos : Pos} (hc : PT X c (tB X.K nm W R ec)) (ha : PE X a (tE X.K nm W R ea)) (hb : PE X b (tE X.K nm W R eb)) : PE X (.IfExp c a b pos) (tE X.K nm W R (.ife ec ea eb)) :=
  (pe_ifExp hc ha hb).weak fun σ H Q h => by
    have h1 : tT X.K nm C0 (Rel X.K nm) W (fun env S => ((evE R ec env S).bind fun x S => some? (truth (view S x)) fun t => .ret t S).bind fun t S => if t then evE R ea env S else evE R eb env S) σ H Q :=
      tT_eq (fun env S => by
        simp only [evE, T.bind_assoc]
        congr
        funext x S
        cases truth (view S x) <;> simp) h
    refine tT_mono (tT_bind (rel1 := fun _ _ (b c : Bool) => b = c) Mono.c0 h1) fun t H1 ⟨x, h2⟩ => ?_
    obtain ⟨r, env, S, st, h3⟩ := tT_raw h2
    have e : x = t := h3.2.1.2
    subst e
    obtain ⟨en, _, P, al, po⟩ := h3
    cases x with
    | true => exact ⟨r, env, S, P, st, en, trivial, by simpa using al, po⟩
    | false => exact ⟨r, env, S, P, st, en, trivial, by simpa using al, po⟩
/-! ### tuples, lists -/
theorem star_cons {e : Expr} (h : isStar e = false) (es : List Expr) (env : Env) : starEach (e :: es) env = (false, eval e env) :: starEach es env := by
  cases e <;> first | rfl | (simp [isStar] at h)
theorem tEs_badHead {ds : List E} {σ : L2.St} {H : Hp} {Q : List V → Hp → Prop} : ¬ tEs K nm W R (.bad :: ds) σ H Q := tT_bad fun _ _ => by simp [evEs, evE]
theorem pa_D {g : Expr → E} : ∀ (es : List Expr), (∀ e ∈ es, PE X e (tE X.K nm W R (g e)) ∧ (isStar e = true → g e = .bad)) → PA X es (tEs X.K nm W R (es.map g))
  | [], _ => pa_nil.weak fun σ H Q h => by
    have h' : tT X.K nm C0 (Rels X.K nm) W (fun _ S => .ret [] S) σ H Q := tT_eq (fun env S => by simp [evEs]) h
    obtain ⟨r, _, k⟩ := tT_ret h'
    exact k [] rfl
  | e :: es, h => by
    obtain ⟨h1, h2⟩ := h e List.mem_cons_self
    by_cases hs : isStar e = true
    · rw [List.map_cons, h2 hs]
      exact PA.none fun _ _ _ => tEs_badHead
    · refine (pa_cons h1 (pa_D es fun e' he => h e' (List.mem_cons_of_mem _ he)) (star_cons (by simpa using hs) _ _)).weak fun σ H Q q => ?_
      refine tT_mono (bind1 Mono.c0 (f := fun env x S => (evEs R (es.map g) env S).bind fun xs S => .ret (x :: xs) S) (tT_eq (fun env S => by simp [evEs]) q)) fun v H1 ⟨x, h3⟩ => ?_
      refine tT_mono (bind1s (Mono.c0.and .relD) h3) fun vs H2 ⟨xs, h4⟩ => ?_
      obtain ⟨r, c, k⟩ := tT_ret h4
      exact k (v :: vs) ⟨v, vs, rfl, c.1.2, c.2⟩
theorem pe_tupD {es : List Expr} {ds : List E} {n : Nat} {pos : Pos} (h : PA X es (tEs X.K nm W R ds)) : PE X (.Tuple es n pos) (tE X.K nm W R (.tup ds)) :=
  (pe_tup h).weak fun σ H Q q => by
    refine tT_mono (bind1s Mono.c0 (f := fun env ds S => if ds.length ≤ line then .ret (.tup ds) S else .bad) (tT_eq (fun env S => by simp [evE]) q)) fun vs H1 ⟨xs, h4⟩ => ?_
    by_cases hl : xs.length ≤ line
    · have h5 : tT X.K nm (fun r H => C0 r H ∧ Rels X.K nm r H xs vs) (Rel X.K nm) W (fun _ S => some? (some (D.tup xs)) fun d => .ret d S) σ H1 Q := tT_eq (fun env S => by simp [hl]) h4
      obtain ⟨env, r, S, d, st, c, e, k⟩ := tT_fin0 (g := fun _ _ => some (D.tup xs)) h5
      cases e
      exact ⟨by rw [c.2.length, ← line_eq]; exact hl, fun p hp => Kont.tup k st hp c.2⟩
    · exact (tT_bad (fun _ _ => by simp [hl]) h4).elim
theorem pe_lstD {es : List Expr} {ds : List E} {mu : Bool} {pos : Pos} (h : PA X es (tEs X.K nm W R ds)) : PE X (.List es pos) (tE X.K nm W R (.lst mu ds)) :=
  (pe_lst h).weak fun σ H Q q => by
    refine tT_mono (bind1s Mono.c0 (f := fun env ds S => if ds.length ≤ line then mk mu (.lst ds) S else .bad) (tT_eq (fun env S => by simp [evE]) q)) fun vs H1 ⟨xs, h4⟩ => ?_
    by_cases hl : xs.length ≤ line
    · have h5 : tT X.K nm (fun r H => C0 r H ∧ Rels X.K nm r H xs vs) (Rel X.K nm) W (fun _ S => some? (some (D.lst xs)) fun d => mk mu d S) σ H1 Q := tT_eq (fun env S => by simp [hl]) h4
      obtain ⟨env, r, S, d, st, c, e, k⟩ := tT_fin (g := fun _ _ => some (D.lst xs)) h5
      cases e
      exact ⟨by rw [c.2.length, ← line_eq]; exact hl, fun p hp => Kont.lst k st hp c.2⟩
    · exact (tT_bad (fun _ _ => by simp [hl]) h4).elim
end
end Ic

set_option Elab.async false
set_option linter.all false
set_option maxRecDepth 100000
set_option maxHeartbeats 1000000
/-! Ic4b: dicts, slices, subscripts, attributes, built-ins. -/
namespace Ic
open PySem PySem.Spec PyProof.Rows L2
section
variable {X : Cx} {K : PySem.W.Frag} {nm : Nm} {Y : Sym} {P : Prog} {run : Nat → List D → Store → T D} {W : WX} {R : Rn}
theorem pe_dictD {mu : Bool} {pos : Pos} : PE X (.Dict [] [] pos) (tE X.K nm W R (.dict mu [] [])) :=
  pe_dnewK.weak fun σ H Q h => by
    have h5 : tT X.K nm C0 (Rel X.K nm) W (fun _ S => some? (some (D.dct [])) fun d => mk mu d S) σ H Q := tT_eq (fun env S => by simp [evE]) h
    obtain ⟨env, r, S, d, st, c, e, k⟩ := tT_fin (g := fun _ _ => some (D.dct [])) h5
    cases e
    exact fun p hp => Kont.dct (ks := []) k st hp rfl
theorem po_D {lo : Option Expr} {g : Expr → E} (h : ∀ e, lo = some e → PE X e (tE X.K nm W R (g e))) : PO X lo (tT X.K nm C0 (fun _ _ (a b : Option Int) => a = b) W (evO R (lo.map g))) := by
  cases lo with
  | none =>
    refine ⟨fun pins s σ H Q I q => po_none.run pins s σ H Q I ?_⟩
    have q' : tT X.K nm C0 (fun _ _ (a b : Option Int) => a = b) W (fun _ S => .ret none S) σ H Q := tT_eq (fun env S => by simp [evO]) q
    obtain ⟨r, _, k⟩ := tT_ret q'
    exact k none rfl
  | some e =>
    refine ⟨fun pins s σ H Q I q => (po_some (h e rfl)).run pins s σ H Q I ?_⟩
    refine tT_mono (bind1 Mono.c0 (f := fun _ x S => match x with
    | .int i => .ret (some i) S
    | _ => .bad) (tT_eq (fun env S => by (simp [evO]) <;> rfl) q)) fun v H1 ⟨x, h2⟩ => ?_
    cases x with
    | int i =>
      obtain ⟨r, c, k⟩ := tT_ret h2
      exact ⟨i, c.2, k (some i) rfl⟩
    | _ => exact (tT_bad (fun _ _ => rfl) h2).elim
theorem pe_slcD {a : Expr} {ea : E} {lo hi : Option Expr} {g : Expr → E} {mu : Bool} {p2 pos : Pos} (ha : PE X a (tE X.K nm W R ea)) (hl : ∀ e, lo = some e → PE X e (tE X.K nm W R (g e))) (hh : ∀ e, hi = some e → PE X e (tE X.K nm W R (g e))) :
    PE X (.Subscript a (.Slice lo hi none p2) pos) (tE X.K nm W R (.slc mu ea (lo.map g) (hi.map g))) :=
  (pe_slice (sl_D (nm := nm) (mu := mu)) ha (po_D hl) (po_D hh)).weak fun σ H Q q => by
    refine tT_mono (bind1 Mono.c0 (f := fun env x S => (evO R (lo.map g) env S).bind fun l S => (evO R (hi.map g) env S).bind fun h S => some? (slice (view S x) l h) fun d => mk mu d S) (tT_eq (fun env S => by simp [evE]) q)) fun v H1 ⟨x, h2⟩ => ?_
    refine tT_mono (tT_bind (rel1 := fun _ _ (a b : Option Int) => a = b) (Mono.c0.and .relD) h2) fun l H2 ⟨l', h3⟩ => ?_
    have hm : Mono X.K (fun r H => (C0 r H ∧ Rel X.K nm r H x v) ∧ l' = l) := (Mono.c0.and .relD).and fun _ _ _ _ _ h => h
    refine tT_mono (tT_bind (rel1 := fun _ _ (a b : Option Int) => a = b) hm h3) fun u H3 ⟨u', h4⟩ => ?_
    obtain ⟨env, r, S, d, st, c, e, k⟩ := tT_fin (g := fun _ S => slice (view S x) l' u') h4
    obtain ⟨⟨⟨_, c1⟩, e1⟩, e2⟩ := c
    subst e1 e2
    exact ⟨x, r, S, d, st, c1, e, k⟩
theorem pe_backD {a : Expr} {ea : E} {mu : Bool} {k : Nat} {p1 p2 p3 pos : Pos} (ha : PE X a (tE X.K nm W R ea)) :
    PE X (.Subscript a (.Slice none none (some (.UnaryOp .USub (.Constant (.int 1) k p1) p2)) p3) pos) (tE X.K nm W R (.back mu ea)) :=
  (pe_revA ha).weak fun σ H Q q => by
    refine tT_mono (bind1 Mono.c0 (f := fun env x S => some? (backw (view S x)) fun d => mk mu d S) (tT_eq (fun env S => by simp [evE]) q)) fun v H1 ⟨x, h2⟩ => ?_
    obtain ⟨env, r, S, d, st, c, e, k⟩ := tT_fin (g := fun _ S => backw (view S x)) h2
    have w := c.2.view st
    cases ea : view S x <;> rw [ea] at w <;> simp only [ea, backw, reduceCtorEq] at e
    · cases e
      obtain ⟨b, ws, rfl, q, z⟩ := w
      exact ⟨b, ws, rfl, .inr ⟨q, fun p hp => Kont.tup k st hp z.reverse⟩⟩
    · cases e
      obtain ⟨b, ws, rfl, q, z⟩ := w
      exact ⟨b, ws, rfl, .inl ⟨SqL.of q, fun p hp => Kont.lst k st hp z.reverse⟩⟩
theorem pe_idxD {a b : Expr} {ea eb : E} {pos : Pos} (hu : X.A.units + 65 < cLine) (ha : PE X a (tE X.K nm W R ea)) (hb : PE X b (tE X.K nm W R eb)) (hs : PlainIx b) : PE X (.Subscript a b pos) (tE X.K nm W R (.idx ea eb)) :=
  (pe_ix (ix_D (nm := nm) (by omega)) ha hb hs).weak fun σ H Q h => by
    refine tT_mono (bind1 Mono.c0 (f := fun env x S => (evE R eb env S).bind fun y S => some? (index (view S x) y) fun d => .ret d S) (tT_eq (fun env S => by simp [evE]) h)) fun v H1 ⟨x, h2⟩ => ?_
    refine tT_mono (bind1 (Mono.c0.and .relD) h2) fun u H2 ⟨y, h4⟩ => ?_
    obtain ⟨env, r, S, d, st, c, e, k⟩ := tT_fin0 (g := fun _ S => index (view S x) y) h4
    exact ⟨x, y, r, S, d, st, ⟨c.1.2, c.2⟩, e, k⟩
theorem lookF_rel {r : Rl} {H : Hp} (inj : nm.att.Nodup) {i : Nat} {x : Str} (hx : nm.att[i]? = some x) : ∀ {fs : List (Nat × D)} {vs : List (Str × V)} {d : D}, RelFs K nm r H fs vs → lookF fs i = some d → ∃ v, vs.lookup x = some v ∧ Rel K nm r H d v
  | [], _, _, _, e => by simp [lookF] at e
  | (f, d0) :: fs, _, d, h, e => by
    obtain ⟨s, v, ws, e1, h0, h1, h2⟩ := h
    subst e1
    by_cases hf : f = i
    · subst hf
      rw [hx] at h0
      cases h0
      simp [lookF, List.find?_cons] at e
      subst e
      exact ⟨v, by simp [List.lookup], h1⟩
    · have ne : x ≠ s := by
        rintro rfl
        obtain ⟨a1, b1⟩ := List.getElem?_eq_some_iff.mp hx
        obtain ⟨a2, b2⟩ := List.getElem?_eq_some_iff.mp h0
        exact hf ((List.getElem_inj inj).mp (b2.trans b1.symm))
      have e' : lookF fs i = some d := by
        simpa [lookF, List.find?_cons, show (f == i) = false from beq_eq_false_iff_ne.mpr hf] using e
      obtain ⟨v', q, z⟩ := lookF_rel inj hx h2 e'
      exact ⟨v', by simp only [List.lookup, beq_eq_false_iff_ne.mpr ne]; exact q, z⟩
theorem pe_fldD (G : Good X nm Y P run W) {a : Expr} {ea : E} {f : Str} {i : Nat} {pos : Pos} (hf : find? Y.att f = some i) (ha : PE X a (tE X.K nm W R ea)) (hb : attributeBase a f X.env (eval a X.env) = eval a X.env) : PE X (.Attribute a f pos) (tE X.K nm W R (.fld ea i)) :=
  (pe_fld ha hb).weak fun σ H Q h => by
    refine tT_mono (bind1 Mono.c0 (f := fun env x S => match view S x with
    | .ins _ fs => some? (lookF fs i) fun d => .ret d S
    | _ => .bad) (tT_eq (fun env S => by (simp [evE]) <;> rfl) h)) fun v H1 ⟨x, h2⟩ => ?_
    obtain ⟨r, env, S, st, h3⟩ := tT_raw h2
    have w := h3.2.1.2.view st
    cases ea : view S x <;> rw [ea] at w <;> simp only [ea] at h3
    all_goals first
      | (obtain ⟨_, _, _, al, _⟩ := h3; exact al.elim)
      | skip
    rename_i c fs
    obtain ⟨b, C, dx, fvs, rfl, hC, q, z⟩ := w
    cases e : lookF fs i with
    | none => rw [e] at h3; obtain ⟨_, _, _, al, _⟩ := h3; exact al.elim
    | some d =>
      rw [e] at h3
      obtain ⟨w', l, rl⟩ := lookF_rel G.ainj (G.att f i hf) z e
      exact ⟨b, C, dx, fvs, w', rfl, q, (G.cls c C hC).1, (G.cls c C hC).2 f i hf, l, h3.ret st rl⟩
/-! ### built-ins -/
def rBi (K : PySem.W.Frag) (nm : Nm) (b : Bi) (mu : Bool) : List V → Hp → VK → Prop := fun vs H Q => ∃ ds, Fin' K nm (fun r H => Rels K nm r H ds vs) (fun S => bi b (ds.map (view S))) mu H Q
theorem callr_of {id : Value} {b : Bi} {mu : Bool} (h : ∀ (pins : List (Addr × Obj)) (s : Shared) (σ : L2.St) (H : Hp) (vs : List V) (us : List Value) (Q : VK), Inv X pins σ H s → Vals vs us →
      ∀ (r : Rl) (S : Store) (ds : List D) (d : D), Sto X.K nm r H S → Rels X.K nm r H ds vs → bi b (ds.map (view S)) = some d → Kont X.K nm r H S mu d Q → wpAny (model X.prog X.w) X.A (call id us) (EP X pins σ Q) X.xe s) :
    CallR X id (rBi X.K nm b mu) := by
  intro pins s σ H vs us Q I rv ⟨ds, r, S, d, st, h1, e, k⟩
  exact h pins s σ H vs us Q I rv r S ds d st h1 e k
theorem rels1 {r : Rl} {H : Hp} {d : D} {vs : List V} (h : Rels K nm r H [d] vs) : ∃ v, vs = [v] ∧ Rel K nm r H d v := by
  obtain ⟨v, ws, e, h1, h2⟩ := h
  rw [show ws = [] from h2] at e
  exact ⟨v, e, h1⟩
theorem rels2 {r : Rl} {H : Hp} {d d2 : D} {vs : List V} (h : Rels K nm r H [d, d2] vs) : ∃ v u, vs = [v, u] ∧ Rel K nm r H d v ∧ Rel K nm r H d2 u := by
  obtain ⟨v, ws, e, h1, h2⟩ := h
  obtain ⟨u, e2, h3⟩ := rels1 h2
  subst e2
  exact ⟨v, u, e, h1, h3⟩
/-- one argument -/
theorem bi_one {b : Bi} {S : Store} {ds : List D} {d : D} (h1 : ∀ a c l, bi b (a :: c :: l) = none) (h0 : bi b [] = none) (e : bi b (ds.map (view S)) = some d) : ∃ a, ds = [a] ∧ bi b [view S a] = some d := by
  cases ds with
  | nil => rw [List.map_nil, h0] at e; cases e
  | cons a l =>
    cases l with
    | nil => exact ⟨a, rfl, e⟩
    | cons c l => rw [List.map_cons, List.map_cons, h1] at e; cases e
theorem bi_len {mu : Bool} : CallR X (.builtin "len") (rBi X.K nm .len mu) := by
  refine callr_of fun pins s σ H vs us Q I rv r S ds d st h e k => ?_
  obtain ⟨a, hds, e'⟩ := bi_one (by intros; simp [bi]) (by simp [bi]) e
  subst hds
  clear e
  have e := e'
  clear e'
  obtain ⟨v, rfl, h1⟩ := rels1 h
  have w := h1.view st
  cases ea : view S a <;> rw [ea] at w <;> simp only [ea, bi, reduceCtorEq] at e
  · split at e
    · rename_i hc
      cases e; cases w
      exact call_len pins s σ H _ us Q I rv ⟨_, _, rfl, ⟨by rw [← line_eq]; exact hc, rfl⟩, Kont.int k st⟩
    · cases e
  · cases e
    obtain ⟨b, ws, rfl, q, z⟩ := w
    exact call_len pins s σ H _ us Q I rv ⟨_, _, rfl, .inr ⟨ws, q, rfl⟩, by rw [z.length]; exact Kont.int k st⟩
  · cases e
    obtain ⟨b, ws, rfl, q, z⟩ := w
    exact call_len pins s σ H _ us Q I rv ⟨_, _, rfl, .inl ⟨ws, SqL.of q, rfl⟩, by rw [z.length]; exact Kont.int k st⟩
  · cases e
    obtain ⟨b, rfl, q⟩ := w
    exact call_len pins s σ H _ us Q I rv ⟨_, _, rfl, .inl ⟨_, q.sq, rfl⟩, by rw [List.length_map]; exact Kont.int k st⟩
  · cases e
    obtain ⟨b, ks, rfl, q, z⟩ := w
    obtain ⟨u, rfl, ru⟩ := vals1 rv
    obtain rfl : u = Value.ref b := ru
    exact d_len I (Rd.of q) fun t s' I' => ⟨.int ks.length, H, I', ⟨t, rfl⟩, by rw [z.length]; exact Kont.int k st⟩
theorem bi_tuple {mu : Bool} : CallR X (.type "tuple") (rBi X.K nm .tuple mu) := by
  refine callr_of fun pins s σ H vs us Q I rv r S ds d st h e k => ?_
  obtain ⟨a, hds, e'⟩ := bi_one (by intros; simp [bi]) (by simp [bi]) e
  subst hds
  clear e
  have e := e'
  clear e'
  obtain ⟨v, rfl, h1⟩ := rels1 h
  have w := h1.view st
  cases ea : view S a <;> rw [ea] at w <;> simp only [ea, bi, reduceCtorEq] at e
  · cases e
    obtain ⟨b, ws, rfl, q, z⟩ := w
    exact call_tuple_of pins s σ H _ us Q I rv ⟨b, ws, rfl, .inr ⟨q, Kont.tupS k st ⟨b, ws, rfl, q, z⟩⟩⟩
  · cases e
    obtain ⟨b, ws, rfl, q, z⟩ := w
    exact call_tuple_of pins s σ H _ us Q I rv ⟨b, ws, rfl, .inl ⟨SqL.of q, fun p hp => Kont.tup k st hp z⟩⟩
theorem bi_list {mu : Bool} : CallR X (.type "list") (rBi X.K nm .list mu) := by
  refine callr_of fun pins s σ H vs us Q I rv r S ds d st h e k => ?_
  obtain ⟨a, hds, e'⟩ := bi_one (by intros; simp [bi]) (by simp [bi]) e
  subst hds
  clear e
  have e := e'
  clear e'
  obtain ⟨v, rfl, h1⟩ := rels1 h
  have w := h1.view st
  cases ea : view S a <;> rw [ea] at w <;> simp only [ea, bi, reduceCtorEq] at e
  · cases e
    obtain ⟨b, ws, rfl, q, z⟩ := w
    exact call_list_of pins s σ H _ us Q I rv ⟨b, ws, rfl, .inr q, fun p hp => Kont.lst k st hp z⟩
  · cases e
    obtain ⟨b, ws, rfl, q, z⟩ := w
    exact call_list_of pins s σ H _ us Q I rv ⟨b, ws, rfl, .inl (SqL.of q), fun p hp => Kont.lst k st hp z⟩
  · cases e
    obtain ⟨b, rfl, q⟩ := w
    exact call_list_of pins s σ H _ us Q I rv ⟨b, _, rfl, .inl q.sq, fun p hp => Kont.lst k st hp (rels_ints _)⟩
theorem insI_perm (x : Int) : ∀ l : List Int, (insI x l).Perm (x :: l)
  | [] => .refl _
  | y :: r => by
    unfold insI
    split
    · exact .refl _
    · exact ((insI_perm x r).cons y).trans (.swap x y r)
theorem sortI_perm : ∀ l : List Int, (sortI l).Perm l
  | [] => .refl _
  | x :: r => (insI_perm x _).trans ((sortI_perm r).cons x)
theorem insI_sorted (x : Int) : ∀ l : List Int, l.Pairwise (· ≤ ·) → (insI x l).Pairwise (· ≤ ·)
  | [], _ => by simp [insI]
  | y :: r, h => by
    rw [List.pairwise_cons] at h
    unfold insI
    split
    · rename_i hx
      rw [List.pairwise_cons]
      refine ⟨fun z hz => ?_, List.pairwise_cons.mpr h⟩
      rcases List.mem_cons.mp hz with rfl | hz
      · exact hx
      · exact Int.le_trans hx (h.1 z hz)
    · rename_i hx
      rw [List.pairwise_cons]
      refine ⟨fun z hz => ?_, insI_sorted x r h.2⟩
      rcases List.mem_cons.mp ((insI_perm x r).mem_iff.mp hz) with rfl | hz
      · omega
      · exact h.1 z hz
theorem sortI_sorted : ∀ l : List Int, (sortI l).Pairwise (· ≤ ·)
  | [] => .nil
  | x :: r => insI_sorted x _ (sortI_sorted r)
theorem sort_unique : ∀ {l m : List Int}, l.Perm m → l.Pairwise (· ≤ ·) → m.Pairwise (· ≤ ·) → l = m
  | [], m, p, _, _ => by rw [List.nil_perm.mp p]
  | x :: l, [], p, _, _ => absurd p.length_eq (by simp)
  | x :: l, y :: m, p, h, g => by
    rw [List.pairwise_cons] at h g
    have e : x = y := by
      have h1 : x ∈ y :: m := p.mem_iff.mp List.mem_cons_self
      have h2 : y ∈ x :: l := p.mem_iff.mpr List.mem_cons_self
      rcases List.mem_cons.mp h1 with e | h1
      · exact e
      · rcases List.mem_cons.mp h2 with e | h2
        · exact e.symm
        · exact Int.le_antisymm (h.1 y h2) (g.1 x h1)
    subst e
    rw [sort_unique p.cons_inv h.2 g.2]
theorem bi_sorted {mu : Bool} : CallR X (.builtin "sorted") (rBi X.K nm .sorted mu) := by
  refine callr_of fun pins s σ H vs us Q I rv r S ds d st h e k => ?_
  obtain ⟨a, hds, e'⟩ := bi_one (by intros; simp [bi]) (by simp [bi]) e
  subst hds
  clear e
  have e := e'
  clear e'
  obtain ⟨v, rfl, h1⟩ := rels1 h
  have w := h1.view st
  cases ea : view S a <;> rw [ea] at w <;> simp only [ea, bi, reduceCtorEq] at e
  obtain ⟨ns, hn, rfl⟩ := Option.map_eq_some_iff.mp e
  obtain ⟨b, ws, rfl, q, z⟩ := w
  have := z.ints hn
  subst this
  refine cr_sortedI pins s σ H _ us Q I rv ⟨b, ns, rfl, SqL.of q, fun ns' p pm so hp => ?_⟩
  have e2 : ns' = sortI ns := sort_unique (pm.trans (sortI_perm ns).symm) so (sortI_sorted ns)
  rw [e2]
  exact Kont.lst k st hp (rels_ints _)
theorem bi_sum {mu : Bool} (hc : X.calm = true) : CallR X (.builtin "sum") (rBi X.K nm .sum mu) := by
  refine callr_of fun pins s σ H vs us Q I rv r S ds d st h e k => ?_
  obtain ⟨a, hds, e'⟩ := bi_one (by intros; simp [bi]) (by simp [bi]) e
  subst hds
  clear e
  have e := e'
  clear e'
  obtain ⟨v, rfl, h1⟩ := rels1 h
  have w := h1.view st
  cases ea : view S a <;> rw [ea] at w <;> simp only [ea, bi, reduceCtorEq] at e
  obtain ⟨ns, hn, rfl⟩ := Option.map_eq_some_iff.mp e
  obtain ⟨b, ws, rfl, q, z⟩ := w
  have := z.ints hn
  subst this
  exact cr_sum hc pins s σ H _ us Q I rv ⟨b, ns, rfl, SqL.of q, Kont.int k st⟩
theorem bi_all {mu : Bool} (hc : X.calm = true) : CallR X (.builtin "all") (rBi X.K nm .all mu) := by
  refine callr_of fun pins s σ H vs us Q I rv r S ds d st h e k => ?_
  obtain ⟨a, hds, e'⟩ := bi_one (by intros; simp [bi]) (by simp [bi]) e
  subst hds
  clear e
  have e := e'
  clear e'
  obtain ⟨v, rfl, h1⟩ := rels1 h
  have w := h1.view st
  cases ea : view S a <;> rw [ea] at w <;> simp only [ea, bi, reduceCtorEq] at e
  obtain ⟨ns, hn, rfl⟩ := Option.map_eq_some_iff.mp e
  obtain ⟨b, ws, rfl, q, z⟩ := w
  have := z.bools hn
  subst this
  exact cr_all hc pins s σ H _ us Q I rv ⟨b, ns, rfl, SqL.of q, Kont.bl k st⟩
theorem bi_any {mu : Bool} (hc : X.calm = true) : CallR X (.builtin "any") (rBi X.K nm .any mu) := by
  refine callr_of fun pins s σ H vs us Q I rv r S ds d st h e k => ?_
  obtain ⟨a, hds, e'⟩ := bi_one (by intros; simp [bi]) (by simp [bi]) e
  subst hds
  clear e
  have e := e'
  clear e'
  obtain ⟨v, rfl, h1⟩ := rels1 h
  have w := h1.view st
  cases ea : view S a <;> rw [ea] at w <;> simp only [ea, bi, reduceCtorEq] at e
  obtain ⟨ns, hn, rfl⟩ := Option.map_eq_some_iff.mp e
  obtain ⟨b, ws, rfl, q, z⟩ := w
  have := z.bools hn
  subst this
  exact cr_any hc pins s σ H _ us Q I rv ⟨b, ns, rfl, SqL.of q, Kont.bl k st⟩
theorem bi_abs {mu : Bool} : CallR X (.builtin "abs") (rBi X.K nm .abs mu) := by
  refine callr_of fun pins s σ H vs us Q I rv r S ds d st h e k => ?_
  obtain ⟨a, hds, e'⟩ := bi_one (by intros; simp [bi]) (by simp [bi]) e
  subst hds
  clear e
  have e := e'
  clear e'
  obtain ⟨v, rfl, h1⟩ := rels1 h
  have w := h1.view st
  cases ea : view S a <;> rw [ea] at w <;> simp only [ea, bi, reduceCtorEq] at e
  cases e; cases w
  exact call_abs pins s σ H _ us Q I rv ⟨_, rfl, Kont.int k st⟩
theorem bi_int {mu : Bool} : CallR X (.type "int") (rBi X.K nm .int mu) := by
  refine callr_of fun pins s σ H vs us Q I rv r S ds d st h e k => ?_
  obtain ⟨a, hds, e'⟩ := bi_one (by intros; simp [bi]) (by simp [bi]) e
  subst hds
  clear e
  have e := e'
  clear e'
  obtain ⟨v, rfl, h1⟩ := rels1 h
  have w := h1.view st
  cases ea : view S a <;> rw [ea] at w <;> simp only [ea, bi, reduceCtorEq] at e
  · cases e; cases w
    exact call_int1 pins s σ H _ us Q I rv (.inr ⟨_, rfl, Kont.int k st⟩)
  · cases e; cases w
    exact call_int1 pins s σ H _ us Q I rv (.inl ⟨_, rfl, Kont.int k st⟩)
theorem bi_two {b : Bi} {S : Store} {ds : List D} {d : D} (h2 : ∀ a c e l, bi b (a :: c :: e :: l) = none) (h1 : ∀ a, bi b [a] = none) (h0 : bi b [] = none) (e : bi b (ds.map (view S)) = some d) : ∃ a c, ds = [a, c] ∧ bi b [view S a, view S c] = some d := by
  match ds, e with
  | [], e => rw [List.map_nil, h0] at e; cases e
  | [a], e => rw [List.map_cons, List.map_nil, h1] at e; cases e
  | [a, c], e => exact ⟨a, c, rfl, e⟩
  | a :: c :: x :: l, e => rw [List.map_cons, List.map_cons, List.map_cons, h2] at e; cases e
theorem bi_max {mu : Bool} (hc : X.calm = true) : CallR X (.builtin "max") (rBi X.K nm .max mu) := by
  refine callr_of fun pins s σ H vs us Q I rv r S ds d st h e k => ?_
  obtain ⟨a, b, hds, e'⟩ := bi_two (by intros; simp [bi]) (by intros; simp [bi]) (by simp [bi]) e
  subst hds
  clear e
  have e := e'
  clear e'
  obtain ⟨v, u, rfl, h1, h2⟩ := rels2 h
  have w1 := h1.view st
  have w2 := h2.view st
  cases ea : view S a <;> rw [ea] at w1 <;> simp only [ea, bi, reduceCtorEq] at e
  cases eb : view S b <;> rw [eb] at w2 <;> simp only [eb, bi, reduceCtorEq] at e
  cases e; cases w1; cases w2
  exact call_max2 hc pins s σ H _ us Q I rv ⟨_, _, rfl, Kont.int k st⟩
theorem intsOf_py : ∀ {xs : List D} {ns : List Int}, intsOf xs = some ns → pyDs xs = ns.map .int ∧ oks 0 xs = true
  | [], ns, h => by
    simp only [intsOf, Option.some.injEq] at h
    subst h
    exact ⟨by simp [pyDs], by simp [oks]⟩
  | d :: xs, ns, h => by
    cases d <;> simp only [intsOf, reduceCtorEq] at h
    obtain ⟨r, hr, rfl⟩ := Option.map_eq_some_iff.mp h
    obtain ⟨h1, h2⟩ := intsOf_py hr
    exact ⟨by simp [pyDs, pyD, h1], by simp [oks, D.ok, h2]⟩
theorem intss_py : ∀ {xs : List D} {nss : List (List Int)}, intss xs = some nss → pyDs xs = nss.map tiP ∧ oks 1 xs = true ∧ xs.length = nss.length ∧ ∀ d ∈ xs, ∃ ys, d = .tup ys
  | [], ns, h => by
    simp only [intss, Option.some.injEq] at h
    subst h
    exact ⟨by simp [pyDs], by simp [oks], rfl, fun _ h => by cases h⟩
  | d :: xs, nss, h => by
    cases d <;> simp only [intss, reduceCtorEq] at h
    rename_i ys
    obtain ⟨ns, hn, h⟩ := Option.bind_eq_some_iff.mp h
    obtain ⟨r, hr, rfl⟩ := Option.map_eq_some_iff.mp h
    obtain ⟨h1, h2, h3, h4⟩ := intss_py hr
    obtain ⟨g1, g2⟩ := intsOf_py hn
    refine ⟨by simp [pyDs, pyD, h1, g1, tiP], by simp [oks, D.ok, h2, g2], by simp [h3], fun d hd => ?_⟩
    rcases List.mem_cons.mp hd with rfl | hd
    · exact ⟨_, rfl⟩
    · exact h4 d hd
theorem bi_min {mu : Bool} (hc : X.calm = true) (hu : X.A.units + 10 < cLine) : CallR X (.builtin "min") (rBi X.K nm .min mu) := by
  refine callr_of fun pins s σ H vs us Q I rv r S ds d st h e k => ?_
  match ds, e, h with
  | [], e, _ => simp [bi] at e
  | _ :: _ :: _ :: _, e, _ => simp [bi] at e
  | [a], e, h =>
    obtain ⟨v, rfl, h1⟩ := rels1 h
    have w := h1.view st
    simp only [List.map_cons, List.map_nil] at e
    cases ea : view S a <;> rw [ea] at w <;> simp only [ea, bi, reduceCtorEq] at e
    rename_i xs
    obtain ⟨nss, ei, e⟩ := Option.bind_eq_some_iff.mp e
    split at e
    · cases e
    rename_i hne
    obtain ⟨p1, p2, p3, p4⟩ := intss_py ei
    obtain ⟨b, ws, rfl, q, z⟩ := w
    obtain ⟨its, rvs, ⟨o, m, ho, hcl, _, hd⟩, _⟩ := I.list (SqL.of q)
    have hL : s.heap.IsList b its.toArray := ⟨o, ho, hcl, m, hd⟩
    obtain ⟨as, hr⟩ := Dp.readsAll I (pyDs xs) ws its (dps_of 1 xs ws p2 z) rvs
    rw [p1] at hr
    rw [Vals.ref1 rv]
    refine min_list_ti (I.ok.hd hc) hL hr (by intro hz; subst hz; simp at hne) hu fun v h' tk hv hk => ?_
    rw [← bestT_arg] at hv
    obtain ⟨w', hw, rel⟩ := z.get e
    obtain ⟨u, hu', rel'⟩ := rvs.get hw
    have : u = v := by
      have hv' : its[bestT nss (nss.length - 1)]? = some v := by simpa using hv
      rw [hu'] at hv'
      exact Option.some.inj hv'
    subst this
    obtain ⟨ys, rfl⟩ := p4 d (List.mem_of_getElem? e)
    exact ⟨w', H, I.kept hk, rel', Kont.tupS k st rel⟩
  | [a, b], e, h =>
    obtain ⟨v, u, rfl, h1, h2⟩ := rels2 h
    have w1 := h1.view st
    have w2 := h2.view st
    simp only [List.map_cons, List.map_nil] at e
    cases ea : view S a <;> rw [ea] at w1 <;> simp only [ea, bi, reduceCtorEq] at e
    · cases eb : view S b <;> rw [eb] at w2 <;> simp only [eb, bi, reduceCtorEq] at e
      cases e; cases w1; cases w2
      exact call_min2 hc pins s σ H _ us Q I rv ⟨_, _, rfl, Kont.int k st⟩
    · cases eb : view S b <;> rw [eb] at w2 <;> simp only [eb, bi, reduceCtorEq] at e
      rename_i xs ys
      obtain ⟨ns, en, e⟩ := Option.bind_eq_some_iff.mp e
      obtain ⟨ms, em, e⟩ := Option.map_eq_some_iff.mp e
      subst e
      obtain ⟨p1, p2⟩ := intsOf_py en
      obtain ⟨q1, q2⟩ := intsOf_py em
      have d1 : Dp X.K H v (tiP ns) := by
        have := w1.dp (n := 1) (by simp [D.ok, p2])
        rwa [show pyD (.tup xs) = tiP ns by simp [pyD, p1, tiP]] at this
      have d2 : Dp X.K H u (tiP ms) := by
        have := w2.dp (n := 1) (by simp [D.ok, q2])
        rwa [show pyD (.tup ys) = tiP ms by simp [pyD, q1, tiP]] at this
      obtain ⟨as, hr⟩ := Dp.readsAll I [tiP ns, tiP ms] [v, u] us (.cons d1 (.cons d2 .nil)) rv
      obtain ⟨u1, u2, rfl, r1, r2⟩ := vals2 rv
      refine min_two_ti (I.ok.hd hc) hr hu fun h' tk hk => ?_
      by_cases hl : lexLt ms ns = true
      · rw [if_pos hl]
        rw [if_pos hl] at k
        exact ⟨u, H, I.kept hk, r2, Kont.tupS k st w2⟩
      · rw [if_neg hl]
        rw [if_neg hl] at k
        exact ⟨v, H, I.kept hk, r1, Kont.tupS k st w1⟩
end
end Ic

set_option Elab.async false
set_option linter.all false
set_option maxRecDepth 100000
set_option maxHeartbeats 1000000
/-! Ic4c: calls. -/
namespace Ic
open PySem PySem.Spec PyProof.Rows L2
section
variable {K : PySem.W.Frag} {nm : Nm} {r r' : Rl} {H : Hp} {S : Store}
mutual
/-- data without objects stand so for any places of objects -/
theorem Rel.pure (ro : ∀ a, Off r a → Off r' a) (rR : ∀ a ∈ r.R, a ∈ r'.R) : ∀ {d : D} {v : V}, d.pu = true → Rel K nm r H d v → Rel K nm r' H d v
  | .non, _, _, h => h
  | .bl _, _, _, h => h
  | .int _, _, _, h => h
  | .str _, _, _, h => h
  | .tup xs, _, p, h => let ⟨a, vs, e, q, z⟩ := h; ⟨a, vs, e, q, Rels.pure ro rR (by simpa [D.pu] using p) z⟩
  | .lst xs, _, p, h => let ⟨a, vs, e, of, q, z⟩ := h; ⟨a, vs, e, ro a of, q, Rels.pure ro rR (by simpa [D.pu] using p) z⟩
  | .scr _, _, _, h => let ⟨a, e, q⟩ := h; ⟨a, e, q.imp (fun q => ⟨q.1, ro a q.2⟩) id⟩
  | .dct xs, _, p, h => let ⟨a, vs, e, of, q, z⟩ := h; ⟨a, vs, e, ro a of, q, RelKs.pure ro rR (by simpa [D.pu] using p) z⟩
  | .set _, _, _, h => let ⟨a, S, e, of, q⟩ := h; ⟨a, S, e, ro a of, q⟩
  | .ins _ xs, _, p, h => let ⟨a, C, dx, vs, e, of, c, q, z⟩ := h; ⟨a, C, dx, vs, e, ro a of, c, q, RelFs.pure ro rR (by simpa [D.pu] using p) z⟩
  | .rng, _, _, h => let ⟨a, e, q⟩ := h; ⟨a, e, rR a q⟩
  | .obj _, _, p, _ => by simp [D.pu] at p
theorem Rels.pure (ro : ∀ a, Off r a → Off r' a) (rR : ∀ a ∈ r.R, a ∈ r'.R) : ∀ {d : List D} {v : List V}, pus d = true → Rels K nm r H d v → Rels K nm r' H d v
  | [], _, _, h => h
  | d :: ds, _, p, h => by
    obtain ⟨v, ws, e, h1, h2⟩ := h
    simp only [pus, Bool.and_eq_true] at p
    exact ⟨v, ws, e, Rel.pure ro rR p.1 h1, Rels.pure ro rR p.2 h2⟩
theorem RelKs.pure (ro : ∀ a, Off r a → Off r' a) (rR : ∀ a ∈ r.R, a ∈ r'.R) : ∀ {d : List (D × D)} {v : List (Key × V)}, puks d = true → RelKs K nm r H d v → RelKs K nm r' H d v
  | [], _, _, h => h
  | (k, d) :: ds, _, p, h => by
    obtain ⟨key, v, ws, e, h0, h1, h2⟩ := h
    simp only [puks, Bool.and_eq_true] at p
    exact ⟨key, v, ws, e, h0, Rel.pure ro rR p.1.2 h1, RelKs.pure ro rR p.2 h2⟩
theorem RelFs.pure (ro : ∀ a, Off r a → Off r' a) (rR : ∀ a ∈ r.R, a ∈ r'.R) : ∀ {d : List (Nat × D)} {v : List (Str × V)}, pufs d = true → RelFs K nm r H d v → RelFs K nm r' H d v
  | [], _, _, h => h
  | (k, d) :: ds, _, p, h => by
    obtain ⟨s, v, ws, e, h0, h1, h2⟩ := h
    simp only [pufs, Bool.and_eq_true] at p
    exact ⟨s, v, ws, e, h0, Rel.pure ro rR p.1 h1, RelFs.pure ro rR p.2 h2⟩
end
section
variable {g : Nat → Option D} (off : ∀ a, Off r a → Off r' a) (rR : ∀ a ∈ r.R, a ∈ r'.R) (hg : ∀ (n : Nat) a, r.m[n]? = some a → ∀ d', g n = some d' → Rel K nm r' H d' (.ref a))
include off rR hg
mutual
theorem Rel.frz : ∀ {d : D} {v : V} {d' : D}, Rel K nm r H d v → d.frz g = some d' → Rel K nm r' H d' v
  | .non, _, _, h, e => by simp [D.frz] at e; subst e; exact h
  | .bl _, _, _, h, e => by simp [D.frz] at e; subst e; exact h
  | .int _, _, _, h, e => by simp [D.frz] at e; subst e; exact h
  | .str _, _, _, h, e => by simp [D.frz] at e; subst e; exact h
  | .tup xs, _, _, h, e => by
    obtain ⟨a, vs, e1, q, z⟩ := h
    simp only [D.frz, Option.map_eq_some_iff] at e
    obtain ⟨ys, e2, rfl⟩ := e
    exact ⟨a, vs, e1, q, Rels.frz z e2⟩
  | .lst xs, _, _, h, e => by
    obtain ⟨a, vs, e1, of, q, z⟩ := h
    simp only [D.frz, Option.map_eq_some_iff] at e
    obtain ⟨ys, e2, rfl⟩ := e
    exact ⟨a, vs, e1, off a of, q, Rels.frz z e2⟩
  | .scr _, _, _, h, e => by
    simp [D.frz] at e; subst e
    obtain ⟨a, e1, q⟩ := h
    exact ⟨a, e1, q.imp (fun q => ⟨q.1, off a q.2⟩) id⟩
  | .dct xs, _, _, h, e => by
    obtain ⟨a, vs, e1, of, q, z⟩ := h
    simp only [D.frz, Option.map_eq_some_iff] at e
    obtain ⟨ys, e2, rfl⟩ := e
    exact ⟨a, vs, e1, off a of, q, RelKs.frz z e2⟩
  | .set _, _, _, h, e => by
    simp [D.frz] at e; subst e
    obtain ⟨a, S, e1, of, q⟩ := h
    exact ⟨a, S, e1, off a of, q⟩
  | .ins c xs, _, _, h, e => by
    obtain ⟨a, C, dx, vs, e1, of, hc, q, z⟩ := h
    simp only [D.frz, Option.map_eq_some_iff] at e
    obtain ⟨ys, e2, rfl⟩ := e
    exact ⟨a, C, dx, vs, e1, off a of, hc, q, RelFs.frz z e2⟩
  | .rng, _, _, h, e => by
    simp [D.frz] at e; subst e
    obtain ⟨a, e1, q⟩ := h
    exact ⟨a, e1, rR a q⟩
  | .obj n, _, _, h, e => by
    obtain ⟨a, rfl, hm⟩ := h
    simp only [D.frz] at e
    exact hg n a hm _ e
theorem Rels.frz : ∀ {d : List D} {v : List V} {d' : List D}, Rels K nm r H d v → frzs g d = some d' → Rels K nm r' H d' v
  | [], _, _, h, e => by simp [frzs] at e; subst e; exact h
  | d :: ds, _, _, h, e => by
    obtain ⟨v, ws, e1, h1, h2⟩ := h
    simp only [frzs, Option.bind_eq_some_iff, Option.map_eq_some_iff] at e
    obtain ⟨y, e2, ys, e3, rfl⟩ := e
    exact ⟨v, ws, e1, Rel.frz h1 e2, Rels.frz h2 e3⟩
theorem RelKs.frz : ∀ {d : List (D × D)} {v : List (Key × V)} {d' : List (D × D)}, RelKs K nm r H d v → frzks g d = some d' → RelKs K nm r' H d' v
  | [], _, _, h, e => by simp [frzks] at e; subst e; exact h
  | (k, d) :: ds, _, _, h, e => by
    obtain ⟨key, v, ws, e1, h0, h1, h2⟩ := h
    simp only [frzks, Option.bind_eq_some_iff, Option.map_eq_some_iff] at e
    obtain ⟨k', e0, y, e2, ys, e3, rfl⟩ := e
    refine ⟨key, v, ws, e1, ?_, Rel.frz h1 e2, RelKs.frz h2 e3⟩
    cases k <;> first | exact h0.elim | (simp [D.frz] at e0; subst e0; exact h0)
theorem RelFs.frz : ∀ {d : List (Nat × D)} {v : List (Str × V)} {d' : List (Nat × D)}, RelFs K nm r H d v → frzfs g d = some d' → RelFs K nm r' H d' v
  | [], _, _, h, e => by simp [frzfs] at e; subst e; exact h
  | (k, d) :: ds, _, _, h, e => by
    obtain ⟨s, v, ws, e1, h0, h1, h2⟩ := h
    simp only [frzfs, Option.bind_eq_some_iff, Option.map_eq_some_iff] at e
    obtain ⟨y, e2, ys, e3, rfl⟩ := e
    exact ⟨s, v, ws, e1, h0, Rel.frz h1 e2, RelFs.frz h2 e3⟩
end
end
/-- an object looked through -/
theorem deref_rel (st : Sto K nm r H S) (off : ∀ a, Off r a → Off r' a) (rR : ∀ a ∈ r.R, a ∈ r'.R) {lo : Nat} (low : ∀ (k : Nat) a, k < lo → r.m[k]? = some a → r'.m[k]? = some a) (hi : ∀ (k : Nat) a, lo ≤ k → r.m[k]? = some a → Off r' a) :
    ∀ (k n : Nat) a d', r.m[n]? = some a → deref S lo k n = some d' → Rel K nm r' H d' (.ref a)
  | 0, n, a, d', hm, e => by
    unfold deref at e
    split at e
    · rename_i hn
      cases e
      exact ⟨a, rfl, low n a hn hm⟩
    · cases e
  | k + 1, n, a, d', hm, e => by
    unfold deref at e
    split at e
    · rename_i hn
      cases e
      exact ⟨a, rfl, low n a hn hm⟩
    · rename_i hn
      have ofa := hi n a (by omega) hm
      obtain ⟨c, hc, cel⟩ := st.at hm
      rw [hc] at e
      have e' : c.frz (deref S lo k) = some d' := e
      have hg : ∀ (n : Nat) a, r.m[n]? = some a → ∀ d', deref S lo k n = some d' → Rel K nm r' H d' (.ref a) := fun n a h d' q => deref_rel st off rR low hi k n a d' h q
      cases c with
      | lst xs =>
        obtain ⟨vs, q, z⟩ := cel
        simp only [D.frz, Option.map_eq_some_iff] at e'
        obtain ⟨ys, e2, rfl⟩ := e'
        exact ⟨a, vs, rfl, ofa, q, Rels.frz off rR hg z e2⟩
      | dct xs =>
        obtain ⟨vs, q, z⟩ := cel
        simp only [D.frz, Option.map_eq_some_iff] at e'
        obtain ⟨ys, e2, rfl⟩ := e'
        exact ⟨a, vs, rfl, ofa, q, RelKs.frz off rR hg z e2⟩
      | ins cc xs =>
        obtain ⟨C, dx, vs, hC, q, z⟩ := cel
        simp only [D.frz, Option.map_eq_some_iff] at e'
        obtain ⟨ys, e2, rfl⟩ := e'
        exact ⟨a, C, dx, vs, rfl, ofa, hC, q, RelFs.frz off rR hg z e2⟩
      | _ => exact cel.elim
theorem freeze_rel (st : Sto K nm r H S) (off : ∀ a, Off r a → Off r' a) (rR : ∀ a ∈ r.R, a ∈ r'.R) {lo : Nat} (low : ∀ (k : Nat) a, k < lo → r.m[k]? = some a → r'.m[k]? = some a) (hi : ∀ (k : Nat) a, lo ≤ k → r.m[k]? = some a → Off r' a)
    {d d' : D} {v : V} (h : Rel K nm r H d v) (e : freeze S lo d = some d') : Rel K nm r' H d' v := Rel.frz off rR (fun n a hm d' q => deref_rel st off rR low hi 8 n a d' hm q) h e
/-- a cell of plain data stands for other places too -/
theorem Cel.pure {a : Addr} (ro : ∀ a, Off r a → Off r' a) (rR : ∀ a ∈ r.R, a ∈ r'.R) : ∀ {d : D}, d.pu = true → Cel K nm r H d a → Cel K nm r' H d a
  | .lst _, p, h => let ⟨vs, q, z⟩ := h; ⟨vs, q, z.pure ro rR (by simpa [D.pu] using p)⟩
  | .dct _, p, h => let ⟨vs, q, z⟩ := h; ⟨vs, q, z.pure ro rR (by simpa [D.pu] using p)⟩
  | .ins _ _, p, h => let ⟨C, dx, vs, c, q, z⟩ := h; ⟨C, dx, vs, c, q, z.pure ro rR (by simpa [D.pu] using p)⟩
  | .non, _, h => h.elim
  | .bl _, _, h => h.elim
  | .int _, _, h => h.elim
  | .str _, _, h => h.elim
  | .tup _, _, h => h.elim
  | .scr _, _, h => h.elim
  | .set _, _, h => h.elim
  | .rng, _, h => h.elim
  | .obj _, _, h => h.elim
/-! ### a run in a store of its own -/
/-- the places as a def sees them that is handed plain data -/
abbrev Rl.inn (r : Rl) : Rl := ⟨[], r.R, r.m ++ r.B⟩
theorem Rl.inn_off {a : Addr} : Off r.inn a ↔ Off r a := by
  unfold Off Rl.inn
  simp only [List.not_mem_nil, not_false_eq_true, true_and, List.mem_append, not_or]
  constructor
  · rintro ⟨h1, h2, h3⟩; exact ⟨h2, h1, h3⟩
  · rintro ⟨h1, h2, h3⟩; exact ⟨h2, h1, h3⟩
theorem Src.off {a : Addr} (ro : ∀ a, Off r a → Off r' a) (h : Src nm r H a) : Src nm r' H a := by
  rcases h with ⟨c, ns, is, h1, h2, of, g⟩ | h
  · exact .inl ⟨c, ns, is, h1, h2, ro c of, g⟩
  · exact .inr h
theorem Sto.inn (st : Sto K nm r H S) : Sto K nm r.inn H [] :=
  ⟨rfl, .nil, fun a h => (by simp at h), fun a h q => (List.mem_append.mp q).elim (fun z => (st.dj a z).1 h) (st.dR a h), fun a h => (List.mem_append.mp h).elim (fun z => by
    obtain ⟨i, hi, he⟩ := List.getElem_of_mem z
    obtain ⟨d, _, c⟩ := st.at (n := i) (a := a) (by rw [List.getElem?_eq_getElem hi, he])
    exact c.mut) (st.bt a), fun a h => (st.src a h).off fun b q => Rl.inn_off.mpr q, fun n a d h _ => by simp at h⟩
section
variable {H' : Hp} {S' : Store}
/-- the places back at the caller -/
abbrev Rl.out (r r' : Rl) : Rl := ⟨r.m, r'.R, r.B⟩
theorem Ext.out (st : Sto K nm r H S) (x : Ext K r.inn H r' H') : (∀ a, Off r' a → Off (r.out r') a) ∧ (∀ (k : Nat) a, r'.m[k]? = some a → Off (r.out r') a) → Ext K r H (r.out r') H' := fun hh =>
  ⟨⟨List.prefix_rfl, x.sub, x.tup, fun a o h of => ⟨(x.keep a o h (Rl.inn_off.mpr of)).1, hh.1 a (x.keep a o h (Rl.inn_off.mpr of)).2⟩, fun n a h e => by
    have := (List.getElem?_eq_some_iff.mp e).1
    exact absurd this (Nat.not_lt.mpr h), x.there⟩, rfl, fun a h o q => x.bus a (List.mem_append_right _ h) o q⟩
theorem out_off (x : Ext K r.inn H r' H') (st' : Sto K nm r' H' S') : (∀ a, Off r' a → Off (r.out r') a) ∧ ∀ (k : Nat) a, r'.m[k]? = some a → Off (r.out r') a := by
  refine ⟨fun a h => ?_, fun k a h => ?_⟩
  · obtain ⟨_, h2, h3⟩ := h
    rw [x.eB] at h3
    exact ⟨fun q => h3 (List.mem_append_left _ q), h2, fun q => h3 (List.mem_append_right _ q)⟩
  · have hm := List.mem_of_getElem? h
    obtain ⟨h2, h3⟩ := st'.dj a hm
    rw [x.eB] at h3
    exact ⟨fun q => h3 (List.mem_append_left _ q), h2, fun q => h3 (List.mem_append_right _ q)⟩
theorem Sto.out (st : Sto K nm r H S) (x : Ext K r.inn H r' H') (st' : Sto K nm r' H' S') : Sto K nm (r.out r') H' S := by
  have oo := out_off x st'
  have x' := Ext.out st x oo
  have eqm : ∀ a ∈ r.m, H' a = H a := fun a h => by
    obtain ⟨u, hu⟩ := st.tracked h
    rw [x.bus a (List.mem_append_left _ h) u hu, hu]
  refine ⟨st.len, st.nd, fun a h => ⟨fun q => st'.dR a q (by rw [x.eB]; exact List.mem_append_left _ h), (st.dj a h).2⟩, fun a h q => st'.dR a h (by rw [x.eB]; exact List.mem_append_right _ q), fun a h => ?_, fun a h => (st'.src a h).off oo.1, fun n a d h1 h2 => (st.cel n a d h1 h2).ext0 x'.toExt0 (eqm a (List.mem_of_getElem? h1))⟩
  have := st'.bt a (by rw [x.eB]; exact List.mem_append_right _ h)
  exact this
/-- a new object of a run of its own, taken over -/
theorem Sto.take1 (st : Sto K nm r H S) (x : Ext K r.inn H r' H') (st' : Sto K nm r' H' S') {n : Nat} {a : Addr} {c : D} (hm : r'.m[n]? = some a) (hc : S'[n]? = some c) (p : c.pu = true) :
    Ext K r H ⟨r.m ++ [a], r'.R, r.B⟩ H' ∧ Sto K nm ⟨r.m ++ [a], r'.R, r.B⟩ H' (S ++ [c]) := by
  have oo := out_off x st'
  have ofa := oo.2 n a hm
  have na : H a = none := x.new n a (Nat.zero_le _) hm
  have am := List.mem_of_getElem? hm
  have off1 : ∀ b, Off r' b → Off ⟨r.m ++ [a], r'.R, r.B⟩ b := fun b h => ⟨fun q => by
    rcases List.mem_append.mp q with q | q
    · exact (oo.1 b h).1 q
    · have : b = a := by simpa using q
      exact h.1 (this ▸ am), (oo.1 b h).2⟩
  have so := st.out x st'
  have x1 : Ext K r H ⟨r.m ++ [a], r'.R, r.B⟩ H' := by
    refine ⟨⟨List.prefix_append _ _, x.sub, x.tup, fun b o h of => ⟨(x.keep b o h (Rl.inn_off.mpr of)).1, off1 b (x.keep b o h (Rl.inn_off.mpr of)).2⟩, fun k b h e => ?_, x.there⟩, rfl, fun b h o q => x.bus b (List.mem_append_right _ h) o q⟩
    have e' : (r.m ++ [a])[k]? = some b := e
    rw [List.getElem?_append_right h] at e'
    have : b = a := by
      cases q : k - r.m.length with
      | zero => rw [q] at e'; simpa using e'.symm
      | succ k => rw [q] at e'; simp at e'
    rw [this]; exact na
  refine ⟨x1, by simp [st.len], ?_, fun b h => ?_, so.dR, so.bt, fun b h => (st'.src b h).off off1, fun k b d h1 h2 => ?_⟩
  · show (r.m ++ [a]).Nodup
    rw [List.nodup_append]
    exact ⟨st.nd, by simp, fun b hb c hc => by
      have : c = a := by simpa using hc
      rintro rfl
      rw [this] at hb
      exact ofa.1 hb⟩
  · rcases List.mem_append.mp h with h | h
    · exact so.dj b h
    · have : b = a := by simpa using h
      rw [this]; exact ofa.2
  · have h1' : (r.m ++ [a])[k]? = some b := h1
    by_cases hk : k < r.m.length
    · rw [List.getElem?_append_left hk] at h1'
      rw [List.getElem?_append_left (by rw [← st.len]; exact hk)] at h2
      obtain ⟨u, hu⟩ := st.tracked (List.mem_of_getElem? h1')
      exact (st.cel k b d h1' h2).ext0 x1.toExt0 (by rw [x.bus b (List.mem_append_left _ (List.mem_of_getElem? h1')) u hu, hu])
    · have hn2 : k < (r.m ++ [a]).length := (List.getElem?_eq_some_iff.mp h1').1
      have hl : k = r.m.length := by simp at hn2; omega
      subst hl
      rw [List.getElem?_append_right (Nat.le_refl _)] at h1'
      rw [List.getElem?_append_right (by rw [st.len]; exact Nat.le_refl _)] at h2
      rw [st.len] at h2
      simp at h1' h2
      rw [← h1', ← h2]
      exact (st'.cel n a c hm hc).pure off1 (fun _ h => h) p
end
end
end Ic

set_option Elab.async false
set_option linter.all false
set_option maxRecDepth 100000
set_option maxHeartbeats 1000000
/-! Ic4d: calls of defs. -/
namespace Ic
open PySem PySem.Spec PyProof.Rows L2
section
variable (n : Nat)
/-- objects below n stay as they are -/
def keepLow (n k : Nat) : Option D := if k < n then some (.obj k) else none
mutual
theorem D.frz_bel : ∀ {d : D}, d.bel n = true → d.frz (keepLow n) = some d
  | .non, _ | .bl _, _ | .int _, _ | .str _, _ | .scr _, _ | .set _, _ | .rng, _ => by simp [D.frz]
  | .tup xs, h => by simp [D.frz, frzs_bel (xs := xs) (by simpa [D.bel] using h)]
  | .lst xs, h => by simp [D.frz, frzs_bel (xs := xs) (by simpa [D.bel] using h)]
  | .dct kvs, h => by simp [D.frz, frzks_bel (xs := kvs) (by simpa [D.bel] using h)]
  | .ins c fs, h => by simp [D.frz, frzfs_bel (xs := fs) (by simpa [D.bel] using h)]
  | .obj m, h => by
    have h' : m < n := by simpa [D.bel] using h
    simp [D.frz, keepLow, h']
theorem frzs_bel : ∀ {xs : List D}, belows n xs = true → frzs (keepLow n) xs = some xs
  | [], _ => by simp [frzs]
  | x :: xs, h => by
    have h' : x.bel n = true ∧ belows n xs = true := by simpa [belows] using h
    simp [frzs, D.frz_bel h'.1, frzs_bel h'.2]
theorem frzks_bel : ∀ {xs : List (D × D)}, belowks n xs = true → frzks (keepLow n) xs = some xs
  | [], _ => by simp [frzks]
  | (k, v) :: xs, h => by
    have h' : (k.bel n = true ∧ v.bel n = true) ∧ belowks n xs = true := by simpa [belowks] using h
    simp [frzks, D.frz_bel h'.1.1, D.frz_bel h'.1.2, frzks_bel h'.2]
theorem frzfs_bel : ∀ {xs : List (Nat × D)}, belowfs n xs = true → frzfs (keepLow n) xs = some xs
  | [], _ => by simp [frzfs]
  | (f, v) :: xs, h => by
    have h' : v.bel n = true ∧ belowfs n xs = true := by simpa [belowfs] using h
    simp [frzfs, D.frz_bel h'.1, frzfs_bel h'.2]
end
theorem belows_get : ∀ {xs : List D} {k : Nat} {d : D}, belows n xs = true → xs[k]? = some d → d.bel n = true
  | [], _, _, _, e => by simp at e
  | x :: xs, 0, _, h, e => by
    have h' : x.bel n = true ∧ belows n xs = true := by simpa [belows] using h
    simp at e
    rw [← e]; exact h'.1
  | x :: xs, k + 1, _, h, e => by
    have h' : x.bel n = true ∧ belows n xs = true := by simpa [belows] using h
    exact belows_get h'.2 (by simpa using e)
end
section
variable {K : PySem.W.Frag} {nm : Nm} {r r' : Rl} {H H' : Hp} {S S' : Store}
theorem Cel.frz {a : Addr} {g : Nat → Option D} (off : ∀ a, Off r a → Off r' a) (rR : ∀ a ∈ r.R, a ∈ r'.R) (hg : ∀ (n : Nat) a, r.m[n]? = some a → ∀ d', g n = some d' → Rel K nm r' H d' (.ref a)) : ∀ {d : D}, d.frz g = some d → Cel K nm r H d a → Cel K nm r' H d a
  | .lst xs, e, h => by
    obtain ⟨vs, q, z⟩ := h
    simp only [D.frz, Option.map_eq_some_iff] at e
    obtain ⟨ys, e2, e3⟩ := e
    cases e3
    exact ⟨vs, q, Rels.frz off rR hg z e2⟩
  | .dct xs, e, h => by
    obtain ⟨vs, q, z⟩ := h
    simp only [D.frz, Option.map_eq_some_iff] at e
    obtain ⟨ys, e2, e3⟩ := e
    cases e3
    exact ⟨vs, q, RelKs.frz off rR hg z e2⟩
  | .ins c xs, e, h => by
    obtain ⟨C, dx, vs, hC, q, z⟩ := h
    simp only [D.frz, Option.map_eq_some_iff] at e
    obtain ⟨ys, e2, e3⟩ := e
    cases e3
    exact ⟨C, dx, vs, hC, q, RelFs.frz off rR hg z e2⟩
  | .non, _, h => h.elim
  | .bl _, _, h => h.elim
  | .int _, _, h => h.elim
  | .str _, _, h => h.elim
  | .tup _, _, h => h.elim
  | .scr _, _, h => h.elim
  | .set _, _, h => h.elim
  | .rng, _, h => h.elim
  | .obj _, _, h => h.elim
/-- the later objects let go -/
theorem Sto.drop (st : Sto K nm r H S) (x : Ext K r H r' H') (st' : Sto K nm r' H' S') (hb : belows S.length (S'.take S.length) = true) :
    Ext K r H (r.out r') H' ∧ Sto K nm (r.out r') H' (S'.take S.length) ∧ ∀ d d' v, Rel K nm r' H' d v → freeze S' S.length d = some d' → Rel K nm (r.out r') H' d' v := by
  obtain ⟨t, ht⟩ := x.pre
  have low : ∀ (k : Nat) a, k < S.length → r'.m[k]? = some a → r.m[k]? = some a := fun k a hk e => by
    rw [← ht, List.getElem?_append_left (by rw [st.len]; exact hk)] at e
    exact e
  have up : ∀ (k : Nat) a, r.m[k]? = some a → r'.m[k]? = some a := fun k a e => x.get e
  have off : ∀ a, Off r' a → Off (r.out r') a := fun a h => ⟨fun q => h.1 (by rw [← ht]; exact List.mem_append_left _ q), h.2.1, by rw [← x.eB]; exact h.2.2⟩
  have hi : ∀ (k : Nat) a, S.length ≤ k → r'.m[k]? = some a → Off (r.out r') a := fun k a hk e => by
    have am := List.mem_of_getElem? e
    refine ⟨fun q => ?_, (st'.dj a am).1, by rw [← x.eB]; exact (st'.dj a am).2⟩
    obtain ⟨i, h1, h2⟩ := List.getElem_of_mem q
    have e1 : r.m[i]? = some a := by rw [List.getElem?_eq_getElem h1, h2]
    obtain ⟨g1, g2⟩ := List.getElem?_eq_some_iff.mp (up i a e1)
    obtain ⟨g3, g4⟩ := List.getElem?_eq_some_iff.mp e
    have : i = k := (List.getElem_inj st'.nd).mp (g2.trans g4.symm)
    rw [st.len] at h1
    omega
  have hg : ∀ (n : Nat) a, r'.m[n]? = some a → ∀ d', keepLow S.length n = some d' → Rel K nm (r.out r') H' d' (.ref a) := fun n a e d' q => by
    unfold keepLow at q
    split at q
    · rename_i hn
      cases q
      exact ⟨a, rfl, low n a hn e⟩
    · cases q
  have hlen : S.length ≤ S'.length := by rw [← st.len, ← st'.len, ← ht, List.length_append]; omega
  refine ⟨⟨⟨List.prefix_rfl, x.sub, x.tup, fun a o h of => ⟨(x.keep a o h of).1, off a (x.keep a o h of).2⟩, fun n a h e => by
    have := (List.getElem?_eq_some_iff.mp e).1
    exact absurd this (Nat.not_lt.mpr h), x.there⟩, rfl, x.bus⟩, ?_, fun d d' v h e => freeze_rel st' off (fun _ h => h) low hi h e⟩
  refine ⟨by rw [st.len, List.length_take]; omega, st.nd, fun a h => ?_, fun a h => ?_, fun a h => st'.bt a (by rw [x.eB]; exact h), fun a h => (st'.src a h).off off, fun k a d h1 h2 => ?_⟩
  · have am : a ∈ r'.m := by rw [← ht]; exact List.mem_append_left _ h
    exact ⟨(st'.dj a am).1, by have := (st'.dj a am).2; rw [x.eB] at this; exact this⟩
  · have := st'.dR a h; rw [x.eB] at this; exact this
  · have hk : k < S.length := by rw [← st.len]; exact (List.getElem?_eq_some_iff.mp h1).1
    have h2' : S'[k]? = some d := by rw [List.getElem?_take_of_lt hk] at h2; exact h2
    exact (st'.cel k a d (up k a h1) h2').frz off (fun _ h => h) hg (D.frz_bel _ (belows_get _ hb h2))
theorem Xr.any {e : Exc} {c : Value} {d : Option Addr} (h : Xr nm r H e c d) : Xr nm r' H e c d := h
/-- a call's reading is the def's promise -/
theorem callD_sp {C : Rl → Hp → Prop} {W : WX} {run : Nat → List D → Store → T D} {f : Nat} {mu : Bool} {args : List D} {vs : List V} {σ : L2.St} {Q : VK} (hC : ∀ r H, C r H → Rels K nm r H args vs)
    (h : tT K nm C (Rel K nm) W (fun _ S => callD run f mu args S) σ H Q) : spF K nm args.length (run f) vs H Q (fun c d H' => W c d σ H') := by
  obtain ⟨r, env, S, P, st, en, c, al, po⟩ := h
  have rv := hC r H c
  change (if pus args = true then (run f args []).iso S (outOf mu S) else (run f args S).bind (dropOf S)).All P (XP K nm W σ r H) at al
  by_cases hp : pus args = true
  · rw [if_pos hp, T.All_iso] at al
    refine ⟨r.inn, [], args, fun d S' => (outOf mu S d S').All P (XP K nm W σ r H), st.inn, rv.pure (fun a h => Rl.inn_off.mpr h) (fun _ h => h) hp, rfl, al.mono (fun _ _ z => z) fun e S' z r' H' x st' cv d q => ?_, fun d S' v r' H' z x st' rl => ?_⟩
    · exact z.2 _ H' (Ext.out st x (out_off x st')) (st.out x st') cv d q.any
    · have oo := out_off x st'
      unfold outOf at z
      cases mu with
      | false =>
        simp only [Bool.false_eq_true, if_false] at z
        cases e : freeze S' 0 d with
        | none => simp [e] at z
        | some d' =>
          simp [e] at z
          exact po d' S v _ H' z (Ext.out st x oo) (st.out x st') (freeze_rel st' oo.1 (fun _ h => h) (fun k a h _ => absurd h (Nat.not_lt_zero _)) (fun k a _ h => oo.2 k a h) rl e)
      | true =>
        simp only [if_true] at z
        cases d <;> simp only [T.All_bad] at z
        rename_i n
        obtain ⟨a, ev, hm⟩ := rl
        cases e : S'[n]? with
        | none => simp [e] at z
        | some c =>
          simp only [e, some?_some] at z
          by_cases hc : c.pu = true
          · rw [if_pos hc] at z
            obtain ⟨x1, s1⟩ := st.take1 x st' hm e hc
            exact po _ _ v _ H' z x1 s1 ⟨a, ev, by rw [← st.len]; simp⟩
          · rw [if_neg hc] at z
            exact z.elim
  · rw [if_neg hp, T.All_bind] at al
    refine ⟨r, S, args, fun d S' => (dropOf S d S').All P (XP K nm W σ r H), st, rv, rfl, al.mono (fun _ _ z => z) fun e S' z r' H' x st' cv d q => z r' H' x st' cv d q, fun d S' v r' H' z x st' rl => ?_⟩
    unfold dropOf at z
    dsimp only at z
    by_cases hb : belows S.length (S'.take S.length) = true
    · rw [if_pos hb] at z
      obtain ⟨x1, s1, k1⟩ := st.drop x st' hb
      cases e : freeze S' S.length d with
      | none =>
        simp only [e] at z
        exact po d S' v r' H' z x st' rl
      | some d' =>
        simp only [e] at z
        exact po d' _ v _ H' z x1 s1 (k1 d d' v rl e)
    · rw [if_neg hb] at z
      exact po d S' v r' H' z x st' rl
end
section
variable {X : Cx} {nm : Nm} {Y : Sym} {P : Prog} {run : Nat → List D → Store → T D} {W : WX}
theorem permG_all : ∀ (ds : List D) (pre : List D), permG (pre ++ ds) ((List.range ds.length).map (· + pre.length)) = some ds
  | [], pre => rfl
  | d :: ds, pre => by
    have ih := permG_all ds (pre ++ [d])
    rw [List.length_cons, List.range_succ_eq_map, List.map_cons, List.map_map]
    unfold permG
    have e1 : (pre ++ d :: ds)[0 + pre.length]? = some d := by simp
    rw [e1]
    have e2 : (List.range ds.length).map ((· + pre.length) ∘ Nat.succ) = (List.range ds.length).map (· + (pre ++ [d]).length) := by
      apply List.map_congr_left
      intro a _
      simp only [Function.comp, List.length_append, List.length_cons, List.length_nil]
      omega
    rw [e2, show pre ++ d :: ds = (pre ++ [d]) ++ ds by simp, ih]
    rfl
theorem permute_range (ds : List D) : permute ds (List.range ds.length) = some ds := by
  have := permG_all ds []
  unfold permute
  rw [if_pos (by simp)]
  simpa using this
theorem any_back (pos : Pos) (env : Env) : ∀ {es : List Expr}, (∀ e ∈ es, isStar e = false) → (backTo pos (starEach es env)).any (·.1) = false
  | [], _ => rfl
  | e :: es, h => by
    rw [star_cons (h e List.mem_cons_self)]
    have ih := any_back pos env (es := es) fun e' he => h e' (List.mem_cons_of_mem _ he)
    show (false || (backTo pos (starEach es env)).any (·.1)) = false
    rw [ih]
    rfl
/-- the call of a def, plain data or objects handed in by place -/
theorem pe_callD (G : Good X nm Y P run W) {x : Str} {f m : Nat} {p pos : Pos} {es : List Expr} {ds : List E} {mu : Bool} (hf : find? Y.fns x = some (f, m)) (hg : Y.glo x = true) (hdb : (x == ("__debug__" : Str)) = false)
    (ha : PA X es (tEs X.K nm W (rnOf P run) ds)) (hs : ∀ e ∈ es, isStar e = false) (hl : es.length = m) (hdl : ds.length = m) : PE X (.Call (.Name x p) es [] pos) (tE X.K nm W (rnOf P run) (.call f mu ds (List.range m))) := by
  obtain ⟨fa, k, fd, ps, hm, hk, F, hr, hb, hpl, _⟩ := G.fns x f m hf
  have red : ∀ {σ H Q}, tE X.K nm W (rnOf P run) (.call f mu ds (List.range m)) σ H Q → tEs X.K nm W (rnOf P run) ds σ H fun vs H1 => spF X.K nm m (run f) vs H1 Q (WE W σ) := fun {σ H Q} h => by
    refine tT_mono (bind1s Mono.c0 (f := fun env qs S => some? (permute qs (List.range m)) fun qs => (rnOf P run).call f mu qs S) (tT_eq (fun env S => by simp [evE]) h)) fun vs H1 ⟨qs, h2⟩ => ?_
    by_cases hq : qs.length = m
    · have h3 : tT X.K nm (fun r H => C0 r H ∧ Rels X.K nm r H qs vs) (Rel X.K nm) W (fun _ S => callD run f mu qs S) σ H1 Q := tT_eq (fun env S => by rw [← hq, permute_range]; rfl) h2
      have := callD_sp (fun r H c => c.2) h3
      rw [hq] at this
      exact this
    · exact (tT_bad (fun env S => by simp [permute, hq]) h2).elim
  cases es with
  | nil =>
    have e : ds = [] := by
      cases ds with
      | nil => rfl
      | cons _ _ => simp at hl hdl; omega
    subst e
    refine ⟨fun pins s σ H Q I h => ?_⟩
    have h1 := red h
    have h2 : spF X.K nm m (run f) [] H Q (WE W σ) := by
      have h1' : tT X.K nm C0 (Rels X.K nm) W (fun _ S => .ret [] S) σ H fun vs H1 => spF X.K nm m (run f) vs H1 Q (WE W σ) := tT_eq (fun env S => by simp [evEs]) h1
      obtain ⟨r, _, kk⟩ := tT_ret h1'
      exact kk [] rfl
    refine wpAny_Call_Name_kw (ld_glob I (G.isGl hg) hm ?_ hdb)
    exact PySem.W.callWith_K0 I.kIn hk (run_fnS (us := []) F hr hb (passAt G.tk σ) I .nil h2)
  | cons e es =>
    have he := star_cons (hs e List.mem_cons_self) es X.env
    have hpl2 := any_back pos X.env fun e' he => hs e' (List.mem_cons_of_mem _ he)
    exact (pe_callS (E := WE W) F hr (G.isGl hg) hm hk hb (fun σ => passAt G.tk σ) ha hdb he hpl2).weak fun σ H Q h => red h
end
end Ic

set_option Elab.async false
set_option linter.all false
set_option maxRecDepth 100000
set_option maxHeartbeats 1000000
/-! Ic4e: calls by keywords, methods, instances. -/
namespace Ic
open PySem PySem.Spec PyProof.Rows L2
section
variable {X : Cx} {nm : Nm} {Y : Sym} {P : Prog} {run : Nat → List D → Store → T D} {W : WX} {R : Rn}
theorem pk_D {g : Expr → E} : ∀ (kws : List Keyword), (∀ k ∈ kws, PE X k.value (tE X.K nm W R (g k.value))) → PK X kws (tEs X.K nm W R (kws.map fun k => g k.value))
  | [], _ => ⟨fun pos pins s σ H Q I q => pk_nil.run pos pins s σ H Q I (by
    have h' : tT X.K nm C0 (Rels X.K nm) W (fun _ S => .ret [] S) σ H Q := tT_eq (fun env S => by simp [evEs]) q
    obtain ⟨r, _, k⟩ := tT_ret h'
    exact k [] rfl)⟩
  | ⟨n, e, p⟩ :: kws, h => ⟨fun pos pins s σ H Q I q => (pk_cons (h _ List.mem_cons_self) (pk_D kws fun k hk => h k (List.mem_cons_of_mem _ hk))).run pos pins s σ H Q I (by
      refine tT_mono (bind1 Mono.c0 (f := fun env x S => (evEs R (kws.map fun k => g k.value) env S).bind fun xs S => .ret (x :: xs) S) (tT_eq (fun env S => by simp [evEs]) q)) fun v H1 ⟨x, h3⟩ => ?_
      refine tT_mono (bind1s (Mono.c0.and .relD) h3) fun vs H2 ⟨xs, h4⟩ => ?_
      obtain ⟨r, c, k⟩ := tT_ret h4
      exact k (v :: vs) ⟨v, vs, rfl, c.1.2, c.2⟩)⟩
theorem run_fnkS {CX : CXT} {k : Nat} {f : Addr} {fd : FuncData} {ps ks : List Str} {sp : Sp} {E : XK} {g : List Value → List Value → List Value} {gV : List V → List V → List V}
    {pins : List (Addr × Obj)} {σ : L2.St} {H : Hp} {s : Shared} {Q : VK} {us ws : List Value} {vs zs : List V} (F : FnOk X.prog X.w X.K X.mg X.base CX k f fd ps sp) (hr : Room k X.A) (hb : KBinds X.K fd ps ks g gV) (hx : PassesAt CX X σ E)
    (I : Inv X pins σ H s) (r : Vals vs us) (rz : Vals zs ws) (h : sp (gV vs zs) H Q E) : wpAny (model X.prog X.w) X.A (call (.ref f) us (ks.zip ws)) (EP X pins σ Q) X.xe s := by
  have r2 := hb.rel r rz
  have hl : (g us ws).length = ps.length := by rw [← r2.length]; exact F.len _ _ _ _ h
  refine wpAny_call (codeAny_mono (F.run X.A X.stack s H ⟨us, ks.zip ws⟩ (g us ws) (gV vs zs) Q E hr I.env0 (hb.to s us ws I.kIn hl) r2 h) fun r s' hq => ?_)
  cases r with
  | error e => exact hx pins H s e s' I hq
  | ok fl =>
    cases fl with
    | ret u => exact I.after hq
    | next => exact False.elim hq
    | brk => exact False.elim hq
    | cont => exact False.elim hq
theorem kw_all (pos : Pos) (env : Env) : ∀ {kws : List Keyword}, (kws.all fun k => k.arg.isSome) = true → (backToKw pos (keywordEach kws env)).all (·.1.isSome) = true ∧ (backToKw pos (keywordEach kws env)).any (·.1.isNone) = false ∧
    (backToKw pos (keywordEach kws env)).filterMap (·.1) = kws.map fun k => k.arg.getD Str.empty
  | [], _ => ⟨rfl, rfl, rfl⟩
  | ⟨n, e, p⟩ :: kws, h => by
    simp only [List.all_cons, Bool.and_eq_true] at h
    obtain ⟨h1, h2, h3⟩ := kw_all pos env (kws := kws) h.2
    cases n with
    | none => simp at h
    | some n =>
      refine ⟨?_, ?_, ?_⟩
      · show (true && (backToKw pos (keywordEach kws env)).all (·.1.isSome)) = true
        rw [h1]; rfl
      · show (false || (backToKw pos (keywordEach kws env)).any (·.1.isNone)) = false
        rw [h2]; rfl
      · show n :: (backToKw pos (keywordEach kws env)).filterMap (·.1) = _
        rw [h3]; rfl
/-- the call of a def with keywords -/
theorem pe_callKD (G : Good X nm Y P run W) {x : Str} {f m : Nat} {p pos : Pos} {es : List Expr} {kws : List Keyword} {ds : List E} {g : Expr → E} {mu : Bool} {q : Str × Nat × List Str × List Nat} (hf : find? Y.fns x = some (f, m)) (hq : q ∈ Y.kws) (hqx : q.1 = x) (hql : q.2.1 = es.length) (hqk : q.2.2.1 = kws.map fun k => k.arg.getD Str.empty)
    (hka : (kws.all fun k => k.arg.isSome) = true) (hg : Y.glo x = true) (hdb : (x == ("__debug__" : Str)) = false)
    (ha : PA X es (tEs X.K nm W (rnOf P run) ds)) (hs : ∀ e ∈ es, isStar e = false) (hdl : ds.length = es.length) (hk : ∀ k ∈ kws, PE X k.value (tE X.K nm W (rnOf P run) (g k.value))) :
    PE X (.Call (.Name x p) es kws pos) (tE X.K nm W (rnOf P run) (.callk f mu q.2.1 q.2.2.1.length ds (kws.map fun k => g k.value) q.2.2.2)) := by
  obtain ⟨fa, k, fd, ps, hm, hkp, F, hr, hb, hpl, hkw⟩ := G.fns x f m hf
  obtain ⟨gg, gV, kb, kr⟩ := hkw q hq hqx
  have kw := pk_D (X := X) (nm := nm) (W := W) (R := rnOf P run) (g := g) kws hk
  obtain ⟨k1, k2, k3⟩ := kw_all pos X.env hka
  -- the reading
  have red : ∀ {σ H Q}, tE X.K nm W (rnOf P run) (.callk f mu q.2.1 q.2.2.1.length ds (kws.map fun k => g k.value) q.2.2.2) σ H Q → tEs X.K nm W (rnOf P run) ds σ H fun vs H1 => tEs X.K nm W (rnOf P run) (kws.map fun k => g k.value) σ H1 fun ws H2 => spF X.K nm m (run f) (gV vs ws) H2 Q (WE W σ) := fun {σ H Q} h => by
    refine tT_mono (bind1s Mono.c0 (f := fun env xs S => (evEs (rnOf P run) (kws.map fun k => g k.value) env S).bind fun ys S => if xs.length = q.2.1 ∧ ys.length = q.2.2.1.length then some? (permute (xs ++ ys) q.2.2.2) fun qs => (rnOf P run).call f mu qs S else .bad) (tT_eq (fun env S => by simp [evE]) h)) fun vs H1 ⟨xs, h2⟩ => ?_
    refine tT_mono (bind1s (Mono.c0.and .relDs) h2) fun ws H2 ⟨ys, h3⟩ => ?_
    by_cases hl : xs.length = q.2.1 ∧ ys.length = q.2.2.1.length
    · cases e : permute (xs ++ ys) q.2.2.2 with
      | none => exact (tT_bad (fun env S => by simp [e]) h3).elim
      | some zs =>
        have h4 : tT X.K nm (fun r H => (C0 r H ∧ Rels X.K nm r H xs vs) ∧ Rels X.K nm r H ys ws) (Rel X.K nm) W (fun _ S => callD run f mu zs S) σ H2 Q := tT_eq (fun env S => by simp [e, hl]; rfl) h3
        have h5 := callD_sp (vs := gV vs ws) (fun r H c => (kr xs ys zs r H vs ws hl.1 hl.2 e c.1.2 c.2).1) h4
        obtain ⟨r, env, S, Pp, st, en, c, al, po⟩ := h4
        rw [(kr xs ys zs r H2 vs ws hl.1 hl.2 e c.1.2 c.2).2] at h5
        exact h5
    · exact (tT_bad (fun env S => by simp [hl]) h3).elim
  have hany := any_back pos X.env hs
  cases es with
  | nil =>
    have e : ds = [] := by
      cases ds with
      | nil => rfl
      | cons _ _ => simp at hdl
    subst e
    refine ⟨fun pins s σ H Q I h => ?_⟩
    have h1 := red h
    have h2 : tEs X.K nm W (rnOf P run) (kws.map fun k => g k.value) σ H fun ws H2 => spF X.K nm m (run f) (gV [] ws) H2 Q (WE W σ) := by
      have h1' : tT X.K nm C0 (Rels X.K nm) W (fun _ S => .ret [] S) σ H fun vs H1 => tEs X.K nm W (rnOf P run) (kws.map fun k => g k.value) σ H1 fun ws H2 => spF X.K nm m (run f) (gV vs ws) H2 Q (WE W σ) := tT_eq (fun env S => by simp [evEs]) h1
      obtain ⟨r, _, kk⟩ := tT_ret h1'
      exact kk [] rfl
    refine wpAny_Call_Name_kw (ld_glob I (G.isGl hg) hm ?_ hdb)
    refine PySem.W.callWith_KW0 (h₀ := X.base) I.ok.mod.kin hkp k1 (thn (kw.run pos pins s σ H _ I h2) fun ws s2 ⟨zs, H2, I2, rz, q2⟩ => ⟨I2.kIn, ?_⟩) (by rw [k2]; rfl)
    rw [k3, ← hqk]
    exact run_fnkS (us := []) F hr kb (passAt G.tk σ) I2 .nil rz q2
  | cons e es =>
    have he := star_cons (hs e List.mem_cons_self) es X.env
    refine ⟨fun pins s σ H Q I h => ?_⟩
    refine wpAny_Call_Name_kw (ld_glob I (G.isGl hg) hm ?_ hdb)
    refine PySem.W.callWith_KW (h₀ := X.base) I.ok.mod.kin hkp k1 (thn (ha.run pos pins s σ H _ I (red h)) fun us s1 ⟨vs, H1, I1, r, q1⟩ => ?_) (by rw [k2, hany]; rfl) he
    refine thn (kw.run pos pins s1 σ H1 _ I1 q1) fun ws s2 ⟨zs, H2, I2, rz, q2⟩ => ⟨I2.kIn, ?_⟩
    rw [k3, ← hqk]
    exact run_fnkS F hr kb (passAt G.tk σ) I2 r rz q2
/-! ### methods of own classes -/
theorem spF_len {K : PySem.W.Frag} {n m : Nat} {t : List D → Store → T D} {vs : List V} {H : Hp} {Q : VK} {E : XK} (h : ∀ args S, args.length ≠ m → t args S = .bad) (q : spF K nm n t vs H Q E) : spF K nm m t vs H Q E := by
  obtain ⟨r, S, args, P, st, rs, hl, al, po⟩ := q
  by_cases e : args.length = m
  · exact ⟨r, S, args, P, st, rs, e, al, po⟩
  · rw [h args S e] at al
    exact al.elim
theorem lookup_none {K : PySem.W.Frag} {r : Rl} {H : Hp} {m : Str} (hm : m ∉ nm.att) : ∀ {fs : List (Nat × D)} {vs : List (Str × V)}, RelFs K nm r H fs vs → vs.lookup m = none
  | [], _, h => by rw [show _ = [] from h]; rfl
  | (f, d) :: fs, _, h => by
    obtain ⟨s, v, ws, e, h0, h1, h2⟩ := h
    rw [e]
    have ne : m ≠ s := by
      rintro rfl
      exact hm (List.mem_of_getElem? h0)
    simp only [List.lookup, beq_eq_false_iff_ne.mpr ne]
    exact lookup_none hm h2
def isCall0 : Expr → Bool
  | .Call _ [] [] _ => true
  | _ => false
theorem base_plain {a : Expr} (h : isCall0 a = false) (f : Str) (env : Env) (w : Sem Value) : attributeBase a f env w = w := by
  cases a <;> first | rfl | skip
  rename_i fn as ks p
  cases as <;> cases ks <;> first | (simp [isCall0] at h; done) | skip
  all_goals (cases fn <;> rfl)
theorem pe_ownD (G : Good X nm Y P run W) {a : Expr} {ea : E} {m : Str} {i : Nat} {mu : Bool} {apos pos : Pos} {es : List Expr} {ds : List E} (hm : find? Y.mts m = some i) (hc : isCall0 a = false)
    (he : PE X a (tE X.K nm W (rnOf P run) ea)) (ha : PA X es (tEs X.K nm W (rnOf P run) ds)) (hs : ∀ e ∈ es, isStar e = false) (hdl : ds.length = es.length)
    (ht : ∃ pl, eval (.Call (.Attribute a m apos) es [] pos) X.env = (do
      let ov ← eval a X.env
      standAt apos.atName
      let (f, first) ← holding [ov] (getMethod ov m pl)
      callWith pos f first (backTo pos (starEach es X.env)) (backToKw pos (keywordEach [] X.env)))) :
    PE X (.Call (.Attribute a m apos) es [] pos) (tE X.K nm W (rnOf P run) (.own i mu ea ds)) := by
  obtain ⟨pl, ht⟩ := ht
  refine ⟨fun pins s σ H Q I h => ?_⟩
  have h1 := bind1 (K := X.K) (nm := nm) (W := W) (R := rnOf P run) (ea := ea) Mono.c0 (f := fun env x S => match view S x with
    | .ins c _ => some? ((rnOf P run).mth c i) fun f => (evEs (rnOf P run) ds env S).bind fun qs S => (rnOf P run).call f mu (x :: qs) S
    | _ => .bad) (tT_eq (fun env S => by (simp [evE]) <;> rfl) h)
  refine PySem.W.methodCall_KW (pl := pl) (thn (he.run pins s σ H _ I h1) fun u s1 ⟨x, H1, I1, rx, d, h2⟩ => ?_) ht
  obtain ⟨r, env, S, st, h3⟩ := tT_raw h2
  have w := h3.2.1.2.view st
  cases eq : view S d <;> rw [eq] at w <;> simp only [eq] at h3
  all_goals first
    | (obtain ⟨_, _, _, al, _⟩ := h3; exact al.elim)
    | skip
  rename_i c fs
  obtain ⟨b, C, dx, fvs, rfl, hC, q, z⟩ := w
  cases e : P.mth c i with
  | none =>
    rw [show (rnOf P run).mth c i = P.mth c i from rfl, e] at h3
    obtain ⟨_, _, _, al, _⟩ := h3
    exact al.elim
  | some f =>
    rw [show (rnOf P run).mth c i = P.mth c i from rfl, e] at h3
    obtain ⟨g, k, fd, ps, hM, F, hr, hb, hna, har⟩ := G.mts c C m i f hC hm e
    obtain rfl : u = Value.ref b := rx
    refine getmeth_ok I1 q (G.cls c C hC).1 hM (lookup_none hna z) ?_
    have h4 : tT X.K nm (fun r H => C0 r H ∧ Rel X.K nm r H d (.ref b)) (Rel X.K nm) W (fun env S => (evEs (rnOf P run) ds env S).bind fun qs S => callD run f mu (d :: qs) S) σ H1 Q := Raw.tT (env := env) (S := S) h3 st
    have h5 := bind1s (Mono.c0.and .relD) h4
    have fin : ∀ {pins s2 us vs H2}, Inv X pins σ H2 s2 → Vals vs us → (∃ qs, tT X.K nm (fun r H => (C0 r H ∧ Rel X.K nm r H d (.ref b)) ∧ Rels X.K nm r H qs vs) (Rel X.K nm) W (fun env S => callD run f mu (d :: qs) S) σ H2 Q) →
        wpAny (model X.prog X.w) X.A (call (.ref g) (.ref b :: us)) (EP X pins σ Q) X.xe s2 := fun {pins s2 us vs H2} I2 rv ⟨qs, h6⟩ => by
      have h7 := callD_sp (args := d :: qs) (vs := .ref b :: vs) (fun r H c => ⟨_, _, rfl, c.1.2, c.2⟩) h6
      have h8 : spF X.K nm ps.length (run f) (.ref b :: vs) H2 Q (WE W σ) := spF_len har h7
      exact run_fnS (us := .ref b :: us) (vs := .ref b :: vs) F hr hb (passAt G.tk σ) I2 (.cons rfl rv) h8
    cases es with
    | nil =>
      refine PySem.W.callWith_K0 (first := [.ref b]) I1.kIn hM.kp ?_
      have ed : ds = [] := by
        cases ds with
        | nil => rfl
        | cons _ _ => simp at hdl
      subst ed
      have h5' := tT_eq (t' := fun _ S => .ret [] S) (fun env S => by simp [evEs]) h5
      obtain ⟨r, _, kk⟩ := tT_ret h5'
      exact fin I1 .nil (kk [] rfl)
    | cons e0 es =>
      have he0 := star_cons (hs e0 List.mem_cons_self) es X.env
      refine PySem.W.callWith_K (first := [.ref b]) (h₀ := X.base) I1.ok.mod.kin hM.kp (thn (ha.run pos pins s1 σ H1 _ I1 h5) fun us s2 ⟨vs, H2, I2, r2, q2⟩ => ⟨I2.kIn, ?_⟩) he0 (any_back pos X.env fun e' he => hs e' (List.mem_cons_of_mem _ he))
      exact fin I2 r2 q2
/-! ### instances made -/
theorem run_makeS {CX : CXT} {k : Nat} {f C : Addr} {fd : FuncData} {ps : List Str} {sp : Sp} {E : XK} {pins : List (Addr × Obj)} {σ : L2.St} {H : Hp} {s : Shared} {Q : VK} {us : List Value} {vs : List V} (M : Mk X.K C f) (F : FnOk X.prog X.w X.K X.mg X.base CX k f fd ps sp) (hr : Room (k + 1) X.A) (hb : Binds X.K fd ps [])
    (hx : PassesAt CX X σ E) (I : Inv X pins σ H s) (r : Vals vs us)
    (h : ∀ x dx, H x = none → H dx = none → dx ≠ x → sp (.ref x :: vs) (upd (upd H dx (.own x)) x (.ins C dx [])) (fun v H2 => v = .non ∧ Q (.ref x) H2) E) :
    wpAny (model X.prog X.w) X.A (call (.ref C) us) (EP X pins σ Q) X.xe s := by
  have hq := h (s.heap.objs.size + 1) s.heap.objs.size (I.hok.fresh (Nat.le_succ _)) (I.hok.fresh (Nat.le_refl _)) (Nat.ne_of_lt (Nat.lt_succ_self _))
  have I2 := Inv.made (C := C) I
  have r2 : Vals (V.ref (s.heap.objs.size + 1) :: vs) (Value.ref (s.heap.objs.size + 1) :: us) := .cons rfl r
  have hl : (Value.ref (s.heap.objs.size + 1) :: us ++ []).length = ps.length := by
    have e := r2.length
    rw [F.len _ _ _ _ hq] at e
    rw [List.append_nil]
    exact e.symm
  have b := hb _ (Value.ref (s.heap.objs.size + 1) :: us) I2.kIn hl
  rw [List.append_nil] at b
  refine wpAny_call (make_map (f := f) I.kIn M.makes M.init (beq_iff_eq.mp M.fn) (codeAny_mono (F.run _ X.stack _ _ ⟨Value.ref (s.heap.objs.size + 1) :: us, []⟩ (Value.ref (s.heap.objs.size + 1) :: us) _ _ E (hr.make C us [])
    (I2.env0.make C us []) b r2 hq) fun r s' hq' => ?_))
  cases r with
  | error e => exact hx pins _ _ e s' I2 hq'
  | ok fl =>
    cases fl with
    | ret u =>
      obtain ⟨v, H', I3, rv, ev, q3⟩ := I2.after hq'
      subst ev
      exact ⟨rv, ⟨V.ref (s.heap.objs.size + 1), H', I3, rfl, q3⟩⟩
    | next => exact False.elim hq'
    | brk => exact False.elim hq'
    | cont => exact False.elim hq'
theorem newD_sp {K : PySem.W.Frag} {C : Rl → Hp → Prop} {c f : Nat} {mu : Bool} {args : List D} {vs : List V} {σ : L2.St} {H : Hp} {Q : VK} {CA : Addr} (hi : P.init c = some f) (hCA : nm.cls[c]? = some CA) (hC : ∀ r H, C r H → Rels K nm r H args vs)
    (h : tT K nm C (Rel K nm) W (fun _ S => newD P.init run c mu args S) σ H Q) {x dx : Addr} (hx : H x = none) (hdx : H dx = none) (ne : dx ≠ x) :
    spF K nm (args.length + 1) (run f) (.ref x :: vs) (upd (upd H dx (.own x)) x (.ins CA dx [])) (fun v H2 => v = .non ∧ Q (.ref x) H2) (fun c d H' => W c d σ H') := by
  obtain ⟨r, env, S, Pp, st, en, cc, al, po⟩ := h
  have rv := hC r H cc
  change (newD P.init run c mu args S).All Pp (XP K nm W σ r H) at al
  unfold newD at al
  rw [hi] at al
  simp only [some?_some] at al
  have hx1 : (upd H dx (.own x)) x = none := by rw [upd_ne (Ne.symm ne)]; exact hx
  by_cases hp : (!mu && pus args) = true
  · rw [if_pos hp, T.All_iso] at al
    simp only [Bool.and_eq_true, Bool.not_eq_true'] at hp
    have x0 : Ext K r.inn H r.inn (upd H dx (.own x)) := Ext.fresh hdx
    have s0 := st.inn.fresh (o := .own x) hdx
    have x1 : Ext K r.inn (upd H dx (.own x)) (r.inn.add x) (upd (upd H dx (.own x)) x (.ins CA dx [])) := Ext.cell hx1
    have s1 := s0.cell (d := .ins c []) hx1 (o := .ins CA dx []) ⟨CA, dx, [], hCA, upd_same, rfl⟩
    have x2 := x0.trans x1
    have rv1 : Rels K nm (r.inn.add x) (upd (upd H dx (.own x)) x (.ins CA dx [])) args vs := (rv.pure (fun a h => Rl.inn_off.mpr h) (fun _ h => h) hp.2).ext x2
    refine ⟨r.inn.add x, [.ins c []], .obj 0 :: args, _, s1, ⟨_, _, rfl, ⟨x, rfl, rfl⟩, rv1⟩, rfl, al.mono (fun _ _ z => z) fun e S' z r' H' y st' cv d q => ?_, fun d S' v r' H' z y st' rl => ?_⟩
    · have yy := x2.trans y
      exact z.2 _ H' (Ext.out st yy (out_off yy st')) (st.out yy st') cv d q
    · have yy := x2.trans y
      have oo := out_off yy st'
      cases d <;> simp only [T.All_bad] at z
      refine ⟨rl, ?_⟩
      cases e : freeze S' 0 (.obj 0) with
      | none => simp [e] at z
      | some d' =>
        simp [e] at z
        have r0 : Rel K nm r' H' (.obj 0) (.ref x) := ⟨x, rfl, y.get rfl⟩
        exact po d' S _ _ H' z (Ext.out st yy oo) (st.out yy st') (freeze_rel st' oo.1 (fun _ h => h) (fun k a h _ => absurd h (Nat.not_lt_zero _)) (fun k a _ h => oo.2 k a h) r0 e)
  · rw [if_neg hp, T.All_bind] at al
    have x0 : Ext K r H r (upd H dx (.own x)) := Ext.fresh hdx
    have s0 := st.fresh (o := .own x) hdx
    have x1 : Ext K r (upd H dx (.own x)) (r.add x) (upd (upd H dx (.own x)) x (.ins CA dx [])) := Ext.cell hx1
    have s1 := s0.cell (d := .ins c []) hx1 (o := .ins CA dx []) ⟨CA, dx, [], hCA, upd_same, rfl⟩
    have x2 := x0.trans x1
    have o0 : (r.m ++ [x])[S.length]? = some x := by rw [← st.len]; simp
    refine ⟨r.add x, S ++ [.ins c []], .obj S.length :: args, _, s1, ⟨_, _, rfl, ⟨x, rfl, o0⟩, rv.ext x2⟩, rfl, al.mono (fun _ _ z => z) fun e S' z r' H' y st' cv d q => z r' H' (x2.trans y) st' cv d q, fun d S' v r' H' z y st' rl => ?_⟩
    cases d <;> simp only [T.All_bad] at z
    exact ⟨rl, po _ S' _ r' H' z (x2.trans y) st' ⟨x, rfl, y.get o0⟩⟩
theorem pe_newD (G : Good X nm Y P run W) {x : Str} {c : Nat} {mu : Bool} {p pos : Pos} {es : List Expr} {ds : List E} (hc : find? Y.cls x = some c) (hg : Y.glo x = true) (hdb : (x == ("__debug__" : Str)) = false)
    (ha : PA X es (tEs X.K nm W (rnOf P run) ds)) (hs : ∀ e ∈ es, isStar e = false) (hdl : ds.length = es.length) :
    PE X (.Call (.Name x p) es [] pos) (tE X.K nm W (rnOf P run) (.new c mu ds)) := by
  obtain ⟨f, C, k, g, fd, ps, hi, hC, hm, M, F, hr, hb, har⟩ := G.cni x c hc
  have red : ∀ {σ H Q}, tE X.K nm W (rnOf P run) (.new c mu ds) σ H Q → tEs X.K nm W (rnOf P run) ds σ H fun vs H1 => ∀ x dx, H1 x = none → H1 dx = none → dx ≠ x → spF X.K nm ps.length (run f) (.ref x :: vs) (upd (upd H1 dx (.own x)) x (.ins C dx [])) (fun v H2 => v = .non ∧ Q (.ref x) H2) (WE W σ) := fun {σ H Q} h => by
    refine tT_mono (bind1s Mono.c0 (f := fun env qs S => newD P.init run c mu qs S) (tT_eq (fun env S => by simp [evE, rnOf]) h)) fun vs H1 ⟨qs, h2⟩ => ?_
    exact fun x dx hx hdx ne => spF_len har (newD_sp hi hC (fun r H c => c.2) h2 hx hdx ne)
  cases es with
  | nil =>
    have e : ds = [] := by
      cases ds with
      | nil => rfl
      | cons _ _ => simp at hdl
    subst e
    refine ⟨fun pins s σ H Q I h => ?_⟩
    have h2 := tT_eq (t' := fun _ S => .ret [] S) (fun env S => by simp [evEs]) (red h)
    obtain ⟨r, _, kk⟩ := tT_ret h2
    refine wpAny_Call_Name_kw (ld_glob I (G.isGl hg) hm ?_ hdb)
    exact PySem.W.callWith_K0 I.kIn M.kp (run_makeS (us := []) M F hr hb (passAt G.tk σ) I .nil (kk [] rfl))
  | cons e es =>
    have he := star_cons (hs e List.mem_cons_self) es X.env
    refine ⟨fun pins s σ H Q I h => ?_⟩
    refine wpAny_Call_Name_kw (ld_glob I (G.isGl hg) hm ?_ hdb)
    refine PySem.W.callWith_K (h₀ := X.base) I.ok.mod.kin M.kp (thn (ha.run pos pins s σ H _ I (red h)) fun us s1 ⟨vs, H1, I1, r, q⟩ => ⟨I1.kIn, ?_⟩) he (any_back pos X.env fun e' he => hs e' (List.mem_cons_of_mem _ he))
    exact run_makeS M F hr hb (passAt G.tk σ) I1 r q
end
end Ic

set_option Elab.async false
set_option linter.all false
set_option maxRecDepth 100000
set_option maxHeartbeats 1000000
/-! Ic4f: methods of lists and dicts, isinstance, list(range(..)). -/
namespace Ic
open PySem PySem.Spec PyProof.Rows L2
section
variable {X : Cx} {K : PySem.W.Frag} {nm : Nm} {Y : Sym} {P : Prog} {run : Nat → List D → Store → T D} {W : WX} {R : Rn}
def rMe (K : PySem.W.Frag) (nm : Nm) (q : Me) : V → List V → Hp → VK → Prop := fun x vs H Q => ∃ dx ds r S d S1, Sto K nm r H S ∧ Rel K nm r H dx x ∧ Rels K nm r H ds vs ∧ mth S q dx ds = some (d, S1) ∧
  ∀ v r' H', Ext K r H r' H' → Sto K nm r' H' S1 → Rel K nm r' H' d v → Q v H'
def Me.ty : Me → String
  | .append | .extend | .pop | .index | .count => "list"
  | .setdefault | .get | .update => "dict"
def Me.nam : Me → String
  | .append => "append" | .extend => "extend" | .pop => "pop" | .index => "index" | .count => "count" | .setdefault => "setdefault" | .get => "get" | .update => "update"
theorem putK_rel {r : Rl} {H : Hp} {k : D} {key : Key} (hk : keyR k key) : ∀ {kvs : List (D × D)} {ks : List (Key × V)}, RelKs K nm r H kvs ks → dget kvs k = none → valV ks key = none
  | kvs, ks, h, e => by
    rcases dget_rel hk h with ⟨d, v, e1, _, _⟩ | ⟨_, e2⟩
    · rw [e] at e1; cases e1
    · exact e2
theorem me_append : MtR X "list.append" (rMe X.K nm .append) := by
  intro pins s σ H x vs v us Q I rx rv ⟨dx, ds, r, S, d, S1, st, h1, h2, e, k⟩
  match dx, ds, e with
  | .obj n, [y], e =>
    simp only [mth] at e
    obtain ⟨a, rfl, hm⟩ := h1
    obtain ⟨c, hc, cel⟩ := st.at hm
    rw [hc] at e
    cases c <;> simp only [reduceCtorEq] at e
    rename_i xs
    obtain ⟨w, rfl, hw⟩ := rels1 h2
    split at e
    · rename_i hl
      cases e
      obtain ⟨ws, q, z⟩ := cel
      have x1 : Ext X.K r H r (upd H a (.lst (ws ++ [w]))) := Ext.write st (List.mem_of_getElem? hm) (by rw [q]; trivial)
      refine mt_append pins s σ H _ _ v us Q I rx rv ⟨a, ws, w, rfl, rfl, q, by rw [z.length, ← line_eq]; exact hl, k _ r _ x1 (st.write hm ⟨_, upd_same, (z.append (.one hw)).ext x1⟩) rfl⟩
    · cases e
theorem me_extend : MtR X "list.extend" (rMe X.K nm .extend) := by
  intro pins s σ H x vs v us Q I rx rv ⟨dx, ds, r, S, d, S1, st, h1, h2, e, k⟩
  match dx, ds, e with
  | .obj n, [y], e =>
    simp only [mth] at e
    obtain ⟨a, rfl, hm⟩ := h1
    obtain ⟨c, hc, cel⟩ := st.at hm
    rw [hc] at e
    obtain ⟨w, rfl, hw⟩ := rels1 h2
    have vw := hw.view st
    cases ey : view S y <;> rw [ey] at e vw <;> cases c <;> simp only [reduceCtorEq] at e
    rename_i ys xs
    split at e
    · rename_i hl
      cases e
      obtain ⟨ws, q, z⟩ := cel
      obtain ⟨b, us', rfl, q2, z2⟩ := vw
      have x1 : Ext X.K r H r (upd H a (.lst (ws ++ us'))) := Ext.write st (List.mem_of_getElem? hm) (by rw [q]; trivial)
      refine mt_extend pins s σ H _ _ v us Q I rx rv ⟨a, b, ws, us', rfl, rfl, q, q2, by rw [z.length, z2.length, ← line_eq]; exact hl, k _ r _ x1 (st.write hm ⟨_, upd_same, (z.append z2).ext x1⟩) rfl⟩
    · cases e
theorem me_pop : MtR X "list.pop" (rMe X.K nm .pop) := by
  intro pins s σ H x vs v us Q I rx rv ⟨dx, ds, r, S, d, S1, st, h1, h2, e, k⟩
  match dx, ds, e with
  | .obj n, [], e =>
    simp only [mth] at e
    obtain ⟨a, rfl, hm⟩ := h1
    obtain ⟨c, hc, cel⟩ := st.at hm
    rw [hc] at e
    have hv : vs = [] := h2
    subst hv
    cases c <;> simp only [reduceCtorEq] at e
    rename_i xs
    obtain ⟨y, hy, e⟩ := Option.map_eq_some_iff.mp e
    cases e
    obtain ⟨ws, q, z⟩ := cel
    obtain ⟨w, hw, rw1⟩ := z.get hy
    have x1 : Ext X.K r H r (upd H a (.lst ws.dropLast)) := Ext.write st (List.mem_of_getElem? hm) (by rw [q]; trivial)
    exact mt_pop pins s σ H _ _ v us Q I rx rv ⟨a, ws, w, rfl, rfl, q, by rw [z.length]; exact hw, k w r _ x1 (st.write hm ⟨_, upd_same, z.dropLast.ext x1⟩) (rw1.ext x1)⟩
theorem findIdx_py {m n : Nat} {a : D} (ha : a.ok m = true) : ∀ {ds : List D} {j : Nat}, oks n ds = true → (ds.findIdx? fun y => y.eqv a) = some j → ∃ z, (pyDs ds)[j]? = some z ∧ PyData.eqv z (pyD a) = true ∧ ∀ (i : Nat) z', i < j → (pyDs ds)[i]? = some z' → PyData.eqv z' (pyD a) = false
  | [], _, _, e => by simp at e
  | d :: ds, j, h, e => by
    simp only [oks, Bool.and_eq_true] at h
    rw [List.findIdx?_cons] at e
    by_cases hd : d.eqv a = true
    · rw [if_pos hd] at e
      cases e
      exact ⟨pyD d, by simp [pyDs], by rw [pyD_eqv n m d a h.1 ha]; exact hd, fun i z' hi _ => absurd hi (Nat.not_lt_zero _)⟩
    · rw [if_neg hd] at e
      obtain ⟨j', e', rfl⟩ := Option.map_eq_some_iff.mp e
      obtain ⟨z, q1, q2, q3⟩ := findIdx_py ha h.2 e'
      refine ⟨z, by simpa [pyDs] using q1, q2, fun i z' hi hz => ?_⟩
      cases i with
      | zero =>
        simp [pyDs] at hz
        rw [← hz, pyD_eqv n m d a h.1 ha]
        simpa using hd
      | succ i => exact q3 i z' (by omega) (by simpa [pyDs] using hz)
theorem me_index (hu : X.A.units + 65 < cLine) : MtR X "list.index" (rMe X.K nm .index) := by
  intro pins s σ H x vs v us Q I rx rv ⟨dx, ds, r, S, d, S1, st, h1, h2, e, k⟩
  match ds, e with
  | [y], e =>
    have vx := h1.view st
    cases ex : view S dx <;> rw [ex] at vx <;> simp only [mth, ex, reduceCtorEq] at e
    rename_i ys
    obtain ⟨w, rfl, hw⟩ := rels1 h2
    split at e
    · rename_i hc
      obtain ⟨j, hj, e⟩ := Option.map_eq_some_iff.mp e
      cases e
      simp only [Bool.and_eq_true] at hc
      have o2 : (D.lst ys).ok 40 = true := by simpa [D.ok] using hc.2
      obtain ⟨z, q1, q2, q3⟩ := findIdx_py hc.1 hc.2 hj
      have dp2 : Dp X.K H x (pyD (.lst ys)) := vx.dp o2
      obtain ⟨a, ws, rfl, q, zz⟩ := vx
      exact mt_indexD hu pins s σ H _ _ v us Q I rx rv ⟨a, w, pyD y, pyDs ys, j, z, rfl, rfl, dp2, dp_of 40 y w hc.1 hw, shaped_of o2, shaped_of hc.1, q1, q2, q3, k _ r H Ext.refl st rfl⟩
    · cases e
theorem me_get1 (hu : X.A.units + 65 < cLine) : MtR X "dict.get" (rMe X.K nm .get) := by
  intro pins s σ H x vs v us Q I rx rv ⟨dx, ds, r, S, d, S1, st, h1, h2, e, k⟩
  have vx := h1.view st
  match ds, e with
  | [y], e =>
    cases ex : view S dx <;> rw [ex] at vx <;> simp only [mth, ex, reduceCtorEq] at e
    rename_i kvs
    obtain ⟨w, rfl, hw⟩ := rels1 h2
    split at e
    · rename_i hc
      cases e
      obtain ⟨a, ks, rfl, q, z⟩ := vx
      obtain ⟨key, hk, rfl⟩ := keyR_ok hc hw
      obtain ⟨u, rfl, ru⟩ := vals1 rv
      obtain rfl : v = Value.ref a := rx
      refine d_get1 (by omega) I (DGet.k q) ru fun w' s' I' rw' => ⟨_, H, I', rw', ?_⟩
      rcases dget_rel hk z with ⟨d, v, e1, e2, hr⟩ | ⟨e1, e2⟩
      · rw [e2]
        rw [e1] at k
        exact k v r H Ext.refl st hr
      · rw [e2]
        rw [e1] at k
        exact k .non r H Ext.refl st rfl
    · cases e
  | [y, y2], e =>
    cases ex : view S dx <;> rw [ex] at vx <;> simp only [mth, ex, reduceCtorEq] at e
    rename_i kvs
    obtain ⟨w, w2, rfl, hw, hw2⟩ := rels2 h2
    split at e
    · rename_i hc
      cases e
      obtain ⟨a, ks, rfl, q, z⟩ := vx
      obtain ⟨key, hk, rfl⟩ := keyR_ok hc hw
      obtain ⟨u, u2, rfl, ru, ru2⟩ := vals2 rv
      obtain rfl : v = Value.ref a := rx
      refine d_get2 (by omega) I (DGet.k q) ru ru2 fun w' s' I' rw' => ⟨_, H, I', rw', ?_⟩
      rcases dget_rel hk z with ⟨d, v, e1, e2, hr⟩ | ⟨e1, e2⟩
      · rw [e2]
        rw [e1] at k
        exact k v r H Ext.refl st hr
      · rw [e2]
        rw [e1] at k
        exact k w2 r H Ext.refl st hw2
    · cases e
  | [], e => cases ex : view S dx <;> simp [mth] at e
  | _ :: _ :: _ :: _, e => cases ex : view S dx <;> simp [mth] at e
theorem me_setd : MtR X "dict.setdefault" (rMe X.K nm .setdefault) := by
  intro pins s σ H x vs v us Q I rx rv ⟨dx, ds, r, S, d, S1, st, h1, h2, e, k⟩
  match dx, ds, e with
  | .obj n, [y, y2], e =>
    simp only [mth] at e
    obtain ⟨a, rfl, hm⟩ := h1
    obtain ⟨c, hc, cel⟩ := st.at hm
    rw [hc] at e
    cases c <;> simp only [reduceCtorEq] at e
    rename_i kvs
    obtain ⟨w, w2, rfl, hw, hw2⟩ := rels2 h2
    split at e
    · rename_i hcc
      simp only [Bool.and_eq_true, decide_eq_true_eq] at hcc
      obtain ⟨ks, q, z⟩ := cel
      obtain ⟨key, hk, rfl⟩ := keyR_ok hcc.1 hw
      obtain ⟨u, u2, rfl, ru, ru2⟩ := vals2 rv
      obtain rfl : v = Value.ref a := rx
      have hl : ks.length < sizeLine := by rw [z.length, ← line_eq]; exact hcc.2
      rcases dget_rel hk z with ⟨d0, v0, e1, e2, hr⟩ | ⟨e1, e2⟩
      · rw [e1] at e
        cases e
        refine d_setd I q ru ru2 hl (fun v' hv w' s' I' rw' => ?_) (fun hv => by rw [e2] at hv; cases hv)
        rw [e2] at hv
        cases hv
        exact ⟨v0, H, I', rw', k v0 r H Ext.refl st hr⟩
      · rw [e1] at e
        cases e
        refine d_setd I q ru ru2 hl (fun v' hv => by rw [e2] at hv; cases hv) (fun hv w' s' I' rw' => ?_)
        have pk : putK ks key w2 = ks ++ [(key, w2)] := putK_new w2 e2
        rw [pk] at I'
        have x1 : Ext X.K r H r (upd H a (.dK (ks ++ [(key, w2)]))) := Ext.write st (List.mem_of_getElem? hm) (by rw [q]; trivial)
        exact ⟨w2, _, I', rw', k w2 r _ x1 (st.write hm ⟨_, upd_same, (RelKs.append hk hw2 z).ext x1⟩) (hw2.ext x1)⟩
    · cases e
theorem meTy_of {r : Rl} {H : Hp} {q : Me} {d : D} {v : V} (h : VRel K nm r H d v) (e : meTy q d = true) : tyV K q.ty v H := by
  cases d <;> cases q <;> simp [meTy] at e
  all_goals
    obtain ⟨a, ws, rfl, q1, z⟩ := h
    first
    | exact .inl ⟨rfl, ws, SqL.of q1⟩
    | exact .inr (.inr (.inl ⟨rfl, .inl ⟨ws, q1⟩⟩))
def meId : Me → String
  | .append => "list.append" | .extend => "list.extend" | .pop => "list.pop" | .index => "list.index" | .count => "list.count" | .setdefault => "dict.setdefault" | .get => "dict.get" | .update => "dict.update"
/-- the methods that are known -/
theorem me_all (hu : X.A.units + 65 < cLine) (q : Me) (n : Nat) (x : Str) (h : meOf x n = some q) : x = Str.ofString q.nam ∧ PlainAttrs q.ty ∧ Slot q.ty (Str.ofString q.nam) (meId q) ∧ typeOf (.builtin (meId q)) = pure (.type "method_descriptor") ∧ MtR X (meId q) (rMe X.K nm q) ∧ n < 30 ∧ (n = 0 ↔ q = .pop) := by
  unfold meOf at h
  split at h
  · rename_i hc; cases h
    exact ⟨hc.1, PySem.F.plainAttrs_list, PySem.F.slot_list_append, PySem.F.type_list_append, me_append, by omega, by simp [hc.2]⟩
  split at h
  · rename_i hc; cases h
    exact ⟨hc.1, PySem.F.plainAttrs_list, PySem.F.slot_list_extend, PySem.F.type_list_extend, me_extend, by omega, by simp [hc.2]⟩
  split at h
  · rename_i hc; cases h
    exact ⟨hc.1, PySem.F.plainAttrs_list, PySem.F.slot_list_pop, PySem.F.type_list_pop, me_pop, by omega, by simp [hc.2]⟩
  split at h
  · rename_i hc; cases h
    exact ⟨hc.1, PySem.F.plainAttrs_dict, PySem.F.slot_dict_setdefault, PySem.F.type_dict_setdefault, me_setd, by omega, by simp [hc.2]⟩
  split at h
  · rename_i hc; cases h
    exact ⟨hc.1, PySem.F.plainAttrs_dict, PySem.F.slot_dict_get, PySem.F.type_dict_get, me_get1 hu, by omega, by simp; omega⟩
  split at h
  · rename_i hc; cases h
    exact ⟨hc.1, PySem.F.plainAttrs_list, PySem.F.slot_list_index, PySem.F.type_list_index, me_index hu, by omega, by simp [hc.2]⟩
  · cases h
theorem few_ok (pos : Pos) (env : Env) {es : List Expr} (h : ∀ e ∈ es, isStar e = false) (hl : es.length < 30) :
    ((backTo pos (starEach es env)).all (fun x => !x.1) && (backToKw pos (keywordEach [] env)).all (fun x => x.1.isSome) && decide (es.length + ([] : List Keyword).length + (if ([] : List Keyword).isEmpty then 0 else 1) < 30)) = true := by
  have h1 : (backTo pos (starEach es env)).all (fun x => !x.1) = true := by
    have := any_back pos env h
    rw [List.any_eq_false] at this
    rw [List.all_eq_true]
    intro x hx
    have := this x hx
    simpa using this
  rw [h1]
  have h2 : es.length + ([] : List Keyword).length + (if ([] : List Keyword).isEmpty then 0 else 1) < 30 := by simp; omega
  rw [decide_eq_true h2]
  rfl
theorem pe_mthD (hu : X.A.units + 65 < cLine) {a : Expr} {ea : E} {m : Str} {q : Me} {apos cpos : Pos} {es : List Expr} {ds : List E} (hq : meOf m es.length = some q) (hc : isCall0 a = false) (hline : (apos.endLine == cpos.line) = true)
    (he : PE X a (tE X.K nm W R ea)) (ha : PA X es (tEs X.K nm W R ds)) (hs : ∀ e ∈ es, isStar e = false) (hdl : ds.length = es.length) :
    PE X (.Call (.Attribute a m apos) es [] cpos) (tE X.K nm W R (.mth q ea ds)) := by
  obtain ⟨rfl, pa, sl, ty, mt, h30, h0⟩ := me_all (X := X) (nm := nm) hu q es.length m hq
  have red : ∀ {σ H Q}, tE X.K nm W R (.mth q ea ds) σ H Q → tE X.K nm W R ea σ H fun x H1 => tyV X.K q.ty x H1 ∧ tEs X.K nm W R ds σ H1 fun vs H2 => rMe X.K nm q x vs H2 Q := fun {σ H Q} h => by
    refine tT_mono (bind1 Mono.c0 (f := fun env x S => if meTy q (view S x) then (evEs R ds env S).bind fun ds S => some? (mth S q x ds) fun q => .ret q.1 q.2 else .bad) (tT_eq (fun env S => by simp [evE]) h)) fun v H1 ⟨x, h2⟩ => ?_
    obtain ⟨r, env, S, st, h3⟩ := tT_raw h2
    by_cases ht : meTy q (view S x) = true
    · rw [if_pos ht] at h3
      refine ⟨meTy_of (h3.2.1.2.view st) ht, ?_⟩
      have h4 : tT X.K nm (fun r H => C0 r H ∧ Rel X.K nm r H x v) (Rel X.K nm) W (fun env S => (evEs R ds env S).bind fun ds S => some? (mth S q x ds) fun q => .ret q.1 q.2) σ H1 Q := Raw.tT (env := env) (S := S) h3 st
      refine tT_mono (bind1s (Mono.c0.and .relD) h4) fun vs H2 ⟨qs, h5⟩ => ?_
      obtain ⟨r2, env2, S2, ⟨d, S3⟩, st2, c2, e2, h6⟩ := tT_some h5
      obtain ⟨_, _, P2, al, po⟩ := h6
      exact ⟨x, qs, r2, S2, d, S3, st2, c2.1.2, c2.2, e2, fun v' r' H' x' s' l' => po d S3 v' r' H' al x' s' l'⟩
    · rw [if_neg ht] at h3
      obtain ⟨_, _, _, al, _⟩ := h3
      exact al.elim
  have hb := base_plain hc (Str.ofString q.nam) X.env (eval a X.env)
  cases es with
  | nil =>
    have ed : ds = [] := by
      cases ds with
      | nil => rfl
      | cons _ _ => simp at hdl
    subst ed
    refine (pe_bm0 pa sl ty mt he hb hline).weak fun σ H Q h => tT_mono (red h) fun x H1 ⟨h1, h2⟩ => ⟨h1, ?_⟩
    have h2' := tT_eq (t' := fun _ S => .ret [] S) (fun env S => by simp [evEs]) h2
    obtain ⟨r, _, kk⟩ := tT_ret h2'
    exact kk [] rfl
  | cons e es =>
    have he0 := star_cons (hs e List.mem_cons_self) es X.env
    exact (pe_bm pa sl ty mt he ha hb (few_ok cpos X.env hs h30) hline he0 (any_back cpos X.env fun e' he => hs e' (List.mem_cons_of_mem _ he))).weak fun σ H Q h => red h
end
end Ic

set_option Elab.async false
set_option linter.all false
set_option maxRecDepth 100000
set_option maxHeartbeats 1000000
/-! Ic4g: isinstance, list(range(..)), built-ins by their names. -/
namespace Ic
open PySem PySem.Spec PyProof.Rows L2
section
variable {X : Cx} {K : PySem.W.Frag} {nm : Nm} {Y : Sym} {P : Prog} {run : Nat → List D → Store → T D} {W : WX} {R : Rn}
def Ty.nam : Ty → String
  | .tup => "tuple" | .lst => "list" | .int => "int" | .bool => "bool" | .str => "str" | .dct => "dict"
def D.tyn : D → String
  | .non => "NoneType" | .bl _ => "bool" | .int _ => "int" | .str _ => "str" | .tup _ => "tuple" | .lst _ => "list" | .scr _ => "list" | .dct _ => "dict" | _ => ""
theorem kit_tab : ∀ (t : Ty) (d : D) (b : Bool), isTy t d = some b → kitB d.tyn t.nam = some b := by
  have h : ∀ t : Ty, kitB "NoneType" t.nam = some false ∧ kitB "bool" t.nam = some (match t with | .int | .bool => true | _ => false) ∧ kitB "int" t.nam = some (match t with | .int => true | _ => false) ∧ kitB "str" t.nam = some (match t with | .str => true | _ => false) ∧
      kitB "tuple" t.nam = some (match t with | .tup => true | _ => false) ∧ kitB "list" t.nam = some (match t with | .lst => true | _ => false) ∧ kitB "dict" t.nam = some (match t with | .dct => true | _ => false) := by
    intro t
    cases t <;> exact ⟨by decide +kernel, by decide +kernel, by decide +kernel, by decide +kernel, by decide +kernel, by decide +kernel, by decide +kernel⟩
  intro t d b e
  obtain ⟨h1, h2, h3, h4, h5, h6, h7⟩ := h t
  cases d <;> simp only [D.tyn]
  · rw [h1, ← e]; cases t <;> rfl
  · rw [h2, ← e]; cases t <;> rfl
  · rw [h3, ← e]; cases t <;> rfl
  · rw [h4, ← e]; cases t <;> rfl
  · rw [h5, ← e]; cases t <;> rfl
  · rw [h6, ← e]; cases t <;> rfl
  · rw [h6, ← e]; cases t <;> rfl
  · rw [h7, ← e]; cases t <;> rfl
  all_goals (cases t <;> simp [isTy] at e)
theorem VRel.tyx {r : Rl} {H : Hp} {d : D} {v : V} {t : Ty} {b : Bool} (h : VRel K nm r H d v) (e : isTy t d = some b) : TyX K H v (.type d.tyn) := by
  cases d <;> simp only [D.tyn]
  · cases h; exact .base .non
  · cases h; exact .base (.bl _)
  · cases h; exact .base (.int _)
  · cases h; exact .base (.str _)
  · obtain ⟨a, vs, rfl, q, z⟩ := h
    rcases q with (q | ⟨o, q⟩) | ⟨o, its, n, hk, hc, _⟩
    · exact .base (.tup q)
    · exact .fTuple q
    · exact .kTuple hk hc
  · obtain ⟨a, vs, rfl, q, z⟩ := h
    exact .base (.lst q)
  · obtain ⟨a, rfl, q⟩ := h
    rcases q.sq with (q | ⟨o, q⟩) | ⟨o, its, n, hk, hc, _⟩
    · exact .base (.lst q)
    · exact .base (.frz q)
    · exact .kList hk hc
  · obtain ⟨a, vs, rfl, q, z⟩ := h
    exact .base (.dK q)
  all_goals (cases t <;> simp [isTy] at e)
theorem boot_ty (t : Ty) : bootBuiltins (Str.ofString t.nam) = some (.type t.nam) ∧ Str.ofString t.nam ≠ "__name__" ∧ (Str.ofString t.nam == ("__debug__" : Str)) = false := by
  cases t <;> exact ⟨by decide +kernel, by decide, by decide⟩
theorem tyOf_nam {x : Str} {t : Ty} (h : tyOf x = some t) : x = Str.ofString t.nam := by
  unfold tyOf at h
  split at h
  · rename_i hc; cases h; exact hc
  split at h
  · rename_i hc; cases h; exact hc
  split at h
  · rename_i hc; cases h; exact hc
  split at h
  · rename_i hc; cases h; exact hc
  split at h
  · rename_i hc; cases h; exact hc
  split at h
  · rename_i hc; cases h; exact hc
  · cases h
theorem Good.isFree (G : Good X nm Y P run W) {x : Str} (h : Y.free x = true) : Gl X x ∧ X.mg x = none := by
  unfold Sym.free at h
  simp only [Bool.and_eq_true] at h
  exact ⟨G.isGl h.1, G.blt x h.2⟩
theorem pe_isiD (G : Good X nm Y P run W) {a : Expr} {ea : E} {x : Str} {t : Ty} {p p2 pos : Pos} (hi : Y.free "isinstance" = true) (ht : tyOf x = some t) (hx : Y.free x = true) (he : PE X a (tE X.K nm W R ea)) (hs : isStar a = false) :
    PE X (.Call (.Name "isinstance" p) [a, .Name x p2] [] pos) (tE X.K nm W R (.bi (.isi t) false [ea])) := by
  obtain ⟨g1, m1⟩ := G.isFree hi
  obtain ⟨g2, m2⟩ := G.isFree hx
  have e := tyOf_nam ht
  subst e
  obtain ⟨b1, b2, b3⟩ := boot_ty t
  have h2 : PE X (.Name (Str.ofString t.nam) p2) (tC (.ty t.nam)) := pe_bltn g2 m2 b1 rfl b2 b3
  refine (pe_callB call_isi g1 m1 PyProof.Rows.boot_isinstance (pa_cons he (pa_cons h2 pa_nil) (star_cons hs _ _)) (he := star_cons hs _ _)).weak fun σ H Q h => ?_
  refine tT_mono (bind1 Mono.c0 (f := fun env x S => some? (isTy t (view S x)) fun b => .ret (.bl b) S) (tT_eq (fun env S => by
    simp only [evE, evEs, T.bind_assoc, T.bind_ret, List.map_cons, List.map_nil, bi]
    congr
    funext x S
    cases isTy t (view S x) <;> simp) h)) fun v H1 ⟨d, h3⟩ => ?_
  obtain ⟨r, env, S, b, st, c, e, h4⟩ := tT_some h3
  have w := c.2.view st
  exact ⟨v, .ty t.nam, .type (view S d).tyn, .type t.nam, b, rfl, .ty _, w.tyx e, kit_ty (kit_tab t _ b e), h4.ret st rfl⟩
theorem pe_isi2D (G : Good X nm Y P run W) {a : Expr} {ea : E} {x y : Str} {t u : Ty} {p p2 p3 pos pos2 : Pos} {m3 : Nat} (hi : Y.free "isinstance" = true) (ht : tyOf x = some t) (hu : tyOf y = some u) (hx : Y.free x = true) (hy : Y.free y = true) (he : PE X a (tE X.K nm W R ea)) (hs : isStar a = false) :
    PE X (.Call (.Name "isinstance" p) [a, .Tuple [.Name x p2, .Name y p3] m3 pos2] [] pos) (tE X.K nm W R (.bi (.isi2 t u) false [ea])) := by
  obtain ⟨g1, m1⟩ := G.isFree hi
  obtain ⟨g2, m2⟩ := G.isFree hx
  obtain ⟨g3, m3⟩ := G.isFree hy
  have e := tyOf_nam ht
  subst e
  have e := tyOf_nam hu
  subst e
  obtain ⟨b1, b2, b3⟩ := boot_ty t
  obtain ⟨c1, c2, c3⟩ := boot_ty u
  have h2 : PE X (.Name (Str.ofString t.nam) p2) (tC (.ty t.nam)) := pe_bltn g2 m2 b1 rfl b2 b3
  have h3 : PE X (.Name (Str.ofString u.nam) p3) (tC (.ty u.nam)) := pe_bltn g3 m3 c1 rfl c2 c3
  refine (pe_callB call_isiT g1 m1 PyProof.Rows.boot_isinstance (pa_cons he (pa_cons (pe_tup (pa_cons h2 (pa_cons h3 pa_nil))) pa_nil) (star_cons hs _ _)) (he := star_cons hs _ _)).weak fun σ H Q h => ?_
  refine tT_mono (bind1 Mono.c0 (f := fun env x S => some? ((isTy t (view S x)).bind fun b => (isTy u (view S x)).map fun c => (b || c)) fun b => .ret (.bl b) S) (tT_eq (fun env S => by
    simp only [evE, evEs, T.bind_assoc, T.bind_ret, List.map_cons, List.map_nil, bi]
    congr
    funext x S
    cases isTy t (view S x) <;> cases isTy u (view S x) <;> simp) h)) fun v H1 ⟨d, h3⟩ => ?_
  obtain ⟨r, env, S, b, st, c, e, h4⟩ := tT_some h3
  obtain ⟨bt, e1, e⟩ := Option.bind_eq_some_iff.mp e
  obtain ⟨bu, e2, e⟩ := Option.map_eq_some_iff.mp e
  subst e
  refine ⟨by rw [sizeLine_eq]; simp only [List.length_cons, List.length_nil]; decide, fun q hq => ?_⟩
  have x1 : Ext X.K r H1 r (upd H1 q (.tup [.ty t.nam, .ty u.nam])) := Ext.fresh hq
  have st1 := st.fresh (o := .tup [.ty t.nam, .ty u.nam]) hq
  have w := (c.2.ext x1).view st1
  refine ⟨v, q, _, .type (view S d).tyn, [.type t.nam, .type u.nam], (bt || bu), rfl, upd_same, .cons (.ty _) (.cons (.ty _) .nil), w.tyx e1, ?_, ?_⟩
  · refine kitAny_cons (kit_ty (kit_tab t _ bt e1)) (fun hb => ?_) (fun hb => by simp [hb])
    refine kitAny_cons (kit_ty (kit_tab u _ bu e2)) (fun hc => ?_) (fun hc => by simp [hc])
    rw [hb, hc]
    exact kitAny_nil
  · obtain ⟨en, cc, P, al, po⟩ := h4
    exact po _ S _ r _ al x1 st1 rfl
/-! ### list(range(..)) -/
theorem rels_range {r : Rl} {H : Hp} (a b : Int) : Rels K nm r H (rangeL a b) (rgV a b) := by
  unfold rangeL rgV
  have : ∀ l : List Nat, Rels K nm r H (l.map fun (k : Nat) => D.int (a + (k : Int))) (l.map fun i => V.int (a + (i : Nat))) := by
    intro l
    induction l with
    | nil => exact rfl
    | cons x l ih => exact ⟨_, _, rfl, rfl, ih⟩
  exact this _
theorem pe_listRD (G : Good X nm Y P run W) {mu : Bool} {p p2 pos pos2 : Pos} {es : List Expr} {ds : List E} (hl : Y.free "list" = true) (hr : Y.free "range" = true) (h : ∀ (i : Nat) e d, es[i]? = some e → ds[i]? = some d → PE X e (tE X.K nm W R d))
    (hs : ∀ e ∈ es, isStar e = false) (hdl : ds.length = es.length) (h2 : es.length ≤ 2) : PE X (.Call (.Name "list" p) [.Call (.Name "range" p2) es [] pos2] [] pos) (tE X.K nm W R (.bi .listR mu ds)) := by
  obtain ⟨g1, m1⟩ := G.isFree hl
  obtain ⟨g2, m2⟩ := G.isFree hr
  match es, ds, hdl with
  | [], [], _ => exact PE.none fun _ _ _ => tT_bad fun env S => by simp [evE, evEs, bi]
  | [a], [da], _ =>
    have ha := h 0 a da rfl rfl
    refine (pe_listRg G.calm g1 m1 (prg_1 g2 m2 ha (star_cons (hs a List.mem_cons_self) _ _))).weak fun σ H Q q => ?_
    refine tT_mono (bind1 Mono.c0 (f := fun env x S => some? (bi .listR [view S x]) fun d => mk mu d S) (tT_eq (fun env S => by simp [evE, evEs, T.bind_assoc]) q)) fun v H1 ⟨x, h2⟩ => ?_
    obtain ⟨env, r, S, d, st, c, e, k⟩ := tT_fin (g := fun _ S => bi .listR [view S x]) h2
    have w := c.2.view st
    cases ex : view S x <;> rw [ex] at w <;> simp only [ex, bi, reduceCtorEq] at e
    rename_i n
    split at e
    · rename_i hc
      cases e
      cases w
      refine ⟨n, rfl, ⟨by decide, by decide, hc.1, ?_, ?_⟩, fun p hp => Kont.lst k st hp (rels_range 0 n)⟩
      · have := hc.2; unfold line at this; omega
      · have := hc.2; unfold line at this; omega
    · cases e
  | [a, b], [da, db], _ =>
    have ha := h 0 a da rfl rfl
    have hb := h 1 b db rfl rfl
    refine (pe_listRg G.calm g1 m1 (prg_2 g2 m2 ha hb (star_cons (hs a List.mem_cons_self) _ _) (star_cons (hs b (List.mem_cons_of_mem _ List.mem_cons_self)) _ _) (any_back _ _ fun e he => hs e (List.mem_cons_of_mem _ he)))).weak fun σ H Q q => ?_
    refine tT_mono (bind1 Mono.c0 (f := fun env x S => (evE R db env S).bind fun y S => some? (bi .listR [view S x, view S y]) fun d => mk mu d S) (tT_eq (fun env S => by simp [evE, evEs, T.bind_assoc]) q)) fun v H1 ⟨x, h2⟩ => ?_
    refine tT_mono (bind1 (Mono.c0.and .relD) h2) fun u H2 ⟨y, h3⟩ => ?_
    obtain ⟨env, r, S, d, st, c, e, k⟩ := tT_fin (g := fun _ S => bi .listR [view S x, view S y]) h3
    have w := c.1.2.view st
    have w2 := c.2.view st
    cases ex : view S x <;> rw [ex] at w <;> simp only [ex, bi, reduceCtorEq] at e
    cases ey : view S y <;> rw [ey] at w2 <;> simp only [ey, bi, reduceCtorEq] at e
    rename_i i j
    split at e
    · rename_i hc
      cases e
      cases w
      cases w2
      refine ⟨i, j, rfl, rfl, ⟨hc.1, hc.2.1, hc.2.2.1, hc.2.2.2.1, ?_⟩, fun p hp => Kont.lst k st hp (rels_range i j)⟩
      have := hc.2.2.2.2; unfold line at this; omega
    · cases e
  | a :: b :: c :: es, da :: db :: dc :: ds, _ => simp at h2
/-! ### built-ins by their names -/
inductive BiKind where
  | fn (id : String) | ty (id : String)
theorem bi_named {b : Bi} {x : Str} {mu : Bool} (hc : X.calm = true) (hu : X.A.units + 65 < cLine) (h : biOf x = some b) : ((∃ id, bootBuiltins x = some (.builtin id) ∧ CallR X (.builtin id) (rBi X.K nm b mu)) ∨ (∃ id, bootBuiltins x = some (.type id) ∧ CallR X (.type id) (rBi X.K nm b mu))) ∧ x ≠ "__name__" ∧ bi b [] = none := by
  unfold biOf at h
  split at h
  · rename_i hx; cases h; subst hx; exact ⟨.inl ⟨_, by decide +kernel, bi_len⟩, by decide, rfl⟩
  split at h
  · rename_i hx; cases h; subst hx; exact ⟨.inr ⟨_, by decide +kernel, bi_tuple⟩, by decide, rfl⟩
  split at h
  · rename_i hx; cases h; subst hx; exact ⟨.inr ⟨_, by decide +kernel, bi_list⟩, by decide, rfl⟩
  split at h
  · rename_i hx; cases h; subst hx; exact ⟨.inl ⟨_, by decide +kernel, bi_sorted⟩, by decide, rfl⟩
  split at h
  · rename_i hx; cases h; subst hx; exact ⟨.inl ⟨_, by decide +kernel, bi_sum hc⟩, by decide, rfl⟩
  split at h
  · rename_i hx; cases h; subst hx; exact ⟨.inl ⟨_, by decide +kernel, bi_max hc⟩, by decide, rfl⟩
  split at h
  · rename_i hx; cases h; subst hx; exact ⟨.inl ⟨_, by decide +kernel, bi_min hc (by omega)⟩, by decide, rfl⟩
  split at h
  · rename_i hx; cases h; subst hx; exact ⟨.inl ⟨_, by decide +kernel, bi_abs⟩, by decide, rfl⟩
  split at h
  · rename_i hx; cases h; subst hx; exact ⟨.inr ⟨_, by decide +kernel, bi_int⟩, by decide, rfl⟩
  split at h
  · rename_i hx; cases h; subst hx; exact ⟨.inl ⟨_, by decide +kernel, bi_all hc⟩, by decide, rfl⟩
  split at h
  · rename_i hx; cases h; subst hx; exact ⟨.inl ⟨_, by decide +kernel, bi_any hc⟩, by decide, rfl⟩
  · cases h
theorem pe_biD (G : Good X nm Y P run W) {b : Bi} {x : Str} {mu : Bool} {p pos : Pos} {es : List Expr} {ds : List E} (hb : biOf x = some b) (hf : Y.free x = true) (hdb : (x == ("__debug__" : Str)) = false) (ha : PA X es (tEs X.K nm W R ds)) (hs : ∀ e ∈ es, isStar e = false) (hdl : ds.length = es.length) :
    PE X (.Call (.Name x p) es [] pos) (tE X.K nm W R (.bi b mu ds)) := by
  obtain ⟨g1, m1⟩ := G.isFree hf
  obtain ⟨hk, hn, h0⟩ := bi_named (X := X) (nm := nm) (mu := mu) G.calm G.room hb
  have red : ∀ {σ H Q}, tE X.K nm W R (.bi b mu ds) σ H Q → tEs X.K nm W R ds σ H fun vs H1 => rBi X.K nm b mu vs H1 Q := fun {σ H Q} h => by
    refine tT_mono (bind1s Mono.c0 (f := fun env ds S => some? (bi b (ds.map (view S))) fun d => mk mu d S) (tT_eq (fun env S => by simp [evE]) h)) fun vs H1 ⟨qs, h2⟩ => ?_
    obtain ⟨env, r, S, d, st, c, e, k⟩ := tT_fin (g := fun _ S => bi b (qs.map (view S))) h2
    exact ⟨qs, r, S, d, st, c.2, e, k⟩
  cases es with
  | nil =>
    have ed : ds = [] := by
      cases ds with
      | nil => rfl
      | cons _ _ => simp at hdl
    subst ed
    exact PE.none fun _ _ _ => tT_bad fun env S => by simp [evE, evEs, h0]
  | cons e es =>
    have he0 := star_cons (hs e List.mem_cons_self) es X.env
    have hpl := any_back pos X.env fun e' he => hs e' (List.mem_cons_of_mem _ he)
    rcases hk with ⟨id, h1, h2⟩ | ⟨id, h1, h2⟩
    · exact (pe_callB h2 g1 m1 h1 ha hn hdb he0 hpl).weak fun σ H Q h => red h
    · exact (pe_callTy h2 g1 m1 h1 ha hn hdb he0 hpl).weak fun σ H Q h => red h
end
end Ic

set_option Elab.async false
set_option linter.all false
set_option maxRecDepth 100000
set_option maxHeartbeats 1000000
/-! Ic4h: what is walked. -/
namespace Ic
open PySem PySem.Spec PyProof.Rows L2
section
variable {X : Cx} {K : PySem.W.Frag} {nm : Nm} {Y : Sym} {P : Prog} {run : Nat → List D → Store → T D} {W : WX} {R : Rn}
/-- an iterator gives these items, as long as what is walked stands still -/
structure WalkD (K : PySem.W.Frag) (nm : Nm) (r0 : Rl) (H0 : Hp) (S0 : Store) (os : List Nat) (J : It) (items : List D) : Prop where
  go : ∀ i r H S, i < items.length → Ext0 K r0 H0 r H → Sto K nm r H S → still S0 S os = true → J.go i H
  stop : ∀ r H S, Ext0 K r0 H0 r H → Sto K nm r H S → still S0 S os = true → J.stop items.length H
  yld : ∀ i r H S x H', i < items.length → Ext0 K r0 H0 r H → Sto K nm r H S → still S0 S os = true → J.yld i H x H' → ∃ d, items[i]? = some d ∧ Ext K r H r H' ∧ Sto K nm r H' S ∧ Rel K nm r H' d x
/-- the reading of what is walked -/
def iD (K : PySem.W.Frag) (nm : Nm) (W : WX) (R : Rn) (k : Itk) (ds : List E) : TI := fun σ H Rr => tEs K nm W R ds σ H fun vs H1 => ∃ r0 S0 qs items, Sto K nm r0 H1 S0 ∧ Rels K nm r0 H1 qs vs ∧ itemsK S0 k qs = some items ∧
  ∀ J, WalkD K nm r0 H1 S0 (objsOf qs) J items → Rr J H1
theorem beq_eq : (∀ a b : D, a.beq b = true → a = b) ∧ (∀ a b : List D, beqs a b = true → a = b) ∧ (∀ a b : List (D × D), beqks a b = true → a = b) ∧ (∀ a b : List (Nat × D), beqfs a b = true → a = b) := by
  have main : ∀ n, (∀ a b : D, sizeOf a ≤ n → a.beq b = true → a = b) ∧ (∀ a b : List D, sizeOf a ≤ n → beqs a b = true → a = b) ∧ (∀ a b : List (D × D), sizeOf a ≤ n → beqks a b = true → a = b) ∧ (∀ a b : List (Nat × D), sizeOf a ≤ n → beqfs a b = true → a = b) := by
    intro n
    induction n with
    | zero =>
      refine ⟨fun a b h => ?_, fun a b h => ?_, fun a b h => ?_, fun a b h => ?_⟩
      · cases a <;> simp at h
      · cases a <;> simp at h
      · cases a <;> simp at h
      · cases a <;> simp at h
    | succ n ih =>
      obtain ⟨i1, i2, i3, i4⟩ := ih
      refine ⟨fun a b h e => ?_, fun a b h e => ?_, fun a b h e => ?_, fun a b h e => ?_⟩
      · cases a <;> cases b <;> simp [D.beq] at e <;> first | rfl | (subst e; rfl) | skip
        · simp at h; rw [i2 _ _ (by omega) e]
        · simp at h; rw [i2 _ _ (by omega) e]
        · simp at h; rw [i3 _ _ (by omega) e]
        · simp at h; rw [e.1, i4 _ _ (by omega) e.2]
      · cases a <;> cases b <;> simp [beqs] at e <;> first | rfl | skip
        simp at h
        rw [i1 _ _ (by omega) e.1, i2 _ _ (by omega) e.2]
      · match a, b, e with
        | [], [], _ => rfl
        | [], _ :: _, e => simp [beqks] at e
        | _ :: _, [], e => simp [beqks] at e
        | (p1, p2) :: l, (q1, q2) :: m, e =>
          simp [beqks] at e
          simp at h
          rw [i1 _ _ (by omega) e.1.1, i1 _ _ (by omega) e.1.2, i3 _ _ (by omega) e.2]
      · match a, b, e with
        | [], [], _ => rfl
        | [], _ :: _, e => simp [beqfs] at e
        | _ :: _, [], e => simp [beqfs] at e
        | (p1, p2) :: l, (q1, q2) :: m, e =>
          simp [beqfs] at e
          simp at h
          rw [e.1.1, i1 _ _ (by omega) e.1.2, i4 _ _ (by omega) e.2]
  exact ⟨fun a b => (main _).1 a b (Nat.le_refl _), fun a b => (main _).2.1 a b (Nat.le_refl _), fun a b => (main _).2.2.1 a b (Nat.le_refl _), fun a b => (main _).2.2.2 a b (Nat.le_refl _)⟩
theorem still_at {S0 S : Store} {os : List Nat} (h : still S0 S os = true) {n : Nat} (hn : n ∈ os) {c : D} (hc : S0[n]? = some c) : S[n]? = some c := by
  unfold still at h
  rw [List.all_eq_true] at h
  have := h n hn
  rw [hc] at this
  cases e : S[n]? with
  | none => rw [e] at this; cases this
  | some d =>
    rw [e] at this
    rw [beq_eq.1 c d this]
theorem objsOf_mem {n : Nat} : ∀ {ds : List D}, D.obj n ∈ ds → n ∈ objsOf ds
  | d :: ds, h => by
    rcases List.mem_cons.mp h with e | h
    · subst e; exact List.mem_cons_self
    · have := objsOf_mem h
      cases d <;> first | exact this | exact List.mem_cons_of_mem _ this
/-- a walked list or tuple at a later time -/
theorem seq_later {r0 r : Rl} {H0 H : Hp} {S0 S : Store} {os : List Nat} {d : D} {v : V} (h : Rel K nm r0 H0 d v) (x : Ext0 K r0 H0 r H) (st : Sto K nm r H S) (hs : still S0 S os = true) (ho : ∀ n, d = .obj n → n ∈ os) :
    (∀ xs, view S0 d = .lst xs → ∃ a vs, v = .ref a ∧ H a = some (.lst vs) ∧ Rels K nm r H xs vs) ∧ (∀ xs, view S0 d = .tup xs → ∃ a vs, v = .ref a ∧ SqT K H a vs ∧ Rels K nm r H xs vs) ∧ (∀ ns, view S0 d = .scr ns → ∃ a, v = .ref a ∧ SqL K H a (ns.map V.int)) := by
  have h' := h.ext0 x
  cases d with
  | obj n =>
    obtain ⟨a, rfl, hm⟩ := h'
    obtain ⟨c, hc, cel⟩ := st.at hm
    have key : ∀ c0, S0[n]? = some c0 → c = c0 := fun c0 q => by
      have := still_at hs (ho n rfl) q
      rw [hc] at this
      exact Option.some.inj this
    refine ⟨fun xs e => ?_, fun xs e => ?_, fun xs e => ?_⟩
    all_goals
      cases q : S0[n]? with
      | none => simp [view, q] at e
      | some c0 =>
        simp [view, q] at e
        have := key c0 q
        subst this
        subst e
        first
        | (obtain ⟨vs, q1, z⟩ := cel; exact ⟨a, vs, rfl, q1, z⟩)
        | exact cel.elim
  | lst ys =>
    obtain ⟨a, vs, rfl, _, q1, z⟩ := h'
    exact ⟨fun xs e => by cases e; exact ⟨a, vs, rfl, q1, z⟩, (fun xs e => by cases e), fun xs e => by cases e⟩
  | tup ys =>
    obtain ⟨a, vs, rfl, q1, z⟩ := h'
    exact ⟨(fun xs e => by cases e), fun xs e => by cases e; exact ⟨a, vs, rfl, q1, z⟩, fun xs e => by cases e⟩
  | scr ns =>
    obtain ⟨a, rfl, q1⟩ := h'
    exact ⟨(fun xs e => by cases e), (fun xs e => by cases e), fun xs e => by cases e; exact ⟨a, rfl, q1.sq⟩⟩
  | _ => exact ⟨(fun xs e => by cases e), (fun xs e => by cases e), fun xs e => by cases e⟩
/-! ### the iterators -/
/-- a list or a tuple walked -/
theorem pi_seqA {tg l : Expr} {tl : TE} (hl : PE X l tl) : PI X tg l (fun σ H Rr => tl σ H fun x H1 => ∃ a, x = .ref a ∧ (((∃ xs, SqL X.K H1 a xs) ∧ Rr (Itl X.K a) H1) ∨ ((∃ xs, SqT X.K H1 a xs) ∧ Rr (Itt X.K a) H1))) := by
  refine ⟨fun pins s σ H Rr I h => ?_⟩
  refine thn (hl.run pins s σ H _ I h) fun v s1 ⟨x, H1, I1, r1, q1⟩ => ?_
  obtain ⟨a, e, q⟩ := q1
  subst e
  cases r1
  rcases q with ⟨⟨xs, hq⟩, q⟩ | ⟨⟨xs, hq⟩, q⟩
  · obtain ⟨its, rv, p, hz⟩ := I1.list hq
    refine wpAny_pyIter_list p.isList ?_
    refine ⟨s1.heap.objs.size, [s1.heap.objs.size], _, _, H1, rfl, I1.kept (t' := s1.toks) fun b o e => Heap.get?_push_of_some _ e, turn_list a _, ⟨_, Heap.get?_push_size _ rfl, rfl, rfl⟩, fun b hb => ?_, q⟩
    have e : b = s1.heap.objs.size := by simpa using hb
    subst e
    exact I1.fpOk (Nat.le_refl _) (I1.hok.fresh (Nat.le_refl _))
  · obtain ⟨its, rv, p, hz⟩ := I1.tuple hq
    refine wpAny_pyIter_tuple (show s1.heap.IsTuple a its.toArray from p) ?_
    refine ⟨s1.heap.objs.size, [s1.heap.objs.size], _, _, H1, rfl, I1.kept (t' := s1.toks) fun b o e => Heap.get?_push_of_some _ e, turn_tuple a _, ⟨_, Heap.get?_push_size _ rfl, rfl, rfl⟩, fun b hb => ?_, q⟩
    have e : b = s1.heap.objs.size := by simpa using hb
    subst e
    exact I1.fpOk (Nat.le_refl _) (I1.hok.fresh (Nat.le_refl _))
theorem sqL_inj {H : Hp} {a : Addr} {xs ys : List V} (h : H a = some (.lst xs)) (q : SqL K H a ys) (hk : K.lookup a = none ∨ ∃ u, H a = some u) : True := trivial
theorem pi_valD {tg l : Expr} {ea : E} (hl : PE X l (tE X.K nm W R ea)) : PI X tg l (iD X.K nm W R .val [ea]) := by
  refine ⟨fun pins s σ H Rr I h => (pi_seqA hl).run pins s σ H Rr I ?_⟩
  have h1 : tEs X.K nm W R [ea] σ H _ := h
  refine tT_mono (bind1 Mono.c0 (f := fun env x S => (.ret [x] S : T (List D))) (tT_eq (fun env S => by simp [evEs]) h1)) fun v H1 ⟨x, h2⟩ => ?_
  obtain ⟨r, c, k⟩ := tT_ret h2
  obtain ⟨r0, S0, qs, items, st, rl, hi, kk⟩ := k [v] ⟨v, [], rfl, c.2, rfl⟩
  obtain ⟨d, hd⟩ : ∃ d, qs = [d] := by
    have := rl.length
    match qs, this with
    | [d], _ => exact ⟨d, rfl⟩
  subst hd
  obtain ⟨w, e, rd⟩ := rels1 rl
  cases e
  have ho : ∀ n, d = .obj n → n ∈ objsOf [d] := fun n e => objsOf_mem (by rw [e]; exact List.mem_cons_self)
  have now := seq_later rd Ext0.refl st (os := []) (S0 := S0) rfl
  simp only [itemsK] at hi
  cases ev : view S0 d <;> rw [ev] at hi <;> simp only [itemsOf, reduceCtorEq] at hi
  · -- tuple
    cases hi
    have vd := rd.view st
    rw [ev] at vd
    obtain ⟨a, vs, rfl, q, z⟩ := vd
    refine ⟨a, rfl, .inr ⟨⟨vs, q⟩, kk _ ⟨fun i r H S hi x st hs => ?_, fun r H S x st hs => ?_, fun i r H S y H' hi x st hs hy => ?_⟩⟩⟩
    · obtain ⟨b, ws, e, q1, z1⟩ := (seq_later rd x st hs ho).2.1 _ ev
      cases e
      exact ⟨ws, ws[i]'(by rw [z1.length]; exact hi), q1, by simp⟩
    · obtain ⟨b, ws, e, q1, z1⟩ := (seq_later rd x st hs ho).2.1 _ ev
      cases e
      exact ⟨ws, q1, by rw [z1.length]; exact Nat.le_refl _⟩
    · obtain ⟨b, ws, e, q1, z1⟩ := (seq_later rd x st hs ho).2.1 _ ev
      cases e
      obtain ⟨rfl, hy⟩ := hy
      obtain ⟨d', e1, e2⟩ := z1.get' (hy ws q1)
      exact ⟨d', e1, Ext.refl, st, e2⟩
  · -- list
    cases hi
    have vd := rd.view st
    rw [ev] at vd
    obtain ⟨a, vs, rfl, q, z⟩ := vd
    refine ⟨a, rfl, .inl ⟨⟨vs, SqL.of q⟩, kk _ ⟨fun i r H S hi x st hs => ?_, fun r H S x st hs => ?_, fun i r H S y H' hi x st hs hy => ?_⟩⟩⟩
    · obtain ⟨b, ws, e, q1, z1⟩ := (seq_later rd x st hs ho).1 _ ev
      cases e
      exact ⟨ws, ws[i]'(by rw [z1.length]; exact hi), SqL.of q1, by simp⟩
    · obtain ⟨b, ws, e, q1, z1⟩ := (seq_later rd x st hs ho).1 _ ev
      cases e
      exact ⟨ws, SqL.of q1, by rw [z1.length]; exact Nat.le_refl _⟩
    · obtain ⟨b, ws, e, q1, z1⟩ := (seq_later rd x st hs ho).1 _ ev
      cases e
      obtain ⟨rfl, hy⟩ := hy
      obtain ⟨d', e1, e2⟩ := z1.get' (hy ws (SqL.of q1))
      exact ⟨d', e1, Ext.refl, st, e2⟩
  · -- the script
    cases hi
    have vd := rd.view st
    rw [ev] at vd
    rename_i ns
    obtain ⟨a, rfl, q⟩ := vd
    refine ⟨a, rfl, .inl ⟨⟨_, q.sq⟩, kk _ ⟨fun i r H S hi x st hs => ?_, fun r H S x st hs => ?_, fun i r H S y H' hi x st hs hy => ?_⟩⟩⟩
    · obtain ⟨b, e, q1⟩ := (seq_later rd x st hs ho).2.2 _ ev
      cases e
      have hi' : i < (List.map V.int ns).length := by rw [List.length_map]; simpa using hi
      exact ⟨_, _, q1, List.getElem?_eq_getElem hi'⟩
    · obtain ⟨b, e, q1⟩ := (seq_later rd x st hs ho).2.2 _ ev
      cases e
      exact ⟨_, q1, by simp⟩
    · obtain ⟨b, e, q1⟩ := (seq_later rd x st hs ho).2.2 _ ev
      cases e
      obtain ⟨rfl, hy⟩ := hy
      obtain ⟨d', e1, e2⟩ := (rels_ints (K := X.K) (nm := nm) (r := r) (H := H') ns).get' (hy _ q1)
      exact ⟨d', e1, Ext.refl, st, e2⟩
theorem rangeL_get {lo hi : Int} {i : Nat} (h : i < (rangeL lo hi).length) : (rangeL lo hi)[i]? = some (.int (lo + (i : Int))) := by
  unfold rangeL at h ⊢
  rw [List.length_map, List.length_range] at h
  simp [h]
theorem walk_rangeD {r0 : Rl} {H0 : Hp} {S0 : Store} {os : List Nat} {lo hi : Int} : WalkD K nm r0 H0 S0 os (Itr lo (hi - lo).toNat) (rangeL lo hi) := by
  have hl : (rangeL lo hi).length = (hi - lo).toNat := by unfold rangeL; simp
  refine ⟨fun i r H S h _ _ _ => ?_, fun r H S _ _ _ => ?_, fun i r H S x H' h _ st _ hy => ?_⟩
  · show i < _
    rw [← hl]; exact h
  · show _ ≤ (rangeL lo hi).length
    rw [hl]; exact Nat.le_refl _
  · obtain ⟨rfl, rfl⟩ := hy
    exact ⟨_, rangeL_get h, Ext.refl, st, rfl⟩
theorem itemsK_range1 {S : Store} {items : List D} : ∀ {qs : List D}, itemsK S .range1 qs = some items → ∃ n : Int, qs = [.int n] ∧ -(2 ^ 62) ≤ n ∧ n ≤ line ∧ items = rangeL 0 n
  | [], h => by simp [itemsK] at h
  | [d], h => by
    cases d <;> simp only [itemsK, reduceCtorEq] at h
    rename_i n
    split at h
    · rename_i hc; cases h; exact ⟨n, rfl, hc.1, hc.2, rfl⟩
    · cases h
  | [d, e], h => by cases d <;> cases e <;> simp [itemsK] at h
  | _ :: _ :: _ :: _, h => by simp [itemsK] at h
theorem itemsK_range2 {S : Store} {items : List D} : ∀ {qs : List D}, itemsK S .range2 qs = some items → ∃ a b : Int, qs = [.int a, .int b] ∧ (-(2 ^ 62) ≤ a ∧ a < 2 ^ 62 ∧ -(2 ^ 62) ≤ b ∧ b < 2 ^ 62) ∧ items = rangeL a b
  | [], h => by simp [itemsK] at h
  | [d], h => by cases d <;> simp [itemsK] at h
  | [d, e], h => by
    cases d <;> cases e <;> simp only [itemsK, reduceCtorEq] at h
    rename_i n m
    split at h
    · rename_i hc; cases h; exact ⟨n, m, rfl, ⟨hc.1, hc.2.1, hc.2.2.1, hc.2.2.2.1⟩, rfl⟩
    · cases h
  | _ :: _ :: _ :: _, h => by simp [itemsK] at h
theorem pi_range1D (G : Good X nm Y P run W) {tg : Expr} {p pos : Pos} {a : Expr} {ds : List E} (hr : Y.free "range" = true) (ha : PA X [a] (tEs X.K nm W R ds)) (hs : isStar a = false) :
    PI X tg (.Call (.Name "range" p) [a] [] pos) (iD X.K nm W R .range1 ds) := by
  obtain ⟨g2, m2⟩ := G.isFree hr
  refine ⟨fun pins s σ H Rr I h => (pi_range1 (tg := tg) g2 m2 ha (by rw [star_cons hs]; rfl)).run pins s σ H Rr I ?_⟩
  refine tT_mono h fun vs H1 ⟨r0, S0, qs, items, st, rl, hi, kk⟩ => ?_
  obtain ⟨n, rfl, h1, h2, rfl⟩ := itemsK_range1 hi
  obtain ⟨v, rfl, hv⟩ := rels1 rl
  cases hv
  refine ⟨n, rfl, h1, by unfold line at h2; omega, ?_⟩
  have := kk (Itr 0 (n - 0).toNat) walk_rangeD
  simpa using this
theorem pi_range2D (G : Good X nm Y P run W) {tg : Expr} {p pos : Pos} {a b : Expr} {ds : List E} (hr : Y.free "range" = true) (ha : PA X [a, b] (tEs X.K nm W R ds)) (hs : isStar a = false) (hs2 : isStar b = false) :
    PI X tg (.Call (.Name "range" p) [a, b] [] pos) (iD X.K nm W R .range2 ds) := by
  obtain ⟨g2, m2⟩ := G.isFree hr
  refine ⟨fun pins s σ H Rr I h => (pi_range2 (tg := tg) g2 m2 ha (by rw [star_cons hs, star_cons hs2]; rfl) (by rw [star_cons hs2]; rfl)).run pins s σ H Rr I ?_⟩
  refine tT_mono h fun vs H1 ⟨r0, S0, qs, items, st, rl, hi, kk⟩ => ?_
  obtain ⟨n, m, rfl, h1, rfl⟩ := itemsK_range2 hi
  obtain ⟨v, u, rfl, hv, hu⟩ := rels2 rl
  cases hv
  cases hu
  exact ⟨n, m, rfl, h1, kk (Itr n (m - n).toNat) walk_rangeD⟩
theorem itemsK_enum {S : Store} {items : List D} : ∀ {qs : List D}, itemsK S .enum qs = some items → ∃ d xs, qs = [d] ∧ view S d = .lst xs ∧ items = xs.zipIdx.map fun p => .tup [.int p.2, p.1]
  | [], h => by simp [itemsK] at h
  | [d], h => by
    simp only [itemsK] at h
    cases e : view S d <;> rw [e] at h <;> simp only [reduceCtorEq] at h
    cases h
    exact ⟨d, _, rfl, e, rfl⟩
  | _ :: _ :: _, h => by simp [itemsK] at h
theorem pi_enumD (G : Good X nm Y P run W) {elts : List Expr} {kk : Nat} {tpos p pos : Pos} {a : Expr} {ds : List E} (hr : Y.free "enumerate" = true) (ha : PA X [a] (tEs X.K nm W R ds)) (hs : isStar a = false) :
    PI X (.Tuple elts kk tpos) (.Call (.Name "enumerate" p) [a] [] pos) (iD X.K nm W R .enum ds) := by
  obtain ⟨g2, m2⟩ := G.isFree hr
  refine ⟨fun pins s σ H Rr I h => (pi_enum g2 m2 ha (by rw [star_cons hs]; rfl)).run pins s σ H Rr I ?_⟩
  refine tT_mono h fun vs H1 ⟨r0, S0, qs, items, st, rl, hi, kk⟩ => ?_
  obtain ⟨d, xs, rfl, ev, rfl⟩ := itemsK_enum hi
  obtain ⟨v, rfl, rd⟩ := rels1 rl
  have ho : ∀ n, d = .obj n → n ∈ objsOf [d] := fun n e => objsOf_mem (by rw [e]; exact List.mem_cons_self)
  have vd := rd.view st
  rw [ev] at vd
  obtain ⟨a, ws, rfl, q, z⟩ := vd
  refine ⟨a, ws, rfl, SqL.of q, kk _ ⟨fun i r H S hi x st hs => ?_, fun r H S x st hs => ?_, fun i r H S y H' hi x st hs hy => ?_⟩⟩
  · obtain ⟨b, us, e, q1, z1⟩ := (seq_later rd x st hs ho).1 _ ev
    cases e
    have hi' : i < us.length := by rw [z1.length]; simpa using hi
    exact ⟨us, us[i], SqL.of q1, by simp⟩
  · obtain ⟨b, us, e, q1, z1⟩ := (seq_later rd x st hs ho).1 _ ev
    cases e
    exact ⟨us, SqL.of q1, by rw [z1.length]; simp⟩
  · obtain ⟨b, us, e, q1, z1⟩ := (seq_later rd x st hs ho).1 _ ev
    cases e
    obtain ⟨T, u, rfl, hT, rfl, hu⟩ := hy
    obtain ⟨d', e1, e2⟩ := z1.get' (hu us (SqL.of q1))
    refine ⟨.tup [.int i, d'], ?_, Ext.fresh hT, st.fresh hT, T, [.int i, u], rfl, SqT.of upd_same, _, _, rfl, rfl, _, _, rfl, e2.ext (Ext.fresh hT), rfl⟩
    have hi' : i < xs.length := by simpa using hi
    have e3 : xs[i] = d' := by
      rw [List.getElem?_eq_getElem hi'] at e1
      exact Option.some.inj e1
    simp [hi', e3]
theorem itemsK_zip {S : Store} {items : List D} : ∀ {qs : List D}, itemsK S .zip qs = some items → ∃ d e xs ys, qs = [d, e] ∧ ((view S d = .lst xs ∧ view S e = .lst ys) ∨ (view S d = .tup xs ∧ view S e = .tup ys)) ∧ items = (xs.zip ys).map fun p => .tup [p.1, p.2]
  | [], h => by simp [itemsK] at h
  | [d], h => by simp [itemsK] at h
  | [d, e], h => by
    simp only [itemsK] at h
    cases e1 : view S d <;> cases e2 : view S e <;> rw [e1, e2] at h <;> simp only [reduceCtorEq] at h
    · cases h
      exact ⟨d, e, _, _, rfl, .inr ⟨e1, e2⟩, rfl⟩
    · cases h
      exact ⟨d, e, _, _, rfl, .inl ⟨e1, e2⟩, rfl⟩
  | _ :: _ :: _ :: _, h => by simp [itemsK] at h
theorem pi_zipD (G : Good X nm Y P run W) {elts : List Expr} {kk : Nat} {tpos p pos : Pos} {a b : Expr} {ds : List E} (hr : Y.free "zip" = true) (ha : PA X [a, b] (tEs X.K nm W R ds)) (hs : isStar a = false) (hs2 : isStar b = false) :
    PI X (.Tuple elts kk tpos) (.Call (.Name "zip" p) [a, b] [] pos) (iD X.K nm W R .zip ds) := by
  obtain ⟨g2, m2⟩ := G.isFree hr
  refine ⟨fun pins s σ H Rr I h => (RZ.pi_zipA g2 m2 ha (star_cons hs _ _) (any_back _ _ fun e he => by
    have : e = b := by simpa using he
    rw [this]; exact hs2)).run pins s σ H Rr I ?_⟩
  refine tT_mono h fun vs H1 ⟨r0, S0, qs, items, st, rl, hi, kk⟩ => ?_
  obtain ⟨d, e, xs, ys, rfl, ev, rfl⟩ := itemsK_zip hi
  obtain ⟨v, u, rfl, rd, re⟩ := rels2 rl
  have ho : ∀ n, d = .obj n → n ∈ objsOf [d, e] := fun n e => objsOf_mem (by rw [e]; exact List.mem_cons_self)
  have ho2 : ∀ n, e = .obj n → n ∈ objsOf [d, e] := fun n e => objsOf_mem (by rw [e]; exact List.mem_cons_of_mem _ List.mem_cons_self)
  have vd := rd.view st
  have ve := re.view st
  have item : ∀ {i : Nat} {a b : D}, xs[i]? = some a → ys[i]? = some b → ((xs.zip ys).map fun p => D.tup [p.1, p.2])[i]? = some (.tup [a, b]) := fun {i a b} h1 h2 => by
    rw [List.getElem?_map, (List.getElem?_zip_eq_some (z := (a, b))).mpr ⟨h1, h2⟩]
    rfl
  rcases ev with ⟨ev, ev2⟩ | ⟨ev, ev2⟩
  · rw [ev] at vd
    rw [ev2] at ve
    obtain ⟨a, ws, rfl, q, z⟩ := vd
    obtain ⟨b, us, rfl, q2, z2⟩ := ve
    refine ⟨a, b, ws, us, rfl, .inl ⟨SqL.of q, SqL.of q2, kk _ ⟨fun i r H S hi x st hs => ?_, fun r H S x st hs => ?_, fun i r H S y H' hi x st hs hy => ?_⟩⟩⟩
    · obtain ⟨_, us1, e, q1, z1⟩ := (seq_later rd x st hs ho).1 _ ev
      cases e
      obtain ⟨_, us2, e, q2, z2⟩ := (seq_later re x st hs ho2).1 _ ev2
      cases e
      simp at hi
      have h1 : i < us1.length := by rw [z1.length]; omega
      have h2 : i < us2.length := by rw [z2.length]; omega
      exact ⟨us1, us2, us1[i], us2[i], SqL.of q1, SqL.of q2, by simp, by simp⟩
    · obtain ⟨_, us1, e, q1, z1⟩ := (seq_later rd x st hs ho).1 _ ev
      cases e
      obtain ⟨_, us2, e, q2, z2⟩ := (seq_later re x st hs ho2).1 _ ev2
      cases e
      refine ⟨us1, us2, SqL.of q1, SqL.of q2, ?_⟩
      rw [z1.length, z2.length]
      simp
      omega
    · obtain ⟨_, us1, e, q1, z1⟩ := (seq_later rd x st hs ho).1 _ ev
      cases e
      obtain ⟨_, us2, e, q2, z2⟩ := (seq_later re x st hs ho2).1 _ ev2
      cases e
      obtain ⟨T, x1, x2, rfl, hT, rfl, hx1, hx2⟩ := hy
      obtain ⟨d1, e1, r1⟩ := z1.get' (hx1 us1 (SqL.of q1))
      obtain ⟨d2, e2, r2⟩ := z2.get' (hx2 us2 (SqL.of q2))
      exact ⟨.tup [d1, d2], item e1 e2, Ext.fresh hT, st.fresh hT, T, [x1, x2], rfl, SqT.of upd_same, _, _, rfl, r1.ext (Ext.fresh hT), _, _, rfl, r2.ext (Ext.fresh hT), rfl⟩
  · rw [ev] at vd
    rw [ev2] at ve
    obtain ⟨a, ws, rfl, q, z⟩ := vd
    obtain ⟨b, us, rfl, q2, z2⟩ := ve
    refine ⟨a, b, ws, us, rfl, .inr ⟨q, q2, kk _ ⟨fun i r H S hi x st hs => ?_, fun r H S x st hs => ?_, fun i r H S y H' hi x st hs hy => ?_⟩⟩⟩
    · obtain ⟨_, us1, e, q1, z1⟩ := (seq_later rd x st hs ho).2.1 _ ev
      cases e
      obtain ⟨_, us2, e, q2, z2⟩ := (seq_later re x st hs ho2).2.1 _ ev2
      cases e
      simp at hi
      have h1 : i < us1.length := by rw [z1.length]; omega
      have h2 : i < us2.length := by rw [z2.length]; omega
      exact ⟨us1, us2, us1[i], us2[i], q1, q2, by simp, by simp⟩
    · obtain ⟨_, us1, e, q1, z1⟩ := (seq_later rd x st hs ho).2.1 _ ev
      cases e
      obtain ⟨_, us2, e, q2, z2⟩ := (seq_later re x st hs ho2).2.1 _ ev2
      cases e
      refine ⟨us1, us2, q1, q2, ?_⟩
      rw [z1.length, z2.length]
      simp
      omega
    · obtain ⟨_, us1, e, q1, z1⟩ := (seq_later rd x st hs ho).2.1 _ ev
      cases e
      obtain ⟨_, us2, e, q2, z2⟩ := (seq_later re x st hs ho2).2.1 _ ev2
      cases e
      obtain ⟨T, x1, x2, rfl, hT, rfl, hx1, hx2⟩ := hy
      obtain ⟨d1, e1, r1⟩ := z1.get' (hx1 us1 q1)
      obtain ⟨d2, e2, r2⟩ := z2.get' (hx2 us2 q2)
      exact ⟨.tup [d1, d2], item e1 e2, Ext.fresh hT, st.fresh hT, T, [x1, x2], rfl, SqT.of upd_same, _, _, rfl, r1.ext (Ext.fresh hT), _, _, rfl, r2.ext (Ext.fresh hT), rfl⟩
theorem itemsK_rev {S : Store} {items : List D} : ∀ {qs : List D}, itemsK S .rev qs = some items → ∃ d xs, qs = [d] ∧ view S d = .lst xs ∧ items = xs.reverse
  | [], h => by simp [itemsK] at h
  | [d], h => by
    simp only [itemsK] at h
    cases e : view S d <;> rw [e] at h <;> simp only [reduceCtorEq] at h
    cases h
    exact ⟨d, _, rfl, e, rfl⟩
  | _ :: _ :: _, h => by simp [itemsK] at h
theorem pi_revD (G : Good X nm Y P run W) {tg : Expr} {p pos : Pos} {a : Expr} {ds : List E} (hr : Y.free "reversed" = true) (ha : PA X [a] (tEs X.K nm W R ds)) (hs : isStar a = false) :
    PI X tg (.Call (.Name "reversed" p) [a] [] pos) (iD X.K nm W R .rev ds) := by
  obtain ⟨g2, m2⟩ := G.isFree hr
  refine ⟨fun pins s σ H Rr I h => (pi_reversed (tg := tg) g2 m2 ha (by rw [star_cons hs]; rfl)).run pins s σ H Rr I ?_⟩
  refine tT_mono h fun vs H1 ⟨r0, S0, qs, items, st, rl, hi, kk⟩ => ?_
  obtain ⟨d, xs, rfl, ev, rfl⟩ := itemsK_rev hi
  obtain ⟨v, rfl, rd⟩ := rels1 rl
  have ho : ∀ n, d = .obj n → n ∈ objsOf [d] := fun n e => objsOf_mem (by rw [e]; exact List.mem_cons_self)
  have vd := rd.view st
  rw [ev] at vd
  obtain ⟨a, ws, rfl, q, z⟩ := vd
  refine ⟨a, ws, rfl, SqL.of q, kk _ ⟨fun i r H S hi x st hs => ?_, fun r H S x st hs => ?_, fun i r H S y H' hi x st hs hy => ?_⟩⟩
  · obtain ⟨b, us, e, q1, z1⟩ := (seq_later rd x st hs ho).1 _ ev
    cases e
    have hi' : i < us.length := by rw [z1.length]; simpa using hi
    have hw : ws.length = us.length := by rw [z1.length, z.length]
    refine ⟨by rw [hw]; exact hi', us, us[ws.length - 1 - i]'(by omega), SqL.of q1, by simp [show ws.length - 1 - i < us.length by omega]⟩
  · show ws.length ≤ _
    rw [List.length_reverse, z.length]; exact Nat.le_refl _
  · obtain ⟨b, us, e, q1, z1⟩ := (seq_later rd x st hs ho).1 _ ev
    cases e
    obtain ⟨rfl, hy⟩ := hy
    obtain ⟨d', e1, e2⟩ := z1.get' (hy us (SqL.of q1))
    refine ⟨d', ?_, Ext.refl, st, e2⟩
    have hi' : i < xs.length := by simpa using hi
    rw [List.getElem?_reverse hi', ← z.length]
    exact e1
end
end Ic

set_option Elab.async false
set_option linter.all false
set_option maxRecDepth 100000
set_option maxHeartbeats 1000000
/-! Ic4i: patterns of names, comprehensions. -/
namespace Ic
open PySem PySem.Spec PyProof.Rows L2
section
variable {X : Cx} {K : PySem.W.Frag} {nm : Nm} {Y : Sym} {P : Prog} {run : Nat → List D → Store → T D} {W : WX} {R : Rn}
/-- the reading of a pattern: the names hold the value's parts -/
def gP (K : PySem.W.Frag) (nm : Nm) (p : NPat) : TG := fun v σ H Q => ∃ r S d env env', Sto K nm r H S ∧ Rel K nm r H d v ∧ EnvR K nm r H env σ ∧ npSet S p d env = some env' ∧ ∀ σ', EnvR K nm r H env' σ' → (∀ vs : List Nat, (∀ i ∈ p.slots, i ∈ vs) → wipe σ' vs = wipe σ vs) → Q σ' H
theorem wipe_set {σ : L2.St} {i : Nat} {x : Option V} : ∀ {vs : List Nat}, i ∈ vs → wipe (σ.set i x) vs = wipe σ vs := by
  intro vs h
  have key : ∀ vs : List Nat, ∀ j : Nat, (wipe σ vs)[j]? = if j ∈ vs then (if j < σ.length then some none else none) else σ[j]? := by
    intro vs
    induction vs with
    | nil => intro j; simp [wipe]
    | cons v vs ih =>
      intro j
      unfold wipe
      rw [List.getElem?_set, wipe_length, ih]
      by_cases e : v = j
      · subst e
        by_cases hl : v < σ.length <;> simp [hl]
      · simp [e, Ne.symm e, eq_comm]
  have key2 : ∀ vs : List Nat, ∀ j : Nat, (wipe (σ.set i x) vs)[j]? = if j ∈ vs then (if j < σ.length then some none else none) else (σ.set i x)[j]? := by
    intro vs
    induction vs with
    | nil => intro j; simp [wipe]
    | cons v vs ih =>
      intro j
      unfold wipe
      rw [List.getElem?_set, wipe_length, ih, List.length_set]
      by_cases e : v = j
      · subst e
        by_cases hl : v < σ.length <;> simp [hl]
      · simp [e, Ne.symm e, eq_comm]
  apply List.ext_getElem?
  intro j
  rw [key, key2]
  by_cases hj : j ∈ vs
  · simp [hj]
  · have : i ≠ j := by rintro rfl; exact hj h
    simp [hj, List.getElem?_set_ne this]
theorem EnvR.set {r : Rl} {H : Hp} {env : Slots} {σ : L2.St} {d : D} {v : V} (h : EnvR K nm r H env σ) (i : Nat) (q : Rel K nm r H d v) : EnvR K nm r H (env.set i (some d)) (σ.set i (some v)) := by
  refine ⟨by simp [h.1], fun j e hj => ?_⟩
  by_cases hij : i = j
  · subst hij
    have hl : i < env.length := by
      have := (List.getElem?_eq_some_iff.mp hj).1
      simpa using this
    rw [List.getElem?_set_self hl] at hj
    cases hj
    exact ⟨v, List.getElem?_set_self (by rw [← h.1]; exact hl), q⟩
  · rw [List.getElem?_set_ne hij] at hj
    rw [List.getElem?_set_ne hij]
    exact h.2 j e hj
theorem EnvR.wipe {r : Rl} {H : Hp} {env : Slots} {σ : L2.St} (h : EnvR K nm r H env σ) : ∀ vs : List Nat, EnvR K nm r H (wipeD env vs) (L2.wipe σ vs)
  | [] => h
  | v :: vs => by
    have ih := EnvR.wipe h vs
    unfold wipeD L2.wipe
    refine ⟨by simp [ih.1], fun j e hj => ?_⟩
    by_cases hij : v = j
    · subst hij
      have hl : v < (wipeD env vs).length := by
        have := (List.getElem?_eq_some_iff.mp hj).1
        simpa using this
      rw [List.getElem?_set_self hl] at hj
      cases hj
    · rw [List.getElem?_set_ne hij] at hj
      rw [List.getElem?_set_ne hij]
      exact ih.2 j e hj
/-- names to which a list's items are given -/
def gLst (K : PySem.W.Frag) (n : Nat) (t : TGs) : TG := fun v σ H Q => ∃ a xs, v = .ref a ∧ SqL K H a xs ∧ xs.length = n ∧ t xs σ H Q
theorem pg_lst {es : List Expr} {k : Nat} {pos : Pos} {t : TGs} {n : Nat} (hc : X.calm = true) (h : PGs X es t)
    (hn : (assignEach es X.env).length = n) (hst : (assignEach es X.env).findIdx? (·.1) = none) : PG X (.Tuple es k pos) (gLst X.K n t) := by
  refine ⟨fun pins s σ H v u Q I r hw => ?_⟩
  obtain ⟨a, xs, e1, hq, hl, hw⟩ := hw
  subst e1
  cases r
  obtain ⟨its, rv, ⟨o, m, ho, hcl, _, hd⟩, _⟩ := I.list hq
  have hL : s.heap.IsList a its.toArray := ⟨o, ho, hcl, m, hd⟩
  rw [assign_Tuple]
  refine wpAny_bind (wpAny_standAt ?_)
  unfold unpack
  rw [show (assignEach es X.env).length = its.toArray.size by simp [hn, ← hl, rv.length], hst]
  refine wpAny_bind (wpAny_holding (PySem.W.kun_itemsOf (I.ok.hd hc) hL fun h' hx => ?_))
  have I1 : Inv X pins σ H { s with heap := h' } := I.kept (t' := s.toks) fun b o e => hx b o (Nat.ne_of_lt (Heap.lt_size e)) e
  exact h.run pins _ σ H xs _ Q I1 (by simpa using rv) hw
mutual
/-- a name pattern stored -/
theorem pg_D (hc : X.calm = true) (hnd : X.N.Nodup) (hNe : Y.N = X.N) (hz : ∀ x, Y.sto x = true → L2.Loc X.env.scope x ∧ (X.fn x = true ∨ X.env.scope.names.lookup x = some .local)) : ∀ {tg : Expr} {p : NPat}, npOf Y tg = some p → PG X tg (gP X.K nm p)
  | .Name x pos, p, h => by
    simp only [npOf] at h
    split at h
    · rename_i hx
      obtain ⟨i, hi, rfl⟩ := Option.map_eq_some_iff.mp h
      have hN : X.N[i]? = some x := by rw [← hNe]; exact slot_at hi
      refine ⟨fun pins s σ H v u Q I r hw => (pg_name (i := i) hnd hN (hz x hx).1 (hz x hx).2).run pins s σ H v u Q I r ?_⟩
      obtain ⟨rr, S, d, env, env', st, rd, en, e, k⟩ := hw
      simp only [npSet] at e
      cases e
      exact k _ (en.set i rd) fun vs hv => wipe_set (hv i (by simp [NPat.slots]))
    · cases h
  | .Tuple es k pos, p, h => by
    simp only [npOf] at h
    obtain ⟨ps, hp, rfl⟩ := Option.map_eq_some_iff.mp h
    obtain ⟨g1, g2, g3⟩ := pgs_D hc hnd hNe hz hp
    refine ⟨fun pins s σ H v u Q I r hw => ?_⟩
    obtain ⟨rr, S, d, env, env', st, rd, en, e, k⟩ := hw
    simp only [npSet] at e
    have vd := rd.view st
    cases ev : view S d <;> rw [ev] at e vd <;> simp only [reduceCtorEq] at e
    · rename_i xs
      refine (pg_tup (n := ps.length) hc g1 g2 g3).run pins s σ H v u Q I r ?_
      split at e
      · rename_i hl
        obtain ⟨a, ws, rfl, q, z⟩ := vd
        exact ⟨a, ws, rfl, q, by rw [z.length]; exact hl, rr, S, xs, env, env', st, z, en, e, fun σ' h1 h2 => k σ' h1 fun vs hv => h2 vs fun i hi => hv i (by simpa [NPat.slots] using hi)⟩
      · cases e
    · rename_i xs
      refine (pg_lst (n := ps.length) hc g1 g2 g3).run pins s σ H v u Q I r ?_
      split at e
      · rename_i hl
        obtain ⟨a, ws, rfl, q, z⟩ := vd
        exact ⟨a, ws, rfl, .inl (.inl q), by rw [z.length]; exact hl, rr, S, xs, env, env', st, z, en, e, fun σ' h1 h2 => k σ' h1 fun vs hv => h2 vs fun i hi => hv i (by simpa [NPat.slots] using hi)⟩
      · cases e
theorem pgs_D (hc : X.calm = true) (hnd : X.N.Nodup) (hNe : Y.N = X.N) (hz : ∀ x, Y.sto x = true → L2.Loc X.env.scope x ∧ (X.fn x = true ∨ X.env.scope.names.lookup x = some .local)) : ∀ {es : List Expr} {ps : List NPat}, npOf.npsOf Y es = some ps →
    PGs X es (fun vs σ H Q => ∃ r S ds env env', Sto X.K nm r H S ∧ Rels X.K nm r H ds vs ∧ EnvR X.K nm r H env σ ∧ npSets S ps ds env = some env' ∧ ∀ σ', EnvR X.K nm r H env' σ' → (∀ ws : List Nat, (∀ i ∈ slotss ps, i ∈ ws) → wipe σ' ws = wipe σ ws) → Q σ' H) ∧
    (assignEach es X.env).length = ps.length ∧ (assignEach es X.env).findIdx? (·.1) = none
  | [], ps, h => by
    simp only [npOf.npsOf] at h
    cases h
    refine ⟨⟨fun pins s σ H vs us Q I r hw => pgs_nil.run pins s σ H vs us Q I r ?_⟩, rfl, rfl⟩
    obtain ⟨rr, S, ds, env, env', st, rd, en, e, k⟩ := hw
    cases ds with
    | nil =>
      simp only [npSets] at e
      cases e
      exact ⟨rd, k σ en fun _ _ => rfl⟩
    | cons _ _ => simp [npSets] at e
  | t :: ts, ps, h => by
    simp only [npOf.npsOf, Option.bind_eq_some_iff] at h
    obtain ⟨p, hp, h⟩ := h
    obtain ⟨qs, hq, rfl⟩ := Option.map_eq_some_iff.mp h
    have g0 := pg_D hc hnd hNe hz hp
    obtain ⟨g1, g2, g3⟩ := pgs_D hc hnd hNe hz hq
    have hns : assignEach (t :: ts) X.env = (false, assign t X.env) :: assignEach ts X.env := by
      cases t <;> first | rfl | (simp [npOf] at hp)
    refine ⟨⟨fun pins s σ H vs us Q I r hw => (pgs_cons g0 g1 (by rw [hns]; rfl)).run pins s σ H vs us Q I r ?_⟩, ?_, ?_⟩
    · obtain ⟨rr, S, ds, env, env', st, rd, en, e, k⟩ := hw
      cases ds with
      | nil => simp [npSets] at e
      | cons d ds =>
        simp only [npSets, Option.bind_eq_some_iff] at e
        obtain ⟨env1, e1, e2⟩ := e
        obtain ⟨v, ws, rfl, r1, r2⟩ := rd
        exact ⟨v, ws, rfl, rr, S, d, env, env1, st, r1, en, e1, fun σ1 h1 w1 => ⟨rr, S, ds, env1, env', st, r2, h1, e2, fun σ2 h2 w2 => k σ2 h2 fun us hu => by
          rw [w2 us fun i hi => hu i (by simp [slotss, hi]), w1 us fun i hi => hu i (by simp [slotss, hi])]⟩⟩
    · rw [hns]; simp [g2]
    · rw [hns, List.findIdx?_cons]
      simp [g3]
end
/-- conditions -/
theorem pts_D {g : Expr → E} : ∀ (cs : List Expr), (∀ c ∈ cs, PT X c (tB X.K nm W R (g c))) → cs.length ≤ 1 → PTs X cs (tT X.K nm C0 (fun _ _ (b c : Bool) => b = c) W (evC R (cs.map g)))
  | [], _, _ => ⟨fun pins s σ H Q I q => pts_nil.run pins s σ H Q I (by
      have h' : tT X.K nm C0 (fun _ _ (b c : Bool) => b = c) W (fun _ S => .ret true S) σ H Q := tT_eq (fun env S => by simp [evC]) q
      obtain ⟨r, _, k⟩ := tT_ret h'
      exact k true rfl)⟩
  | [c], h, _ => ⟨fun pins s σ H Q I q => (pts_one (h c List.mem_cons_self)).run pins s σ H Q I (tT_eq (fun env S => by
      simp only [List.map_cons, List.map_nil, evC]
      congr
      funext x S
      cases truth (view S x) with
      | none => rfl
      | some t => cases t <;> rfl) q)⟩
  | _ :: _ :: _, _, h => by simp at h
theorem wipe_wipe (σ : L2.St) : ∀ vs : List Nat, wipe (wipe σ vs) vs = wipe σ vs := by
  intro vs
  have key : ∀ (σ : L2.St) (vs : List Nat), ∀ j : Nat, (wipe σ vs)[j]? = if j ∈ vs then (if j < σ.length then some none else none) else σ[j]? := by
    intro σ vs
    induction vs with
    | nil => intro j; simp [wipe]
    | cons v vs ih =>
      intro j
      unfold wipe
      rw [List.getElem?_set, wipe_length, ih]
      by_cases e : v = j
      · subst e
        by_cases hl : v < σ.length <;> simp [hl]
      · simp [e, Ne.symm e, eq_comm]
  apply List.ext_getElem?
  intro j
  rw [key, key, wipe_length]
  by_cases hj : j ∈ vs <;> simp [hj]
/-- objects left as they are -/
def asIs (n : Nat) : Option D := some (.obj n)
mutual
theorem D.frz_is : ∀ (d : D), d.frz asIs = some d
  | .non | .bl _ | .int _ | .str _ | .scr _ | .set _ | .rng => by simp [D.frz]
  | .tup xs => by simp [D.frz, frzs_is xs]
  | .lst xs => by simp [D.frz, frzs_is xs]
  | .dct kvs => by simp [D.frz, frzks_is kvs]
  | .ins c fs => by simp [D.frz, frzfs_is fs]
  | .obj m => by simp [D.frz, asIs]
theorem frzs_is : ∀ (xs : List D), frzs asIs xs = some xs
  | [] => by simp [frzs]
  | x :: xs => by simp [frzs, D.frz_is x, frzs_is xs]
theorem frzks_is : ∀ (xs : List (D × D)), frzks asIs xs = some xs
  | [] => by simp [frzks]
  | (k, v) :: xs => by simp [frzks, D.frz_is k, D.frz_is v, frzks_is xs]
theorem frzfs_is : ∀ (xs : List (Nat × D)), frzfs asIs xs = some xs
  | [] => by simp [frzfs]
  | (f, v) :: xs => by simp [frzfs, D.frz_is v, frzfs_is xs]
end
mutual
theorem D.beq_refl : ∀ (d : D), d.beq d = true
  | .non | .bl _ | .int _ | .str _ | .scr _ | .set _ | .rng | .obj _ => by simp [D.beq]
  | .tup xs => by simp [D.beq, beqs_refl xs]
  | .lst xs => by simp [D.beq, beqs_refl xs]
  | .dct kvs => by simp [D.beq, beqks_refl kvs]
  | .ins c fs => by simp [D.beq, beqfs_refl fs]
theorem beqs_refl : ∀ (xs : List D), beqs xs xs = true
  | [] => by simp [beqs]
  | x :: xs => by simp [beqs, D.beq_refl x, beqs_refl xs]
theorem beqks_refl : ∀ (xs : List (D × D)), beqks xs xs = true
  | [] => by simp [beqks]
  | (k, v) :: xs => by simp [beqks, D.beq_refl k, D.beq_refl v, beqks_refl xs]
theorem beqfs_refl : ∀ (xs : List (Nat × D)), beqfs xs xs = true
  | [] => by simp [beqfs]
  | (f, v) :: xs => by simp [beqfs, D.beq_refl v, beqfs_refl xs]
end
theorem objsOf_back {n : Nat} : ∀ {ds : List D}, n ∈ objsOf ds → D.obj n ∈ ds
  | [], h => by simp [objsOf] at h
  | d :: ds, h => by
    cases d
    case obj m =>
      rcases List.mem_cons.mp h with e | h
      · subst e; exact List.mem_cons_self
      · exact List.mem_cons_of_mem _ (objsOf_back h)
    all_goals exact List.mem_cons_of_mem _ (objsOf_back (ds := ds) h)
theorem Rels.mem {r : Rl} {H : Hp} {d : D} : ∀ {ds : List D} {vs : List V}, Rels K nm r H ds vs → d ∈ ds → ∃ v, Rel K nm r H d v
  | d' :: ds, _, h, hm => by
    obtain ⟨v, ws, rfl, h1, h2⟩ := h
    rcases List.mem_cons.mp hm with e | hm
    · subst e; exact ⟨v, h1⟩
    · exact Rels.mem h2 hm
theorem still_refl {r : Rl} {H : Hp} {S : Store} {ds : List D} {vs : List V} (st : Sto K nm r H S) (h : Rels K nm r H ds vs) : still S S (objsOf ds) = true := by
  unfold still
  rw [List.all_eq_true]
  intro n hn
  obtain ⟨v, a, rfl, hm⟩ := h.mem (objsOf_back hn)
  obtain ⟨c, hc, _⟩ := st.at hm
  rw [hc]
  exact D.beq_refl c
/-! ### a new list, filled -/
/-- a comprehension's list p, filled so far; r0 H0: where it began -/
structure CI (K : PySem.W.Frag) (nm : Nm) (r0 : Rl) (H0 : Hp) (p : Addr) (rr : Rl) (H : Hp) (S : Store) (acc : List D) (av : List V) : Prop where
  eB : rr.B = p :: r0.B
  x0 : Ext0 K r0 H0 rr H
  bus : ∀ a ∈ r0.B, ∀ o, H0 a = some o → H a = some o
  st : Sto K nm rr H S
  at_ : H p = some (.lst av)
  rl : Rels K nm rr H acc av
section
variable {r0 rr rr' : Rl} {H0 H H' : Hp} {S S' : Store} {p : Addr} {acc : List D} {av : List V}
theorem CI.init (st : Sto K nm r0 H0 S) (hp : H0 p = none) : CI K nm r0 H0 p (r0.busy p) (upd H0 p (.lst [])) S [] [] :=
  ⟨rfl, Ext0.busy hp, fun a _ o h => by rw [upd_ne (ne_of_none h hp)]; exact h, st.busy hp, upd_same, rfl⟩
theorem CI.ext (c : CI K nm r0 H0 p rr H S acc av) (x : Ext K rr H rr' H') (st : Sto K nm rr' H' S') : CI K nm r0 H0 p rr' H' S' acc av :=
  ⟨x.eB.trans c.eB, c.x0.trans x.toExt0, fun a h o e => x.bus a (by rw [c.eB]; exact List.mem_cons_of_mem _ h) o (c.bus a h o e), st, x.bus p (by rw [c.eB]; exact List.mem_cons_self) _ c.at_, c.rl.ext x⟩
theorem CI.push (c : CI K nm r0 H0 p rr H S acc av) (hp : H0 p = none) {y : D} {v : V} (q : Rel K nm rr H y v) : Ext0 K rr H rr (upd H p (.lst (av ++ [v]))) ∧ CI K nm r0 H0 p rr (upd H p (.lst (av ++ [v]))) S (acc ++ [y]) (av ++ [v]) := by
  have hm : p ∈ rr.B := by rw [c.eB]; exact List.mem_cons_self
  obtain ⟨st, x⟩ := c.st.fill (vs := av ++ [v]) hm
  refine ⟨x, c.eB, c.x0.trans x, fun a h o e => ?_, st, upd_same, (c.rl.ext0 x).append ⟨v, [], rfl, q.ext0 x, rfl⟩⟩
  rw [upd_ne (ne_of_none e hp)]
  exact c.bus a h o e
theorem CI.out (c : CI K nm r0 H0 p rr H S acc av) (st0 : Sto K nm r0 H0 S') (hp : H0 p = none) {mu : Bool} {P : D → Store → Prop} {XX : Exc → Store → Prop} {Q : VK}
    (al : (if acc.length ≤ line then Ic.mk mu (.lst acc) S else .bad : T D).All P XX) (po : ∀ d S' v r' H', P d S' → Ext K r0 H0 r' H' → Sto K nm r' H' S' → Rel K nm r' H' d v → Q v H') : Q (.ref p) H := by
  have nb : p ∉ r0.B := fun h => by have := st0.bt p h; rw [hp] at this; exact this
  have er : rr = Rl.busy ⟨rr.m, rr.R, r0.B⟩ p := by
    cases rr
    have := c.eB
    simp only at this
    rw [this]
  obtain ⟨rm, rR, rB⟩ := rr
  have e2 := c.eB
  simp only at e2
  subst e2
  have hB : p ∈ p :: r0.B := List.mem_cons_self
  have nm1 : p ∉ rm := fun h => (c.st.dj p h).2 hB
  have nR : p ∉ rR := fun h => c.st.dR p h hB
  have fr : Ext0 K (⟨rm, rR, p :: r0.B⟩ : Rl) H ⟨rm, rR, r0.B⟩ H := Ext0.free (r := ⟨rm, rR, r0.B⟩) p
  have st1 : Sto K nm ⟨rm, rR, r0.B⟩ H S := Sto.free (r := ⟨rm, rR, r0.B⟩) (p := p) c.st
  split at al
  · cases mu with
    | false =>
      simp only [mk_f, T.All_ret] at al
      exact po _ S (.ref p) ⟨rm, rR, r0.B⟩ H al ⟨c.x0.trans fr, rfl, c.bus⟩ st1 ⟨p, av, rfl, ⟨nm1, nR, nb⟩, c.at_, c.rl.ext0 fr⟩
    | true =>
      simp only [mk_tl, T.All_ret] at al
      have off : ∀ a, Off (⟨rm, rR, p :: r0.B⟩ : Rl) a → Off (⟨rm ++ [p], rR, r0.B⟩ : Rl) a := fun a h => ⟨fun q => by
        rcases List.mem_append.mp q with q | q
        · exact h.1 q
        · have : a = p := by simpa using q
          exact h.2.2 (by rw [this]; exact hB), h.2.1, fun q => h.2.2 (List.mem_cons_of_mem _ q)⟩
      have hg : ∀ (n : Nat) a, (⟨rm, rR, p :: r0.B⟩ : Rl).m[n]? = some a → ∀ d', asIs n = some d' → Rel K nm ⟨rm ++ [p], rR, r0.B⟩ H d' (.ref a) := fun n a e d' q => by
        cases q
        exact ⟨a, rfl, by
          show (rm ++ [p])[n]? = some a
          rw [List.getElem?_append_left (List.getElem?_eq_some_iff.mp e).1]
          exact e⟩
      refine po _ _ (.ref p) ⟨rm ++ [p], rR, r0.B⟩ H al ⟨⟨?_, c.x0.sub, c.x0.tup, fun a o h of => ⟨(c.x0.keep a o h of).1, off a (c.x0.keep a o h of).2⟩, fun n a h e => ?_, c.x0.there⟩, rfl, c.bus⟩ ?_ ⟨p, rfl, ?_⟩
      · exact c.x0.pre.trans (List.prefix_append _ _)
      · by_cases hn : n < rm.length
        · refine c.x0.new n a h ?_
          have e' : (rm ++ [p])[n]? = some a := e
          rwa [List.getElem?_append_left hn] at e'
        · have e' : (rm ++ [p])[n]? = some a := e
          have hm := (List.getElem?_eq_some_iff.mp e').1
          have hl : n = rm.length := by simp at hm; omega
          subst hl
          simp at e'
          rw [← e']; exact hp
      · have s := c.st
        refine ⟨by simp [show rm.length = S.length from s.len], ?_, fun a h => ?_, fun a h q => s.dR a h (List.mem_cons_of_mem _ q), fun a h => s.bt a (List.mem_cons_of_mem _ h), fun a h => (s.src a h).off off, fun n a d h1 h2 => ?_⟩
        · show (rm ++ [p]).Nodup
          rw [List.nodup_append]
          exact ⟨s.nd, by simp, fun a ha b hb => by
            have : b = p := by simpa using hb
            rintro rfl
            rw [this] at ha
            exact nm1 ha⟩
        · rcases List.mem_append.mp h with h | h
          · exact ⟨(s.dj a h).1, fun q => (s.dj a h).2 (List.mem_cons_of_mem _ q)⟩
          · have : a = p := by simpa using h
            rw [this]; exact ⟨nR, nb⟩
        · have h1' : (rm ++ [p])[n]? = some a := h1
          have sl : rm.length = S.length := s.len
          by_cases hn : n < rm.length
          · rw [List.getElem?_append_left hn] at h1'
            rw [List.getElem?_append_left (by rw [← sl]; exact hn)] at h2
            exact (s.cel n a d h1' h2).frz off (fun _ h => h) hg (D.frz_is d)
          · have hn2 := (List.getElem?_eq_some_iff.mp h1').1
            have hl : n = rm.length := by simp at hn2; omega
            subst hl
            simp at h1'
            rw [sl] at h2
            simp at h2
            rw [← h1', ← h2]
            exact ⟨av, c.at_, Rels.frz off (fun _ h => h) hg c.rl (frzs_is acc)⟩
      · show (rm ++ [p])[S.length]? = some p
        rw [← show rm.length = S.length from c.st.len]
        simp
  · simp at al
end
/-- where no exception may come -/
abbrev WF : WX := fun _ _ _ _ => False
theorem mono_false {α : Type} {P : α → Store → Prop} {XX : Exc → Store → Prop} {t : T α} (h : t.All P fun _ _ => False) : t.All P XX := h.mono (fun _ _ z => z) fun _ _ z => z.elim
/-- the reading of conditions -/
abbrev tC' (K : PySem.W.Frag) (nm : Nm) (R : Rn) (cs : List E) : TT := tT K nm C0 (fun _ _ (b c : Bool) => b = c) WF (evC R cs)
theorem push_len {acc : List D} {y : D} {f : List D → T α} {P : α → Store → Prop} {XX : Exc → Store → Prop} (h : (some? (push acc (some y)) f).All P XX) : acc.length < line ∧ (f (acc ++ [y])).All P XX := by
  simp only [push] at h
  by_cases hl : acc.length < line
  · rw [if_pos hl] at h
    exact ⟨hl, h⟩
  · rw [if_neg hl] at h
    exact h.elim
theorem lc_weak {mu : Bool} {vs : List Nat} {ee : E} {p : NPat} {k : Itk} {its cs : List E} (hp : ∀ i ∈ p.slots, i ∈ vs) {σ : L2.St} {H : Hp} {Q : VK} (h : tE K nm W R (.comp mu vs ee p k its cs) σ H Q) :
    tLc (iD K nm W R k its) (gP K nm p) (tC' K nm R cs) (tE K nm WF R ee) vs σ H Q := by
  unfold tLc iD
  refine tT_mono (bind1s Mono.c0 (f := fun env ds S => some? (itemsK S k ds) fun items =>
      (compLoop (fun S' => still S S' (objsOf ds)) (fun x S => some? (npSet S p x (wipeD env vs)) fun env' => (evC R cs env' S).bind fun t S => if t then (evE R ee env' S).bind fun y S => .ret (some y) S else .ret none S) items [] S).nox.bind fun ys S =>
        if ys.length ≤ line then mk mu (.lst ys) S else .bad) (tT_eq (fun env S => by simp [evE]) h)) fun us H1 ⟨qs, h2⟩ => ?_
  obtain ⟨r, env, S, items, st, c, e, h3⟩ := tT_some h2
  refine ⟨r, S, qs, items, st, c.2, e, fun J wk p0 hp0 => ?_⟩
  obtain ⟨en, _, P, al, po⟩ := h3
  rw [T.All_bind, T.All_nox] at al
  generalize hF : (fun (ys : List D) (S : Store) => (if ys.length ≤ line then mk mu (.lst ys) S else .bad : T D).All P (XP K nm W σ r H1)) = F at al
  generalize hf : (fun (x : D) (S : Store) => some? (npSet S p x (wipeD env vs)) fun env' => (evC R cs env' S).bind fun t S => if t then (evE R ee env' S).bind fun y S => .ret (some y) S else .ret none S) = f at al
  generalize hok : (fun S' => still S S' (objsOf qs)) = okk at al
  refine ⟨fun i m Hh => m = items.length - i ∧ i ≤ items.length ∧ ∃ rr S' acc av, CI K nm r H1 p0 rr Hh S' acc av ∧ still S S' (objsOf qs) = true ∧ (compLoop okk f (items.drop i) acc S').All F fun _ _ => False,
    ⟨items.length, by omega, Nat.zero_le _, r.busy p0, S, [], [], CI.init st hp0, still_refl st c.2, by simpa using al⟩, fun i m Hh ⟨em, hi, rr, S', acc, av, ci, hs, al⟩ => ?_⟩
  by_cases hi2 : i < items.length
  · refine .inr ⟨wk.go i rr Hh S' hi2 ci.x0 ci.st hs, fun H' => ∃ rr S' acc av, CI K nm r H1 p0 rr H' S' acc av ∧ still S S' (objsOf qs) = true ∧ (compLoop okk f (items.drop (i + 1)) acc S').All F fun _ _ => False, fun H' q => ⟨items.length - (i + 1), by omega, rfl, hi2, q⟩, fun x H' hy => ?_⟩
    obtain ⟨d, e1, x1, st1, r1⟩ := wk.yld i rr Hh S' x H' hi2 ci.x0 ci.st hs hy
    have c1 := ci.ext x1 st1
    have hd : items.drop i = d :: items.drop (i + 1) := by
      rw [List.drop_eq_getElem_cons hi2]
      congr
      rw [List.getElem?_eq_getElem hi2] at e1
      exact Option.some.inj e1
    rw [hd] at al
    simp only [compLoop] at al
    have efd : f d S' = some? (npSet S' p d (wipeD env vs)) fun env' => (evC R cs env' S').bind fun t S => if t then (evE R ee env' S).bind fun y S => .ret (some y) S else .ret none S := by rw [← hf]
    rw [T.All_bind, efd] at al
    cases e2 : npSet S' p d (wipeD env vs) with
    | none => rw [e2] at al; exact al.elim
    | some env' =>
      rw [e2] at al
      simp only [some?_some] at al
      rw [T.All_bind] at al
      refine ⟨_, S', d, wipeD env vs, env', st1, r1, (en.ext0 c1.x0).wipe vs, e2, fun σ2 en2 hw => ⟨(hw vs hp).trans (wipe_wipe σ vs), ?_⟩⟩
      refine ⟨_, env', S', _, st1, en2, trivial, mono_false al, fun t S2 b r2 H2 pp x2 st2 et => ?_⟩
      subst et
      have c2 := c1.ext x2 st2
      cases t with
      | false =>
        simp only [Bool.false_eq_true, if_false, T.All_ret] at pp
        have hs2 : okk S2 = true := by
          by_cases hk : okk S2 = true
          · exact hk
          · rw [if_neg hk] at pp; exact pp.elim
        rw [if_pos hs2] at pp
        rw [← hok] at hs2
        rw [if_neg (by simp)]
        exact ⟨r2, S2, acc, av, c2, hs2, pp⟩
      | true =>
        simp only [if_true] at pp ⊢
        rw [T.All_bind] at pp
        refine ⟨r2, env', S2, _, st2, en2.ext x2, trivial, mono_false pp, fun y S3 v r3 H3 pp x3 st3 rl => ?_⟩
        have c3 := c2.ext x3 st3
        simp only [T.All_ret] at pp
        have hs3 : okk S3 = true := by
          by_cases hk : okk S3 = true
          · exact hk
          · rw [if_neg hk] at pp; exact pp.elim
        rw [if_pos hs3] at pp
        rw [← hok] at hs3
        obtain ⟨hl, pp⟩ := push_len pp
        exact ⟨av, c3.at_, by rw [← c3.rl.length] at hl; rw [← line_eq]; exact hl, r3, S3, acc ++ [y], av ++ [v], (c3.push hp0 rl).2, hs3, pp⟩
  · have ei : i = items.length := by omega
    subst ei
    rw [List.drop_length] at al
    simp only [compLoop, T.All_ret] at al
    rw [← hF] at al
    exact .inl ⟨wk.stop rr Hh S' ci.x0 ci.st hs, ci.out st hp0 al po⟩
theorem pe_compD (G : Good X nm Y P run W) {elt tg iter : Expr} {ifs : List Expr} {scope : Scope} {own : List (Str × Nat)} {pos : Pos} {mu : Bool} {ee : E} {p : NPat} {k : Itk} {its cs : List E}
    (hi : PI X tg iter (iD X.K nm W R k its)) (ok : BlkOk X.N X.env.scope scope own) (hp : ∀ i ∈ p.slots, i ∈ own.map (·.2))
    (hg : ∀ (s : Shared) (H : Hp) (C : Addr) (cl : List (Str × Addr)) (fp : List Addr), PG (X.blk s H scope (compEnvC scope cl C X.env) fp) tg (gP X.K nm p)) (ht : ∀ (s : Shared) (H : Hp) (C : Addr) (cl : List (Str × Addr)) (fp : List Addr), PTs (X.blk s H scope (compEnvC scope cl C X.env) fp) ifs (tC' X.K nm R cs))
    (he : ∀ (s : Shared) (H : Hp) (C : Addr) (cl : List (Str × Addr)) (fp : List Addr), PE (X.blk s H scope (compEnvC scope cl C X.env) fp) elt (tE X.K nm WF R ee)) (hs : ∀ x, foldedSetIterable iter X.env x = pure x) :
    PE X (.ListComp elt [⟨tg, iter, ifs, 0⟩] scope pos) (tE X.K nm W R (.comp mu (own.map (·.2)) ee p k its cs)) :=
  (pe_lc G.calm G.nd hi ok hg ht he hs).weak fun σ H Q h => lc_weak hp h
end
end Ic

set_option Elab.async false
set_option linter.all false
set_option maxRecDepth 100000
set_option maxHeartbeats 1000000
/-! Ic4j: comprehensions with two sources. -/
namespace Ic
open PySem PySem.Spec PyProof.Rows L2
section
variable {X : Cx} {K : PySem.W.Frag} {nm : Nm} {Y : Sym} {P : Prog} {run : Nat → List D → Store → T D} {W : WX} {R : Rn}
theorem if_all {α : Type} {c : Bool} {t : T α} {P : α → Store → Prop} {XX : Exc → Store → Prop} (h : (if c = true then t else .bad).All P XX) : c = true ∧ t.All P XX := by
  cases c with
  | true => exact ⟨rfl, by simpa using h⟩
  | false => exact (by simpa using h : False).elim
theorem lc2_weak {mu : Bool} {vs vs1 : List Nat} {ee : E} {p p2 : NPat} {k k2 : Itk} {its cs its2 cs2 : List E} (hp : ∀ i ∈ p.slots, i ∈ vs) (hp2 : ∀ i ∈ p2.slots, i ∈ vs1) {σ : L2.St} {H : Hp} {Q : VK} (h : tE K nm W R (.comp2 mu vs ee p k its cs vs1 p2 k2 its2 cs2) σ H Q) :
    tLc2 (iD K nm W R k its) (gP K nm p) (tC' K nm R cs) (iD K nm WF R k2 its2) (gP K nm p2) (tC' K nm R cs2) (tE K nm WF R ee) vs vs1 σ H Q := by
  unfold tLc2
  rw [iD]
  refine tT_mono (bind1s Mono.c0 (f := fun env ds S => some? (itemsK S k ds) fun items =>
      (compLoop2 (fun S' => still S S' (objsOf ds)) (fun x acc S => some? (npSet S p x (wipeD env vs)) fun env1 => (evC R cs env1 S).bind fun t S => if t then
        (evEs R its2 env1 S).bind fun ds2 S => some? (itemsK S k2 ds2) fun items2 =>
          compLoop (fun S' => still S S' (objsOf ds2)) (fun y S => some? (npSet S p2 y (wipeD env1 vs1)) fun env2 => (evC R cs2 env2 S).bind fun t S => if t then (evE R ee env2 S).bind fun y S => .ret (some y) S else .ret none S) items2 acc S
        else .ret acc S) items [] S).nox.bind fun ys S =>
        if ys.length ≤ line then mk mu (.lst ys) S else .bad) (tT_eq (fun env S => by simp [evE]) h)) fun us H1 ⟨qs, h2⟩ => ?_
  obtain ⟨r, env, S, items, st, c, e, h3⟩ := tT_some h2
  refine ⟨r, S, qs, items, st, c.2, e, fun J wk p0 hp0 => ?_⟩
  obtain ⟨en, _, P, al, po⟩ := h3
  rw [T.All_bind, T.All_nox] at al
  generalize hF : (fun (ys : List D) (S : Store) => (if ys.length ≤ line then mk mu (.lst ys) S else .bad : T D).All P (XP K nm W σ r H1)) = F at al
  generalize hf : (fun (x : D) (acc : List D) (S : Store) => some? (npSet S p x (wipeD env vs)) fun env1 => (evC R cs env1 S).bind fun t S => if t then
        (evEs R its2 env1 S).bind fun ds2 S => some? (itemsK S k2 ds2) fun items2 =>
          compLoop (fun S' => still S S' (objsOf ds2)) (fun y S => some? (npSet S p2 y (wipeD env1 vs1)) fun env2 => (evC R cs2 env2 S).bind fun t S => if t then (evE R ee env2 S).bind fun y S => .ret (some y) S else .ret none S) items2 acc S
        else .ret acc S) = f at al
  generalize hok : (fun S' => still S S' (objsOf qs)) = okk at al
  refine ⟨fun i m Hh => m = items.length - i ∧ i ≤ items.length ∧ ∃ rr S' acc av, CI K nm r H1 p0 rr Hh S' acc av ∧ still S S' (objsOf qs) = true ∧ (compLoop2 okk f (items.drop i) acc S').All F fun _ _ => False,
    ⟨items.length, by omega, Nat.zero_le _, r.busy p0, S, [], [], CI.init st hp0, still_refl st c.2, by simpa using al⟩, fun i m Hh ⟨em, hi, rr, S', acc, av, ci, hs, al⟩ => ?_⟩
  by_cases hi2 : i < items.length
  · refine .inr ⟨wk.go i rr Hh S' hi2 ci.x0 ci.st hs, fun H' => ∃ rr S' acc av, CI K nm r H1 p0 rr H' S' acc av ∧ still S S' (objsOf qs) = true ∧ (compLoop2 okk f (items.drop (i + 1)) acc S').All F fun _ _ => False, fun H' q => ⟨items.length - (i + 1), by omega, rfl, hi2, q⟩, fun x H' hy => ?_⟩
    obtain ⟨d, e1, x1, st1, r1⟩ := wk.yld i rr Hh S' x H' hi2 ci.x0 ci.st hs hy
    have c1 := ci.ext x1 st1
    have hd : items.drop i = d :: items.drop (i + 1) := by
      rw [List.drop_eq_getElem_cons hi2]
      congr
      rw [List.getElem?_eq_getElem hi2] at e1
      exact Option.some.inj e1
    rw [hd] at al
    simp only [compLoop2] at al
    have efd : f d acc S' = some? (npSet S' p d (wipeD env vs)) fun env1 => (evC R cs env1 S').bind fun t S => if t then
        (evEs R its2 env1 S).bind fun ds2 S => some? (itemsK S k2 ds2) fun items2 =>
          compLoop (fun S' => still S S' (objsOf ds2)) (fun y S => some? (npSet S p2 y (wipeD env1 vs1)) fun env2 => (evC R cs2 env2 S).bind fun t S => if t then (evE R ee env2 S).bind fun y S => .ret (some y) S else .ret none S) items2 acc S
        else .ret acc S := by rw [← hf]
    rw [T.All_bind, efd] at al
    generalize hF2 : (fun (a : List D) (S : Store) => (if okk S = true then compLoop2 okk f (items.drop (i + 1)) a S else .bad).All F fun _ _ => False) = F2 at al
    cases e2 : npSet S' p d (wipeD env vs) with
    | none => rw [e2] at al; exact al.elim
    | some env' =>
      rw [e2] at al
      simp only [some?_some] at al
      rw [T.All_bind] at al
      refine ⟨_, S', d, wipeD env vs, env', st1, r1, (en.ext0 c1.x0).wipe vs, e2, fun σ2 en2 hw => ⟨(hw vs hp).trans (wipe_wipe σ vs), ?_⟩⟩
      refine ⟨_, env', S', _, st1, en2, trivial, mono_false al, fun t S2 b r2 H2 pp x2 st2 et => ?_⟩
      subst et
      have c2 := c1.ext x2 st2
      cases t with
      | false =>
        simp only [Bool.false_eq_true, if_false, T.All_ret] at pp
        rw [← hF2] at pp
        obtain ⟨hs2, pp⟩ := if_all pp
        rw [← hok] at hs2
        rw [if_neg (by simp)]
        exact ⟨r2, S2, acc, av, c2, hs2, pp⟩
      | true =>
        simp only [if_true] at pp ⊢
        rw [T.All_bind] at pp
        rw [iD]
        refine ⟨r2, env', S2, _, st2, en2.ext x2, trivial, mono_false pp, fun qs2 S4 us2 r4 H4 pp x4 st4 rl4 => ?_⟩
        have c4 := c2.ext x4 st4
        cases ei2 : itemsK S4 k2 qs2 with
        | none => rw [ei2] at pp; exact pp.elim
        | some items2 =>
        rw [ei2] at pp
        simp only [some?_some] at pp
        have en4 := (en2.ext x2).ext x4
        refine ⟨r4, S4, qs2, items2, st4, rl4, ei2, fun J1 wk1 => ?_⟩
        generalize hf2 : (fun (y : D) (S : Store) => some? (npSet S p2 y (wipeD env' vs1)) fun env2 => (evC R cs2 env2 S).bind fun t S => if t then (evE R ee env2 S).bind fun y S => .ret (some y) S else .ret none S) = f2 at pp
        generalize hok2 : (fun S' => still S4 S' (objsOf qs2)) = okk2 at pp
        refine ⟨fun j m Hh => m = items2.length - j ∧ j ≤ items2.length ∧ ∃ rr S' acc av, CI K nm r H1 p0 rr Hh S' acc av ∧ Ext0 K r4 H4 rr Hh ∧ still S4 S' (objsOf qs2) = true ∧ (compLoop okk2 f2 (items2.drop j) acc S').All F2 fun _ _ => False,
          ⟨items2.length, by omega, Nat.zero_le _, r4, S4, acc, av, c4, Ext0.refl, still_refl st4 rl4, by simpa using pp⟩, fun j m Hh ⟨em, hj, rr, S5, acc, av, ci, y0, hs, al⟩ => ?_⟩
        by_cases hj2 : j < items2.length
        · refine .inr ⟨wk1.go j rr Hh S5 hj2 y0 ci.st hs, fun H' => ∃ rr S' acc av, CI K nm r H1 p0 rr H' S' acc av ∧ Ext0 K r4 H4 rr H' ∧ still S4 S' (objsOf qs2) = true ∧ (compLoop okk2 f2 (items2.drop (j + 1)) acc S').All F2 fun _ _ => False, fun H' q => ⟨items2.length - (j + 1), by omega, rfl, hj2, q⟩, fun x H' hy => ?_⟩
          obtain ⟨d, e1, x1, st1, r1⟩ := wk1.yld j rr Hh S5 x H' hj2 y0 ci.st hs hy
          have c1 := ci.ext x1 st1
          have y1 := y0.trans x1.toExt0
          have hd : items2.drop j = d :: items2.drop (j + 1) := by
            rw [List.drop_eq_getElem_cons hj2]
            congr
            rw [List.getElem?_eq_getElem hj2] at e1
            exact Option.some.inj e1
          rw [hd] at al
          simp only [compLoop] at al
          have efd : f2 d S5 = some? (npSet S5 p2 d (wipeD env' vs1)) fun env2 => (evC R cs2 env2 S5).bind fun t S => if t then (evE R ee env2 S).bind fun y S => .ret (some y) S else .ret none S := by rw [← hf2]
          rw [T.All_bind, efd] at al
          cases e2 : npSet S5 p2 d (wipeD env' vs1) with
          | none => rw [e2] at al; exact al.elim
          | some env2 =>
            rw [e2] at al
            simp only [some?_some] at al
            rw [T.All_bind] at al
            refine ⟨_, S5, d, wipeD env' vs1, env2, st1, r1, (en4.ext0 y1).wipe vs1, e2, fun σ3 en3 hw3 => ⟨(hw3 vs1 hp2).trans (wipe_wipe σ2 vs1), ?_⟩⟩
            refine ⟨_, env2, S5, _, st1, en3, trivial, mono_false al, fun t S6 b r6 H6 pp x6 st6 et => ?_⟩
            subst et
            have c6 := c1.ext x6 st6
            have y6 := y1.trans x6.toExt0
            cases t with
            | false =>
              simp only [Bool.false_eq_true, if_false, T.All_ret] at pp
              obtain ⟨hs2, pp⟩ := if_all pp
              rw [← hok2] at hs2
              rw [if_neg (by simp)]
              exact ⟨r6, S6, acc, av, c6, y6, hs2, pp⟩
            | true =>
              simp only [if_true] at pp ⊢
              rw [T.All_bind] at pp
              refine ⟨r6, env2, S6, _, st6, en3.ext x6, trivial, mono_false pp, fun y S7 v r7 H7 pp x7 st7 rl => ?_⟩
              have c7 := c6.ext x7 st7
              simp only [T.All_ret] at pp
              obtain ⟨hs3, pp⟩ := if_all pp
              rw [← hok2] at hs3
              obtain ⟨hl, pp⟩ := push_len pp
              have pu := c7.push hp0 rl
              exact ⟨av, c7.at_, by rw [← c7.rl.length] at hl; rw [← line_eq]; exact hl, r7, S7, acc ++ [y], av ++ [v], pu.2, (y6.trans x7.toExt0).trans pu.1, hs3, pp⟩
        · have ej : j = items2.length := by omega
          subst ej
          rw [List.drop_length] at al
          simp only [compLoop, T.All_ret] at al
          rw [← hF2] at al
          obtain ⟨hs3, pp⟩ := if_all al
          rw [← hok] at hs3
          exact .inl ⟨wk1.stop rr Hh S5 y0 ci.st hs, rr, S5, acc, av, ci, hs3, pp⟩
  · have ei : i = items.length := by omega
    subst ei
    rw [List.drop_length] at al
    simp only [compLoop2, T.All_ret] at al
    rw [← hF] at al
    exact .inl ⟨wk.stop rr Hh S' ci.x0 ci.st hs, ci.out st hp0 al po⟩
theorem pe_comp2D (G : Good X nm Y P run W) {elt tg iter tg1 iter1 : Expr} {ifs ifs1 : List Expr} {scope : Scope} {own : List (Str × Nat)} {pos : Pos} {mu : Bool} {ee : E} {p p2 : NPat} {k k2 : Itk} {its cs its2 cs2 : List E}
    (hi : PI X tg iter (iD X.K nm W R k its)) (ok : BlkOk X.N X.env.scope scope own) (hp : ∀ i ∈ p.slots, i ∈ own.map (·.2)) (hp2 : ∀ i ∈ p2.slots, i ∈ own.map (·.2))
    (hg : ∀ (s : Shared) (H : Hp) (C : Addr) (cl : List (Str × Addr)) (fp : List Addr), PG (X.blk s H scope (compEnvC scope cl C X.env) fp) tg (gP X.K nm p)) (ht : ∀ (s : Shared) (H : Hp) (C : Addr) (cl : List (Str × Addr)) (fp : List Addr), PTs (X.blk s H scope (compEnvC scope cl C X.env) fp) ifs (tC' X.K nm R cs))
    (hi1 : ∀ (s : Shared) (H : Hp) (C : Addr) (cl : List (Str × Addr)) (fp : List Addr), PI (X.blk s H scope (compEnvC scope cl C X.env) fp) tg1 iter1 (iD X.K nm WF R k2 its2))
    (hg1 : ∀ (s : Shared) (H : Hp) (C : Addr) (cl : List (Str × Addr)) (fp : List Addr), PG (X.blk s H scope (compEnvC scope cl C X.env) fp) tg1 (gP X.K nm p2)) (ht1 : ∀ (s : Shared) (H : Hp) (C : Addr) (cl : List (Str × Addr)) (fp : List Addr), PTs (X.blk s H scope (compEnvC scope cl C X.env) fp) ifs1 (tC' X.K nm R cs2))
    (he : ∀ (s : Shared) (H : Hp) (C : Addr) (cl : List (Str × Addr)) (fp : List Addr), PE (X.blk s H scope (compEnvC scope cl C X.env) fp) elt (tE X.K nm WF R ee)) (hs : ∀ x, foldedSetIterable iter X.env x = pure x) (hs1 : ∀ env x, foldedSetIterable iter1 env x = pure x) :
    PE X (.ListComp elt [⟨tg, iter, ifs, 0⟩, ⟨tg1, iter1, ifs1, 0⟩] scope pos) (tE X.K nm W R (.comp2 mu (own.map (·.2)) ee p k its cs p2.slots p2 k2 its2 cs2)) :=
  (pe_lc2 G.calm G.nd hi ok hp2 hg ht hi1 hg1 ht1 he hs hs1).weak fun σ H Q h => lc2_weak hp (fun _ h => h) h
end
end Ic

set_option Elab.async false
set_option linter.all false
set_option maxRecDepth 100000
set_option maxHeartbeats 1000000
/-! Ic4k: every translated expression tells what the text's own does. -/
namespace Ic
open PySem PySem.Spec PyProof.Rows L2
section
variable {X : Cx} {K : PySem.W.Frag} {nm : Nm} {Y : Sym} {P : Prog} {run : Nat → List D → Store → T D} {W : WX} {R : Rn}
theorem some?_bind {α β γ : Type} (o : Option γ) (f : γ → T α) (g : α → Store → T β) : (some? o f).bind g = some? o fun c => (f c).bind g := by cases o <;> rfl
theorem ite_bind {α β : Type} (c : Prop) [Decidable c] (t u : T α) (g : α → Store → T β) : (if c then t else u).bind g = if c then t.bind g else u.bind g := by split <;> rfl
/-! ### tests -/
theorem pt_ofPE {a : Expr} {ea : E} (h : PE X a (tE X.K nm W R ea)) (he : ∀ whole, isTrue a X.env whole = (do let v ← whole; standAt a.pos; holding [v] (truthy v))) : PT X a (tB X.K nm W R ea) :=
  (pt_truth h he).weak fun σ H Q q => by
    refine tT_mono (bind1 Mono.c0 (f := fun _ x S => some? (truth (view S x)) fun t => .ret t S) q) fun v H1 ⟨x, h2⟩ => ?_
    obtain ⟨r, env, S, b, st, c, e, h3⟩ := tT_some h2
    exact ⟨b, (c.2.view st).tru e, h3.ret st rfl⟩
theorem tB_then {α β : Type} {rel : Rl → Hp → α → β → Prop} {ea : E} {f : Slots → Bool → Store → T α} {σ : L2.St} {H : Hp} {Q : β → Hp → Prop}
    (h : tT K nm C0 rel W (fun env S => (evE R ea env S).bind fun x S => some? (truth (view S x)) fun t => f env t S) σ H Q) : tB K nm W R ea σ H fun b H1 => tT K nm C0 rel W (fun env S => f env b S) σ H1 Q := by
  have h1 : tT K nm C0 rel W (fun env S => ((evE R ea env S).bind fun x S => some? (truth (view S x)) fun t => .ret t S).bind (f env)) σ H Q := tT_eq (fun env S => by
    simp only [T.bind_assoc, some?_bind, T.bind_ret]) h
  refine tT_mono (tT_bind (rel1 := fun _ _ (b c : Bool) => b = c) Mono.c0 h1) fun b H1 ⟨x, h2⟩ => ?_
  obtain ⟨r, env, S, st, en, c, P, al, po⟩ := tT_raw h2
  have e := c.2
  subst e
  exact ⟨r, env, S, P, st, en, trivial, al, po⟩
theorem pt_notB {a : Expr} {ea : E} {pos : Pos} (h : PT X a (tB X.K nm W R ea)) : PT X (.UnaryOp .Not a pos) (tB X.K nm W R (.not ea)) :=
  (pt_not h).weak fun σ H Q q => by
    have h1 : tT X.K nm C0 (fun _ _ (b c : Bool) => b = c) W (fun env S => (evE R ea env S).bind fun x S => some? (truth (view S x)) fun t => .ret (!t) S) σ H Q := tT_eq (fun env S => by
      simp only [evE, T.bind_assoc, some?_bind, T.bind_ret, view, truth, some?_some]) q
    refine tT_mono (tB_then h1) fun b H1 h2 => ?_
    obtain ⟨r, _, k⟩ := tT_ret h2
    exact k (!b) rfl
theorem pw_andB {pos : Pos} : ∀ (es : List Expr) (ds : List E), es.length = ds.length → es ≠ [] → (∀ (i : Nat) e d, es[i]? = some e → ds[i]? = some d → PT X e (tB X.K nm W R d)) → PW X (.BoolOp .And es pos) (tB X.K nm W R (.and ds))
  | [], _, _, h, _ => absurd rfl h
  | _ :: _, [], h, _, _ => by simp at h
  | [e], [d], _, _, h => (pw_and1 (h 0 e d rfl rfl)).weak fun σ H Q q => tT_eq (fun env S => by simp [evE, evAnd]) q
  | [_], _ :: _ :: _, h, _, _ => by simp at h
  | _ :: _ :: _, [_], h, _, _ => by simp at h
  | e :: e2 :: es, d :: d2 :: ds, hl, _, h => by
    have ih := pw_andB (pos := pos) (e2 :: es) (d2 :: ds) (by simpa using hl) (by simp) fun i e d h1 h2 => h (i + 1) e d (by simpa using h1) (by simpa using h2)
    refine (pw_and (h 0 e d rfl rfl) ih).weak fun σ H Q q => ?_
    have h1 : tT X.K nm C0 (fun _ _ (b c : Bool) => b = c) W (fun env S => (evE R d env S).bind fun x S => some? (truth (view S x)) fun t => if t then (evE R (.and (d2 :: ds)) env S).bind (fun x S => some? (truth (view S x)) fun t => .ret t S) else .ret false S) σ H Q := tT_eq (fun env S => by
      simp only [evE, evAnd, T.bind_assoc, some?_bind]
      congr
      funext x S
      cases hx : truth (view S x) with
      | none => rfl
      | some t => cases t <;> simp [hx]) q
    refine tT_mono (tB_then h1) fun b H1 h2 => ?_
    cases b with
    | true => simpa using h2
    | false =>
      simp only [Bool.false_eq_true, if_false] at h2 ⊢
      obtain ⟨r, _, k⟩ := tT_ret h2
      exact k false rfl
theorem pw_orB {pos : Pos} : ∀ (es : List Expr) (ds : List E), es.length = ds.length → es ≠ [] → (∀ (i : Nat) e d, es[i]? = some e → ds[i]? = some d → PT X e (tB X.K nm W R d)) → PW X (.BoolOp .Or es pos) (tB X.K nm W R (.or ds))
  | [], _, _, h, _ => absurd rfl h
  | _ :: _, [], h, _, _ => by simp at h
  | [e], [d], _, _, h => (pw_or1 (h 0 e d rfl rfl)).weak fun σ H Q q => tT_eq (fun env S => by simp [evE, evOr]) q
  | [_], _ :: _ :: _, h, _, _ => by simp at h
  | _ :: _ :: _, [_], h, _, _ => by simp at h
  | e :: e2 :: es, d :: d2 :: ds, hl, _, h => by
    have ih := pw_orB (pos := pos) (e2 :: es) (d2 :: ds) (by simpa using hl) (by simp) fun i e d h1 h2 => h (i + 1) e d (by simpa using h1) (by simpa using h2)
    refine (pw_or (h 0 e d rfl rfl) ih).weak fun σ H Q q => ?_
    have h1 : tT X.K nm C0 (fun _ _ (b c : Bool) => b = c) W (fun env S => (evE R d env S).bind fun x S => some? (truth (view S x)) fun t => if t then .ret true S else (evE R (.or (d2 :: ds)) env S).bind (fun x S => some? (truth (view S x)) fun t => .ret t S)) σ H Q := tT_eq (fun env S => by
      simp only [evE, evOr, T.bind_assoc, some?_bind]
      congr
      funext x S
      cases hx : truth (view S x) with
      | none => rfl
      | some t => cases t <;> simp [hx]) q
    refine tT_mono (tB_then h1) fun b H1 h2 => ?_
    cases b with
    | false => simpa using h2
    | true =>
      simp only [if_true] at h2 ⊢
      obtain ⟨r, _, k⟩ := tT_ret h2
      exact k true rfl
/-- what is a bool as a value, as a test -/
theorem tB_bl {e : E} {t : Slots → Store → T Bool} (h : ∀ env S, evE R e env S = (t env S).bind fun b S => .ret (.bl b) S) {σ : L2.St} {H : Hp} {Q : Bool → Hp → Prop} (q : tB K nm W R e σ H Q) : tTest (tE K nm W R e) σ H Q := by
  obtain ⟨r, env, S, P, st, en, c, al, po⟩ := q
  simp only [h, T.bind_assoc, T.bind_ret, view, truth, some?_some, T.All_bind, T.All_ret] at al
  refine ⟨r, env, S, fun d S' => ∃ b, d = .bl b ∧ P b S', st, en, trivial, ?_, fun d S' v r' H' ⟨b, e1, p⟩ x s l => ?_⟩
  · simp only [h, T.All_bind, T.All_ret]
    exact al.mono (fun b S' z => ⟨b, rfl, z⟩) fun _ _ z => z
  · subst e1
    exact ⟨b, l, po b S' b r' H' p x s rfl⟩
theorem pt_cmpB {a b : Expr} {ea eb : E} {op : Cm} {pos : Pos} (hu : X.A.units + 65 < cLine) (ha : PE X a (tE X.K nm W R ea)) (hb : PE X b (tE X.K nm W R eb)) (hm : behindInMarks op.py b = false) : PT X (.Compare a [op.py] [b] pos) (tB X.K nm W R (.cmp ea op eb)) :=
  (pt_cmpD0 hu ha hb hm).weak fun σ H Q q => tB_bl (t := fun env S => (evE R ea env S).bind fun x S => (evE R eb env S).bind fun y S => some? (compare op (view S x) (view S y)) fun b => .ret b S)
    (fun env S => by simp only [evE, T.bind_assoc, some?_bind, T.bind_ret]) q
theorem pt_cmp2B {a b c : Expr} {ea eb ec : E} {op op2 : Cm} {pos : Pos} (hu : X.A.units + 65 < cLine) (ha : PE X a (tE X.K nm W R ea)) (hb : PE X b (tE X.K nm W R eb)) (hc : PE X c (tE X.K nm W R ec)) (hm : lastMarks [op.py, op2.py] [b, c] = false) :
    PT X (.Compare a [op.py, op2.py] [b, c] pos) (tB X.K nm W R (.cmp2 ea op eb op2 ec)) :=
  (pt_cmp2D0 hu ha hb hc hm).weak fun σ H Q q => tB_bl (t := fun env S => (evE R ea env S).bind fun x S => (evE R eb env S).bind fun y S => some? (compare op (view S x) (view S y)) fun t =>
      if t then (evE R ec env S).bind fun z S => some? (compare op2 (view S y) (view S z)) fun u => .ret u S else .ret false S)
    (fun env S => by simp only [evE, T.bind_assoc, some?_bind, T.bind_ret, ite_bind]) q
/-! ### the translation -/
theorem op_of {op : Operator} {o : Op} (h : opOf op = some o) : op = o.py := by
  cases op <;> simp only [opOf, reduceCtorEq, Option.some.injEq] at h <;> (subst h; rfl)
theorem cm_of (op : CmpOp) : (cmOf op).py = op := by cases op <;> rfl
theorem no_star {es : List Expr} (h : es.any isStar = false) : ∀ e ∈ es, isStar e = false := fun e he => by
  rw [List.any_eq_false] at h
  simpa using h e he
/-- the expressions told of -/
structure Told (nm : Nm) (P : Prog) (run : Nat → List D → Store → T D) (g : Bool → Sym → Nat → Expr → E) : Prop where
  e : ∀ {X Y W}, Good X nm Y P run W → ∀ n e, PE X e (tE X.K nm W (rnOf P run) (g false Y n e))
  t : ∀ {X Y W}, Good X nm Y P run W → ∀ e, PT X e (tB X.K nm W (rnOf P run) (g true Y 0 e))
  s : ∀ Y n e, isStar e = true → g false Y n e = .bad
theorem Told.pa {g : Bool → Sym → Nat → Expr → E} (t : Told nm P run g) (G : Good X nm Y P run W) (n : Nat) (es : List Expr) : PA X es (tEs X.K nm W (rnOf P run) (es.map (g false Y n))) := pa_D es fun e _ => ⟨t.e G n e, t.s Y n e⟩
theorem iD_bad {k : Itk} {ds : List E} {tg it : Expr} : PI X tg it (iD X.K nm W R k (.bad :: ds)) := ⟨fun pins s σ H Rr I h => absurd h tEs_badHead⟩
theorem irI_sound {g : Bool → Sym → Nat → Expr → E} (t : Told nm P run g) (G : Good X nm Y P run W) (tg it : Expr) : PI X tg it (iD X.K nm W (rnOf P run) (irI g Y (isTupT tg) it).1 (irI g Y (isTupT tg) it).2) := by
  unfold irI
  split
  · rename_i x p es q
    by_cases h0 : (x == "__debug__" || es.any isStar) = true
    · rw [if_pos h0]; exact iD_bad
    rw [if_neg h0]
    simp only [Bool.or_eq_true, not_or, Bool.not_eq_true] at h0
    have hs := no_star h0.2
    by_cases h1 : (Y.free x && decide (x = "range") && decide (es.length = 1)) = true
    · rw [if_pos h1]
      simp only [Bool.and_eq_true, decide_eq_true_eq] at h1
      obtain ⟨⟨hf, rfl⟩, hl⟩ := h1
      match es, hl, hs with
      | [a], _, hs => exact pi_range1D G hf (t.pa G 0 [a]) (hs a List.mem_cons_self)
    rw [if_neg h1]
    by_cases h2 : (Y.free x && decide (x = "range") && decide (es.length = 2)) = true
    · rw [if_pos h2]
      simp only [Bool.and_eq_true, decide_eq_true_eq] at h2
      obtain ⟨⟨hf, rfl⟩, hl⟩ := h2
      match es, hl, hs with
      | [a, b], _, hs => exact pi_range2D G hf (t.pa G 0 [a, b]) (hs a List.mem_cons_self) (hs b (List.mem_cons_of_mem _ List.mem_cons_self))
    rw [if_neg h2]
    by_cases h3 : (Y.free x && decide (x = "enumerate") && decide (es.length = 1)) = true
    · rw [if_pos h3]
      simp only [Bool.and_eq_true, decide_eq_true_eq] at h3
      obtain ⟨⟨hf, rfl⟩, hl⟩ := h3
      by_cases ht : isTupT tg = true
      · rw [if_pos ht]
        match tg, ht with
        | .Tuple ts kk tp, _ =>
          match es, hl, hs with
          | [a], _, hs => exact pi_enumD G hf (t.pa G 0 [a]) (hs a List.mem_cons_self)
      · rw [if_neg ht]; exact iD_bad
    rw [if_neg h3]
    by_cases h4 : (Y.free x && decide (x = "zip") && decide (es.length = 2)) = true
    · rw [if_pos h4]
      simp only [Bool.and_eq_true, decide_eq_true_eq] at h4
      obtain ⟨⟨hf, rfl⟩, hl⟩ := h4
      by_cases ht : isTupT tg = true
      · rw [if_pos ht]
        match tg, ht with
        | .Tuple ts kk tp, _ =>
          match es, hl, hs with
          | [a, b], _, hs => exact pi_zipD G hf (t.pa G 0 [a, b]) (hs a List.mem_cons_self) (hs b (List.mem_cons_of_mem _ List.mem_cons_self))
      · rw [if_neg ht]; exact iD_bad
    rw [if_neg h4]
    by_cases h5 : (Y.free x && decide (x = "reversed") && decide (es.length = 1)) = true
    · rw [if_pos h5]
      simp only [Bool.and_eq_true, decide_eq_true_eq] at h5
      obtain ⟨⟨hf, rfl⟩, hl⟩ := h5
      match es, hl, hs with
      | [a], _, hs => exact pi_revD G hf (t.pa G 0 [a]) (hs a List.mem_cons_self)
    rw [if_neg h5]
    exact pi_valD (t.e G 0 _)
  · exact iD_bad
  · exact pi_valD (t.e G 0 _)
theorem own_eq {a : Expr} {m : Str} {apos pos : Pos} {es : List Expr} {env : Env} (hs : ∀ e ∈ es, isStar e = false) (h30 : es.length < 30) (hc : isCall0 a = false) (hl : (apos.endLine == pos.line) = true) : ∃ pl, eval (.Call (.Attribute a m apos) es [] pos) env = (do
      let ov ← eval a env
      standAt apos.atName
      let (f, first) ← holding [ov] (getMethod ov m pl)
      callWith pos f first (backTo pos (starEach es env)) (backToKw pos (keywordEach [] env))) := by
  refine ⟨(do return (← importBound a env).getD true), ?_⟩
  have hform : methodCallForm (es.length + ([] : List Keyword).length) (backTo pos (starEach es env)) (backToKw pos (keywordEach [] env)) = true := by
    have h1 := any_back pos env hs
    unfold methodCallForm
    have h2 : ((backTo pos (starEach es env)).all fun x => !x.1) = true := by
      rw [List.any_eq_false] at h1
      rw [List.all_eq_true]
      exact fun x hx => by simpa using h1 x hx
    rw [h2]
    show (true && true && decide (es.length + 0 + 0 < 30)) = true
    simp [h30]
  have hpos : methodCallPos true a env apos pos = pure pos := by unfold methodCallPos; simp [hl]
  rw [arm_eval_Call, base_plain hc]
  unfold methodCall
  rw [hform]
  simp only [hpos, calleeOf, if_true, pure_bind]
theorem set_plain {e : Expr} (h : isSetE e = false) (env : Env) : ∀ x, foldedSetIterable e env x = pure x := fun x => by
  cases e <;> first | rfl | (simp [isSetE] at h)
theorem blk_pg (G : Good X nm Y P run W) {tg : Expr} {p : NPat} {scope : Scope} {s : Shared} {H : Hp} {C : Addr} {cl : List (Str × Addr)} {fp : List Addr} (h : npOf { Y with sc := scope } tg = some p) : PG (X.blk s H scope (compEnvC scope cl C X.env) fp) tg (gP X.K nm p) := by
  refine pg_D (X := X.blk s H scope (compEnvC scope cl C X.env) fp) (Y := { Y with sc := scope }) G.calm G.nd G.eN (fun x hx => ?_) h
  unfold Sym.sto at hx
  simp only at hx
  have keep : ∀ k, k ≠ NameKind.free → scope.names.lookup x = some k → (compEnvC scope cl C X.env).scope.names.lookup x = some k := fun k hk h => lookup_relS_keep hk h
  split at hx
  · rename_i e
    have := keep _ (by decide) e
    exact ⟨.inl this, .inr this⟩
  · rename_i e
    have := keep _ (by decide) e
    exact ⟨.inr this, .inl (by show (scope.names.lookup x == some .cell) = true; rw [e]; rfl)⟩
  · cases hx
theorem irV_sound {g : Bool → Sym → Nat → Expr → E} (t : Told nm P run g) (G : Good X nm Y P run W) (n : Nat) (e : Expr) : PE X e (tE X.K nm W (rnOf P run) (irV g Y n e)) := by
  unfold irV
  split
  · -- Name
    rename_i x pos
    exact pe_nameD G x n pos g
  · -- Constant
    split
    · exact pe_litD pe_int fun _ _ => rfl
    · exact pe_litD pe_bl fun _ _ => rfl
    · exact pe_litD pe_non fun _ _ => rfl
    · exact pe_litD pe_str fun _ _ => rfl
    · exact PE.none fun _ _ _ => tE_bad
  · -- BinOp
    rename_i a op b pos
    cases ho : opOf op with
    | none => exact PE.none fun _ _ _ => tE_bad
    | some o =>
      rw [op_of ho]
      exact pe_binD (t.e G 0 a) (t.e G 0 b)
  · -- UnaryOp
    split
    · exact pe_negD (t.e G 0 _)
    · exact pe_notD (t.e G 0 _)
    · exact PE.none fun _ _ _ => tE_bad
  · -- BoolOp
    rename_i op es pos
    have key : ∀ (i : Nat) e d, es[i]? = some e → (es.map (g false Y 0))[i]? = some d → PE X e (tE X.K nm W (rnOf P run) d) := fun i e d h1 h2 => by
      rw [List.getElem?_map, h1] at h2
      cases h2
      exact t.e G 0 e
    split
    · exact pe_andD es _ (by simp) key
    · exact pe_orD es _ (by simp) key
  · -- Compare
    rename_i a op b pos
    by_cases hm : behindInMarks op b = true
    · rw [if_pos hm]; exact PE.none fun _ _ _ => tE_bad
    · rw [if_neg hm]
      have := pe_cmpD (op := cmOf op) (pos := pos) G.room (t.e G 0 a) (t.e G 0 b) (by rw [cm_of]; simpa using hm)
      rwa [cm_of] at this
  · rename_i a op op2 b c pos
    by_cases hm : lastMarks [op, op2] [b, c] = true
    · rw [if_pos hm]; exact PE.none fun _ _ _ => tE_bad
    · rw [if_neg hm]
      have := pe_cmp2D (op := cmOf op) (op2 := cmOf op2) (pos := pos) G.room (t.e G 0 a) (t.e G 0 b) (t.e G 0 c) (by rw [cm_of, cm_of]; simpa using hm)
      rwa [cm_of, cm_of] at this
  · exact pe_ifD (t.t G _) (t.e G n _) (t.e G n _)
  · exact pe_tupD (t.pa G 0 _)
  · exact pe_lstD (t.pa G (n - 1) _)
  · exact pe_dictD
  · -- slices
    exact pe_slcD (t.e G 0 _) (fun e _ => t.e G 0 e) (fun e _ => t.e G 0 e)
  · exact pe_backD (t.e G 0 _)
  · exact PE.none fun _ _ _ => tE_bad
  · rename_i a b pos h1 h2 h3
    refine pe_idxD G.room (t.e G 0 a) (t.e G 0 b) fun o i => ?_
    cases b <;> first | rfl | (rename_i lo hi st sp; exact absurd rfl (h3 lo hi st sp))
  · -- Attribute
    rename_i a f pos
    split
    · exact PE.none fun _ _ _ => tE_bad
    · rename_i hc
      have hc' : isCall0 a = false := by
        cases a <;> first | rfl | skip
        rename_i fn as ks p
        cases as <;> cases ks <;> first | rfl | exact absurd rfl (hc _ _)
      cases hf : find? Y.att f with
      | none => exact PE.none fun _ _ _ => tE_bad
      | some i => exact pe_fldD G hf (t.e G 0 a) (base_plain hc' _ _ _)
  · -- Call of a name
    rename_i x p es pos
    by_cases h0 : (x == "__debug__" || es.any isStar) = true
    · rw [if_pos h0]; exact PE.none fun _ _ _ => tE_bad
    rw [if_neg h0]
    simp only [Bool.or_eq_true, not_or, Bool.not_eq_true] at h0
    have hs := no_star h0.2
    by_cases hf : Y.free x = true
    · rw [if_pos hf]
      by_cases hi : x = "isinstance"
      · rw [if_pos hi]
        subst hi
        split
        · rename_i a ty p2
          by_cases hf2 : Y.free ty = true
          · rw [if_pos hf2]
            cases hty : tyOf ty with
            | none => exact PE.none fun _ _ _ => tE_bad
            | some q => exact pe_isiD G hf hty hf2 (t.e G 0 a) (hs a List.mem_cons_self)
          · rw [if_neg hf2]; exact PE.none fun _ _ _ => tE_bad
        · rename_i a ty p2 tu p3 m3 p4
          by_cases hf2 : (Y.free ty && Y.free tu) = true
          · rw [if_pos hf2]
            rw [Bool.and_eq_true] at hf2
            cases hty : tyOf ty with
            | none => exact PE.none fun _ _ _ => tE_bad
            | some q =>
              cases htu : tyOf tu with
              | none => exact PE.none fun _ _ _ => tE_bad
              | some q2 => exact pe_isi2D G hf hty htu hf2.1 hf2.2 (t.e G 0 a) (hs a List.mem_cons_self)
          · rw [if_neg hf2]; exact PE.none fun _ _ _ => tE_bad
        · exact PE.none fun _ _ _ => tE_bad
      · rw [if_neg hi]
        by_cases hl : x = "list"
        · rw [if_pos hl]
          subst hl
          have dflt : PE X (.Call (.Name "list" p) es [] pos) (tE X.K nm W (rnOf P run) (.bi .list (decide (0 < n)) (es.map (g false Y 0)))) := pe_biD G (by rfl) hf h0.1 (t.pa G 0 es) hs (by simp)
          split
          · rename_i r rp as rpos
            by_cases hr : (Y.free r && decide (r = "range") && decide (as.length ≤ 2) && !(as.any isStar)) = true
            · rw [if_pos hr]
              simp only [Bool.and_eq_true, decide_eq_true_eq, Bool.not_eq_true'] at hr
              obtain ⟨⟨⟨hr1, rfl⟩, hr2⟩, hr3⟩ := hr
              refine pe_listRD G hf hr1 (fun i e d h1 h2 => ?_) (no_star hr3) (by simp) hr2
              rw [List.getElem?_map, h1] at h2
              cases h2
              exact t.e G 0 e
            · rw [if_neg hr]; exact dflt
          · exact dflt
        · rw [if_neg hl]
          cases hb : biOf x with
          | none => exact PE.none fun _ _ _ => tE_bad
          | some b => exact pe_biD G hb hf h0.1 (t.pa G 0 es) hs (by simp)
    · rw [if_neg hf]
      by_cases hg : Y.glo x = true
      · rw [if_pos hg]
        split
        · rename_i f m hfn
          by_cases hl : es.length = m
          · rw [if_pos hl]
            exact pe_callD G hfn hg h0.1 (t.pa G 0 es) hs hl (by simpa using hl)
          · rw [if_neg hl]; exact PE.none fun _ _ _ => tE_bad
        · cases hc : find? Y.cls x with
          | none => exact PE.none fun _ _ _ => tE_bad
          | some c => exact pe_newD G hc hg h0.1 (t.pa G 0 es) hs (by simp)
      · rw [if_neg hg]; exact PE.none fun _ _ _ => tE_bad
  · -- .. with keywords
    rename_i x p es kws pos _
    by_cases h0 : (x == "__debug__" || es.any isStar) = true
    · rw [if_pos h0]; exact PE.none fun _ _ _ => tE_bad
    rw [if_neg h0]
    simp only [Bool.or_eq_true, not_or, Bool.not_eq_true] at h0
    have hs := no_star h0.2
    by_cases hg : Y.glo x = true
    · rw [if_pos hg]
      split
      · rename_i f m q hfn hq
        by_cases hk : (kws.all fun k => k.arg.isSome) = true
        · rw [if_pos hk]
          have hq1 := List.find?_some hq
          simp only [Bool.and_eq_true, beq_iff_eq] at hq1
          exact pe_callKD G hfn (List.mem_of_find?_eq_some hq) hq1.1.1 hq1.1.2 hq1.2 hk hg h0.1 (t.pa G 0 es) hs (by simp) fun k _ => t.e G 0 _
        · rw [if_neg hk]; exact PE.none fun _ _ _ => tE_bad
      · exact PE.none fun _ _ _ => tE_bad
    · rw [if_neg hg]; exact PE.none fun _ _ _ => tE_bad
  · -- methods
    rename_i a m ap es cp
    split
    · exact PE.none fun _ _ _ => tE_bad
    · rename_i hc
      have hc' : isCall0 a = false := by
        cases a <;> first | rfl | skip
        rename_i fn as ks p
        cases as <;> cases ks <;> first | rfl | exact absurd rfl (hc _ _)
      by_cases h0 : (!(ap.endLine == cp.line) || es.any isStar || !decide (es.length < 30)) = true
      · rw [if_pos h0]; exact PE.none fun _ _ _ => tE_bad
      rw [if_neg h0]
      simp only [Bool.or_eq_true, not_or, Bool.not_eq_true, Bool.not_eq_false', decide_eq_true_eq] at h0
      have hs := no_star h0.1.2
      split
      · rename_i q hq
        exact pe_mthD G.room hq hc' h0.1.1 (t.e G 0 a) (t.pa G 0 es) hs (by simp)
      · cases hm : find? Y.mts m with
        | none => exact PE.none fun _ _ _ => tE_bad
        | some i => exact pe_ownD G hm hc' (t.e G 0 a) (t.pa G 0 es) hs (by simp) (own_eq hs h0.2 hc' h0.1.1)
  · -- comprehensions
    rename_i elt tg iter ifs scope pos
    split
    · exact PE.none fun _ _ _ => tE_bad
    rename_i own ho
    by_cases h0 : (blkC Y.N Y.sc scope own && decide (ifs.length ≤ 1) && !isSetE iter) = true
    · rw [if_pos h0]
      simp only [Bool.and_eq_true, decide_eq_true_eq, Bool.not_eq_true'] at h0
      obtain ⟨⟨hb, hl⟩, hs⟩ := h0
      split
      · exact PE.none fun _ _ _ => tE_bad
      rename_i p hp
      by_cases hq : (p.slots.all fun i => (own.map (·.2)).contains i) = true
      · rw [if_pos hq]
        rw [List.all_eq_true] at hq
        exact pe_compD G (irI_sound t G tg iter) (by rw [← G.eN, ← G.eS]; exact blkOk_by hb) (fun i hi => by simpa using hq i hi) (fun s H C cl fp => blk_pg G hp) (fun s H C cl fp => pts_D ifs (fun c _ => t.t (G.blk s H scope cl C fp) c) hl) (fun s H C cl fp => t.e (G.blk s H scope cl C fp) _ elt) (set_plain hs _)
      · rw [if_neg hq]; exact PE.none fun _ _ _ => tE_bad
    · rw [if_neg h0]; exact PE.none fun _ _ _ => tE_bad
  · rename_i elt tg iter ifs tg2 iter2 ifs2 scope pos
    split
    · exact PE.none fun _ _ _ => tE_bad
    rename_i own ho
    by_cases h0 : (blkC Y.N Y.sc scope own && decide (ifs.length ≤ 1) && decide (ifs2.length ≤ 1) && !isSetE iter && !isSetE iter2) = true
    · rw [if_pos h0]
      simp only [Bool.and_eq_true, decide_eq_true_eq, Bool.not_eq_true'] at h0
      obtain ⟨⟨⟨⟨hb, hl⟩, hl2⟩, hs⟩, hs2⟩ := h0
      split
      · rename_i p p2 hp hp2
        by_cases hq : ((p.slots.all fun i => (own.map (·.2)).contains i) && (p2.slots.all fun i => (own.map (·.2)).contains i)) = true
        · rw [if_pos hq]
          simp only [Bool.and_eq_true, List.all_eq_true] at hq
          exact pe_comp2D G (irI_sound t G tg iter) (by rw [← G.eN, ← G.eS]; exact blkOk_by hb) (fun i hi => by simpa using hq.1 i hi) (fun i hi => by simpa using hq.2 i hi) (fun s H C cl fp => blk_pg G hp) (fun s H C cl fp => pts_D ifs (fun c _ => t.t (G.blk s H scope cl C fp) c) hl)
            (fun s H C cl fp => irI_sound t (G.blk s H scope cl C fp) tg2 iter2) (fun s H C cl fp => blk_pg G hp2) (fun s H C cl fp => pts_D ifs2 (fun c _ => t.t (G.blk s H scope cl C fp) c) hl2) (fun s H C cl fp => t.e (G.blk s H scope cl C fp) _ elt) (set_plain hs _) (fun _ => set_plain hs2 _)
        · rw [if_neg hq]; exact PE.none fun _ _ _ => tE_bad
      · exact PE.none fun _ _ _ => tE_bad
    · rw [if_neg h0]; exact PE.none fun _ _ _ => tE_bad
  · exact PE.none fun _ _ _ => tE_bad
theorem irT_sound {g : Bool → Sym → Nat → Expr → E} (t : Told nm P run g) (G : Good X nm Y P run W) (e : Expr) : PT X e (tB X.K nm W (rnOf P run) (irT g Y e)) := by
  have key : ∀ (es : List Expr) (i : Nat) e d, es[i]? = some e → (es.map (g true Y 0))[i]? = some d → PT X e (tB X.K nm W (rnOf P run) d) := fun es i e d h1 h2 => by
    rw [List.getElem?_map, h1] at h2
    cases h2
    exact t.t G e
  unfold irT
  split
  · exact pt_notB (t.t G _)
  · rename_i e es pos
    exact ⟨fun pins s σ H Q I q => (pw_andB (e :: es) ((e :: es).map (g true Y 0)) (by simp) (by simp) (key _)).run _ pins s σ H Q I q⟩
  · rename_i e es pos
    exact ⟨fun pins s σ H Q I q => (pw_orB (e :: es) ((e :: es).map (g true Y 0)) (by simp) (by simp) (key _)).run _ pins s σ H Q I q⟩
  · rename_i a op b pos
    by_cases hm : behindInMarks op b = true
    · rw [if_pos hm]; exact PT.none fun _ _ _ => tB_bad
    · rw [if_neg hm]
      have := pt_cmpB (op := cmOf op) (pos := pos) G.room (t.e G 0 a) (t.e G 0 b) (by rw [cm_of]; simpa using hm)
      rwa [cm_of] at this
  · rename_i a op op2 b c pos
    by_cases hm : lastMarks [op, op2] [b, c] = true
    · rw [if_pos hm]; exact PT.none fun _ _ _ => tB_bad
    · rw [if_neg hm]
      have := pt_cmp2B (op := cmOf op) (op2 := cmOf op2) (pos := pos) G.room (t.e G 0 a) (t.e G 0 b) (t.e G 0 c) (by rw [cm_of, cm_of]; simpa using hm)
      rwa [cm_of, cm_of] at this
  · exact PT.none fun _ _ _ => tB_bad
  · exact PT.none fun _ _ _ => tB_bad
  · exact PT.none fun _ _ _ => tB_bad
  · exact PT.none fun _ _ _ => tB_bad
  · rename_i h1 h2 h3 h4 h5 h6 h7 h8 h9
    refine pt_ofPE (t.e G 0 e) ?_
    cases e <;> first | exact fun _ => rfl | skip
    · rename_i op es pos
      exact absurd rfl (h7 _ _ _)
    · rename_i op a pos
      cases op <;> first | exact fun _ => rfl | exact absurd rfl (h1 _ _)
    · exact absurd rfl (h8 _ _ _ _)
    · exact absurd rfl (h6 _ _ _ _)
theorem told (nm : Nm) (P : Prog) (run : Nat → List D → Store → T D) : ∀ k, Told nm P run (ir k)
  | 0 => ⟨fun _ _ _ => by simp only [ir]; exact PE.none fun _ _ _ => tE_bad, fun _ _ => by simp only [ir]; exact PT.none fun _ _ _ => tB_bad, fun _ _ _ _ => by simp only [ir]⟩
  | k + 1 => ⟨fun G n e => by simp only [ir]; exact irV_sound (told nm P run k) G n e, fun G e => by simp only [ir]; exact irT_sound (told nm P run k) G e, fun Y n e h => by
    simp only [ir]
    cases e <;> first | (simp [isStar] at h; done) | rfl⟩
end
end Ic

set_option Elab.async false
set_option linter.all false
set_option maxRecDepth 100000
set_option maxHeartbeats 1000000
/-! Ic5: the reading of statements. -/
namespace Ic
open PySem PySem.Spec PyProof.Rows L2
section
variable {X : Cx} {K : PySem.W.Frag} {nm : Nm} {Y : Sym} {P : Prog} {run : Nat → List D → Store → T D} {W : WX} {R : Rn} {D D' : Ends} {σ : L2.St} {H H' : Hp} {r r' : Rl} {C : Rl → Hp → Prop}
/-- a statement has ended so -/
def Fl (K : PySem.W.Frag) (nm : Nm) (W : WX) (D : Ends) (r : Rl) (H : Hp) : Ic.Flow → Prop
  | .nx env => ∀ σ, EnvR K nm r H env σ → D.nx σ H
  | .rt d => ∀ v, Rel K nm r H d v → D.rt v H
  | .bk env => ∀ σ, EnvR K nm r H env σ → D.bk σ H
  | .ct env => ∀ σ, EnvR K nm r H env σ → D.ct σ H
  | .ex e env => ∀ σ, EnvR K nm r H env σ → ∀ c d, Xr nm r H e c d → W c d σ H
def FlP (K : PySem.W.Frag) (nm : Nm) (W : WX) (D : Ends) (r : Rl) (H : Hp) (fl : Ic.Flow) (S : Store) : Prop := ∀ r' H', Ext K r H r' H' → Sto K nm r' H' S → Fl K nm W D r' H' fl
theorem FlP.ext {fl : Ic.Flow} {S : Store} (h : FlP K nm W D r H fl S) (x : Ext K r H r' H') : FlP K nm W D r' H' fl S := fun r2 H2 y st => h r2 H2 (x.trans y) st
abbrev NoX : Exc → Store → Prop := fun _ _ => False
def tSC (K : PySem.W.Frag) (nm : Nm) (W : WX) (C : Rl → Hp → Prop) (t : Slots → Store → T Ic.Flow) : TS := fun D σ H => ∃ r env S, Sto K nm r H S ∧ EnvR K nm r H env σ ∧ C r H ∧ (t env S).All (FlP K nm W D r H) NoX
abbrev tS (K : PySem.W.Frag) (nm : Nm) (W : WX) (t : Slots → Store → T Ic.Flow) : TS := tSC K nm W C0 t
theorem tSC_eq {t t' : Slots → Store → T Ic.Flow} (e : ∀ env S, t env S = t' env S) (h : tSC K nm W C t D σ H) : tSC K nm W C t' D σ H := by
  have : t = t' := funext fun env => funext fun S => e env S
  rwa [← this]
theorem All_ext {t : T Ic.Flow} (h : t.All (FlP K nm W D r H) NoX) (x : Ext K r H r' H') : t.All (FlP K nm W D r' H') NoX := h.mono (fun _ _ z => z.ext x) fun _ _ z => z
theorem stm_T {α β : Type} {rel : Rl → Hp → α → β → Prop} {t : Slots → Store → T α} {f : Slots → α → Store → T Ic.Flow} (hC : Mono K C) (h : tSC K nm W C (fun env S => (t env S).stm env (f env)) D σ H) :
    tT K nm C0 rel W t σ H fun v H1 => ∃ x, tSC K nm W (fun r H => C r H ∧ rel r H x v) (fun env S => f env x S) D σ H1 := by
  obtain ⟨r, env, S, st, en, c, al⟩ := h
  rw [T.All_stm] at al
  refine ⟨r, env, S, fun a S' => (f env a S').All (FlP K nm W D r H) NoX, st, en, trivial, al.mono (fun _ _ z => z) fun e S' z r' H' x s cl d q => z r' H' x s σ (en.ext x) cl d q, fun x S' v r' H' p y s l => ⟨x, r', env, S', s, en.ext y, ⟨hC _ _ _ _ y c, l⟩, All_ext p y⟩⟩
theorem stm_E {ea : E} {f : Slots → Ic.D → Store → T Ic.Flow} (hC : Mono K C) (h : tSC K nm W C (fun env S => (evE R ea env S).stm env (f env)) D σ H) :
    tE K nm W R ea σ H fun v H1 => ∃ x, tSC K nm W (fun r H => C r H ∧ Rel K nm r H x v) (fun env S => f env x S) D σ H1 := stm_T hC h
theorem T.bind_stm {α β : Type} (t : T α) (g : α → Store → T β) (env : Slots) (f : β → Store → T Ic.Flow) : (t.bind g).stm env f = t.stm env fun a S => (g a S).stm env f := by
  induction t with
  | ret a S => rfl
  | exc e S => rfl
  | bad => rfl
  | pick n k ih => exact congrArg (T.pick n) (funext ih)
theorem T.stm_bind {α : Type} (t : T α) (env : Slots) (f : α → Store → T Ic.Flow) (g : Ic.Flow → Store → T Ic.Flow) (hg : ∀ e S, g (.ex e env) S = .ret (.ex e env) S) : (t.stm env f).bind g = t.stm env fun a S => (f a S).bind g := by
  induction t with
  | ret a S => rfl
  | exc e S => exact hg e S
  | bad => rfl
  | pick n k ih => exact congrArg (T.pick n) (funext ih)
theorem some?_stm {α γ : Type} (o : Option γ) (f : γ → T α) (env : Slots) (g : α → Store → T Ic.Flow) : (some? o f).stm env g = some? o fun c => (f c).stm env g := by cases o <;> rfl
theorem stm_B {ea : E} {f : Slots → Bool → Store → T Ic.Flow} (h : tS K nm W (fun env S => (evE R ea env S).stm env fun x S => some? (truth (view S x)) fun t => f env t S) D σ H) :
    tB K nm W R ea σ H fun b H1 => tS K nm W (fun env S => f env b S) D σ H1 := by
  have h1 : tS K nm W (fun env S => ((evE R ea env S).bind fun x S => some? (truth (view S x)) fun t => .ret t S).stm env (f env)) D σ H := tSC_eq (fun env S => by
    simp only [T.bind_stm, some?_stm, T.stm_ret]) h
  refine tT_mono (stm_T (rel := fun _ _ (b c : Bool) => b = c) Mono.c0 h1) fun b H1 ⟨x, r, env, S, st, en, c, al⟩ => ?_
  have e := c.2
  subst e
  exact ⟨r, env, S, st, en, trivial, al⟩
/-- at a state: what a tree that is there comes to -/
theorem tSC.ret {fl : Slots → Ic.Flow} (h : tSC K nm W C (fun env S => .ret (fl env) S) D σ H) : ∃ r env, EnvR K nm r H env σ ∧ C r H ∧ Fl K nm W D r H (fl env) := by
  obtain ⟨r, env, S, st, en, c, al⟩ := h
  exact ⟨r, env, en, c, al r H Ext.refl st⟩
theorem tSC.nx (h : tSC K nm W C (fun env S => .ret (.nx env) S) D σ H) : D.nx σ H := by
  obtain ⟨r, env, en, c, k⟩ := h.ret
  exact k σ en
theorem _root_.L2.PS.weak {s : Stmt} {t t' : TS} (h : PS X s t) (w : ∀ D σ H, t' D σ H → t D σ H) : PS X s t' := ⟨fun pins s σ H D I q => h.run pins s σ H D I (w D σ H q)⟩
theorem _root_.L2.PSs.weak {s : List Stmt} {t t' : TS} (h : PSs X s t) (w : ∀ D σ H, t' D σ H → t D σ H) : PSs X s t' := ⟨fun pins s σ H D I q => h.run pins s σ H D I (w D σ H q)⟩
theorem _root_.L2.PS.none {s : Stmt} {t : TS} (w : ∀ D σ H, ¬ t D σ H) : PS X s t := ⟨fun pins s σ H D I q => absurd q (w D σ H)⟩
theorem tS_bad {t : Slots → Store → T Ic.Flow} (h : ∀ env S, t env S = .bad) : ¬ tSC K nm W C t D σ H := by
  rintro ⟨r, env, S, st, en, c, al⟩
  rw [h] at al
  exact al
variable {below : Nat → Nat → Bool}
/-- the reading of a statement -/
abbrev tSm (K : PySem.W.Frag) (nm : Nm) (W : WX) (R : Rn) (below : Nat → Nat → Bool) (s : Sm) : TS := tS K nm W (evS R below s)
abbrev tSs (K : PySem.W.Frag) (nm : Nm) (W : WX) (R : Rn) (below : Nat → Nat → Bool) (ss : List Sm) : TS := tS K nm W (evSs R below ss)
theorem sm_bad : ¬ tSm K nm W R below .bad D σ H := tS_bad fun _ _ => by simp [evS]
/-! ### the plain ones -/
theorem ps_exprD {e : Expr} {ea : E} {pos : Pos} (he : PE X e (tE X.K nm W R ea)) (hs : swapsWith e none pos.line X.env = pure false) : PS X (.Expr e pos) (tSm X.K nm W R below (.expr ea)) :=
  (ps_expr he hs).weak fun D σ H h => by
    refine tT_mono (stm_E Mono.c0 (f := fun env _ S => .ret (.nx env) S) (tSC_eq (fun env S => by simp [evS]) h)) fun v H1 ⟨x, h2⟩ => h2.nx
theorem ps_retD {e : Expr} {ea : E} {pos : Pos} (he : PE X e (tE X.K nm W R ea)) : PS X (.Return (some e) pos) (tSm X.K nm W R below (.ret ea)) :=
  (ps_ret he).weak fun D σ H h => by
    refine tT_mono (stm_E Mono.c0 (f := fun env d S => .ret (.rt d) S) (tSC_eq (fun env S => by simp [evS]) h)) fun v H1 ⟨x, h2⟩ => ?_
    obtain ⟨r, env, en, c, k⟩ := h2.ret
    exact k v c.2
theorem ps_retND {pos : Pos} : PS X (.Return none pos) (tSm X.K nm W R below (.ret (.lit .non))) :=
  ps_retN.weak fun D σ H h => by
    obtain ⟨r, env, en, c, k⟩ := tSC.ret (fl := fun _ => .rt .non) (tSC_eq (fun env S => by simp [evS, evE]) h)
    exact k .non rfl
theorem ps_passD {pos : Pos} : PS X (.Pass pos) (tSm X.K nm W R below .pass) := ps_pass.weak fun D σ H h => tSC.nx (tSC_eq (fun env S => by simp [evS]) h)
theorem ps_brkD {pos : Pos} : PS X (.Break pos) (tSm X.K nm W R below .brk) := ps_break.weak fun D σ H h => by
  obtain ⟨r, env, en, c, k⟩ := tSC.ret (fl := fun env => .bk env) (tSC_eq (fun env S => by simp [evS]) h)
  exact k σ en
theorem ps_cntD {pos : Pos} : PS X (.Continue pos) (tSm X.K nm W R below .cnt) := ps_continue.weak fun D σ H h => by
  obtain ⟨r, env, en, c, k⟩ := tSC.ret (fl := fun env => .ct env) (tSC_eq (fun env S => by simp [evS]) h)
  exact k σ en
theorem ps_ifD {c : Expr} {ec : E} {a b : List Stmt} {sa sb : List Sm} {pos : Pos} (hc : PT X c (tB X.K nm W R ec)) (ha : PSs X a (tSs X.K nm W R below sa)) (hb : PSs X b (tSs X.K nm W R below sb)) : PS X (.If c a b pos) (tSm X.K nm W R below (.ite ec sa sb)) :=
  (ps_if hc ha hb).weak fun D σ H h => by
    refine tT_mono (stm_B (f := fun env t S => if t then evSs R below sa env S else evSs R below sb env S) (tSC_eq (fun env S => by simp [evS]) h)) fun b H1 h2 => ?_
    cases b with
    | true => simpa using h2
    | false => simpa using h2
/-! ### sequences -/
theorem pss_D {g : Stmt → Sm} : ∀ (sts : List Stmt), (∀ s ∈ sts, PS X s (tSm X.K nm W R below (g s))) → PSs X sts (tSs X.K nm W R below (sts.map g))
  | [], _ => pss_nil.weak fun D σ H h => tSC.nx (tSC_eq (fun env S => by simp [evSs]) h)
  | s :: ss, h => (pss_cons (h s List.mem_cons_self) (pss_D ss fun s' hs => h s' (List.mem_cons_of_mem _ hs))).weak fun D σ H q => by
    obtain ⟨r, env, S, st, en, c, al⟩ := q
    simp only [List.map_cons, evSs] at al
    rw [T.All_bind] at al
    refine ⟨r, env, S, st, en, trivial, al.mono (fun fl S1 z r1 H1 x1 st1 => ?_) fun _ _ z => z⟩
    cases fl with
    | nx env1 => exact fun σ1 en1 => ⟨r1, env1, S1, st1, en1, trivial, All_ext z x1⟩
    | rt d => exact z r1 H1 x1 st1
    | bk env1 => exact z r1 H1 x1 st1
    | ct env1 => exact z r1 H1 x1 st1
    | ex e env1 => exact z r1 H1 x1 st1
/-! ### loops -/
theorem ps_forD (G : Good X nm Y P run W) (hp : PassesOwn (model X.prog X.w) X.A X.env X.xe) {tg iter : Expr} {body : List Stmt} {p : NPat} {k : Itk} {its : List E} {sb : List Sm} {pos : Pos}
    (hi : PI X tg iter (iD X.K nm W R k its)) (hg : PG X tg (gP X.K nm p)) (hb : PSs X body (tSs X.K nm W R below sb)) (hs : ∀ x, foldedSetIterable iter X.env x = pure x) :
    PS X (.For tg iter body [] pos) (tSm X.K nm W R below (.for p k its sb)) :=
  (ps_for hp G.calm hi hg hb hs).weak fun D σ H h => by
    unfold tFor iD
    refine tT_mono (stm_T (rel := Rels X.K nm) Mono.c0 (t := evEs R its) (f := fun env ds S => some? (itemsK S k ds) fun items =>
      forLoop (fun S' => still S S' (objsOf ds)) (fun x env S => some? (npSet S p x env) fun env' => evSs R below sb env' S) items env S) (tSC_eq (fun env S => by simp [evS]) h)) fun vs H1 ⟨qs, r, env, S, st, en, c, al⟩ => ?_
    simp only at al
    cases ei : itemsK S k qs with
    | none => rw [ei] at al; exact al.elim
    | some items =>
    rw [ei] at al
    simp only [some?_some] at al
    refine ⟨r, S, qs, items, st, c.2, ei, fun J wk => ?_⟩
    generalize hf : (fun (x : Ic.D) (env : Slots) (S : Store) => some? (npSet S p x env) fun env' => evSs R below sb env' S) = f at al
    generalize hok : (fun S' => still S S' (objsOf qs)) = okk at al
    have hs0 := still_refl st c.2
    refine ⟨fun i m σ' Hh => m = items.length - i ∧ i ≤ items.length ∧ ∃ rr env' S', Ext X.K r H1 rr Hh ∧ Sto X.K nm rr Hh S' ∧ EnvR X.K nm rr Hh env' σ' ∧ still S S' (objsOf qs) = true ∧ (forLoop okk f (items.drop i) env' S').All (FlP X.K nm W D r H1) NoX,
      ⟨items.length, by omega, Nat.zero_le _, r, env, S, Ext.refl, st, en, hs0, by simpa using al⟩, fun i m σ' Hh ⟨em, hi, rr, env', S', x', st', en', hs', al⟩ => ?_⟩
    by_cases hi2 : i < items.length
    · refine .inr ⟨wk.go i rr Hh S' hi2 x'.toExt0 st' hs', fun σ' Hh => ∃ rr env' S', Ext X.K r H1 rr Hh ∧ Sto X.K nm rr Hh S' ∧ EnvR X.K nm rr Hh env' σ' ∧ still S S' (objsOf qs) = true ∧ (forLoop okk f (items.drop (i + 1)) env' S').All (FlP X.K nm W D r H1) NoX,
        fun σ' H' q => ⟨items.length - (i + 1), by omega, rfl, hi2, q⟩, fun x H' hy => ?_⟩
      obtain ⟨d, e1, x1, st1, r1⟩ := wk.yld i rr Hh S' x H' hi2 x'.toExt0 st' hs' hy
      have hd : items.drop i = d :: items.drop (i + 1) := by
        rw [List.drop_eq_getElem_cons hi2]
        congr
        rw [List.getElem?_eq_getElem hi2] at e1
        exact Option.some.inj e1
      rw [hd] at al
      simp only [forLoop] at al
      have efd : f d env' S' = some? (npSet S' p d env') fun env' => evSs R below sb env' S' := by rw [← hf]
      rw [T.All_bind, efd] at al
      cases e2 : npSet S' p d env' with
      | none => rw [e2] at al; exact al.elim
      | some env2 =>
        rw [e2] at al
        simp only [some?_some] at al
        have y := x'.trans x1
        refine ⟨_, S', d, env', env2, st1, r1, en'.ext x1, e2, fun σ2 en2 hw => ⟨_, env2, S', st1, en2, trivial, al.mono (fun fl S3 z r3 H3 x3 st3 => ?_) fun _ _ z => z⟩⟩
        cases fl with
        | nx env3 =>
          intro σ3 en3
          obtain ⟨h1, h2⟩ := if_all z
          rw [← hok] at h1
          exact ⟨r3, env3, S3, y.trans x3, st3, en3, h1, h2⟩
        | ct env3 =>
          intro σ3 en3
          obtain ⟨h1, h2⟩ := if_all z
          rw [← hok] at h1
          exact ⟨r3, env3, S3, y.trans x3, st3, en3, h1, h2⟩
        | rt d => exact z r3 H3 (y.trans x3) st3
        | bk env3 => exact z r3 H3 (y.trans x3) st3
        | ex e env3 => exact z r3 H3 (y.trans x3) st3
    · have ei : i = items.length := by omega
      subst ei
      rw [List.drop_length] at al
      simp only [forLoop, T.All_ret] at al
      exact .inl ⟨wk.stop rr Hh S' x'.toExt0 st' hs', al rr Hh x' st' σ' en'⟩
theorem ps_whlD (hp : PassesOwn (model X.prog X.w) X.A X.env X.xe) {c : Expr} {ec : E} {body : List Stmt} {sb : List Sm} {pos : Pos} (hc : PT X c (tB X.K nm W R ec)) (hb : PSs X body (tSs X.K nm W R below sb)) :
    PS X (.While c body [] pos) (tSm X.K nm W R below (.whl ec sb)) :=
  (ps_while hp hc hb).weak fun D σ H h => by
    generalize hcc : (fun (env : Slots) (S : Store) => (evE R ec env S).stm env fun x S => some? (truth (view S x)) fun t => if t then (.ret (.nx env) S : T Ic.Flow) else .ret (.bk env) S) = cc
    have h0 : tS X.K nm W (whlLoop cc (evSs R below sb) fuel) D σ H := tSC_eq (fun env S => by simp only [evS, ← hcc]) h
    refine ⟨fun m σ H => tS X.K nm W (whlLoop cc (evSs R below sb) m) D σ H, ⟨fuel, h0⟩, fun m σ H h => ?_⟩
    cases m with
    | zero => exact absurd h (tS_bad fun _ _ => by simp [whlLoop])
    | succ m =>
      have h1 : tS X.K nm W (fun env S => (evE R ec env S).stm env fun x S => some? (truth (view S x)) fun t => if t then (evSs R below sb env S).bind fun fl S2 => match fl with
        | .nx env' | .ct env' => whlLoop cc (evSs R below sb) m env' S2
        | .bk env' => .ret (.nx env') S2
        | .rt d => .ret (.rt d) S2
        | .ex e env' => .ret (.ex e env') S2 else .ret (.nx env) S) D σ H := tSC_eq (fun env S => by
          have ecc : cc env S = (evE R ec env S).stm env fun x S => some? (truth (view S x)) fun t => if t then (.ret (.nx env) S : T Ic.Flow) else .ret (.bk env) S := by rw [← hcc]
          simp only [whlLoop]
          rw [ecc]
          rw [T.stm_bind]
          rotate_left
          · intro e S; rfl
          congr
          funext x S
          cases truth (view S x) with
          | none => rfl
          | some t => cases t <;> rfl) h
      refine tT_mono (stm_B h1) fun b H1 h2 => ?_
      cases b with
      | false => exact tSC.nx (by simpa using h2)
      | true =>
        simp only [if_true] at h2 ⊢
        refine ⟨fun σ H => tS X.K nm W (whlLoop cc (evSs R below sb) m) D σ H, fun σ' H' q => ⟨m, Nat.lt_succ_self m, q⟩, ?_⟩
        obtain ⟨r, env, S, st, en, c, al⟩ := h2
        rw [T.All_bind] at al
        refine ⟨r, env, S, st, en, trivial, al.mono (fun fl S1 z r1 H1 x1 st1 => ?_) fun _ _ z => z⟩
        cases fl with
        | nx env1 => exact fun σ1 en1 => ⟨r1, env1, S1, st1, en1, trivial, All_ext z x1⟩
        | ct env1 => exact fun σ1 en1 => ⟨r1, env1, S1, st1, en1, trivial, All_ext z x1⟩
        | rt d => exact z r1 H1 x1 st1
        | bk env1 => exact z r1 H1 x1 st1
        | ex e env1 => exact z r1 H1 x1 st1
end
end Ic

set_option Elab.async false
set_option linter.all false
set_option maxRecDepth 100000
set_option maxHeartbeats 1000000
/-! Ic5b: targets, assignments. -/
namespace Ic
open PySem PySem.Spec PyProof.Rows L2
section
variable {X : Cx} {K : PySem.W.Frag} {nm : Nm} {Y : Sym} {P : Prog} {run : Nat → List D → Store → T D} {W : WX} {R : Rn} {D' : Ends} {σ : L2.St} {H H' : Hp} {r r' : Rl} {C : Rl → Hp → Prop}
theorem dput_any {k : D} {key : Key} (hk : keyR k key) : ∀ {kvs : List (D × D)} {ks : List (Key × V)}, RelKs K nm r H kvs ks → (kvs.any fun p => p.1.beq k) = (ks.any fun p => decide (p.1 = key))
  | [], _, h => by rw [show _ = [] from h]; rfl
  | (a, d) :: kvs, _, h => by
    obtain ⟨ka, v, ws, e, h0, h1, h2⟩ := h
    rw [e, List.any_cons, List.any_cons, dput_any hk h2, keyR_beq h0 hk]
theorem dput_map {k d : D} {key : Key} {v : V} (hk : keyR k key) (hd : Rel K nm r H d v) : ∀ {kvs : List (D × D)} {ks : List (Key × V)}, RelKs K nm r H kvs ks → RelKs K nm r H (kvs.map fun p => if p.1.beq k = true then (p.1, d) else p) (ks.map fun kv => if kv.1 = key then (kv.1, v) else kv)
  | [], _, h => by rw [show _ = [] from h]; exact rfl
  | (a, d0) :: kvs, _, h => by
    obtain ⟨ka, v0, ws, e, h0, h1, h2⟩ := h
    rw [e, List.map_cons, List.map_cons]
    have q := keyR_beq h0 hk
    by_cases z : ka = key
    · rw [decide_eq_true z] at q
      rw [if_pos q, if_pos z]
      exact ⟨ka, v, _, rfl, h0, hd, dput_map hk hd h2⟩
    · rw [decide_eq_false z] at q
      rw [if_neg (by simp [q]), if_neg z]
      exact ⟨ka, v0, _, rfl, h0, h1, dput_map hk hd h2⟩
theorem dput_rel {k d : D} {key : Key} {v : V} (hk : keyR k key) (hd : Rel K nm r H d v) {kvs : List (D × D)} {ks : List (Key × V)} (h : RelKs K nm r H kvs ks) : RelKs K nm r H (dput kvs k d) (putK ks key v) := by
  unfold dput putK
  rw [dput_any hk h]
  split
  · exact dput_map hk hd h
  · exact RelKs.append hk hd h
theorem RelFs.length : ∀ {fs : List (Nat × D)} {vs : List (Str × V)}, RelFs K nm r H fs vs → vs.length = fs.length
  | [], _, h => by rw [show _ = [] from h]; rfl
  | (f, d) :: fs, _, h => by
    obtain ⟨s, v, ws, e, h0, h1, h2⟩ := h
    rw [e]
    simp [RelFs.length h2]
theorem putF_rel {i : Nat} {x : Str} (inj : nm.att.Nodup) (hx : nm.att[i]? = some x) {d : D} {v : V} (hd : Rel K nm r H d v) : ∀ {fs : List (Nat × D)} {vs : List (Str × V)}, RelFs K nm r H fs vs → RelFs K nm r H (putF fs i d) (L2.putF x v vs)
  | [], _, h => by
    rw [show _ = [] from h]
    exact ⟨x, v, [], rfl, hx, hd, rfl⟩
  | (f, d0) :: fs, _, h => by
    obtain ⟨s, v0, ws, e, h0, h1, h2⟩ := h
    rw [e]
    by_cases hf : f = i
    · subst hf
      rw [hx] at h0
      cases h0
      simp only [putF, L2.putF, beq_self_eq_true, if_true]
      exact ⟨x, v, ws, rfl, hx, hd, h2⟩
    · have ne : s ≠ x := by
        rintro rfl
        obtain ⟨a1, b1⟩ := List.getElem?_eq_some_iff.mp hx
        obtain ⟨a2, b2⟩ := List.getElem?_eq_some_iff.mp h0
        exact hf ((List.getElem_inj inj).mp (b2.trans b1.symm))
      simp only [putF, L2.putF, beq_eq_false_iff_ne.mpr hf, Bool.false_eq_true, if_false, if_neg ne]
      exact ⟨s, v0, _, rfl, h0, h1, putF_rel inj hx hd h2⟩
/-- o[i] = v -/
def rSet (K : PySem.W.Frag) (nm : Nm) : TSet := fun o i v H Q => ∃ r S od id vd S', Sto K nm r H S ∧ Rel K nm r H od o ∧ Rel K nm r H id i ∧ Rel K nm r H vd v ∧ setIdx S od id vd = some S' ∧ ∀ H', Ext K r H r H' → Sto K nm r H' S' → Q H'
theorem set_D (hu : X.A.units + 65 < cLine) : PSet X (rSet X.K nm) := by
  intro pins s σ H o i v ov iv u Q I ro ri rv ⟨r, S, od, id, vd, S', st, h1, h2, h3, e, k⟩
  unfold setIdx at e
  cases od <;> simp only [reduceCtorEq] at e
  rename_i n
  obtain ⟨a, rfl, hm⟩ := h1
  obtain ⟨c, hc, cel⟩ := st.at hm
  rw [hc] at e
  cases c <;> first | (cases e; done) | skip
  case lst xs =>
    cases id <;> first | cases e | skip
    rename_i j
    obtain ⟨m, hj, rfl⟩ := Option.map_eq_some_iff.mp e
    obtain ⟨ws, q, z⟩ := cel
    cases h2
    have x1 : Ext X.K r H r (upd H a (.lst (ws.set m v))) := Ext.write st (List.mem_of_getElem? hm) (by rw [q]; trivial)
    exact set_list pins s σ H _ _ v ov iv u Q I ro ri rv ⟨a, ws, j, m, rfl, rfl, q, by rw [z.length]; exact hj, k _ x1 (st.write hm ⟨_, upd_same, (z.set m h3).ext x1⟩)⟩
  case dct kvs =>
    simp only at e
    by_cases hcc : (keyOk id && decide (kvs.length < line)) = true
    · rw [if_pos hcc] at e
      cases e
      simp only [Bool.and_eq_true, decide_eq_true_eq] at hcc
      obtain ⟨ks, q, z⟩ := cel
      obtain ⟨key, hk, rfl⟩ := keyR_ok hcc.1 h2
      have x1 : Ext X.K r H r (upd H a (.dK (putK ks key v))) := Ext.write st (List.mem_of_getElem? hm) (by rw [q]; trivial)
      exact L2.set_dict (by omega) pins s σ H _ _ v ov iv u Q I ro ri rv ⟨a, _, rfl, DPut.k q (by rw [z.length, ← line_eq]; exact hcc.2), k _ x1 (st.write hm ⟨_, upd_same, (dput_rel hk h3 z).ext x1⟩)⟩
    · rw [if_neg hcc] at e; cases e
/-- the reading of a target -/
def tTg (K : PySem.W.Frag) (nm : Nm) (R : Rn) (t : Tg) : TG := fun v σ H Q => ∃ r env S d, Sto K nm r H S ∧ EnvR K nm r H env σ ∧ Rel K nm r H d v ∧
  (tgSet R t d env S).All (fun env' S' => ∀ r' H' σ', Ext K r H r' H' → Sto K nm r' H' S' → EnvR K nm r' H' env' σ' → Q σ' H') NoX
def tTgs (K : PySem.W.Frag) (nm : Nm) (R : Rn) (ts : List Tg) : TGs := fun vs σ H Q => ∃ r env S ds, Sto K nm r H S ∧ EnvR K nm r H env σ ∧ Rels K nm r H ds vs ∧
  (tgSets R ts ds env S).All (fun env' S' => ∀ r' H' σ', Ext K r H r' H' → Sto K nm r' H' S' → EnvR K nm r' H' env' σ' → Q σ' H') NoX
theorem pg_subD (G : Good X nm Y P run W) {o i : Expr} {eo ei : E} {pos : Pos} (ho : PE X o (tE X.K nm W R eo)) (hi : PE X i (tE X.K nm W R ei)) (hs : ∀ lo hi st p, i ≠ .Slice lo hi st p) : PG X (.Subscript o i pos) (tTg X.K nm R (.idx eo ei)) := by
  refine ⟨fun pins s σ H v u Q I rv h => (pg_sub (t := rSet X.K nm) ho hi (set_D G.room) (fun v => ?_)).run pins s σ H v u Q I rv ?_⟩
  · cases i <;> first | rfl | exact absurd rfl (hs _ _ _ _)
  · obtain ⟨r, env, S, d, st, en, rd, al⟩ := h
    simp only [tgSet] at al
    rw [T.All_bind] at al
    refine ⟨r, env, S, _, st, en, trivial, mono_false al, fun x S1 w r1 H1 z x1 st1 rx => ?_⟩
    rw [T.All_bind] at z
    refine ⟨r1, env, S1, _, st1, en.ext x1, trivial, mono_false z, fun y S2 w2 r2 H2 z x2 st2 ry => ?_⟩
    cases es : setIdx S2 x y d with
    | none => rw [es] at z; exact z.elim
    | some S3 =>
      rw [es] at z
      exact ⟨r2, S2, x, y, d, S3, st2, rx.ext x2, ry, (rd.ext x1).ext x2, es, fun H3 x3 st3 => z r2 H3 σ ((x1.trans x2).trans x3) st3 (((en.ext x1).ext x2).ext x3)⟩
/-- o.f = v, as a target -/
theorem pg_fldD (G : Good X nm Y P run W) {o : Expr} {f : Str} {eo : E} {i : Nat} {pos : Pos} (hf : find? Y.att f = some i) (ho : PE X o (tE X.K nm W R eo)) : PG X (.Attribute o f pos) (tTg X.K nm R (.fld eo i)) := by
  refine ⟨fun pins s σ H v u Q I rv h => ?_⟩
  rw [PySem.assign_Attribute]
  obtain ⟨r, env, S, d, st, en, rd, al⟩ := h
  simp only [tgSet] at al
  rw [T.All_bind] at al
  refine wpAny_bind (wpAny_holding (thn (ho.run pins s σ H (fun x H1 => ∃ a C dx fs, x = .ref a ∧ H1 a = some (.ins C dx fs) ∧ Cls X.K C ∧ NoAttr X.K C f ∧ fs.length < 1000 ∧ Q σ (upd H1 a (.ins C dx (L2.putF f v fs)))) I ⟨r, env, S, _, st, en, trivial, mono_false al, fun y S1 w r1 H2 z x1 st1 ry => ?_⟩) fun ov s1 ⟨x, H1, I1, r1, q1⟩ => ?_))
  · unfold setFld at z
    cases y <;> try exact z.elim
    rename_i n
    obtain ⟨a, rfl, hm⟩ := ry
    obtain ⟨cc, hc, cel⟩ := st1.at hm
    simp only at z
    rw [hc] at z
    cases cc <;> try exact z.elim
    rename_i cl fs
    simp only at z
    by_cases hl : fs.length < 1000
    · rw [if_pos hl] at z
      obtain ⟨CC, dx, fvs, hC, q, zz⟩ := cel
      have x2 : Ext X.K r1 H2 r1 (upd H2 a (.ins CC dx (L2.putF f v fvs))) := Ext.write st1 (List.mem_of_getElem? hm) (by rw [q]; trivial)
      have rv : Rel X.K nm r1 H2 d v := rd.ext x1
      refine ⟨a, CC, dx, fvs, rfl, q, (G.cls cl CC hC).1, (G.cls cl CC hC).2 f i hf, by rw [zz.length]; exact hl, ?_⟩
      exact z r1 _ σ (x1.trans x2) (st1.write hm ⟨CC, dx, _, hC, upd_same, (putF_rel G.ainj (G.att f i hf) rv zz).ext x2⟩) ((en.ext x1).ext x2)
    · rw [if_neg hl] at z; exact z.elim
  · obtain ⟨a, C, dx, fs, ex, ea, c, n, l, q2⟩ := q1
    subst ex
    obtain rfl : ov = Value.ref a := r1
    refine wpAny_bind (wpAny_standAt (wpAny_bind (wpAny_holding (setattr_ok I1 ea c n l rv fun s3 I3 => ?_))))
    exact wpAny_release ⟨σ, _, I3, q2⟩
section
variable (G : Good X nm Y P run W) (hz : ∀ x, Y.sto x = true → L2.Loc X.env.scope x ∧ (X.fn x = true ∨ X.env.scope.names.lookup x = some .local)) {g : Bool → Sym → Nat → Expr → E} (t : Told nm P run g)
include G hz t
mutual
theorem pg_tgD : ∀ {tg : Expr} {q : Tg}, irTg (g false Y 0) Y tg = some q → PG X tg (tTg X.K nm (rnOf P run) q)
  | .Name x p, q, h => by
    simp only [irTg] at h
    obtain ⟨np, hp, rfl⟩ := Option.map_eq_some_iff.mp h
    refine ⟨fun pins s σ H v u Q I rv hw => (pg_D (nm := nm) G.calm G.nd G.eN hz hp).run pins s σ H v u Q I rv ?_⟩
    obtain ⟨r, env, S, d, st, en, rd, al⟩ := hw
    simp only [tgSet] at al
    cases e : npSet S np d env with
    | none => rw [e] at al; exact al.elim
    | some env' =>
      rw [e] at al
      exact ⟨r, S, d, env, env', st, rd, en, e, fun σ' en' _ => al r H σ' Ext.refl st en'⟩
  | .Tuple es k pos, q, h => by
    simp only [irTg] at h
    obtain ⟨ts, hp, rfl⟩ := Option.map_eq_some_iff.mp h
    obtain ⟨g1, g2, g3⟩ := pg_tgsD hp
    refine ⟨fun pins s σ H v u Q I rv hw => ?_⟩
    obtain ⟨r, env, S, d, st, en, rd, al⟩ := hw
    simp only [tgSet] at al
    have vd := rd.view st
    cases ev : view S d <;> rw [ev] at al vd <;> try exact al.elim
    · rename_i xs
      simp only at al
      by_cases hl : xs.length = ts.length
      · rw [if_pos hl] at al
        obtain ⟨a, ws, rfl, q, z⟩ := vd
        exact (pg_tup (n := ts.length) G.calm g1 g2 g3).run pins s σ H _ u Q I rv ⟨a, ws, rfl, q, by rw [z.length]; exact hl, r, env, S, xs, st, en, z, al⟩
      · rw [if_neg hl] at al
        exact al.elim
    · rename_i xs
      simp only at al
      by_cases hl : xs.length = ts.length
      · rw [if_pos hl] at al
        obtain ⟨a, ws, rfl, q, z⟩ := vd
        exact (pg_unl (n := ts.length) G.calm g1 g2 g3).run pins s σ H _ u Q I rv ⟨a, ws, rfl, .inl (.inl q), by rw [z.length]; exact hl, r, env, S, xs, st, en, z, al⟩
      · rw [if_neg hl] at al
        exact al.elim
  | .Subscript o i pos, q, h => by
    simp only [irTg] at h
    split at h
    · cases h
    · rename_i hi
      cases h
      exact pg_subD G (t.e G 0 o) (t.e G 0 _) fun lo hi' st p e => hi lo hi' st p e
  | .Attribute o f pos, q, h => by
    simp only [irTg] at h
    obtain ⟨i, hp, rfl⟩ := Option.map_eq_some_iff.mp h
    exact pg_fldD G hp (t.e G 0 o)
theorem pg_tgsD : ∀ {es : List Expr} {ts : List Tg}, irTg.irTgs (g false Y 0) Y es = some ts → PGs X es (tTgs X.K nm (rnOf P run) ts) ∧ (assignEach es X.env).length = ts.length ∧ (assignEach es X.env).findIdx? (·.1) = none
  | [], ts, h => by
    simp only [irTg.irTgs] at h
    cases h
    refine ⟨⟨fun pins s σ H vs us Q I rv hw => pgs_nil.run pins s σ H vs us Q I rv ?_⟩, rfl, rfl⟩
    obtain ⟨r, env, S, ds, st, en, rd, al⟩ := hw
    cases ds with
    | nil =>
      simp only [tgSets, T.All_ret] at al
      exact ⟨rd, al r H σ Ext.refl st en⟩
    | cons _ _ => simp [tgSets] at al
  | e :: es, ts, h => by
    simp only [irTg.irTgs, Option.bind_eq_some_iff] at h
    obtain ⟨q, hq, h⟩ := h
    obtain ⟨qs, hqs, rfl⟩ := Option.map_eq_some_iff.mp h
    have g0 := pg_tgD hq
    obtain ⟨g1, g2, g3⟩ := pg_tgsD hqs
    have hns : assignEach (e :: es) X.env = (false, assign e X.env) :: assignEach es X.env := by
      cases e <;> first | rfl | (simp [irTg] at hq)
    refine ⟨⟨fun pins s σ H vs us Q I rv hw => (pgs_cons g0 g1 (by rw [hns]; rfl)).run pins s σ H vs us Q I rv ?_⟩, ?_, ?_⟩
    · obtain ⟨r, env, S, ds, st, en, rd, al⟩ := hw
      cases ds with
      | nil => simp [tgSets] at al
      | cons d ds =>
        simp only [tgSets] at al
        rw [T.All_bind] at al
        obtain ⟨v, ws, rfl, r1, r2⟩ := rd
        refine ⟨v, ws, rfl, r, env, S, d, st, en, r1, al.mono (fun env1 S1 z rr H1 σ1 x1 st1 en1 => ?_) fun _ _ z => z⟩
        exact ⟨rr, env1, S1, ds, st1, en1, r2.ext x1, z.mono (fun env2 S2 z2 r2 H2 σ2 x2 st2 en2 => z2 r2 H2 σ2 (x1.trans x2) st2 en2) fun _ _ z => z⟩
    · rw [hns]; simp [g2]
    · rw [hns, List.findIdx?_cons]
      simp [g3]
end
end
/-! ### assignments -/
variable {below : Nat → Nat → Bool} {D0 : Ends}
theorem asg_weak {tq : Tg} {ea : E} (h : tSm K nm W R below (.asg tq ea) D' σ H) : tAsg (tE K nm W R ea) (tTg K nm R tq) D' σ H := by
  refine tT_mono (stm_E Mono.c0 (f := fun env d S => (tgSet R tq d env S).nox.bind fun env' S => .ret (.nx env') S) (tSC_eq (fun env S => by simp [evS]) h)) fun v H1 ⟨x, h2⟩ => ?_
  obtain ⟨r, env, S, st, en, c, al⟩ := h2
  rw [T.All_bind, T.All_nox] at al
  exact ⟨r, env, S, x, st, en, c.2, al.mono (fun env' S' z r' H' σ' x' st' en' => z r' H' x' st' σ' en') fun _ _ z => z⟩
theorem ps_asgD {tg e : Expr} {tq : Tg} {ea : E} {pos : Pos} (he : PE X e (tE X.K nm W R ea)) (hg : PG X tg (tTg X.K nm R tq)) (hs : swapsWithSole [tg] e pos.line X.env = pure false) (hw : swappedStores [tg] e X.env = pure none) (h1 : (assignEach [tg] X.env).map (·.2) = [assign tg X.env]) :
    PS X (.Assign [tg] e pos) (tSm X.K nm W R below (.asg tq ea)) := (ps_asg he hg hs hw h1).weak fun D σ H h => asg_weak h
/-- o.f = e -/
theorem ps_fldD (G : Good X nm Y P run W) {o e : Expr} {f : Str} {eo ea : E} {i : Nat} {p pos : Pos} (hf : find? Y.att f = some i) (ho : PE X o (tE X.K nm W R eo)) (he : PE X e (tE X.K nm W R ea)) (hs : swapsWith e (some (.Attribute o f p)) pos.line X.env = pure false) :
    PS X (.Assign [.Attribute o f p] e pos) (tSm X.K nm W R below (.asg (.fld eo i) ea)) := (ps_fld ho he hs).weak fun D σ H h => by
  refine tT_mono (stm_E Mono.c0 (f := fun env d S => (tgSet R (.fld eo i) d env S).nox.bind fun env' S => .ret (.nx env') S) (tSC_eq (fun env S => by simp [evS]) h)) fun v H1 ⟨x, h2⟩ => ?_
  obtain ⟨r, env, S, st, en, c, al⟩ := h2
  rw [T.All_bind, T.All_nox] at al
  simp only [tgSet] at al
  rw [T.All_bind] at al
  refine ⟨r, env, S, _, st, en, trivial, mono_false al, fun y S1 w r1 H2 z x1 st1 ry => ?_⟩
  unfold setFld at z
  cases y <;> try exact z.elim
  rename_i n
  obtain ⟨a, rfl, hm⟩ := ry
  obtain ⟨cc, hc, cel⟩ := st1.at hm
  simp only at z
  rw [hc] at z
  cases cc <;> try exact z.elim
  rename_i cl fs
  simp only at z
  by_cases hl : fs.length < 1000
  · rw [if_pos hl] at z
    obtain ⟨CC, dx, fvs, hC, q, zz⟩ := cel
    have x2 : Ext X.K r1 H2 r1 (upd H2 a (.ins CC dx (L2.putF f v fvs))) := Ext.write st1 (List.mem_of_getElem? hm) (by rw [q]; trivial)
    have rv : Rel X.K nm r1 H2 x v := c.2.ext x1
    refine ⟨a, CC, dx, fvs, rfl, q, (G.cls cl CC hC).1, (G.cls cl CC hC).2 f i hf, by rw [zz.length]; exact hl, ?_⟩
    exact z r1 _ (x1.trans x2) (st1.write hm ⟨CC, dx, _, hC, upd_same, (putF_rel G.ainj (G.att f i hf) rv zz).ext x2⟩) σ ((en.ext x1).ext x2)
  · rw [if_neg hl] at z; exact z.elim
end
end Ic

set_option Elab.async false
set_option linter.all false
set_option maxRecDepth 100000
set_option maxHeartbeats 1000000
/-! Ic5c: every translated statement tells what the text's own does. -/
namespace Ic
open PySem PySem.Spec PyProof.Rows L2
section
variable {X : Cx} {K : PySem.W.Frag} {nm : Nm} {Y : Sym} {P : Prog} {run : Nat → List D → Store → T D} {W : WX} {R : Rn} {D' : Ends} {σ : L2.St} {H H' : Hp} {r r' : Rl} {C : Rl → Hp → Prop} {below : Nat → Nat → Bool}
/-- what more is known where a def's statements run -/
structure GoodS (X : Cx) (nm : Nm) (Y : Sym) (P : Prog) (run : Nat → List D → Store → T D) (W : WX) : Prop extends Good X nm Y P run W where
  fnl : ∀ x, Y.sto x = true → X.fn x = true ∨ X.env.scope.names.lookup x = some .local
  ps : PassesOwn (model X.prog X.w) X.A X.env X.xe
  stk : X.stack = X.env :: X.outer
  fr : X.env.frame = some X.env.locals
  exc : ∀ x (c : Nat), find? Y.exc x = some c → ∃ (C : Addr) (B newId initId : String) (bmB : List Value), nm.exc[c]? = some C ∧ ExcBaseFacts B newId initId bmB ∧ PySem.W.excIn X.K C bmB newId = true ∧ X.mg x = some (.ref C) ∧ PySem.W.keepIn X.K (.ref C) = true ∧ Raises X (.ref C)
  bel : ∀ (c h : Nat) Cc Ch, nm.exc[c]? = some Cc → nm.exc[h]? = some Ch → PySem.W.exmOne X.K (.ref Cc) (.ref Ch) = some (P.below c h)
theorem GoodS.hz (G : GoodS X nm Y P run W) (x : Str) (h : Y.sto x = true) : L2.Loc X.env.scope x ∧ (X.fn x = true ∨ X.env.scope.names.lookup x = some .local) := ⟨G.isLoc h, G.fnl x h⟩
theorem GoodS.tr (G : GoodS X nm Y P run W) {W' : WX} {pn : List (Addr × Obj)} {xe : Value → Shared → Prop} (tk : Takes (X.tr pn xe) W') (hp : PassesOwn (model X.prog X.w) X.A X.env xe) : GoodS (X.tr pn xe) nm Y P run W' where
  calm := G.calm
  nd := G.nd
  eN := G.eN
  eS := G.eS
  tk := tk
  room := G.room
  blt := G.blt
  fns := G.fns
  glo := G.glo
  att := G.att
  ainj := G.ainj
  cls := G.cls
  tyC := G.tyC
  mts := G.mts
  cni := G.cni
  fnl := G.fnl
  ps := hp
  stk := G.stk
  fr := G.fr
  exc := G.exc
  bel := G.bel
/-! ### name op= e -/
def rAug (op : Op) : TIp := fun x y H Q => ∃ i j k, x = .int i ∧ y = .int j ∧ intop op i j = some k ∧ Q (.int k) H
theorem ip_D : ∀ op : Op, PIp X op.py (rAug op) := by
  intro op pins s σ H x y v u Q I rx ry ⟨i, j, k, e1, e2, e, q⟩
  cases op <;> simp only [intop, reduceCtorEq, Option.some.injEq] at e
  · subst e; exact iop_add pins s σ H x y v u Q I rx ry ⟨i, j, e1, e2, q⟩
  · subst e; exact iop_sub pins s σ H x y v u Q I rx ry ⟨i, j, e1, e2, q⟩
  · split at e
    · rename_i hc; cases e; exact iop_mul pins s σ H x y v u Q I rx ry ⟨i, j, e1, e2, hc, q⟩
    · cases e
  · split at e
    · rename_i hc; cases e; exact iop_fdiv pins s σ H x y v u Q I rx ry ⟨i, j, e1, e2, hc, q⟩
    · cases e
  · split at e
    · rename_i hc; cases e; exact iop_mod pins s σ H x y v u Q I rx ry ⟨i, j, e1, e2, hc, q⟩
    · cases e
theorem augop_ints {op : Op} {a b d : D} (h : augop op a b = some d) : ∃ i j k, a = .int i ∧ b = .int j ∧ d = .int k ∧ intop op i j = some k := by
  cases a <;> cases b <;> simp only [augop, reduceCtorEq] at h
  obtain ⟨k, hk, rfl⟩ := Option.map_eq_some_iff.mp h
  exact ⟨_, _, k, rfl, rfl, rfl, hk⟩
theorem ps_augD (G : GoodS X nm Y P run W) {x : Str} {i : Nat} {op : Op} {e : Expr} {ea : E} {p pos : Pos} (hi : Y.slot x = some i) (hx : Y.sto x = true) (he : PE X e (tE X.K nm W R ea)) : PS X (.AugAssign (.Name x p) op.py e pos) (tSm X.K nm W R below (.aug op i ea)) :=
  (ps_aug (i := i) G.nd (by rw [← G.eN]; exact slot_at hi) (G.isLoc hx) he (ip_D op) (G.fnl x hx)).weak fun D σ H h => by
    obtain ⟨r, env, S, st, en, c, al⟩ := h
    simp only [evS] at al
    cases e1 : env[i]? with
    | none => rw [e1] at al; exact al.elim
    | some o =>
      cases o with
      | none => rw [e1] at al; exact al.elim
      | some d =>
        simp only [e1, some?_some] at al
        obtain ⟨v, hv, rv⟩ := en.2 i d e1
        refine ⟨v, hv, ?_⟩
        rw [T.All_stm] at al
        refine ⟨r, env, S, _, st, en, trivial, al.mono (fun _ _ z => z) fun e S' z r' H' x s cl d q => z r' H' x s σ (en.ext x) cl d q, fun y S' w r' H' z x s ry => ?_⟩
        cases ea2 : augop op d y with
        | none => rw [ea2] at z; exact z.elim
        | some d2 =>
          rw [ea2] at z
          obtain ⟨a, b, k, rfl, rfl, rfl, hk⟩ := augop_ints ea2
          have rv' := rv.ext x
          cases rv'
          cases ry
          refine ⟨a, b, k, rfl, rfl, hk, z r' H' x s _ ?_⟩
          exact (en.ext x).set i rfl
theorem in_D (op : Op) : InOp X op.py (rAug op) := fun pins s σ H x y u v Q I rx ry h => ip_D op pins s σ H x y u v Q I rx ry h
theorem ps_augfD (G : GoodS X nm Y P run W) {o e : Expr} {f : Str} {eo ea : E} {i : Nat} {op : Op} {p pos : Pos} (hf : find? Y.att f = some i) (ho : PE X o (tE X.K nm W R eo)) (he : PE X e (tE X.K nm W R ea)) : PS X (.AugAssign (.Attribute o f p) op.py e pos) (tSm X.K nm W R below (.augf op eo i ea)) :=
  (ps_fldaug ho he (in_D op)).weak fun D σ H h => by
    refine tT_mono (stm_E Mono.c0 (f := fun env x S => match view S x with
    | .ins c fs => some? (lookF fs i) fun z => (evE R ea env S).stm env fun v S => some? (augop op z v) fun d => if insC (view S x) c then some? (setFld S x i d) fun S' => .ret (.nx env) S' else .bad
    | _ => .bad) (tSC_eq (fun env S => by (simp only [evS]) <;> rfl) h)) fun v H1 ⟨x, h2⟩ => ?_
    obtain ⟨r, env, S, st, en, c, al⟩ := h2
    have w := c.2.view st
    simp only at al
    cases ex : view S x <;> rw [ex] at w al <;> try exact al.elim
    rename_i cl fs
    obtain ⟨b, C, dx, fvs, rfl, hC, q, z⟩ := w
    simp only at al
    cases e1 : lookF fs i with
    | none => rw [e1] at al; exact al.elim
    | some d =>
      rw [e1] at al
      obtain ⟨w', l, rl⟩ := lookF_rel G.ainj (G.att f i hf) z e1
      simp only [some?_some] at al
      rw [T.All_stm] at al
      refine ⟨b, C, dx, fvs, w', rfl, q, (G.cls cl C hC).1, (G.cls cl C hC).2 f i hf, l, r, env, S, _, st, en, trivial, al.mono (fun _ _ z => z) fun e S' z r' H' x s cl d q => z r' H' x s σ (en.ext x) cl d q, fun y S' u r' H' z2 x1 s1 ry => ?_⟩
      cases ea2 : augop op d y with
      | none => rw [ea2] at z2; exact z2.elim
      | some d2 =>
        rw [ea2] at z2
        obtain ⟨a, b2, k, rfl, rfl, rfl, hk⟩ := augop_ints ea2
        have rl' := rl.ext x1
        cases rl'
        cases ry
        refine ⟨a, b2, k, rfl, rfl, hk, ?_⟩
        simp only [some?_some] at z2
        obtain ⟨hic, z2⟩ := if_all z2
        unfold setFld at z2
        cases x <;> try exact z2.elim
        rename_i n
        obtain ⟨a', ea', hm⟩ := c.2.ext x1
        cases ea'
        obtain ⟨cc, hc, cel⟩ := s1.at hm
        simp only at z2
        rw [hc] at z2
        cases cc <;> try exact z2.elim
        rename_i cl2 fs2
        simp only at z2
        by_cases hl : fs2.length < 1000
        · rw [if_pos hl] at z2
          obtain ⟨CC, dx2, fvs2, hC2, q2, zz⟩ := cel
          have ec : C = CC := by
            simp only [view, hc, Option.getD_some, insC, beq_iff_eq] at hic
            rw [hic, hC] at hC2
            exact Option.some.inj hC2
          subst ec
          have x2 : Ext X.K r' H' r' (upd H' b (.ins C dx2 (L2.putF f (.int k) fvs2))) := Ext.write s1 (List.mem_of_getElem? hm) (by rw [q2]; trivial)
          refine ⟨dx2, fvs2, q2, by rw [zz.length]; exact hl, ?_⟩
          exact z2 r' _ (x1.trans x2) (s1.write hm ⟨C, dx2, _, hC2, upd_same, (putF_rel G.ainj (G.att f i hf) (d := .int k) rfl zz).ext x2⟩) σ ((en.ext x1).ext x2)
        · rw [if_neg hl] at z2; exact z2.elim
/-! ### raise, try -/
theorem ps_raiseD (G : GoodS X nm Y P run W) {x m : Str} {j c : Nat} {p p2 pos pos' : Pos} (hx : find? Y.exc x = some c) (hg : Y.glo x = true) (hd : (x == ("__debug__" : Str)) = false) :
    PS X (.Raise (some (.Call (.Name x p) [.Constant (.str m) j p2] [] pos')) none pos) (tSm X.K nm W R below (.raise c none)) := by
  obtain ⟨C, B, newId, initId, bmB, h1, h2, h3, h4, h5, h6⟩ := G.exc x c hx
  refine (ps_raise G.calm G.tk (pmk_own h2 h3 h4 h5 h6 (G.isGl hg) hd)).weak fun D σ H h => ?_
  obtain ⟨r, env, en, _, k⟩ := tSC.ret (fl := fun env => .ex ⟨c, .non⟩ env) (tSC_eq (fun env S => by simp [evS]) h)
  exact k σ en (.ref C) none ⟨C, h1, rfl, rfl, rfl⟩
/-- a constant's value -/
def constV : D → V
  | .int i => .int i
  | .bl b => .bl b
  | .str s => .str s
  | _ => .non
theorem const_pe {e : Expr} {d : D} (h : constOf e = some d) : PE X e (tC (constV d)) := by
  unfold constOf at h
  split at h <;> first | cases h | skip
  · exact pe_int
  · exact pe_bl
  · exact pe_non
  · exact pe_str
theorem const_rel {e : Expr} {d : D} (h : constOf e = some d) {K : PySem.W.Frag} {nm : Nm} {r : Rl} {H : Hp} : Rel K nm r H d (constV d) := by
  unfold constOf at h
  split at h <;> first | cases h | skip
  · exact rfl
  · exact rfl
  · exact rfl
  · exact rfl
def setsV (as : List (Nat × D)) (σ : L2.St) : L2.St := as.foldl (fun σ p => σ.set p.1 (some (constV p.2))) σ
theorem suite_ok (G : GoodS X nm Y P run W) (a : Addr) (pn : List (Addr × Obj)) : ∀ {sts : List Stmt} {as : List (Nat × D)}, asOfs Y sts = some as → PSs (X.suite a pn) sts (fun D σ H => D.nx (setsV as σ) H)
  | [], as, h => by
    simp only [asOfs] at h
    cases h
    exact pss_nil
  | s :: ss, as, h => by
    simp only [asOfs, Option.bind_eq_some_iff] at h
    obtain ⟨q, hq, h⟩ := h
    obtain ⟨qs, hqs, rfl⟩ := Option.map_eq_some_iff.mp h
    have ih := suite_ok G a pn hqs
    unfold asOf at hq
    split at hq
    · rename_i y py v pos
      split at hq
      · rename_i hy
        obtain ⟨i, hi, hq⟩ := Option.bind_eq_some_iff.mp hq
        obtain ⟨d, hd, rfl⟩ := Option.map_eq_some_iff.mp hq
        have hsw : swapsWith v (some (.Name y py)) pos.line (X.suite a pn).env = pure false := by
          cases v <;> first | rfl | (simp [constOf] at hd)
        exact pss_cons (ps_set (X := X.suite a pn) (i := i) G.nd (by show X.N[i]? = some y; rw [← G.eN]; exact slot_at hi) (G.isLoc hy) (const_pe (X := X.suite a pn) hd) hsw (G.fnl y hy)) ih
      · cases hq
    · cases hq
theorem sets_rel (as : List (Nat × D)) (ok : ∀ p ∈ as, ∀ {K : PySem.W.Frag} {nm : Nm} {r : Rl} {H : Hp}, Rel K nm r H p.2 (constV p.2)) {env : Slots} {σ : L2.St} (en : EnvR K nm r H env σ) : EnvR K nm r H (as.foldl (fun env p => env.set p.1 (some p.2)) env) (setsV as σ) := by
  induction as generalizing env σ with
  | nil => exact en
  | cons p as ih => exact ih (fun q hq => ok q (List.mem_cons_of_mem _ hq)) (en.set p.1 (ok p List.mem_cons_self))
theorem asOfs_ok : ∀ {sts : List Stmt} {as : List (Nat × D)}, asOfs Y sts = some as → ∀ p ∈ as, ∀ {K : PySem.W.Frag} {nm : Nm} {r : Rl} {H : Hp}, Rel K nm r H p.2 (constV p.2)
  | [], as, h, p, hp => by
    simp only [asOfs] at h
    cases h
    cases hp
  | s :: ss, as, h, p, hp => by
    simp only [asOfs, Option.bind_eq_some_iff] at h
    obtain ⟨q, hq, h⟩ := h
    obtain ⟨qs, hqs, rfl⟩ := Option.map_eq_some_iff.mp h
    rcases List.mem_cons.mp hp with e | hp
    · subst e
      unfold asOf at hq
      split at hq
      · split at hq
        · obtain ⟨i, hi, hq⟩ := Option.bind_eq_some_iff.mp hq
          obtain ⟨d, hd, rfl⟩ := Option.map_eq_some_iff.mp hq
          exact const_rel hd
        · cases hq
      · cases hq
    · exact asOfs_ok hqs p hp
/-- the clauses, with what they are to do -/
theorem hds_ok (G : GoodS X nm Y P run W) : ∀ {hds : List ExceptHandler} {as : List (Nat × List (Nat × D))}, irHs Y hds = some as → ∃ l : List (Value × (Addr → Value → Option Addr → TS)), HdsOk X hds l ∧
    ∀ (D : Ends) (r : Rl) (H : Hp) (e : Exc) (env : Slots) (S : Store), (evH P.below as e env S).All (FlP X.K nm W D r H) NoX → FlP X.K nm (wMany X.K W D l) D r H (.ex e env) S
  | [], as, h => by
    simp only [irHs] at h
    cases h
    exact ⟨[], .nil, fun D r H e env S al => al⟩
  | hd :: hds, as, h => by
    simp only [irHs, Option.bind_eq_some_iff] at h
    obtain ⟨q, hq, h⟩ := h
    obtain ⟨qs, hqs, rfl⟩ := Option.map_eq_some_iff.mp h
    obtain ⟨l, hl, k⟩ := hds_ok G hqs
    unfold irH at hq
    split at hq
    · rename_i x np b bs pos'
      split at hq
      · cases hq
      rename_i hx
      simp only [Bool.or_eq_true, not_or, Bool.not_eq_true, Bool.not_eq_false'] at hx
      obtain ⟨c, hc, hq⟩ := Option.bind_eq_some_iff.mp hq
      obtain ⟨as, has, rfl⟩ := Option.map_eq_some_iff.mp hq
      obtain ⟨C, B, newId, initId, bmB, h1, h2, h3, h4, h5, h6⟩ := G.exc x c hc
      refine ⟨(.ref C, fun _ _ _ => fun D σ H => D.nx (setsV as σ) H) :: l, .cons ⟨G.isGl hx.2, hx.1, .inl h4⟩ (fun a oe cls d pn _ _ => suite_ok G a _ has) hl, fun D r H e env S al r' H' x' st σ' en cls d xr => ?_⟩
      obtain ⟨Ce, he, ecl, ed, earg⟩ := xr
      simp only [evH] at al
      refine ⟨P.below e.c c, by rw [ecl]; exact G.bel _ _ _ _ he h1, fun hb a ha => ?_, fun hb => ?_⟩
      · rw [if_pos hb] at al
        exact al r' H' x' st _ (sets_rel as (asOfs_ok has) en)
      · rw [if_neg (by simp [hb])] at al
        exact k D r H e env S al r' H' x' st σ' en cls d ⟨Ce, he, ecl, ed, earg⟩
    · cases hq
theorem ps_tryD (G : GoodS X nm Y P run W) {body : List Stmt} {h₀ : ExceptHandler} {hds : List ExceptHandler} {sb : List Sm} {as : List (Nat × List (Nat × D))} {pos : Pos} (hh : irHs Y (h₀ :: hds) = some as)
    (hb : ∀ (W' : WX) (pn : List (Addr × Obj)) (xe : Value → Shared → Prop), GoodS (X.tr pn xe) nm Y P run W' → PSs (X.tr pn xe) body (tSs X.K nm W' R P.below sb)) : PS X (.Try body (h₀ :: hds) [] [] pos) (tSm X.K nm W R P.below (.try sb as)) := by
  obtain ⟨l, hl, k⟩ := hds_ok G hh
  refine (ps_try_many (tb := fun W' => tSs X.K nm W' R P.below sb) G.stk G.fr G.tk (fun W' pn xe tk hp => hb W' pn xe (G.tr tk hp)) hl).weak fun D σ H h => ?_
  obtain ⟨r, env, S, st, en, c, al⟩ := h
  simp only [evS] at al
  rw [T.All_bind] at al
  refine ⟨r, env, S, st, en, trivial, al.mono (fun fl S1 z => ?_) fun _ _ z => z⟩
  cases fl with
  | nx env1 => exact fun r1 H1 x1 st1 => z r1 H1 x1 st1
  | rt d => exact fun r1 H1 x1 st1 => z r1 H1 x1 st1
  | bk env1 => exact fun r1 H1 x1 st1 => z r1 H1 x1 st1
  | ct env1 => exact fun r1 H1 x1 st1 => z r1 H1 x1 st1
  | ex e env1 => exact k D r H e env1 S1 z
end
end Ic

set_option Elab.async false
set_option linter.all false
set_option maxRecDepth 100000
set_option maxHeartbeats 1000000
/-! Ic5d: the translation of statements tells the truth. -/
namespace Ic
open PySem PySem.Spec PyProof.Rows L2
section
variable {X : Cx} {K : PySem.W.Frag} {nm : Nm} {Y : Sym} {P : Prog} {run : Nat → List D → Store → T D} {W : WX} {R : Rn} {D' : Ends} {σ : L2.St} {H H' : Hp} {r r' : Rl} {C : Rl → Hp → Prop} {below : Nat → Nat → Bool}
theorem tg_name {i : Nat} {v : V} {Q : L2.St → Hp → Prop} (h : tTg K nm R (.nm (.nm i)) v σ H Q) : gName i v σ H Q := by
  obtain ⟨r, env, S, d, st, en, rd, al⟩ := h
  simp only [tgSet, npSet, some?_some, T.All_ret] at al
  exact al r H _ Ext.refl st (en.set i rd)
theorem block_fun {env : Env} (h : env.scope.kind = .function) : env.blockKind = .function := by
  unfold Env.blockKind
  rw [h]; rfl
theorem sw_plain {v : Expr} (h : isLC v = false) (t : Option Expr) (n : Nat) (env : Env) : swapsWith v t n env = pure false := by
  cases v <;> first | rfl | (simp [isLC] at h)
theorem sw_att {v : Expr} {o : Expr} {f : Str} {p : Pos} (n : Nat) (env : Env) : swapsWith v (some (.Attribute o f p)) n env = pure false := by
  cases v <;> rfl
theorem sw_lc {elt : Expr} {gens : List Comprehension} {scope : Scope} {pos : Pos} {y : Str} {py : Pos} (n : Nat) {env : Env} (hk : env.scope.kind = .function) :
    swapsWith (.ListComp elt gens scope pos) (some (.Name y py)) n env = pure (env.scope.names.lookup y == some .local && py.line == pos.line && !(scope.names.any fun (n, k) => n == y && (k == .local || k == .cell))) := by
  show pure (env.blockKind == .function && env.kindOf y == some .local && py.line == pos.line && !(scope.names.any fun (n, k) => n == y && (k == .local || k == .cell))) = _
  rw [block_fun hk]
  first | rfl | skip
theorem sw_other {elt : Expr} {gens : List Comprehension} {scope : Scope} {pos : Pos} {t : Expr} (ht : isName t = none) (n : Nat) (env : Env) : swapsWith (.ListComp elt gens scope pos) (some t) n env = pure false := by
  cases t <;> first | rfl | (simp [isName] at ht)
/-- what swappedStores asks, in a row -/
theorem sw_tup {ts vs : List Expr} {k1 k2 : Nat} {p1 p2 : Pos} {env : Env} : swappedStores [.Tuple ts k1 p1] (.Tuple vs k2 p2) env = (if (!(ts.length == 2 || ts.length == 3) || vs.length != ts.length || env.blockKind != .function) = true then (pure none : Sem (Option (List Str))) else
    if (vs.any isStar) = true then pure none else if ((swNames env.scope ts).length != ts.length || (swNames env.scope ts).eraseDups.length != (swNames env.scope ts).length) = true then pure none else
    if vs.all (foldedForSure 8) = true then pure none else if vs.all (constantsAlone 8) = true then (do (unsupported "assign.tuple-of-constant-expressions:order-of-the-stores" : Sem Unit); pure (some (swNames env.scope ts))) else pure (some (swNames env.scope ts))) := by
  unfold swappedStores
  rfl
theorem sw_no {Y : Sym} {t v : Expr} {env : Env} (he : Y.sc = env.scope) (hk : env.scope.kind = .function) (h : swapT Y t v = .no) : swappedStores [t] v env = pure none := by
  cases t <;> cases v <;> first | rfl | (simp [swapT] at h; done) | skip
  rename_i ts k1 p1 vs k2 p2
  simp only [swapT] at h
  rw [sw_tup]
  by_cases hs : vs.any isStar = true
  · rw [if_pos hs] at h; cases h
  rw [if_neg hs] at h
  by_cases h1 : (!(ts.length == 2 || ts.length == 3) || vs.length != ts.length) = true
  · rw [if_pos (by rw [h1]; rfl)]
  rw [if_neg h1] at h
  rw [if_neg (by rw [block_fun hk]; simpa using h1), if_neg hs, ← he]
  by_cases h2 : ((swNames Y.sc ts).length != ts.length) = true
  · rw [if_pos (by rw [h2]; rfl)]
  rw [if_neg h2] at h
  by_cases h5 : ((swNames Y.sc ts).length != ts.length || (swNames Y.sc ts).eraseDups.length != (swNames Y.sc ts).length) = true
  · rw [if_pos h5]
  rw [if_neg h5]
  by_cases h3 : vs.all (foldedForSure 8) = true
  · rw [if_pos h3]
  rw [if_neg h3] at h
  by_cases h4 : vs.all (constantsAlone 8) = true
  · rw [if_pos h4] at h; cases h
  rw [if_neg h4] at h
  split at h <;> (try split at h) <;> cases h
theorem sw_yes {Y : Sym} {ts vs : List Expr} {k1 k2 : Nat} {p1 p2 : Pos} {env : Env} (he : Y.sc = env.scope) (hk : env.scope.kind = .function) (h : swapT Y (.Tuple ts k1 p1) (.Tuple vs k2 p2) = .yes) :
    vs.any isStar = false ∧ ((∃ x y px py a b, ts = [.Name x px, .Name y py] ∧ vs = [a, b] ∧ env.scope.names.lookup x = some .local ∧ env.scope.names.lookup y = some .local ∧ x ≠ y ∧ swappedStores [.Tuple ts k1 p1] (.Tuple vs k2 p2) env = pure (some [x, y])) ∨
    ∃ x y z px py pz a b c, ts = [.Name x px, .Name y py, .Name z pz] ∧ vs = [a, b, c] ∧ env.scope.names.lookup x = some .local ∧ env.scope.names.lookup y = some .local ∧ env.scope.names.lookup z = some .local ∧ x ≠ y ∧ x ≠ z ∧ y ≠ z ∧ swappedStores [.Tuple ts k1 p1] (.Tuple vs k2 p2) env = pure (some [x, y, z])) := by
  simp only [swapT] at h
  by_cases hs : vs.any isStar = true
  · rw [if_pos hs] at h; cases h
  rw [if_neg hs] at h
  by_cases h1 : (!(ts.length == 2 || ts.length == 3) || vs.length != ts.length) = true
  · rw [if_pos h1] at h; cases h
  rw [if_neg h1] at h
  by_cases h2 : ((swNames Y.sc ts).length != ts.length) = true
  · rw [if_pos h2] at h; cases h
  rw [if_neg h2] at h
  by_cases h3 : vs.all (foldedForSure 8) = true
  · rw [if_pos h3] at h; cases h
  rw [if_neg h3] at h
  by_cases h4 : vs.all (constantsAlone 8) = true
  · rw [if_pos h4] at h; cases h
  rw [if_neg h4] at h
  have hsw := sw_tup (ts := ts) (vs := vs) (k1 := k1) (k2 := k2) (p1 := p1) (p2 := p2) (env := env)
  rw [if_neg (by rw [block_fun hk]; simpa using h1), if_neg hs, if_neg h3, if_neg h4] at hsw
  refine ⟨by simpa using hs, ?_⟩
  split at h
  · rename_i x px y py a b
    split at h
    · rename_i hc
      simp only [Bool.and_eq_true, beq_iff_eq, bne_iff_ne] at hc
      obtain ⟨⟨⟨c1, c2⟩, c3⟩, c4⟩ := hc
      rw [he] at c1 c2
      have hn : swNames env.scope [.Name x px, .Name y py] = [x, y] := by
        simp [swNames, c1, c2, c3, Expr.pos]
      rw [hn] at hsw
      refine .inl ⟨x, y, px, py, a, b, rfl, rfl, c1, c2, c4, ?_⟩
      rw [hsw, if_neg]
      have : (y == x) = false := beq_eq_false_iff_ne.mpr fun e => c4 e.symm
      simp [List.eraseDups, List.eraseDupsBy, List.eraseDupsBy.loop, this]
    · cases h
  · rename_i x px y py z pz a b c
    split at h
    · rename_i hc
      simp only [Bool.and_eq_true, beq_iff_eq, bne_iff_ne] at hc
      obtain ⟨⟨⟨⟨⟨⟨⟨c1, c2⟩, c0⟩, c3⟩, c5⟩, c4⟩, c6⟩, c7⟩ := hc
      rw [he] at c1 c2 c0
      have hn : swNames env.scope [.Name x px, .Name y py, .Name z pz] = [x, y, z] := by
        simp [swNames, c1, c2, c0, c3, c5, Expr.pos]
      rw [hn] at hsw
      refine .inr ⟨x, y, z, px, py, pz, a, b, c, rfl, rfl, c1, c2, c0, c4, c6, c7, ?_⟩
      rw [hsw, if_neg]
      have q1 : (y == x) = false := beq_eq_false_iff_ne.mpr fun e => c4 e.symm
      have q2 : (z == x) = false := beq_eq_false_iff_ne.mpr fun e => c6 e.symm
      have q3 : (z == y) = false := beq_eq_false_iff_ne.mpr fun e => c7 e.symm
      simp [List.eraseDups, List.eraseDupsBy, List.eraseDupsBy.loop, q1, q2, q3]
    · cases h
  · cases h
/-- name = [..] on one line -/
theorem ps_compS (G : GoodS X nm Y P run W) {y : Str} {i : Nat} {elt tg iter : Expr} {ifs : List Expr} {scope : Scope} {own : List (Str × Nat)} {py pos spos : Pos} {mu : Bool} {ee : E} {p : NPat} {k : Itk} {its cs : List E}
    (hy : Y.slot y = some i) (hyl : X.env.scope.names.lookup y = some .local) (hsw : swapsWith (.ListComp elt [⟨tg, iter, ifs, 0⟩] scope pos) (some (.Name y py)) spos.line X.env = pure true)
    (hi : PI X tg iter (iD X.K nm W R k its)) (ok : BlkOk X.N X.env.scope scope own) (hp : ∀ i ∈ p.slots, i ∈ own.map (·.2))
    (hg : ∀ (s : Shared) (H : Hp) (C : Addr) (cl : List (Str × Addr)) (fp : List Addr), PG (X.blk s H scope (compEnvC scope cl C X.env) fp) tg (gP X.K nm p)) (ht : ∀ (s : Shared) (H : Hp) (C : Addr) (cl : List (Str × Addr)) (fp : List Addr), PTs (X.blk s H scope (compEnvC scope cl C X.env) fp) ifs (tC' X.K nm R cs))
    (he : ∀ (s : Shared) (H : Hp) (C : Addr) (cl : List (Str × Addr)) (fp : List Addr), PE (X.blk s H scope (compEnvC scope cl C X.env) fp) elt (tE X.K nm WF R ee)) (hs : ∀ x, foldedSetIterable iter X.env x = pure x) :
    PS X (.Assign [.Name y py] (.ListComp elt [⟨tg, iter, ifs, 0⟩] scope pos) spos) (tSm X.K nm W R below (.asg (.nm (.nm i)) (.comp mu (own.map (·.2)) ee p k its cs))) :=
  (ps_setLc (i := i) G.calm G.nd (by rw [← G.eN]; exact slot_at hy) hyl hsw hi ok hg ht he hs).weak fun D σ H h => lc_weak hp (tT_mono (asg_weak h) fun v H1 q => tg_name q)
theorem ps_comp2S (G : GoodS X nm Y P run W) {y : Str} {i : Nat} {elt tg iter tg1 iter1 : Expr} {ifs ifs1 : List Expr} {scope : Scope} {own : List (Str × Nat)} {py pos spos : Pos} {mu : Bool} {ee : E} {p p2 : NPat} {k k2 : Itk} {its cs its2 cs2 : List E}
    (hy : Y.slot y = some i) (hyl : X.env.scope.names.lookup y = some .local) (hsw : swapsWith (.ListComp elt [⟨tg, iter, ifs, 0⟩, ⟨tg1, iter1, ifs1, 0⟩] scope pos) (some (.Name y py)) spos.line X.env = pure true)
    (hi : PI X tg iter (iD X.K nm W R k its)) (ok : BlkOk X.N X.env.scope scope own) (hp : ∀ i ∈ p.slots, i ∈ own.map (·.2)) (hp2 : ∀ i ∈ p2.slots, i ∈ own.map (·.2))
    (hg : ∀ (s : Shared) (H : Hp) (C : Addr) (cl : List (Str × Addr)) (fp : List Addr), PG (X.blk s H scope (compEnvC scope cl C X.env) fp) tg (gP X.K nm p)) (ht : ∀ (s : Shared) (H : Hp) (C : Addr) (cl : List (Str × Addr)) (fp : List Addr), PTs (X.blk s H scope (compEnvC scope cl C X.env) fp) ifs (tC' X.K nm R cs))
    (hi1 : ∀ (s : Shared) (H : Hp) (C : Addr) (cl : List (Str × Addr)) (fp : List Addr), PI (X.blk s H scope (compEnvC scope cl C X.env) fp) tg1 iter1 (iD X.K nm WF R k2 its2))
    (hg1 : ∀ (s : Shared) (H : Hp) (C : Addr) (cl : List (Str × Addr)) (fp : List Addr), PG (X.blk s H scope (compEnvC scope cl C X.env) fp) tg1 (gP X.K nm p2)) (ht1 : ∀ (s : Shared) (H : Hp) (C : Addr) (cl : List (Str × Addr)) (fp : List Addr), PTs (X.blk s H scope (compEnvC scope cl C X.env) fp) ifs1 (tC' X.K nm R cs2))
    (he : ∀ (s : Shared) (H : Hp) (C : Addr) (cl : List (Str × Addr)) (fp : List Addr), PE (X.blk s H scope (compEnvC scope cl C X.env) fp) elt (tE X.K nm WF R ee)) (hs : ∀ x, foldedSetIterable iter X.env x = pure x) (hs1 : ∀ env x, foldedSetIterable iter1 env x = pure x) :
    PS X (.Assign [.Name y py] (.ListComp elt [⟨tg, iter, ifs, 0⟩, ⟨tg1, iter1, ifs1, 0⟩] scope pos) spos) (tSm X.K nm W R below (.asg (.nm (.nm i)) (.comp2 mu (own.map (·.2)) ee p k its cs p2.slots p2 k2 its2 cs2))) :=
  (ps_setLc2 (i := i) G.calm G.nd (by rw [← G.eN]; exact slot_at hy) hyl hsw hi ok hp2 hg ht hi1 hg1 ht1 he hs hs1).weak fun D σ H h => lc2_weak hp (fun _ h => h) (tT_mono (asg_weak h) fun v H1 q => tg_name q)
theorem tgs_names {Q : L2.St → Hp → Prop} : ∀ {is : List Nat} {xs : List D} {vs : List V} {env : Slots} {σ : L2.St} {S : Store}, EnvR K nm r H env σ → Rels K nm r H xs vs → Sto K nm r H S →
    (tgSets R (is.map fun i => .nm (.nm i)) xs env S).All (fun env' S' => ∀ r' H' σ', Ext K r H r' H' → Sto K nm r' H' S' → EnvR K nm r' H' env' σ' → Q σ' H') NoX → Q ((is.zip vs).foldl (fun σ p => σ.set p.1 (some p.2)) σ) H
  | [], [], _, env, σ, S, en, rl, st, al => by
    simp only [List.map_nil, tgSets, T.All_ret] at al
    exact al r H σ Ext.refl st en
  | [], _ :: _, _, _, _, _, _, _, _, al => by simp [tgSets] at al
  | _ :: _, [], _, _, _, _, _, _, _, al => by simp [tgSets] at al
  | i :: is, x :: xs, _, env, σ, S, en, rl, st, al => by
    obtain ⟨v, ws, rfl, r1, r2⟩ := rl
    simp only [List.map_cons, tgSets, tgSet, npSet, some?_some, T.bind_ret] at al
    exact (tgs_names (is := is) (xs := xs) (vs := ws) (en.set i r1) r2 st al :)
/-- names stored from the right -/
theorem par_weak {is : List Nat} {ds : List E} (h : tSm K nm W R below (.asg (.tup (is.map fun i => .nm (.nm i))) (.tup ds)) D' σ H) :
    tEs K nm W R ds σ H fun vs H1 => vs.length = is.length ∧ D'.nx ((is.zip vs).foldl (fun σ p => σ.set p.1 (some p.2)) σ) H1 := by
  have h1 : tS K nm W (fun env S => (evEs R ds env S).stm env fun xs S => if xs.length ≤ line then (tgSet R (.tup (is.map fun i => .nm (.nm i))) (.tup xs) env S).nox.bind fun env' S => .ret (.nx env') S else .bad) D' σ H := tSC_eq (fun env S => by
    simp only [evS, evE, T.bind_stm]
    congr
    funext xs S
    by_cases hl : xs.length ≤ line <;> simp [hl]) h
  refine tT_mono (stm_T (rel := Rels K nm) Mono.c0 h1) fun vs H1 ⟨xs, h2⟩ => ?_
  obtain ⟨r, env, S, st, en, c, al⟩ := h2
  simp only at al
  by_cases hl : xs.length ≤ line
  · rw [if_pos hl, T.All_bind, T.All_nox] at al
    simp only [tgSet, view] at al
    by_cases hn : xs.length = (is.map fun i => Tg.nm (.nm i)).length
    · rw [if_pos hn] at al
      have hn' : xs.length = is.length := by simpa using hn
      refine ⟨by rw [c.2.length]; exact hn', ?_⟩
      exact tgs_names en c.2 st (al.mono (fun env' S' z r' H' σ' x' st' en' => z r' H' x' st' σ' en') fun _ _ z => z)
    · rw [if_neg hn] at al; exact al.elim
  · rw [if_neg hl] at al; exact al.elim
theorem slot_ne {x y : Str} {i j : Nat} (hx : Y.slot x = some i) (hy : Y.slot y = some j) (h : x ≠ y) : i ≠ j := by
  rintro rfl
  have a := slot_at hx
  rw [slot_at hy] at a
  exact h (Option.some.inj a).symm
theorem ps_parD (G : GoodS X nm Y P run W) {x y : Str} {i j : Nat} {a b : Expr} {ds : List E} {px py pt pt2 pos : Pos} {kt k2 : Nat} (hi : Y.slot x = some i) (hj : Y.slot y = some j) (hne : x ≠ y)
    (hx : X.env.scope.names.lookup x = some .local) (hy : X.env.scope.names.lookup y = some .local) (ha : PA X [a, b] (tEs X.K nm W R ds)) (hw : swappedStores [.Tuple [.Name x px, .Name y py] kt pt] (.Tuple [a, b] k2 pt2) X.env = pure (some [x, y])) :
    PS X (.Assign [.Tuple [.Name x px, .Name y py] kt pt] (.Tuple [a, b] k2 pt2) pos) (tSm X.K nm W R below (.asg (.tup [.nm (.nm i), .nm (.nm j)]) (.tup ds))) :=
  (ps_par (i := i) (j := j) G.calm G.nd (by rw [← G.eN]; exact slot_at hi) (by rw [← G.eN]; exact slot_at hj) (slot_ne hi hj hne) hx hy ha hw).weak fun D σ H h => by
    refine tT_mono (par_weak (is := [i, j]) h) fun vs H1 ⟨hl, q⟩ => ?_
    match vs, hl, q with
    | [v, w], _, q => exact ⟨v, w, rfl, q⟩
theorem ps_par3D (G : GoodS X nm Y P run W) {x y z : Str} {i j l : Nat} {a b c : Expr} {ds : List E} {px py pz pt pt2 pos : Pos} {kt k2 : Nat} (hi : Y.slot x = some i) (hj : Y.slot y = some j) (hl : Y.slot z = some l) (hxy : x ≠ y) (hxz : x ≠ z) (hyz : y ≠ z)
    (hx : X.env.scope.names.lookup x = some .local) (hy : X.env.scope.names.lookup y = some .local) (hz : X.env.scope.names.lookup z = some .local) (ha : PA X [a, b, c] (tEs X.K nm W R ds)) (hw : swappedStores [.Tuple [.Name x px, .Name y py, .Name z pz] kt pt] (.Tuple [a, b, c] k2 pt2) X.env = pure (some [x, y, z])) :
    PS X (.Assign [.Tuple [.Name x px, .Name y py, .Name z pz] kt pt] (.Tuple [a, b, c] k2 pt2) pos) (tSm X.K nm W R below (.asg (.tup [.nm (.nm i), .nm (.nm j), .nm (.nm l)]) (.tup ds))) :=
  (ps_par3 (i := i) (j := j) (l := l) G.calm G.nd (by rw [← G.eN]; exact slot_at hi) (by rw [← G.eN]; exact slot_at hj) (by rw [← G.eN]; exact slot_at hl) (slot_ne hi hj hxy) (slot_ne hi hl hxz) (slot_ne hj hl hyz) hx hy hz ha hw).weak fun D σ H h => by
    refine tT_mono (par_weak (is := [i, j, l]) h) fun vs H1 ⟨hl, q⟩ => ?_
    match vs, hl, q with
    | [u, v, w], _, q => exact ⟨u, v, w, rfl, q⟩
theorem name_tg {g : Expr → E} {x : Str} {p : Pos} {q : Tg} (h : irTg g Y (.Name x p) = some q) : ∃ i, Y.slot x = some i ∧ Y.sto x = true ∧ q = .nm (.nm i) := by
  simp only [irTg] at h
  obtain ⟨np, hp, rfl⟩ := Option.map_eq_some_iff.mp h
  simp only [npOf] at hp
  split at hp
  · rename_i hs
    obtain ⟨i, hi, rfl⟩ := Option.map_eq_some_iff.mp hp
    exact ⟨i, hi, hs, rfl⟩
  · cases hp
theorem assign_one {g : Expr → E} {t : Expr} {q : Tg} (h : irTg g Y t = some q) (env : Env) : (assignEach [t] env).map (·.2) = [assign t env] := by
  cases t <;> first | rfl | (simp [irTg] at h)
theorem asg_bad {tq : Tg} : ¬ tSm K nm W R below (.asg tq .bad) D' σ H := tS_bad fun _ _ => by simp [evS, evE]
/-- name = [..], the comprehension stores it itself -/
theorem compS_sound {g : Bool → Sym → Nat → Expr → E} (T : Told nm P run g) (G : GoodS X nm Y P run W) {y : Str} {i : Nat} {py pos vpos : Pos} {elt : Expr} {gens : List Comprehension} {scope : Scope} (n : Nat) (hy : Y.slot y = some i) (hyl : X.env.scope.names.lookup y = some .local)
    (hsw : swapsWith (.ListComp elt gens scope vpos) (some (.Name y py)) pos.line X.env = pure true) :
    PS X (.Assign [.Name y py] (.ListComp elt gens scope vpos) pos) (tSm X.K nm W (rnOf P run) below (.asg (.nm (.nm i)) (irV g Y n (.ListComp elt gens scope vpos)))) := by
  have GG := G.toGood
  generalize hv : (Expr.ListComp elt gens scope vpos) = v
  unfold irV
  split
  all_goals first
    | (exact PS.none fun _ _ _ => asg_bad)
    | (cases hv; done)
    | skip
  · rename_i elt' tg iter ifs scope' pos'
    cases hv
    split
    · exact PS.none fun _ _ _ => asg_bad
    rename_i own ho
    by_cases h0 : (blkC Y.N Y.sc scope own && decide (ifs.length ≤ 1) && !isSetE iter) = true
    · rw [if_pos h0]
      simp only [Bool.and_eq_true, decide_eq_true_eq, Bool.not_eq_true'] at h0
      obtain ⟨⟨hb, hl⟩, hs⟩ := h0
      split
      · exact PS.none fun _ _ _ => asg_bad
      rename_i p hp
      by_cases hq : (p.slots.all fun i => (own.map (·.2)).contains i) = true
      · rw [if_pos hq]
        rw [List.all_eq_true] at hq
        exact ps_compS G hy hyl hsw (irI_sound T GG tg iter) (by rw [← GG.eN, ← GG.eS]; exact blkOk_by hb) (fun i hi => by simpa using hq i hi) (fun s H C cl fp => blk_pg GG hp) (fun s H C cl fp => pts_D ifs (fun c _ => T.t (GG.blk s H scope cl C fp) c) hl) (fun s H C cl fp => T.e (GG.blk s H scope cl C fp) _ elt) (set_plain hs _)
      · rw [if_neg hq]; exact PS.none fun _ _ _ => asg_bad
    · rw [if_neg h0]; exact PS.none fun _ _ _ => asg_bad
  · rename_i elt' tg iter ifs tg2 iter2 ifs2 scope' pos'
    cases hv
    split
    · exact PS.none fun _ _ _ => asg_bad
    rename_i own ho
    by_cases h0 : (blkC Y.N Y.sc scope own && decide (ifs.length ≤ 1) && decide (ifs2.length ≤ 1) && !isSetE iter && !isSetE iter2) = true
    · rw [if_pos h0]
      simp only [Bool.and_eq_true, decide_eq_true_eq, Bool.not_eq_true'] at h0
      obtain ⟨⟨⟨⟨hb, hl⟩, hl2⟩, hs⟩, hs2⟩ := h0
      split
      · rename_i p p2 hp hp2
        by_cases hq : ((p.slots.all fun i => (own.map (·.2)).contains i) && (p2.slots.all fun i => (own.map (·.2)).contains i)) = true
        · rw [if_pos hq]
          simp only [Bool.and_eq_true, List.all_eq_true] at hq
          exact ps_comp2S G hy hyl hsw (irI_sound T GG tg iter) (by rw [← GG.eN, ← GG.eS]; exact blkOk_by hb) (fun i hi => by simpa using hq.1 i hi) (fun i hi => by simpa using hq.2 i hi) (fun s H C cl fp => blk_pg GG hp) (fun s H C cl fp => pts_D ifs (fun c _ => T.t (GG.blk s H scope cl C fp) c) hl)
            (fun s H C cl fp => irI_sound T (GG.blk s H scope cl C fp) tg2 iter2) (fun s H C cl fp => blk_pg GG hp2) (fun s H C cl fp => pts_D ifs2 (fun c _ => T.t (GG.blk s H scope cl C fp) c) hl2) (fun s H C cl fp => T.e (GG.blk s H scope cl C fp) _ elt) (set_plain hs _) (fun _ => set_plain hs2 _)
        · rw [if_neg hq]; exact PS.none fun _ _ _ => asg_bad
      · exact PS.none fun _ _ _ => asg_bad
    · rw [if_neg h0]; exact PS.none fun _ _ _ => asg_bad
theorem pa_zip {g : Bool → Sym → Nat → Expr → E} (T : Told nm P run g) (G : Good X nm Y P run W) : ∀ {ts vs : List Expr}, ts.length = vs.length → PA X vs (tEs X.K nm W (rnOf P run) (zipE g Y ts vs))
  | [], [], _ => (pa_D (g := fun _ => E.bad) [] (fun e he => by cases he) :)
  | [], _ :: _, h => by simp at h
  | _ :: _, [], h => by simp at h
  | t :: ts, v :: vs, h => by
    simp only [zipE]
    by_cases hs : isStar v = true
    · rw [T.s Y _ v hs]
      exact PA.none fun _ _ _ => tEs_badHead
    · refine (pa_cons (T.e G (tgN Y t) v) (pa_zip T G (by simpa using h)) (star_cons (by simpa using hs) _ _)).weak fun σ H Q q => ?_
      refine tT_mono (bind1 Mono.c0 (f := fun env x S => (evEs (rnOf P run) (zipE g Y ts vs) env S).bind fun xs S => .ret (x :: xs) S) (tT_eq (fun env S => by simp [evEs]) q)) fun w H1 ⟨x, h3⟩ => ?_
      refine tT_mono (bind1s (Mono.c0.and .relD) h3) fun ws H2 ⟨xs, h4⟩ => ?_
      obtain ⟨r, c, k⟩ := tT_ret h4
      exact k (w :: ws) ⟨w, ws, rfl, c.1.2, c.2⟩
theorem valE_sound {g : Bool → Sym → Nat → Expr → E} (T : Told nm P run g) (G : Good X nm Y P run W) (t v : Expr) : PE X v (tE X.K nm W (rnOf P run) (valE g Y t v)) := by
  unfold valE
  split
  · split
    · rename_i h
      exact pe_tupD (pa_zip T G h)
    · exact PE.none fun _ _ _ => tE_bad
  · exact irV_sound T G _ _
  · exact irV_sound T G _ v
theorem irA_sound {g : Bool → Sym → Nat → Expr → E} (T : Told nm P run g) (G : GoodS X nm Y P run W) (t v : Expr) (pos : Pos) : PS X (.Assign [t] v pos) (tSm X.K nm W (rnOf P run) below (irA g Y t v)) := by
  unfold irA
  split
  · rename_i o f p
    cases hf : find? Y.att f with
    | none => exact PS.none fun _ _ _ => sm_bad
    | some i => exact ps_fldD G.toGood hf (T.e G.toGood 0 o) (irV_sound T G.toGood _ v) (sw_att _ _)
  · rename_i hatt
    split
    · exact PS.none fun _ _ _ => sm_bad
    rename_i tq htq
    by_cases hc : (isSD v || decide (Y.sc.kind ≠ .function)) = true
    · rw [if_pos hc]; exact PS.none fun _ _ _ => sm_bad
    rw [if_neg hc]
    simp only [Bool.or_eq_true, not_or, Bool.not_eq_true, decide_eq_false_iff_not, Decidable.not_not] at hc
    have hk : X.env.scope.kind = .function := by rw [← G.eS]; exact hc.2
    have hv := valE_sound T G.toGood t v
    have hg : PG X t (tTg X.K nm (rnOf P run) tq) := pg_tgD G.toGood G.hz T htq
    have plain : swapT Y t v = .no → swapsWithSole [t] v pos.line X.env = pure false → PS X (.Assign [t] v pos) (tSm X.K nm W (rnOf P run) below (.asg tq (valE g Y t v))) := fun h1 h2 =>
      ps_asgD hv hg h2 (sw_no G.eS hk h1) (assign_one htq _)
    split
    · exact PS.none fun _ _ _ => sm_bad
    · rename_i hsw
      by_cases hlc : isLC v = true
      · -- a comprehension
        cases v <;> first | (simp [isLC] at hlc; done) | (simp [isSD] at hc; done) | skip
        rename_i elt gens scope vpos
        cases hn : isName t with
        | none => exact plain (by cases t <;> first | rfl | exact absurd rfl (hsw)) (sw_other hn _ _)
        | some y =>
          cases t <;> simp [isName] at hn
          subst hn
          rename_i py
          rename_i y
          obtain ⟨i, hi, hst, rfl⟩ := name_tg htq
          have hsl := sw_lc (elt := elt) (gens := gens) (scope := scope) (pos := vpos) (y := y) (py := py) pos.line hk
          by_cases hB : (X.env.scope.names.lookup y == some .local && py.line == vpos.line && !(scope.names.any fun (n, k) => n == y && (k == .local || k == .cell))) = true
          · rw [hB] at hsl
            simp only [Bool.and_eq_true, beq_iff_eq] at hB
            exact compS_sound T G (tgN Y (.Name y py)) hi hB.1.1 hsl
          · simp only [Bool.not_eq_true] at hB
            rw [hB] at hsl
            exact plain rfl hsl
      · have hno : swapsWithSole [t] v pos.line X.env = pure false := sw_plain (by simpa using hlc) _ _ _
        cases hT : swapT Y t v with
        | no => exact plain hT hno
        | not => exact absurd hT (by assumption)
        | yes =>
          cases t <;> cases v <;> first | (simp [swapT] at hT; done) | skip
          rename_i ts k1 p1 vs k2 p2
          obtain ⟨_, hy⟩ := sw_yes G.eS hk hT
          rcases hy with ⟨x, y, px, py, a, b, rfl, rfl, c1, c2, hxy, hw⟩ | ⟨x, y, z, px, py, pz, a, b, c, rfl, rfl, c1, c2, c3, hxy, hxz, hyz, hw⟩
          · simp only [irTg, irTg.irTgs, Option.map_eq_some_iff, Option.bind_eq_some_iff] at htq
            obtain ⟨l, ⟨q1, ⟨n1, hq1, rfl⟩, l2, ⟨q2, ⟨n2, hq2, rfl⟩, l3, h3, rfl⟩, rfl⟩, rfl⟩ := htq
            cases h3
            obtain ⟨i, hi, _, e1⟩ := name_tg (g := g false Y 0) (q := .nm n1) (x := x) (p := px) (Y := Y) (by simp only [irTg, hq1, Option.map_some])
            obtain ⟨j, hj, _, e2⟩ := name_tg (g := g false Y 0) (q := .nm n2) (x := y) (p := py) (Y := Y) (by simp only [irTg, hq2, Option.map_some])
            rw [e1, e2]
            simp only [valE, if_pos (show [Expr.Name x px, Expr.Name y py].length = [a, b].length from rfl)]
            exact ps_parD G hi hj hxy c1 c2 (pa_zip T G.toGood rfl) hw
          · simp only [irTg, irTg.irTgs, Option.map_eq_some_iff, Option.bind_eq_some_iff] at htq
            obtain ⟨l, ⟨q1, ⟨n1, hq1, rfl⟩, l2, ⟨q2, ⟨n2, hq2, rfl⟩, l3, ⟨q3, ⟨n3, hq3, rfl⟩, l4, h4, rfl⟩, rfl⟩, rfl⟩, rfl⟩ := htq
            cases h4
            obtain ⟨i, hi, _, e1⟩ := name_tg (g := g false Y 0) (q := .nm n1) (x := x) (p := px) (Y := Y) (by simp only [irTg, hq1, Option.map_some])
            obtain ⟨j, hj, _, e2⟩ := name_tg (g := g false Y 0) (q := .nm n2) (x := y) (p := py) (Y := Y) (by simp only [irTg, hq2, Option.map_some])
            obtain ⟨m, hm, _, e3⟩ := name_tg (g := g false Y 0) (q := .nm n3) (x := z) (p := pz) (Y := Y) (by simp only [irTg, hq3, Option.map_some])
            rw [e1, e2, e3]
            simp only [valE, if_pos (show [Expr.Name x px, Expr.Name y py, Expr.Name z pz].length = [a, b, c].length from rfl)]
            exact ps_par3D G hi hj hm hxy hxz hyz c1 c2 c3 (pa_zip T G.toGood rfl) hw
end
end Ic

set_option Elab.async false
set_option linter.all false
set_option maxRecDepth 100000
set_option maxHeartbeats 1000000
/-! Ic5e: every translated statement. -/
namespace Ic
open PySem PySem.Spec PyProof.Rows L2
section
variable {nm : Nm} {Y : Sym} {P : Prog} {run : Nat → List D → Store → T D}
theorem irS_sound {g : Bool → Sym → Nat → Expr → E} (T : Told nm P run g) : ∀ (k : Nat) {X : Cx} {W : WX} (G : GoodS X nm Y P run W) (st : Stmt), PS X st (tSm X.K nm W (rnOf P run) P.below (irS g Y k st))
  | 0, X, W, G, st => by
    simp only [irS]
    exact PS.none fun _ _ _ => sm_bad
  | k + 1, X, W, G, st => by
    have GG := G.toGood
    have ss : ∀ sts : List Stmt, PSs X sts (tSs X.K nm W (rnOf P run) P.below (sts.map (irS g Y k))) := fun sts => pss_D sts fun s _ => irS_sound T k G s
    unfold irS
    split
    · -- Expr
      rename_i v pos
      by_cases h : isLC v = true
      · rw [if_pos h]; exact PS.none fun _ _ _ => sm_bad
      · rw [if_neg h]; exact ps_exprD (T.e GG 0 v) (sw_plain (by simpa using h) _ _ _)
    · exact irA_sound T G _ _ _
    · -- AugAssign
      rename_i t op v pos
      cases ho : opOf op with
      | none => exact PS.none fun _ _ _ => sm_bad
      | some o =>
        simp only [Option.map_some, Option.getD_some]
        rw [op_of ho]
        split
        · rename_i x p
          by_cases hx : Y.sto x = true
          · rw [if_pos hx]
            cases hi : Y.slot x with
            | none => exact PS.none fun _ _ _ => sm_bad
            | some i => exact ps_augD G hi hx (T.e GG 0 v)
          · rw [if_neg hx]; exact PS.none fun _ _ _ => sm_bad
        · rename_i a f p
          cases hf : find? Y.att f with
          | none => exact PS.none fun _ _ _ => sm_bad
          | some i => exact ps_augfD G hf (T.e GG 0 a) (T.e GG 0 v)
        · exact PS.none fun _ _ _ => sm_bad
    · exact ps_retD (T.e GG _ _)
    · exact ps_retND
    · exact ps_ifD (T.t GG _) (ss _) (ss _)
    · -- For
      rename_i t it body pos
      split
      · rename_i p hp
        by_cases hs : isSetE it = true
        · rw [if_pos hs]; exact PS.none fun _ _ _ => sm_bad
        · rw [if_neg hs]
          exact ps_forD GG G.ps (irI_sound T GG t it) (pg_D GG.calm GG.nd GG.eN G.hz hp) (ss _) (set_plain (by simpa using hs) _)
      · exact PS.none fun _ _ _ => sm_bad
    · exact ps_whlD G.ps (T.t GG _) (ss _)
    · exact ps_brkD
    · exact ps_cntD
    · exact ps_passD
    · -- Raise
      rename_i x p m j p2 pos' pos
      by_cases h : (x == "__debug__" || !Y.glo x) = true
      · rw [if_pos h]; exact PS.none fun _ _ _ => sm_bad
      · rw [if_neg h]
        simp only [Bool.or_eq_true, not_or, Bool.not_eq_true, Bool.not_eq_false'] at h
        cases hx : find? Y.exc x with
        | none => exact PS.none fun _ _ _ => sm_bad
        | some c => exact ps_raiseD G hx h.2 h.1
    · -- Try
      rename_i body h hs pos
      cases hh : irHs Y (h :: hs) with
      | none => exact PS.none fun _ _ _ => sm_bad
      | some as => exact ps_tryD G hh fun W' pn xe G' => pss_D body fun s _ => irS_sound T k G' s
    · exact PS.none fun _ _ _ => sm_bad
end
end Ic

set_option Elab.async false
set_option linter.all false
set_option maxRecDepth 100000
set_option maxHeartbeats 1000000
/-! Ic6: defs keep their promises. -/
namespace Ic
open PySem PySem.Spec PyProof.Rows L2
/-- a def: where it stands, its names, what its names stand for -/
structure FnD where
  x : Str
  qual : Str
  params : Arguments
  body : List Stmt
  scope : Scope
  ps : List Str
  N : List Str
  Y : Sym
  at_ : Str × Option Str
section
variable (K : PySem.W.Frag) (mg : Str → Option Value) (nm : Nm) (Pr : Prog) (ds : List FnD) (fa : Nat → Addr) (fd : Nat → FuncData)
/-- what the names of a body stand for, told from the text -/
structure SymOk (Y : Sym) : Prop where
  blt : ∀ x, Y.blt.contains x = true → mg x = none
  fns : ∀ x f n, find? Y.fns x = some (f, n) → mg x = some (.ref (fa f)) ∧ PySem.W.keepIn K (.ref (fa f)) = true ∧ ∃ d, ds[f]? = some d ∧ d.ps.length = n ∧
    ∀ q ∈ Y.kws, q.1 = x → ∃ (g : List Value → List Value → List Value) (gV : List V → List V → List V), KBinds K (fd f) d.ps q.2.2.1 g gV ∧ ∀ (as es zs : List D) (r : Rl) (H : Hp) vs ws, as.length = q.2.1 → es.length = q.2.2.1.length → permute (as ++ es) q.2.2.2 = some zs → Rels K nm r H as vs → Rels K nm r H es ws → Rels K nm r H zs (gV vs ws) ∧ zs.length = n
  glo : ∀ x (i : Nat), find? Y.globs x = some i → ∃ d u v, Pr.globs[i]? = some d ∧ mg x = some u ∧ RelV v u ∧ ∀ r H, Rel K nm r H d v
  att : ∀ x (i : Nat), find? Y.att x = some i → nm.att[i]? = some x
  cls : ∀ (c : Nat) C, nm.cls[c]? = some C → Cls K C ∧ ∀ x i, find? Y.att x = some i → NoAttr K C x
  mts : ∀ (c : Nat) C m i f, nm.cls[c]? = some C → find? Y.mts m = some i → Pr.mth c i = some f → ∃ d, ds[f]? = some d ∧ Meth K C m (fa f) ∧ m ∉ nm.att
  cni : ∀ x (c : Nat), find? Y.cls x = some c → ∃ f C d, Pr.init c = some f ∧ ds[f]? = some d ∧ nm.cls[c]? = some C ∧ mg x = some (.ref C) ∧ Mk K C (fa f)
  exc : ∀ x (c : Nat), find? Y.exc x = some c → ∃ (C : Addr) (B newId initId : String) (bmB : List Value), nm.exc[c]? = some C ∧ ExcBaseFacts B newId initId bmB ∧ PySem.W.excIn K C bmB newId = true ∧ mg x = some (.ref C) ∧ PySem.W.keepIn K (.ref C) = true ∧ PySem.W.subIn K (.ref C) (.type "BaseException") = some true ∧ PySem.W.typeIn K (.ref C) = some (.type "type")
/-- .. of all of the program -/
structure Base (m : Nat) : Prop where
  fun_ : ∀ (i : Nat) (d : FnD), ds[i]? = some d → ∃ dvs kws, FunD K d.x d.qual d.params d.body d.scope dvs kws (fa i) (fd i)
  bnd : ∀ (i : Nat) (d : FnD), ds[i]? = some d → Binds K (fd i) d.ps []
  sc : ∀ (i : Nat) (d : FnD), ds[i]? = some d → FnScope d.N d.ps d.scope
  code : ∀ (i : Nat) (d : FnD), ds[i]? = some d → Pr.fns[i]? = some ⟨d.ps.length, d.N.length, d.body.map (irS (ir m) d.Y m)⟩
  ys : ∀ (i : Nat) (d : FnD), ds[i]? = some d → d.Y.N = d.N ∧ d.Y.sc = d.scope
  sym : ∀ (i : Nat) (d : FnD), ds[i]? = some d → SymOk K mg nm Pr ds fa fd d.Y
  ainj : nm.att.Nodup
  tyC : ∀ (c : Nat) C, nm.cls[c]? = some C → PySem.W.findIn K (.ref C) "__class__" = some (some (.builtin "object.__class__")) ∧ PySem.W.specialIn K (.builtin "object.__class__") "__get__" = some (some (.builtin "getset_descriptor.__get__")) ∧ PySem.W.takesIn K (.builtin "object.__class__") = some true ∧ PySem.W.mroIn K C (.type "object") = some true
  bel : ∀ (c h : Nat) Cc Ch, nm.exc[c]? = some Cc → nm.exc[h]? = some Ch → PySem.W.exmOne K (.ref Cc) (.ref Ch) = some (Pr.below c h)
end
section
variable {P : Program} {w : World} {K : PySem.W.Frag} {mg : Str → Option Value} {base : Heap} {nm : Nm} {Pr : Prog} {ds : List FnD} {fa : Nat → Addr} {fd : Nat → FuncData} {m : Nat}
/-- the promise at level k -/
abbrev Ok (P : Program) (w : World) (K : PySem.W.Frag) (mg : Str → Option Value) (base : Heap) (nm : Nm) (Pr : Prog) (fa : Nat → Addr) (fd : Nat → FuncData) (k i : Nat) (d : FnD) : Prop := FnOk P w K mg base (L2.CX P w) (2 * k) (fa i) (fd i) d.ps (spF K nm d.ps.length (run Pr k i))
theorem spF_len0 {n : Nat} {t : List D → Store → T D} {vs : List V} {H : Hp} {Q : VK} {E : XK} (h : spF K nm n t vs H Q E) : vs.length = n := by
  obtain ⟨r, S, args, P', st, rl, hl, _⟩ := h
  rw [rl.length, hl]
theorem spF_bad {n : Nat} {t : List D → Store → T D} {vs : List V} {H : Hp} {Q : VK} {E : XK} (ht : ∀ args S, t args S = .bad) : ¬ spF K nm n t vs H Q E := by
  rintro ⟨r, S, args, P', st, rl, hl, al, _⟩
  rw [ht] at al
  exact al
theorem FnOk.never {k : Nat} {f : Addr} {fd : FuncData} {ps : List Str} {sp : Sp} {CX : CXT} (h : ∀ vs H Q E, ¬ sp vs H Q E) : FnOk P w K mg base CX k f fd ps sp := ⟨fun _ _ _ _ q => absurd q (h _ _ _ _), fun A outer s H args us vs Q E _ _ _ _ q => absurd q (h _ _ _ _)⟩
theorem run_len {k i : Nat} {fn : Fn} (he : Pr.ext i = none) (hf : Pr.fns[i]? = some fn) (args : List D) (S : Store) (h : args.length ≠ fn.np) : run Pr k i args S = .bad := by
  cases k with
  | zero => rfl
  | succ k => simp only [run, he, hf, some?_some, if_neg h]
/-- what is known where the body of the i-th def runs -/
theorem Base.good (B : Base K mg nm Pr ds fa fd m) (he : ∀ (i : Nat) (d : FnD), ds[i]? = some d → ∀ g, Pr.ext i = some g → ∀ (k : Nat) args S, args.length ≠ d.ps.length → run Pr k i args S = .bad) {k : Nat} (ih : ∀ (i : Nat) (d : FnD), ds[i]? = some d → Ok P w K mg base nm Pr fa fd k i d) {i : Nat} {d : FnD} (hd : ds[i]? = some d) (cdv : Value) (A : Around) (outer : List Env) (s : Shared) (H : Hp) (E : XK)
    (hr : Room (2 * k + 1) (A.deeper (envOfC d.qual d.scope s.heap.objs.size (fa i) cdv))) :
    GoodS (cxOf (L2.CX P w) P w K mg base d.N d.qual d.scope (fa i) cdv A outer s H E) nm d.Y Pr (run Pr k) (fun cls dx _ H => E cls dx H) := by
  have hS := B.sym i d hd
  have noLen : ∀ (f : Nat) d', ds[f]? = some d' → ∀ args S, args.length ≠ d'.ps.length → run Pr k f args S = .bad := fun f d' hd' args S hl => by
    cases hx : Pr.ext f with
    | some g => exact he f d' hd' g hx k args S hl
    | none => exact run_len hx (B.code f d' hd') args S hl
  refine ⟨⟨rfl, (B.sc i d hd).nd, (B.ys i d hd).1, (B.ys i d hd).2, takes_of rfl rfl rfl rfl, ?_, hS.blt, fun x f n hf => ?_, hS.glo, hS.att, B.ainj, hS.cls, B.tyC, fun c C mm ii f hC hm hP => ?_, fun x c hc => ?_⟩, fun _ _ => .inl rfl, passes_of rfl, rfl, rfl, fun x c hc => ?_, B.bel⟩
  · have := hr.un
    show (A.deeper _).units + 65 < cLine
    omega
  · obtain ⟨h1, h2, d', hd', hl, hk⟩ := hS.fns x f n hf
    refine ⟨fa f, 2 * k, fd f, d'.ps, h1, h2, ?_, hr.mono (by omega), B.bnd f d' hd', hl, hk⟩
    rw [← hl]
    exact ih f d' hd'
  · obtain ⟨d', hd', h1, h2⟩ := hS.mts c C mm ii f hC hm hP
    exact ⟨fa f, 2 * k, fd f, d'.ps, h1, ih f d' hd', hr.mono (by omega), B.bnd f d' hd', h2, noLen f d' hd'⟩
  · obtain ⟨f, C, d', h1, hd', h2, h3, h4⟩ := hS.cni x c hc
    exact ⟨f, C, 2 * k, fa f, fd f, d'.ps, h1, h2, h3, h4, ih f d' hd', hr, B.bnd f d' hd', noLen f d' hd'⟩
  · obtain ⟨C, Bn, newId, initId, bmB, h1, h2, h3, h4, h5, h6, h7⟩ := hS.exc x c hc
    exact ⟨C, Bn, newId, initId, bmB, h1, h2, h3, h4, h5, raises_own h6 h7⟩
theorem start_rel {r : Rl} {H : Hp} {args : List D} {vs : List V} {N : List Str} {n : Nat} (h : Rels K nm r H args vs) (hl : args.length = n) : EnvR K nm r H (args.map some ++ List.replicate (N.length - n) none) (start N vs) := by
  have hv := h.length
  refine ⟨by simp [L2.start, hv, hl], fun j d hj => ?_⟩
  by_cases hlt : j < args.length
  · rw [List.getElem?_append_left (by simpa using hlt), List.getElem?_map] at hj
    cases e : args[j]? with
    | none => rw [e] at hj; cases hj
    | some d0 =>
      rw [e] at hj
      cases hj
      obtain ⟨v, hv2, rv⟩ := h.get e
      refine ⟨v, ?_, rv⟩
      unfold L2.start
      rw [List.getElem?_append_left (by simp; omega), List.getElem?_map, hv2]
      rfl
  · rw [List.getElem?_append_right (by simpa using hlt), List.getElem?_replicate] at hj
    split at hj <;> cases hj
/-- every def keeps its promise -/
theorem Base.ok (B : Base K mg nm Pr ds fa fd m) (he : ∀ (i : Nat) (d : FnD), ds[i]? = some d → ∀ g, Pr.ext i = some g → ∀ (k : Nat) args S, args.length ≠ d.ps.length → run Pr k i args S = .bad) (hx : ∀ (i : Nat) (d : FnD), ds[i]? = some d → ∀ g, Pr.ext i = some g → ∀ k, Ok P w K mg base nm Pr fa fd (k + 1) i d) :
    ∀ (k i : Nat) (d : FnD), ds[i]? = some d → Ok P w K mg base nm Pr fa fd k i d
  | 0, i, d, hd => FnOk.never fun vs H Q E => spF_bad fun _ _ => rfl
  | k + 1, i, d, hd => by
    cases hext : Pr.ext i with
    | some g => exact hx i d hd g hext k
    | none =>
    have ih := Base.ok B he hx k
    obtain ⟨dvs, kws, F⟩ := B.fun_ i d hd
    refine F.ok (k := 2 * k + 1) (B.sc i d hd) (fun vs H Q E h => spF_len0 h) fun cdv A outer s H vs Q E hr h => ?_
    have G := B.good (P := P) (w := w) (base := base) he ih hd cdv A outer s H E hr
    refine ⟨tSs K nm (fun cls dx _ H => E cls dx H) (rnOf Pr (run Pr k)) Pr.below (d.body.map (irS (ir m) d.Y m)), pss_D d.body fun st _ => irS_sound (told nm Pr (run Pr k) m) m G st, ?_⟩
    obtain ⟨r, S, args, P', st, rl, hl, al, po⟩ := h
    simp only [run, hext, B.code i d hd, some?_some, if_pos hl] at al
    rw [T.All_bind, T.All_nox] at al
    refine ⟨r, _, S, st, start_rel (N := d.N) rl hl, trivial, al.mono (fun fl S' z => ?_) fun _ _ z => z⟩
    cases fl with
    | nx env => exact fun r' H' x s' σ en => po .non S' .non r' H' z x s' rfl
    | rt dd => exact fun r' H' x s' v q => po dd S' v r' H' z x s' q
    | bk env => exact z.elim
    | ct env => exact z.elim
    | ex e env => exact fun r' H' x s' σ en c dx q => z r' H' x s' c dx q
end
end Ic

set_option Elab.async false
set_option linter.all false
set_option maxRecDepth 100000
set_option maxHeartbeats 1000000
/-! Ic7: from the text's facts to the program's base (no classes but exceptions). -/
namespace Ic
open PySem PySem.Spec PyProof.Rows L2
/-- picked out by a list of places -/
def pm {α : Type} (xs : List α) (l : List Nat) : List α := l.filterMap (xs[·]?)
/-- what of a def is told from its text alone -/
structure DOk (d : FnD) (G : Sym) : Prop where
  bnd : ∀ (kV doc pm : Value) (an : Option Addr) (cdv ct : Value) (us : List Value), us.length = d.ps.length → bindArgs (PySem.W.fnOf d.x d.qual d.params d.body d.scope .none kV doc pm an cdv ct) ⟨us, []⟩ = pure (d.ps.zip us)
  sc : FnScope d.N d.ps d.scope
  ys : d.Y.N = d.N ∧ d.Y.sc = d.scope
  sfns : ∀ p ∈ d.Y.fns, p ∈ G.fns
  skws : ∀ p ∈ d.Y.kws, p ∈ G.kws
  sexc : ∀ p ∈ d.Y.exc, p ∈ G.exc
  sglo : ∀ p ∈ d.Y.globs, p ∈ G.globs
  sblt : ∀ p ∈ d.Y.blt, p ∈ G.blt
  satt : ∀ p ∈ d.Y.att, p ∈ G.att
  smts : ∀ p ∈ d.Y.mts, p ∈ G.mts
  scls : ∀ p ∈ d.Y.cls, p ∈ G.cls
/-- a call with keywords, told from the text -/
def KOk (d : FnD) (q : Str × Nat × List Str × List Nat) : Prop := d.ps ≠ [] ∧ q.2.2.2.length = d.ps.length ∧ q.2.1 + q.2.2.1.length = d.ps.length ∧ (∀ i ∈ q.2.2.2, i < d.ps.length) ∧
  ∀ (kV doc pm' : Value) (an : Option Addr) (cdv ct : Value) (us ws : List Value), us.length = q.2.1 → ws.length = q.2.2.1.length → bindArgs (PySem.W.fnOf d.x d.qual d.params d.body d.scope .none kV doc pm' an cdv ct) ⟨us, q.2.2.1.zip ws⟩ = pure (d.ps.zip (pm (us ++ ws) q.2.2.2))
def FnD.toD (d : FnD) : He.DefD := ⟨d.at_, d.x, d.qual, d.params, d.body, d.scope, [], []⟩
def globFa (Pr : Prog) (p : Str × Nat) : Option He.Fa := match Pr.globs[p.2]? with
  | some (D.int i) => some (.int p.1 i)
  | some (D.str s) => some (.str p.1 s)
  | _ => none
/-- the facts that are asked of the head -/
def fasOf (G : Sym) (ex : List Str) (Pr : Prog) : List He.Fa :=
  G.fns.map (fun p => .glo p.1) ++ (G.blt.map .free ++ (ex.map .glo ++ (ex.map .exc ++ ((ex.zipIdx.flatMap fun p => ex.zipIdx.map fun r => He.Fa.exm p.1 r.1 (Pr.below p.2 r.2)) ++
    G.globs.filterMap (globFa Pr)))))
/-- a constant of the module, as a value by names -/
def dvOf : D → Option He.Dv
  | .int i => some (.int i)
  | .str s => some (.str s)
  | .bl b => some (.bl b)
  | .non => some .non
  | _ => none
def dvsOf : List D → Option (List He.Dv)
  | [] => some []
  | d :: ds => (dvOf d).bind fun v => (dvsOf ds).map fun vs => v :: vs
/-- .. of classes: their names, their methods, their makers, attributes that are none of theirs -/
def fasC (cl at' : List Str) (ds : List FnD) (G : Sym) (Pr : Prog) : List He.Fa :=
  cl.map .glo ++ (cl.map .cls ++ ((G.cls.map fun p => .mkr p.1) ++ ((cl.flatMap fun c => at'.map fun f => He.Fa.noat c f) ++ ((ds.filterMap fun d => d.at_.2.map fun m => He.Fa.meth d.at_.1 m) ++
    G.globs.filterMap fun p => match Pr.globs[p.2]? with
      | some (D.tup _) => some (.glo p.1)
      | _ => none))))
/-- .. what is asked of the head besides: the class of an instance, tuples -/
def tyB (K : PySem.W.Frag) (x : Str) : Bool := He.eqO (PySem.W.findIn K (.ref (He.ga K x)) "__class__") (some (some (.builtin "object.__class__"))) &&
  (He.eqO (PySem.W.specialIn K (.builtin "object.__class__") "__get__") (some (some (.builtin "getset_descriptor.__get__"))) && (decide (PySem.W.takesIn K (.builtin "object.__class__") = some true) && decide (PySem.W.mroIn K (He.ga K x) (.type "object") = some true)))
def exOf (cl : List Str) (G : Sym) (Pr : Prog) (K : PySem.W.Frag) : Bool := (cl.all fun x => tyB K x) && G.globs.all fun p => match Pr.globs[p.2]? with
  | some (D.tup ds) => (match dvsOf ds with
    | some vs => He.tupB K p.1 vs
    | none => false)
  | _ => true
section
theorem pm_vals {us : List V} {ws : List Value} (h : Vals us ws) : ∀ (l : List Nat), Vals (pm us l) (pm ws l)
  | [] => .nil
  | i :: l => by
    have ih := pm_vals h l
    unfold pm at ih ⊢
    rw [List.filterMap_cons, List.filterMap_cons]
    cases e : us[i]? with
    | none =>
      have hl := h.length
      have : ws[i]? = none := by
        rw [List.getElem?_eq_none_iff] at e ⊢
        omega
      rw [this]
      exact ih
    | some v =>
      obtain ⟨u, hu, r⟩ := h.get e
      rw [hu]
      exact .cons r ih
theorem pm_length {α : Type} {xs : List α} : ∀ {l : List Nat}, (∀ i ∈ l, i < xs.length) → (pm xs l).length = l.length
  | [], _ => rfl
  | i :: l, h => by
    unfold pm
    rw [List.filterMap_cons, List.getElem?_eq_getElem (h i List.mem_cons_self)]
    exact congrArg (· + 1) (pm_length (l := l) fun j hj => h j (List.mem_cons_of_mem _ hj))
theorem permG_rel {K : PySem.W.Frag} {nm : Nm} {r : Rl} {H : Hp} {ds : List D} {vs : List V} (h : Rels K nm r H ds vs) : ∀ {l : List Nat} {zs : List D}, permG ds l = some zs → Rels K nm r H zs (pm vs l) ∧ zs.length = l.length
  | [], zs, e => by
    simp only [permG] at e
    cases e
    exact ⟨rfl, rfl⟩
  | i :: l, zs, e => by
    simp only [permG, Option.bind_eq_some_iff] at e
    obtain ⟨d, hd, e⟩ := e
    obtain ⟨q, hq, rfl⟩ := Option.map_eq_some_iff.mp e
    obtain ⟨ih, il⟩ := permG_rel h hq
    obtain ⟨v, hv, rv⟩ := h.get hd
    refine ⟨?_, by simp [il]⟩
    unfold pm
    rw [List.filterMap_cons, hv]
    exact ⟨v, _, rfl, rv, ih⟩
theorem dvOf_rel {K : PySem.W.Frag} {nm : Nm} {r : Rl} {H : Hp} {d : D} {v : He.Dv} (h : dvOf d = some v) : Rel K nm r H d (v.v K) := by
  cases d <;> simp only [dvOf, Option.some.injEq, reduceCtorEq] at h <;> subst h <;> rfl
theorem dvsOf_rel {K : PySem.W.Frag} {nm : Nm} {r : Rl} {H : Hp} : ∀ {ds : List D} {vs : List He.Dv}, dvsOf ds = some vs → Rels K nm r H ds (vs.map (He.Dv.v K))
  | [], vs, h => by
    simp only [dvsOf, Option.some.injEq] at h
    subst h
    rfl
  | d :: ds, vs, h => by
    simp only [dvsOf, Option.bind_eq_some_iff] at h
    obtain ⟨v, hv, h⟩ := h
    obtain ⟨ws, hw, rfl⟩ := Option.map_eq_some_iff.mp h
    exact ⟨v.v K, _, rfl, dvOf_rel hv, dvsOf_rel hw⟩
/-- the program's base, from the facts of the head -/
theorem mkBase {K : PySem.W.Frag} {mg : Str → Option Value} {h : Heap} {ds : List FnD} {Pr : Prog} {G : Sym} {ex : List Str} {rg : Option (List Int) → List Int → Prop} {m : Nat} {cl at' : List Str} (X : K.In h) (hg : h.Ns mainGlobals mg)
    (fact : ∀ f ∈ fasOf G ex Pr, f.ok K = true) (factC : ∀ f ∈ fasC cl at' ds G Pr, f.ok K = true) (hex : exOf cl G Pr K = true) (hdef : ∀ d ∈ ds, ∃ fd, FunD K d.x d.qual d.params d.body d.scope [] [] (He.fAd K d.at_) fd)
    (hD : ∀ d ∈ ds, DOk d G) (hcode : Pr.fns = ds.map fun d => ⟨d.ps.length, d.N.length, d.body.map (irS (ir m) d.Y m)⟩) (hnd : (ds.map (·.at_)).Nodup)
    (hf : (G.fns.all fun p => match ds[p.2.1]? with | some d => d.at_ == (p.1, none) && d.ps.length == p.2.2 | none => false) = true)
    (hk : ∀ q ∈ G.kws, ∃ d ∈ ds, d.at_ = (q.1, none) ∧ KOk d q)
    (he : ∀ p ∈ G.exc, ex[p.2]? = some p.1)
    (hgl : (G.globs.all fun p => match Pr.globs[p.2]? with | some (D.int _) => true | some (D.str _) => true | some (D.tup _) => true | _ => false) = true)
    (hat : (G.att.all fun p => at'[p.2]? == some p.1) = true) (hatn : at'.Nodup)
    (hmt : (G.mts.all fun p => (List.range cl.length).all fun c => match Pr.mth c p.2 with
      | none => true
      | some f => (match ds[f]?, cl[c]? with | some d, some C => d.at_ == (C, some p.1) && !(at'.contains p.1) | _, _ => false)) = true)
    (hin : (G.cls.all fun p => match Pr.init p.2, cl[p.2]? with
      | some f, some C => C == p.1 && (match ds[f]? with | some d => d.at_ == (p.1, some ("__init__" : Str)) | none => false)
      | _, _ => false) = true) :
    ∃ fd : Nat → FuncData, Base K mg ⟨cl.map (He.ga K), at', ex.map (He.ga K), rg⟩ Pr ds (fun i => ((ds[i]?).map fun d => He.fAd K d.at_).getD 0) fd m := by
  have hf : ∀ p ∈ G.fns, ∃ d, ds[p.2.1]? = some d ∧ d.at_ = (p.1, none) ∧ d.ps.length = p.2.2 ∧ ∀ q ∈ G.kws, q.1 = p.1 → KOk d q := fun p hp => by
    have h1 := List.all_eq_true.mp hf p hp
    cases e : ds[p.2.1]? with
    | none => rw [e] at h1; cases h1
    | some d =>
      rw [e] at h1
      simp only [Bool.and_eq_true, beq_iff_eq] at h1
      refine ⟨d, rfl, h1.1, h1.2, fun q hq hqx => ?_⟩
      obtain ⟨d', hm, hx, hK⟩ := hk q hq
      have : d' = d := by
        obtain ⟨j, hj, ej⟩ := List.getElem_of_mem hm
        obtain ⟨hi, ei⟩ := List.getElem?_eq_some_iff.mp e
        have hij : (ds.map (·.at_))[j]'(by simpa using hj) = (ds.map (·.at_))[p.2.1]'(by simpa using hi) := by
          rw [List.getElem_map, List.getElem_map, ej, ei, hx, hqx, h1.1]
        have := (List.getElem_inj hnd).mp hij
        subst this
        rw [← ej, ← ei]
      rw [← this]
      exact hK
  have hgl : ∀ p ∈ G.globs, (∃ i, Pr.globs[p.2]? = some (D.int i)) ∨ (∃ s, Pr.globs[p.2]? = some (D.str s)) ∨ ∃ s, Pr.globs[p.2]? = some (D.tup s) := fun p hp => by
    have h1 := List.all_eq_true.mp hgl p hp
    split at h1
    · rename_i i e; exact .inl ⟨i, e⟩
    · rename_i i e; exact .inr (.inl ⟨i, e⟩)
    · rename_i i e; exact .inr (.inr ⟨i, e⟩)
    · cases h1
  have hfd : ∀ i : Nat, ∃ fd : FuncData, ∀ (d : FnD), ds[i]? = some d → FunD K d.x d.qual d.params d.body d.scope [] [] (He.fAd K d.at_) fd := fun i => by
    cases e : ds[i]? with
    | none => exact ⟨default, fun d h => by cases h⟩
    | some d =>
      obtain ⟨fd, F⟩ := hdef d (List.mem_of_getElem? e)
      exact ⟨fd, fun d' h => by cases h; exact F⟩
  refine ⟨fun i => Classical.choose (hfd i), ?_⟩
  have F : ∀ (i : Nat) (d : FnD), ds[i]? = some d → FunD K d.x d.qual d.params d.body d.scope [] [] (He.fAd K d.at_) (Classical.choose (hfd i)) := fun i d e => Classical.choose_spec (hfd i) d e
  have f1 : ∀ p ∈ G.fns, mg p.1 = some (.ref (He.ga K p.1)) := fun p hp => He.glo_ok X hg (fact _ (List.mem_append_left _ (List.mem_map.mpr ⟨p, hp, rfl⟩)))
  have f2 : ∀ x ∈ G.blt, mg x = none := fun x hx => He.free_ok X hg (fact _ (List.mem_append_right _ (List.mem_append_left _ (List.mem_map.mpr ⟨x, hx, rfl⟩))))
  have f3 : ∀ x ∈ ex, mg x = some (.ref (He.ga K x)) := fun x hx => He.glo_ok X hg (fact _ (List.mem_append_right _ (List.mem_append_right _ (List.mem_append_left _ (List.mem_map.mpr ⟨x, hx, rfl⟩)))))
  have f4 := fun x (hx : x ∈ ex) => He.exc_ok (fact (.exc x) (List.mem_append_right _ (List.mem_append_right _ (List.mem_append_right _ (List.mem_append_left _ (List.mem_map.mpr ⟨x, hx, rfl⟩))))))
  have f5 : ∀ (i j : Nat) x y, ex[i]? = some x → ex[j]? = some y → PySem.W.exmOne K (.ref (He.ga K x)) (.ref (He.ga K y)) = some (Pr.below i j) := fun i j x y hi hj =>
    He.exm_ok (fact _ (List.mem_append_right _ (List.mem_append_right _ (List.mem_append_right _ (List.mem_append_right _ (List.mem_append_left _ (List.mem_flatMap.mpr ⟨(x, i), List.mem_zipIdx_iff_getElem?.mpr hi, List.mem_map.mpr ⟨(y, j), List.mem_zipIdx_iff_getElem?.mpr hj, rfl⟩⟩)))))))
  have fl : ∀ p ∈ G.globs, ∀ f, globFa Pr p = some f → f.ok K = true := fun p hp f e => fact f (List.mem_append_right _ (List.mem_append_right _ (List.mem_append_right _ (List.mem_append_right _ (List.mem_append_right _ (List.mem_filterMap.mpr ⟨p, hp, e⟩))))))
  obtain ⟨hx1, hx2⟩ := He.ba hex
  have c1 : ∀ x ∈ cl, mg x = some (.ref (He.ga K x)) := fun x hx => He.glo_ok X hg (factC _ (List.mem_append_left _ (List.mem_map.mpr ⟨x, hx, rfl⟩)))
  have c2 : ∀ x ∈ cl, Cls K (He.ga K x) := fun x hx => He.cls_ok (factC _ (List.mem_append_right _ (List.mem_append_left _ (List.mem_map.mpr ⟨x, hx, rfl⟩))))
  have c3 : ∀ p ∈ G.cls, Mk K (He.ga K p.1) (He.ma K (He.ga K p.1) "__init__") := fun p hp => He.mkr_ok (factC _ (List.mem_append_right _ (List.mem_append_right _ (List.mem_append_left _ (List.mem_map.mpr ⟨p, hp, rfl⟩)))))
  have c4 : ∀ x ∈ cl, ∀ f ∈ at', NoAttr K (He.ga K x) f := fun x hx f hf => He.noat_ok (factC _ (List.mem_append_right _ (List.mem_append_right _ (List.mem_append_right _ (List.mem_append_left _ (List.mem_flatMap.mpr ⟨x, hx, List.mem_map.mpr ⟨f, hf, rfl⟩⟩))))))
  have c5 : ∀ d ∈ ds, ∀ C m', d.at_ = (C, some m') → Meth K (He.ga K C) m' (He.ma K (He.ga K C) m') := fun d hd C m' e => He.meth_ok (factC _ (List.mem_append_right _ (List.mem_append_right _ (List.mem_append_right _ (List.mem_append_right _ (List.mem_append_left _ (List.mem_filterMap.mpr ⟨d, hd, by rw [e]; rfl⟩)))))))
  have c6 : ∀ p ∈ G.globs, ∀ zs, Pr.globs[p.2]? = some (D.tup zs) → mg p.1 = some (.ref (He.ga K p.1)) := fun p hp zs e => He.glo_ok X hg (factC _ (List.mem_append_right _ (List.mem_append_right _ (List.mem_append_right _ (List.mem_append_right _ (List.mem_append_right _ (List.mem_filterMap.mpr ⟨p, hp, by simp only [e]⟩)))))))
  have atI : ∀ p ∈ G.att, at'[p.2]? = some p.1 := fun p hp => by simpa using List.all_eq_true.mp hat p hp
  have fm : ∀ {α : Type} {l : List (Str × α)} {x : Str} {a : α}, find? l x = some a → (x, a) ∈ l := fun {α l x a} e => by
    unfold find? at e
    obtain ⟨p, hp, rfl⟩ := Option.map_eq_some_iff.mp e
    have h1 := List.find?_some hp
    have h2 := List.mem_of_find?_eq_some hp
    have : p.1 = x := by simpa using h1
    rw [← this]
    exact h2
  refine ⟨fun i d e => ⟨[], [], by simpa [e] using F i d e⟩, fun i d e => (F i d e).bindsN (hD d (List.mem_of_getElem? e)).bnd, fun i d e => (hD d (List.mem_of_getElem? e)).sc, fun i d e => by rw [hcode, List.getElem?_map, e]; rfl,
    fun i d e => (hD d (List.mem_of_getElem? e)).ys, fun i d e => ?_, hatn, fun c C hC => ?_, fun i j Ci Cj hi hj => ?_⟩
  · have O := hD d (List.mem_of_getElem? e)
    refine ⟨fun x hx => f2 x (O.sblt x (by simpa using hx)), fun x f n hx => ?_, fun x i hx => ?_, (fun x i hx => atI _ (O.satt _ (fm hx))), (fun c C hC => ?_), (fun c C mm i f hC hm hP => ?_), (fun x c hx => ?_), fun x c hx => ?_⟩
    · have hm := O.sfns _ (fm hx)
      obtain ⟨d', hd', hx', hl', hk'⟩ := hf _ hm
      have hx'' : d'.at_ = (x, none) := hx'
      refine ⟨?_, ?_, d', hd', hl', fun q hq hqx => ?_⟩
      · simp only [hd', Option.map_some, Option.getD_some]
        rw [hx'']
        exact f1 _ hm
      · simp only [hd', Option.map_some, Option.getD_some]
        exact (F f d' hd').kp
      · obtain ⟨k1, k2, k3, k4, k5⟩ := hk' q (O.skws q hq) hqx
        refine ⟨fun us ws => if us.length = q.2.1 ∧ ws.length = q.2.2.1.length then pm (us ++ ws) q.2.2.2 else [], fun vs zs => if vs.length = q.2.1 ∧ zs.length = q.2.2.1.length then pm (vs ++ zs) q.2.2.2 else [], ⟨fun s us ws _ hlen => ?_, fun {vs us zs ws} h1 h2 => ?_⟩, fun as es zs r H vs ws ha hes hp hvs hws => ?_⟩
        · by_cases hcc : us.length = q.2.1 ∧ ws.length = q.2.2.1.length
          · rw [if_pos hcc]
            obtain ⟨oc, od, dV, kV, doc, pm', an, cdv, ct, osl, efd, lk, hcd, hDf, hK⟩ := (F f d' hd').ex
            rcases hDf with ⟨_, rfl⟩ | ⟨ee, _⟩
            · show BindsTo s (Classical.choose (hfd f)) _ _
              rw [efd]
              exact .of_eq (k5 kV doc pm' an cdv ct us ws hcc.1 hcc.2)
            · exact absurd rfl ee
          · rw [if_neg hcc] at hlen
            exact absurd (List.length_eq_zero_iff.mp (by simpa using hlen.symm)) k1
        · have l1 := h1.length
          have l2 := h2.length
          by_cases hcc : vs.length = q.2.1 ∧ zs.length = q.2.2.1.length
          · rw [if_pos hcc, if_pos (by rw [← l1, ← l2]; exact hcc)]
            exact pm_vals (h1.append h2) _
          · rw [if_neg hcc, if_neg (by rw [← l1, ← l2]; exact hcc)]
            exact .nil
        · dsimp only
          rw [if_pos ⟨by rw [hvs.length]; exact ha, by rw [hws.length]; exact hes⟩]
          unfold permute at hp
          split at hp
          · obtain ⟨h1, h2⟩ := permG_rel (hvs.append hws) hp
            exact ⟨h1, by rw [h2, k2]; exact hl'⟩
          · cases hp
    · have hm := O.sglo _ (fm hx)
      rcases hgl _ hm with ⟨j, hj⟩ | ⟨s, hs⟩ | ⟨zs, hs⟩
      · obtain ⟨t, ht⟩ := He.int_ok X hg (fl _ hm (.int x j) (by simp only [globFa, hj]))
        exact ⟨.int j, .int j t, .int j, hj, ht, ⟨t, rfl⟩, fun _ _ => rfl⟩
      · obtain ⟨t, ht⟩ := He.str_ok X hg (fl _ hm (.str x s) (by simp only [globFa, hs]))
        exact ⟨.str s, .str s t, .str s, hs, ht, ⟨t, rfl⟩, fun _ _ => rfl⟩
      · have h1 := List.all_eq_true.mp hx2 _ hm
        simp only [hs] at h1
        cases ev : dvsOf zs with
        | none => rw [ev] at h1; cases h1
        | some vs =>
          rw [ev] at h1
          exact ⟨.tup zs, .ref (He.ga K x), .ref (He.ga K x), hs, c6 _ hm zs hs, rfl, fun r H => ⟨He.ga K x, _, rfl, He.tupB_ok h1 H, dvsOf_rel ev⟩⟩
    · obtain ⟨x, hx, rfl⟩ := Option.map_eq_some_iff.mp ((List.getElem?_map ..).symm.trans hC)
      have hxm := List.mem_of_getElem? hx
      exact ⟨c2 x hxm, fun y i hy => c4 x hxm y (List.mem_of_getElem? (atI _ (O.satt _ (fm hy))))⟩
    · obtain ⟨x, hx, rfl⟩ := Option.map_eq_some_iff.mp ((List.getElem?_map ..).symm.trans hC)
      have hcl := (List.getElem?_eq_some_iff.mp hx).1
      have h1 := List.all_eq_true.mp (List.all_eq_true.mp hmt _ (O.smts _ (fm hm))) c (List.mem_range.mpr hcl)
      simp only [hP, hx] at h1
      cases ef : ds[f]? with
      | none => rw [ef] at h1; cases h1
      | some d' =>
        rw [ef] at h1
        simp only [Bool.and_eq_true, beq_iff_eq, Bool.not_eq_true', List.contains_eq_mem, decide_eq_false_iff_not] at h1
        refine ⟨d', rfl, ?_, h1.2⟩
        have := c5 d' (List.mem_of_getElem? ef) x mm h1.1
        simp only [ef, Option.map_some, Option.getD_some]
        rw [h1.1]
        exact this
    · have hm := O.scls _ (fm hx)
      have h1 := List.all_eq_true.mp hin _ hm
      simp only at h1
      cases e1 : Pr.init c with
      | none => rw [e1] at h1; cases h1
      | some f =>
        cases e2 : cl[c]? with
        | none => rw [e1, e2] at h1; cases h1
        | some C =>
          rw [e1, e2] at h1
          replace h1 : (C == x && (match ds[f]? with | some d => d.at_ == (x, some ("__init__" : Str)) | none => false)) = true := h1
          cases e3 : ds[f]? with
          | none => rw [e3] at h1; simp at h1
          | some d' =>
            rw [e3] at h1
            simp only [Bool.and_eq_true, beq_iff_eq] at h1
            obtain ⟨rfl, h2⟩ := h1
            refine ⟨f, He.ga K C, d', rfl, e3, by rw [List.getElem?_map, e2]; rfl, c1 C (List.mem_of_getElem? e2), ?_⟩
            simp only [e3, Option.map_some, Option.getD_some]
            rw [h2]
            exact c3 _ hm
    · have hm := O.sexc _ (fm hx)
      have hxe := he _ hm
      have hme := List.mem_of_getElem? hxe
      obtain ⟨e1, e2, e3, e4⟩ := f4 x hme
      exact ⟨He.ga K x, _, _, _, _, by rw [List.getElem?_map, hxe]; rfl, PySem.F.excBase_ValueError, e1, f3 x hme, e2, e3, e4⟩
  · obtain ⟨x, hx, rfl⟩ := Option.map_eq_some_iff.mp ((List.getElem?_map ..).symm.trans hC)
    have h1 := List.all_eq_true.mp hx1 x (List.mem_of_getElem? hx)
    obtain ⟨h2, h1⟩ := He.ba h1
    obtain ⟨h3, h1⟩ := He.ba h1
    obtain ⟨h4, h5⟩ := He.ba h1
    exact ⟨He.eqO_ok h2, He.eqO_ok h3, of_decide_eq_true h4, of_decide_eq_true h5⟩
  · rw [List.getElem?_map] at hi hj
    obtain ⟨x, hx, rfl⟩ := Option.map_eq_some_iff.mp hi
    obtain ⟨y, hy, rfl⟩ := Option.map_eq_some_iff.mp hj
    exact f5 i j x y hx hy
end
end Ic

set_option Elab.async false
set_option linter.all false
set_option maxRecDepth 100000
set_option maxHeartbeats 1000000
/-! Ic8: the law's end; sources of draws. -/
namespace Ic
open PySem PySem.Spec PyProof.Rows L2
/-- as walk_ofE, exceptions may leave the law's helpers -/
theorem walk_ofW {l : PySem.W.OpenLaw} {n k : Nat} {q : Program} {loose : List Str} {XP : (Str → Option Value) → Heap → Prop} {YP : World → Heap → Prop} {d : DefRec} {CX : World → CXT} {x : Str}
    (hn : l.most = some n) (hn2 : n ≤ sizeLine) (hdf : d.params.defaults = []) (hr : Room k callerA)
    (F : ∀ (w : World) (mg : Str → Option Value) (fa : Addr) (h : Heap), YP w h → h.Ns mainGlobals mg → mg d.name = some (.ref fa) →
      ∃ (K : PySem.W.Frag) (fd : FuncData) (sp : Sp), K.In h ∧ (∀ (s : Shared) (u : Value), BindsTo s fd ⟨[u], []⟩ [(x, u)]) ∧
        (∀ (H : Hp) (a : Addr) (ns : List Int), ns.length ≤ n → Only H → SqL K H a (ns.map V.int) → sp [.ref a] H (fun v _ => v = .bl true) fun _ _ _ => False) ∧
        ∀ base : Heap, K.In base → base.Ns mainGlobals mg → FnOk l.prog w K mg base (CX w) k fa fd [x] sp)
    (hCX : ∀ (w : World) (H : Hp) (s : Shared) (e : Value) (s' : Shared), CX w [] H s (fun _ _ _ => False) e s' → False) :
    PySem.W.WalkO q loose XP YP l.row.toRowW d [] (fun f vs => PySem.call f vs) := by
  refine Att.attach_call hn hdf fun w s₀ s₁ mg mb fa o pm cd doc a vs ns G Y ho hd hcd hmg hobj hints hlen hg => ?_
  obtain ⟨K, fd, sp, KX, hb, hsp, hF⟩ := F w mg fa _ Y G.T.g hmg
  exact law_call KX G.T.g G.T.b G.T.builtins G.T.nolimit hg hobj hints (Nat.le_trans hlen hn2) hr hF hb (fun H hO hS => hsp H a ns hlen hO hS) fun H e s' => hCX w H s₁ e s'
theorem cx_false {P : Program} {w : World} {H : Hp} {s s' : Shared} {e : Value} (h : L2.CX P w [] H s (fun _ _ _ => False) e s') : False := by
  obtain ⟨_, _, _, _, _, _, _, _, _, _, _, _, z⟩ := h
  exact z
section
variable {K : PySem.W.Frag} {nm : Nm} {r r' : Rl} {H H' : Hp} {S S' : Store}
theorem Off.nil (a : Addr) : Off ⟨[], [], []⟩ a := ⟨by simp, by simp, by simp⟩
theorem Sto.nil : Sto K nm ⟨[], [], []⟩ H [] := ⟨rfl, .nil, fun a h => (by simp at h), fun a h => (by simp at h), fun a h => (by simp at h), fun a h => (by simp at h), fun n a d h _ => (by simp at h)⟩
/-- the law's promise from the plain law -/
theorem law_sp {t : List D → Store → T D} {a : Addr} {ns : List Int} (hS : SqL K H a (ns.map V.int)) (h : (t [.scr ns] []).All (fun d _ => d = .bl true) fun _ _ => False) :
    spF K nm 1 t [.ref a] H (fun v _ => v = .bl true) fun _ _ _ => False := by
  refine ⟨⟨[], [], []⟩, [], [.scr ns], _, Sto.nil, ⟨_, [], rfl, ⟨a, rfl, ?_⟩, rfl⟩, rfl, h.mono (fun _ _ z => z) (fun _ _ z => z.elim), fun d S' v r' H' e x s q => ?_⟩
  · rcases hS with h | h
    · exact .inl ⟨h, Off.nil a⟩
    · exact .inr h
  · subst e
    exact q
/-! ### a maker of a source -/
/-- the source's object, as plain data -/
def isSrc (rg : Option (List Int) → List Int → Prop) (c : D) : Prop := (∃ ns is, c = .lst (.lst (ns.map .int) :: is.map .int) ∧ rg (some ns) is) ∨ ∃ is, c = .lst (is.map .int) ∧ rg none is
theorem ints_rel {r : Rl} {H : Hp} : ∀ {ns : List Int} {vs : List V}, Rels K nm r H (ns.map .int) vs → vs = ns.map V.int
  | [], vs, h => h
  | n :: ns, vs, h => by
    obtain ⟨v, ws, rfl, h1, h2⟩ := h
    cases h1
    rw [ints_rel h2]
    rfl
theorem rel_ints {r : Rl} {H : Hp} : ∀ (ns : List Int), Rels K nm r H (ns.map .int) (ns.map V.int)
  | [] => rfl
  | n :: ns => ⟨.int n, _, rfl, rfl, rel_ints ns⟩
theorem src_of {c : D} {a : Addr} (h : isSrc nm.rg c) (cel : Cel K nm r H c a) : Src nm r H a := by
  rcases h with ⟨ns, is, rfl, g⟩ | ⟨is, rfl, g⟩
  rotate_left
  · obtain ⟨vs, q, z⟩ := cel
    rw [ints_rel z] at q
    exact .inr ⟨is, q, g⟩
  obtain ⟨vs, q, z⟩ := cel
  obtain ⟨v, ws, rfl, h1, h2⟩ := z
  obtain ⟨b, us, rfl, of, q2, z2⟩ := h1
  rw [ints_rel h2] at q
  rw [ints_rel z2] at q2
  exact .inl ⟨b, ns, is, q, q2, of, g⟩
/-- a new object that is a source becomes a token -/
theorem Sto.tok (st : Sto K nm r H S) (x : Ext K r.inn H r' H') (st' : Sto K nm r' H' S') {n : Nat} {a : Addr} {c : D} (hm : r'.m[n]? = some a) (hc : S'[n]? = some c) (hs : isSrc nm.rg c) :
    Ext K r H ⟨r.m, a :: r'.R, r.B⟩ H' ∧ Sto K nm ⟨r.m, a :: r'.R, r.B⟩ H' S := by
  have oo := out_off x st'
  have ofa := oo.2 n a hm
  have na : H a = none := x.new n a (Nat.zero_le _) hm
  have am := List.mem_of_getElem? hm
  have off1 : ∀ b, Off r' b → Off ⟨r.m, a :: r'.R, r.B⟩ b := fun b h => ⟨(oo.1 b h).1, fun q => by
    rcases List.mem_cons.mp q with q | q
    · exact h.1 (q ▸ am)
    · exact h.2.1 q, (oo.1 b h).2.2⟩
  have so := st.out x st'
  have x1 : Ext K r H ⟨r.m, a :: r'.R, r.B⟩ H' := ⟨⟨List.prefix_rfl, fun b h => List.mem_cons_of_mem _ (x.sub b h), x.tup, fun b o h of => ⟨(x.keep b o h (Rl.inn_off.mpr of)).1, off1 b (x.keep b o h (Rl.inn_off.mpr of)).2⟩, fun k b h e => by
    have := (List.getElem?_eq_some_iff.mp e).1
    exact absurd this (Nat.not_lt.mpr h), x.there⟩, rfl, fun b h o q => x.bus b (List.mem_append_right _ h) o q⟩
  have eqm : ∀ b ∈ r.m, H' b = H b := fun b h => by
    obtain ⟨u, hu⟩ := st.tracked h
    rw [x.bus b (List.mem_append_left _ h) u hu, hu]
  refine ⟨x1, st.len, st.nd, fun b h => ⟨fun q => ?_, (st.dj b h).2⟩, fun b h => ?_, so.bt, fun b h => ?_, fun k b d h1 h2 => (st.cel k b d h1 h2).ext0 x1.toExt0 (eqm b (List.mem_of_getElem? h1))⟩
  · rcases List.mem_cons.mp q with q | q
    · exact ofa.1 (q ▸ h)
    · exact (so.dj b h).1 q
  · rcases List.mem_cons.mp h with q | q
    · rw [q]; exact ofa.2.2
    · exact so.dR b q
  · rcases List.mem_cons.mp h with q | q
    · rw [q]
      exact (src_of hs (st'.cel n a c hm hc)) |>.off off1
    · exact (st'.src b q).off off1
/-- a maker: what is proved of it with lists, told with the token -/
theorem maker_sp {n : Nat} {t t' : List D → Store → T D} (hp : ∀ args S, (t args S = .bad) ∨ (pus args = true ∧ t args S = .ret .rng S ∧ (t' args []).All (fun d S' => ∃ c k, d = .obj k ∧ S'[k]? = some c ∧ isSrc nm.rg c) fun _ _ => False))
    (vs : List V) (H : Hp) (Q : VK) (E : XK) (h : spF K nm n t vs H Q E) : spF K nm n t' vs H Q E := by
  obtain ⟨r, S, args, P', st, rl, hl, al, po⟩ := h
  rcases hp args S with hb | ⟨hpu, ht, ht'⟩
  · rw [hb] at al; exact al.elim
  · rw [ht] at al
    refine ⟨r.inn, [], args, _, st.inn, rl.pure (fun a h => Rl.inn_off.mpr h) (fun _ h => h) hpu, hl, ht'.mono (fun _ _ z => z) (fun _ _ z => z.elim), fun d S' v r' H' z x st' q => ?_⟩
    obtain ⟨c, k, rfl, hc, hs⟩ := z
    obtain ⟨a, rfl, hm⟩ := q
    obtain ⟨x1, st1⟩ := st.tok x st' hm hc hs
    exact po .rng S _ _ H' al x1 st1 ⟨a, rfl, List.mem_cons_self⟩
/-! ### a drawer -/
theorem cel_src {c : Addr} {ns is : List Int} {a : Addr} (h1 : H a = some (.lst (.ref c :: is.map V.int))) (h2 : H c = some (.lst (ns.map V.int))) (of : Off r c) : Cel K nm r H (.lst (.lst (ns.map .int) :: is.map .int)) a :=
  ⟨_, h1, _, _, rfl, ⟨c, _, rfl, of, h2, rel_ints ns⟩, rel_ints is⟩
/-- a drawer: with the source as an object of its own; m: below what it draws -/
theorem drawer_sp {t t' : List D → Store → T D} (hp : ∀ args S, (t args S = .bad) ∨ ∃ m : Int, args = [.rng, .int m] ∧ (t args S = .pick m fun v => .ret (.int v) S) ∧
      (∀ ns is, nm.rg (some ns) is → (t' [.obj 0, .int m] [.lst (.lst (ns.map .int) :: is.map .int)]).All (fun d S' => ∃ v c, d = .int v ∧ 0 ≤ v ∧ v < m ∧ S'[0]? = some c ∧ isSrc nm.rg c) fun _ _ => False) ∧
      ∀ is, nm.rg none is → (t' [.obj 0, .int m] [.lst (is.map .int)]).All (fun d S' => ∃ v c, d = .int v ∧ 0 ≤ v ∧ v < m ∧ S'[0]? = some c ∧ isSrc nm.rg c) fun _ _ => False)
    (vs : List V) (H : Hp) (Q : VK) (E : XK) (h : spF K nm 2 t vs H Q E) : spF K nm 2 t' vs H Q E := by
  obtain ⟨r, S, args, P', st, rl, hl, al, po⟩ := h
  rcases hp args S with hb | ⟨m, rfl, ht, h1, h2⟩
  · rw [hb] at al; exact al.elim
  rw [ht] at al
  obtain ⟨v0, v1, rfl, q0, q1⟩ := rels2 rl
  obtain ⟨a, rfl, aR⟩ := q0
  cases q1
  have hs := st.src a aR
  have am : a ∉ r.m := fun h => (st.dj a h).1 aR
  have aB : a ∉ r.B := st.dR a aR
  -- the places as the drawer sees them
  let r1 : Rl := ⟨[a], [], r.m ++ (r.R.filter (· ≠ a) ++ r.B)⟩
  have offr : ∀ b, Off r1 b → Off r b := fun b h => by
    obtain ⟨g1, _, g3⟩ := h
    have hba : b ≠ a := fun e => g1 (by rw [e]; exact List.mem_cons_self)
    refine ⟨fun q => g3 (List.mem_append_left _ q), fun q => g3 (List.mem_append_right _ (List.mem_append_left _ (List.mem_filter.mpr ⟨q, by simpa using hba⟩))), fun q => g3 (List.mem_append_right _ (List.mem_append_right _ q))⟩
  have offr1 : ∀ b, Off r b → Off r1 b := fun b h => by
    refine ⟨fun q => ?_, by simp [r1], fun q => ?_⟩
    · have : b = a := by simpa [r1] using q
      exact h.2.1 (this ▸ aR)
    · rcases List.mem_append.mp q with q | q
      · exact h.1 q
      rcases List.mem_append.mp q with q | q
      · exact h.2.1 (List.mem_filter.mp q).1
      · exact h.2.2 q
  have mutR : ∀ b ∈ r.R, Mut (H b) := fun b h => by
    rcases st.src b h with ⟨_, _, _, g, _⟩ | ⟨_, g, _⟩ <;> (rw [g]; trivial)
  have aB1 : a ∉ r1.B := fun q => by
    rcases List.mem_append.mp q with q | q
    · exact am q
    rcases List.mem_append.mp q with q | q
    · simpa using (List.mem_filter.mp q).2
    · exact aB q
  have sto1 : ∀ c, Cel K nm r1 H c a → Sto K nm r1 H [c] := fun c cel => by
    refine ⟨rfl, by simp [r1], fun b h => ?_, fun b h => (by simp [r1] at h), fun b h => ?_, fun b h => (by simp [r1] at h), fun n b d e1 e2 => ?_⟩
    · have : b = a := by simpa [r1] using h
      rw [this]
      exact ⟨by simp [r1], aB1⟩
    · rcases List.mem_append.mp h with q | q
      · obtain ⟨i, hi, he⟩ := List.getElem_of_mem q
        obtain ⟨d, _, c⟩ := st.at (n := i) (a := b) (by rw [List.getElem?_eq_getElem hi, he])
        exact c.mut
      rcases List.mem_append.mp q with q | q
      · exact mutR b (List.mem_filter.mp q).1
      · exact st.bt b q
    · cases n with
      | zero =>
        have e1' : a = b := by simpa [r1] using e1
        have e2' : c = d := by simpa using e2
        rw [← e1', ← e2']; exact cel
      | succ n => simp [r1] at e1
  have fin : ∀ c0 (P2 : D → Store → Prop), Cel K nm r1 H c0 a → (t' [.obj 0, .int m] [c0]).All (fun d S' => ∃ v c, d = .int v ∧ 0 ≤ v ∧ v < m ∧ S'[0]? = some c ∧ isSrc nm.rg c) (fun _ _ => False) → spF K nm 2 t' [.ref a, .int m] H Q E := fun c0 _ cel ht' => by
    refine ⟨r1, [c0], [.obj 0, .int m], _, sto1 c0 cel, ⟨_, _, rfl, ⟨a, rfl, rfl⟩, _, _, rfl, rfl, rfl⟩, rfl, ht'.mono (fun _ _ z => z) (fun _ _ z => z.elim), fun d S' v r' H' z x st' q => ?_⟩
    obtain ⟨w, c, rfl, w0, wm, hc, hsrc⟩ := z
    cases q
    have hm' : r'.m[0]? = some a := x.get rfl
    have am' := List.mem_of_getElem? hm'
    have off' : ∀ b, Off r' b → Off r b := fun b h => by
      have hba : b ≠ a := fun e => h.1 (e ▸ am')
      have hB := h.2.2
      rw [x.eB] at hB
      exact offr b ⟨fun q => hba (by simpa [r1] using q), by simp [r1], hB⟩
    have keepB : ∀ b ∈ r1.B, ∀ o, H b = some o → H' b = some o := x.bus
    have x1 : Ext K r H r H' := ⟨⟨List.prefix_rfl, fun _ h => h, x.tup, fun b o h of => ⟨(x.keep b o h (offr1 b of)).1, of⟩, fun k b h e => by
      have := (List.getElem?_eq_some_iff.mp e).1
      exact absurd this (Nat.not_lt.mpr h), x.there⟩, rfl, fun b h o e => x.bus b (List.mem_append_right _ (List.mem_append_right _ h)) o e⟩
    have eqm : ∀ b ∈ r.m, H' b = H b := fun b h => by
      obtain ⟨u, hu⟩ := st.tracked h
      rw [x.bus b (List.mem_append_left _ h) u hu, hu]
    have st1 : Sto K nm r H' S := by
      refine ⟨st.len, st.nd, st.dj, st.dR, fun b h => ?_, fun b h => ?_, fun k b d e1 e2 => (st.cel k b d e1 e2).ext0 x1.toExt0 (eqm b (List.mem_of_getElem? e1))⟩
      · have := st'.bt b (by rw [x.eB]; exact List.mem_append_right _ (List.mem_append_right _ h))
        exact this
      · by_cases hba : b = a
        · rw [hba]
          exact (src_of hsrc (st'.cel 0 a c hm' hc)).off off'
        · have hb1 : b ∈ r1.B := List.mem_append_right _ (List.mem_append_left _ (List.mem_filter.mpr ⟨h, by simpa using hba⟩))
          obtain ⟨u, hu⟩ := (st.src b h).tracked
          exact (st.src b h).ext0 x1.toExt0 (by rw [x.bus b hb1 u hu, hu])
    exact po (.int w) S _ r H' (al w w0 wm) x1 st1 rfl
  rcases hs with ⟨c, ns, is, g1, g2, of, g⟩ | ⟨is, g1, g⟩
  · exact fin _ (fun _ _ => True) (cel_src g1 g2 (offr1 c of)) (h1 ns is g)
  · have cel : Cel K nm r1 H (.lst (is.map .int)) a := ⟨_, g1, rel_ints is⟩
    exact fin _ (fun _ _ => True) cel (h2 is g)
theorem funD_same {x x' q q' : Str} {p p' : Arguments} {b b' : List Stmt} {s s' : Scope} {dv dv' : List V} {kw kw' : List (Str × V)} {f : Addr} {fd fd' : FuncData} (F : FunD K x q p b s dv kw f fd) (F' : FunD K x' q' p' b' s' dv' kw' f fd') : fd = fd' := by
  obtain ⟨_, _, _, _, _, _, _, _, _, _, _, l1, _⟩ := F.ex
  obtain ⟨_, _, _, _, _, _, _, _, _, _, _, l2, _⟩ := F'.ex
  rw [l1] at l2
  have := Option.some.inj l2
  injection this with h1 h2 h3 h4
  injection h3
/-- an external def's promise, from that of a program where it is told by its body -/
theorem ext_ok {P : Program} {w : World} {mg : Str → Option Value} {base : Heap} {Pr Pt : Prog} {ds dt : List FnD} {fa ft : Nat → Addr} {fd fe : Nat → FuncData} {m : Nat} (B : Base K mg nm Pr ds fa fd m) (Bt : Base K mg nm Pt dt ft fe m) (hx : Pt.ext = fun _ => none)
    {i j : Nat} {d e : FnD} (hd : ds[i]? = some d) (he : dt[j]? = some e) (hfa : fa i = ft j) (hps : d.ps = e.ps) (imp : ∀ (k : Nat) vs H Q E, spF K nm d.ps.length (run Pr (k + 1) i) vs H Q E → spF K nm d.ps.length (run Pt 1 j) vs H Q E) (k : Nat) :
    Ok P w K mg base nm Pr fa fd (k + 1) i d := by
  have h1 : Ok P w K mg base nm Pt ft fe 1 j e := Bt.ok (fun i d _ g hg => by rw [hx] at hg; cases hg) (fun i d _ g hg => by rw [hx] at hg; cases hg) 1 j e he
  obtain ⟨_, _, F⟩ := B.fun_ i d hd
  obtain ⟨_, _, F'⟩ := Bt.fun_ j e he
  rw [← hfa] at F'
  have hfd := funD_same F F'
  have h2 : FnOk P w K mg base (L2.CX P w) 2 (fa i) (fd i) d.ps (spF K nm d.ps.length (run Pt 1 j)) := by
    rw [hfd, hfa, hps]
    exact h1
  exact (h2.imp fun vs H Q E h => imp k vs H Q E h).mono (by omega)
end
end Ic

set_option Elab.async false
set_option linter.all false
set_option maxRecDepth 100000
set_option maxHeartbeats 1000000
/-! Ic9: the plain runs of _law_well, _law_draw. -/
namespace Ic
open PySem (Str)
def bWell : List Sm := [.ret (.lst true [(.comp false [1] (.bi .int false [(.var 1)]) (.nm 1) .val [(.slc false (.var 0) none (some (.lit (.int 63))))] []), (.lit (.int 0)), (.lit (.int 40507))])]
def bDraw : List Sm := [.ite (.and [(.cmp (.idx (.var 0) (.lit (.int 1))) .lt (.bin .pow false (.lit (.int 10)) (.lit (.int 9)))), (.cmp (.idx (.var 0) (.lit (.int 0))) .ne (.lst false []))]) [.asg (.nm (.nm 2)) (.idx (.idx (.var 0) (.lit (.int 0))) (.lit (.int 0))), .asg (.idx (.var 0) (.lit (.int 0))) (.slc false (.idx (.var 0) (.lit (.int 0))) (some (.lit (.int 1))) none), .asg (.nm (.nm 3)) (.bin .add false (.bin .mul false (.lit (.int 2)) (.bi .abs false [(.var 2)])) (.bi .int false [(.cmp (.var 2) .lt (.lit (.int 0)))])), .ite (.cmp (.var 3) .ge (.bin .pow false (.lit (.int 10)) (.lit (.int 18)))) [.asg (.idx (.var 0) (.lit (.int 1))) (.var 3)] [.asg (.idx (.var 0) (.lit (.int 2))) (.bin .mod false (.bi .int false [(.bin .add false (.bin .add false (.bin .mul false (.idx (.var 0) (.lit (.int 2))) (.lit (.int 48271))) (.bin .mul false (.var 3) (.lit (.int 69621)))) (.lit (.int 17)))]) (.lit (.int 2147483647)))]] [], .ite (.cmp (.idx (.var 0) (.lit (.int 1))) .ge (.bin .pow false (.lit (.int 10)) (.lit (.int 9)))) [.asg (.nm (.nm 4)) (.bin .mod false (.bi .int false [(.idx (.var 0) (.lit (.int 1)))]) (.var 1)), .asg (.idx (.var 0) (.lit (.int 1))) (.bin .fdiv false (.idx (.var 0) (.lit (.int 1))) (.var 1)), .ret (.var 4)] [], .asg (.idx (.var 0) (.lit (.int 2))) (.bin .mod false (.bi .int false [(.bin .add false (.bin .mul false (.idx (.var 0) (.lit (.int 2))) (.lit (.int 39373))) (.lit (.int 101)))]) (.lit (.int 2147483647))), .ret (.bin .mod false (.bi .int false [(.bin .fdiv false (.idx (.var 0) (.lit (.int 2))) (.lit (.int 89)))]) (.var 1))]
theorem oks_ints (n : Nat) : ∀ (ns : List Int), oks n (ns.map .int) = true
  | [] => by simp [oks]
  | x :: ns => by
    have : D.ok n (.int x) = true := by cases n <;> simp [D.ok]
    simp [oks, this, oks_ints n ns]
theorem intsOf_map : ∀ (ns : List Int), intsOf (ns.map .int) = some ns
  | [] => rfl
  | x :: ns => by simp [intsOf, intsOf_map ns]
theorem eqvs_nil : ∀ (ns : List Int), eqvs (ns.map .int) [] = ns.isEmpty
  | [] => by simp [eqvs]
  | x :: ns => by simp [eqvs]
section
variable {R : Rn} {below : Nat → Nat → Bool}
def rgW : Option (List Int) → List Int → Prop := fun o is => (∃ ns, o = some ns) ∧ is.length = 2
theorem src_mk (ns : List Int) (i j : Int) : isSrc rgW (.lst [.lst (ns.map .int), .int i, .int j]) := .inl ⟨ns, [i, j], rfl, ⟨ns, rfl⟩, rfl⟩
/-- the last steps -/
theorem draw_end {m : Int} (hm : 0 < m) (hm2 : m < 1073741824) (c w : Option D) (ns : List Int) (i j : Int) :
    ((evSs R below (bDraw.drop 1) [some (.obj 0), some (.int m), c, w, none] [.lst [.lst (ns.map .int), .int i, .int j]]).nox.bind endOf).All (fun d S' => ∃ v c, d = .int v ∧ 0 ≤ v ∧ v < m ∧ S'[0]? = some c ∧ isSrc rgW c) fun _ _ => False := by
  have h0 : ∀ x : Int, 0 ≤ x % m ∧ x % m < m := fun x => ⟨Int.emod_nonneg _ (by omega), Int.emod_lt_of_pos _ hm⟩
  have hmul : mulOk j 39373 = true := by simp [mulOk]
  by_cases hi : i ≥ 1000000000
  · simp [bDraw, evSs, evS, evE, evEs, view, index, atI, ixN, binop, compare, truth, bi, tgSet, npSet, setIdx, endOf, hi, hm, hm2]
    exact ⟨(h0 _).1, (h0 _).2, src_mk ns _ j⟩
  · simp [bDraw, evSs, evS, evE, evEs, view, index, atI, ixN, binop, compare, truth, bi, tgSet, npSet, setIdx, endOf, hi, hm, hm2, hmul]
    exact ⟨(h0 _).1, (h0 _).2, src_mk ns i _⟩
def sDraw : Sm := bDraw.headD .bad
theorem bDraw_eq : bDraw = sDraw :: bDraw.drop 1 := rfl
theorem draw_first (m : Int) (ns : List Int) (i j : Int) : ∃ (c w : Option D) (ns' : List Int) (i' j' : Int), evS R below sDraw [some (.obj 0), some (.int m), none, none, none] [.lst [.lst (ns.map .int), .int i, .int j]] =
    .ret (.nx [some (.obj 0), some (.int m), c, w, none]) [.lst [.lst (ns'.map .int), .int i', .int j']] := by
  by_cases hi : i < 1000000000
  · cases ns with
    | nil =>
      refine ⟨none, none, [], i, j, ?_⟩
      simp [sDraw, bDraw, evS, evSs, evE, evEs, evAnd, view, index, atI, ixN, binop, compare, truth, hi, D.ok, oks, D.eqv, eqvs]
    | cons x ns =>
      have hok : oks 39 (.int x :: ns.map D.int) = true := oks_ints 39 (x :: ns)
      have hok2 : (D.lst (.int x :: ns.map D.int)).ok 40 = true := by simp [D.ok, hok]
      have hok3 : (D.lst []).ok 40 = true := by simp [D.ok, oks]
      have he : (D.lst (.int x :: ns.map D.int)).eqv (.lst []) = false := by simp [D.eqv, eqvs]
      have hm1 : ∀ y : Int, mulOk 2 y = true := fun y => by simp [mulOk]
      have hm2 : ∀ y : Int, mulOk y 48271 = true := fun y => by simp [mulOk]
      have hm3 : ∀ y : Int, mulOk y 69621 = true := fun y => by simp [mulOk]
      have hcut : cut (D.int x :: ns.map D.int) (some 1) none = ns.map D.int := by
        simp only [cut, sIx, List.length_cons, List.length_map]
        have h1 : ¬ (1 : Int) < 0 := by omega
        have h2 : min (1 : Int).toNat (ns.length + 1) = 1 := by
          have : (1 : Int).toNat = 1 := rfl
          omega
        rw [if_neg h1, h2]
        simp [List.take_of_length_le]
      generalize hw : 2 * (if x < 0 then -x else x) + (if x < 0 then 1 else 0) = wt
      by_cases hx : x < 0
      · simp [hx] at hw
        by_cases hwt : wt ≥ 1000000000000000000
        · refine ⟨some (.int x), some (.int wt), ns, wt, j, ?_⟩
          simp [sDraw, bDraw, evS, evSs, evE, evEs, evO, evAnd, view, index, atI, ixN, binop, compare, truth, hi, hok, hok2, hok3, he, bi, tgSet, npSet, setIdx, slice, hcut, hm1, hm2, hm3, hx, hw, hwt]
        · refine ⟨some (.int x), some (.int wt), ns, i, (j * 48271 + wt * 69621 + 17) % 2147483647, ?_⟩
          simp [sDraw, bDraw, evS, evSs, evE, evEs, evO, evAnd, view, index, atI, ixN, binop, compare, truth, hi, hok, hok2, hok3, he, bi, tgSet, npSet, setIdx, slice, hcut, hm1, hm2, hm3, hx, hw, hwt]
      · simp [hx] at hw
        by_cases hwt : wt ≥ 1000000000000000000
        · refine ⟨some (.int x), some (.int wt), ns, wt, j, ?_⟩
          simp [sDraw, bDraw, evS, evSs, evE, evEs, evO, evAnd, view, index, atI, ixN, binop, compare, truth, hi, hok, hok2, hok3, he, bi, tgSet, npSet, setIdx, slice, hcut, hm1, hm2, hm3, hx, hw, hwt]
        · refine ⟨some (.int x), some (.int wt), ns, i, (j * 48271 + wt * 69621 + 17) % 2147483647, ?_⟩
          simp [sDraw, bDraw, evS, evSs, evE, evEs, evO, evAnd, view, index, atI, ixN, binop, compare, truth, hi, hok, hok2, hok3, he, bi, tgSet, npSet, setIdx, slice, hcut, hm1, hm2, hm3, hx, hw, hwt]
  · refine ⟨none, none, ns, i, j, ?_⟩
    simp [sDraw, bDraw, evS, evSs, evE, evEs, evAnd, view, index, atI, ixN, binop, compare, truth, hi]
theorem draw_plain {m : Int} (hm : 0 < m) (hm2 : m < 1073741824) (ns : List Int) (i j : Int) :
    ((evSs R below bDraw [some (.obj 0), some (.int m), none, none, none] [.lst [.lst (ns.map .int), .int i, .int j]]).nox.bind endOf).All (fun d S' => ∃ v c, d = .int v ∧ 0 ≤ v ∧ v < m ∧ S'[0]? = some c ∧ isSrc rgW c) fun _ _ => False := by
  obtain ⟨c, w, ns', i', j', e⟩ := draw_first (R := R) (below := below) m ns i j
  rw [bDraw_eq, evSs, e, T.bind_ret]
  exact draw_end hm hm2 c w ns' i' j'
/-- a comprehension's turns, where each gives an item and keeps the store -/
theorem compLoop_map {ok : Store → Bool} {f : D → Store → T (Option D)} {S : Store} (hok : ok S = true) {g : D → D} : ∀ (xs acc : List D), (∀ x ∈ xs, f x S = .ret (some (g x)) S) → acc.length + xs.length ≤ line → compLoop ok f xs acc S = .ret (acc ++ xs.map g) S
  | [], acc, _, _ => by simp [compLoop]
  | x :: xs, acc, h, hl => by
    simp only [List.length_cons] at hl
    rw [compLoop, h x List.mem_cons_self, T.bind_ret, if_pos hok]
    simp only [push]
    rw [if_pos (by omega), some?_some, compLoop_map hok xs _ (fun y hy => h y (List.mem_cons_of_mem _ hy)) (by simp; omega)]
    simp
theorem well_plain (ns : List Int) : ((evSs R below bWell [some (.scr ns), none] []).nox.bind endOf).All (fun d S' => ∃ c k, d = .obj k ∧ S'[k]? = some c ∧ isSrc rgW c) fun _ _ => False := by
  have hline : line = 16777216 := rfl
  generalize hc : cut ns none (some 63) = ms
  have hl : ms.length ≤ 63 := by
    rw [← hc]
    simp only [cut, sIx, List.length_take, List.length_drop]
    have h1 : ¬ (63 : Int) < 0 := by omega
    rw [if_neg h1]
    have h2 : (63 : Int).toNat = 63 := rfl
    omega
  have e : compLoop (fun S' => still [] S' (objsOf [D.lst (ms.map D.int)])) (fun x S => some? (npSet S (.nm 1) x (wipeD [some (.scr ns), none] [1])) fun env' => (evC R [] env' S).bind fun t S => if t = true then (evE R (.bi .int false [.var 1]) env' S).bind fun y S => .ret (some y) S else .ret none S) (ms.map D.int) [] [] = .ret ([] ++ (ms.map D.int).map id) [] := by
    refine compLoop_map (by simp [objsOf, still]) _ _ (fun x hx => ?_) (by simp; omega)
    obtain ⟨n, _, rfl⟩ := List.mem_map.mp hx
    simp [npSet, wipeD, evC, evE, evEs, view, bi]
  have hs : slice (.scr ns) none (some 63) = some (.lst (ms.map .int)) := by simp [slice, hc]
  have hl2 : ms.length ≤ line := by omega
  have ec : evE R (.comp false [1] (.bi .int false [(.var 1)]) (.nm 1) .val [(.slc false (.var 0) none (some (.lit (.int 63))))] []) [some (.scr ns), none] [] = .ret (.lst (ms.map .int)) [] := by
    rw [evE]
    have e1 : evEs R [(.slc false (.var 0) none (some (.lit (.int 63))))] [some (.scr ns), none] [] = .ret [.lst (ms.map .int)] [] := by simp [evEs, evE, evO, view, hs]
    have e2 : itemsK [] .val [.lst (ms.map .int)] = some (ms.map .int) := by simp [itemsK, itemsOf, view]
    rw [e1, T.bind_ret, e2, some?_some, e]
    simp [hl2]
  have e3 : evEs R [(.comp false [1] (.bi .int false [(.var 1)]) (.nm 1) .val [(.slc false (.var 0) none (some (.lit (.int 63))))] []), (.lit (.int 0)), (.lit (.int 40507))] [some (.scr ns), none] [] = .ret [.lst (ms.map .int), .int 0, .int 40507] [] := by
    rw [evEs, ec, T.bind_ret]
    simp [evEs, evE]
  have e4 : evE R (.lst true [(.comp false [1] (.bi .int false [(.var 1)]) (.nm 1) .val [(.slc false (.var 0) none (some (.lit (.int 63))))] []), (.lit (.int 0)), (.lit (.int 40507))]) [some (.scr ns), none] [] = .ret (.obj 0) [.lst [.lst (ms.map .int), .int 0, .int 40507]] := by
    rw [evE, e3]
    simp [line]
  simp [bWell, evSs, evS, e4, endOf]
  exact src_mk ms 0 40507
end
end Ic

set_option Elab.async false
set_option linter.all false
set_option maxRecDepth 100000
set_option maxHeartbeats 1000000
/-! Jg: draws from a jug: a plain list [cells, at, rest] at the store's first place. -/
namespace Ic
open PySem (Str)
def bTake : List Sm := [.ite (.cmp (.idx (.var 0) (.lit (.int 2))) .eq (.lit (.int 0))) [.asg (.nm (.nm 3)) (.idx (.var 0) (.lit (.int 1))), .asg (.nm (.nm 4)) (.bin .add false (.bin .mul false (.lit (.int 3)) (.var 3)) (.lit (.int 5))), .ite (.cmp (.var 3) .lt (.bi .len false [(.idx (.var 0) (.lit (.int 0)))])) [.asg (.nm (.nm 4)) (.bin .add false (.bin .mul false (.lit (.int 2)) (.bi .abs false [(.idx (.idx (.var 0) (.lit (.int 0))) (.var 3))])) (.bi .int false [(.cmp (.idx (.idx (.var 0) (.lit (.int 0))) (.var 3)) .lt (.lit (.int 0)))]))] [], .ite (.cmp (.var 4) .lt (.bin .pow false (.lit (.int 10)) (.lit (.int 18)))) [.asg (.nm (.nm 4)) (.bin .mod false (.bi .int false [(.bin .pow false (.bin .add false (.bin .add false (.bin .mul false (.var 4) (.lit (.int 2654435761))) (.bin .mul false (.var 3) (.lit (.int 40503)))) (.lit (.int 977))) (.lit (.int 3)))]) (.lit (.int 618970019642690137449562111)))] [], .asg (.idx (.var 0) (.lit (.int 1))) (.bin .add false (.var 3) (.lit (.int 1))), .asg (.idx (.var 0) (.lit (.int 2))) (.var 4)] [], .asg (.nm (.nm 2)) (.bin .mod false (.bi .int false [(.idx (.var 0) (.lit (.int 2)))]) (.var 1)), .asg (.idx (.var 0) (.lit (.int 2))) (.bin .fdiv false (.idx (.var 0) (.lit (.int 2))) (.var 1)), .ret (.var 2)]
/-- a jug that bears b draws more -/
def jug (cs : List Int) (i r : Int) : D := .lst [.lst (cs.map .int), .int i, .int r]
structure Jugs (b : Nat) (j : D) : Prop where
  ex : ∃ cs i r, j = jug cs i r ∧ 0 ≤ i ∧ i + b ≤ 1000000000000 ∧ 0 ≤ r
theorem Jugs.le {b c : Nat} {j : D} (h : Jugs b j) (hc : c ≤ b) : Jugs c j := by
  obtain ⟨cs, i, r, e, h1, h2, h3⟩ := h.ex
  exact ⟨cs, i, r, e, h1, by omega, h3⟩
section
variable {R : Rn} {below : Nat → Nat → Bool} {S : Store}
theorem take_end {m : Int} (hm : 0 < m) (hm2 : m < 1073741824) (cs : List Int) (i r : Int) (o3 o4 : Option D) :
    (evSs R below (bTake.drop 1) [some (.obj 0), some (.int m), none, o3, o4] (jug cs i r :: S)).nox.bind endOf = .ret (.int (r % m)) (jug cs i (r / m) :: S) := by
  have hm' : m ≠ 0 := by omega
  simp [bTake, jug, evSs, evS, evE, evEs, view, index, atI, ixN, binop, compare, truth, bi, tgSet, npSet, setIdx, endOf, hm, hm2, hm']
def sTake : List Sm := [.asg (.nm (.nm 3)) (.idx (.var 0) (.lit (.int 1))), .asg (.nm (.nm 4)) (.bin .add false (.bin .mul false (.lit (.int 3)) (.var 3)) (.lit (.int 5))), .ite (.cmp (.var 3) .lt (.bi .len false [(.idx (.var 0) (.lit (.int 0)))])) [.asg (.nm (.nm 4)) (.bin .add false (.bin .mul false (.lit (.int 2)) (.bi .abs false [(.idx (.idx (.var 0) (.lit (.int 0))) (.var 3))])) (.bi .int false [(.cmp (.idx (.idx (.var 0) (.lit (.int 0))) (.var 3)) .lt (.lit (.int 0)))]))] []]
def uTake : List Sm := [.ite (.cmp (.var 4) .lt (.bin .pow false (.lit (.int 10)) (.lit (.int 18)))) [.asg (.nm (.nm 4)) (.bin .mod false (.bi .int false [(.bin .pow false (.bin .add false (.bin .add false (.bin .mul false (.var 4) (.lit (.int 2654435761))) (.bin .mul false (.var 3) (.lit (.int 40503)))) (.lit (.int 977))) (.lit (.int 3)))]) (.lit (.int 618970019642690137449562111)))] [], .asg (.idx (.var 0) (.lit (.int 1))) (.bin .add false (.var 3) (.lit (.int 1))), .asg (.idx (.var 0) (.lit (.int 2))) (.var 4)]
theorem bTake_eq : bTake = .ite (.cmp (.idx (.var 0) (.lit (.int 2))) .eq (.lit (.int 0))) (sTake ++ uTake) [] :: bTake.drop 1 := rfl
theorem atI_ints {cs : List Int} {i : Int} (h0 : 0 ≤ i) (h : i < cs.length) : ∃ c, atI (cs.map D.int) i = some (.int c) := by
  have h2 : i.toNat < cs.length := by omega
  refine ⟨cs[i.toNat], ?_⟩
  simp [atI, ixN, h0, h, h2]
theorem binop_pow {i j : Int} : binop .pow (.int i) (.int j) = if (0 ≤ j ∧ j ≤ 1000000 ∧ i.natAbs < 2 ^ 64) ∨ (0 ≤ j ∧ j ≤ 1000 ∧ i.natAbs < 2 ^ 1000) then some (.int (i ^ j.toNat)) else none := rfl
theorem cube_lt {x : Int} (h0 : 0 ≤ x) (h : x < 1000000000000000000000000000000) : x.natAbs < 2 ^ 1000 := by
  have h1 : x.natAbs < 1000000000000000000000000000000 := by omega
  exact Nat.lt_trans h1 (by decide +kernel)
theorem take_u {m cell i : Int} (hc : 0 ≤ cell) (h0 : 0 ≤ i) (h1 : i ≤ 1000000000000) (cs : List Int) (r : Int) :
    ∃ r', 0 ≤ r' ∧ evSs R below uTake [some (.obj 0), some (.int m), none, some (.int i), some (.int cell)] (jug cs i r :: S) = .ret (.nx [some (.obj 0), some (.int m), none, some (.int i), some (.int r')]) (jug cs (i + 1) r' :: S) := by
  have hm1 : mulOk cell 2654435761 = true := by simp [mulOk]
  have hm2 : mulOk i 40503 = true := by simp [mulOk]
  by_cases hlt : cell < 1000000000000000000
  · have hp : (cell * 2654435761 + i * 40503 + 977).natAbs < 2 ^ 1000 := cube_lt (by omega) (by omega)
    refine ⟨(cell * 2654435761 + i * 40503 + 977) ^ 3 % 618970019642690137449562111, Int.emod_nonneg _ (by decide), ?_⟩
    generalize hx : cell * 2654435761 + i * 40503 + 977 = x at hp
    have hq : binop .pow (.int x) (.int 3) = some (.int (x ^ 3)) := by
      rw [binop_pow, if_pos (.inr ⟨by omega, by omega, hp⟩)]
      rfl
    have hr : binop .pow (.int 10) (.int 18) = some (.int 1000000000000000000) := by
      rw [binop_pow, if_pos (.inl ⟨by omega, by omega, by decide⟩)]
      rfl
    have ha : binop .add (.int (cell * 2654435761 + i * 40503)) (.int 977) = some (.int x) := by rw [← hx]; rfl
    have hb : binop .mul (.int cell) (.int 2654435761) = some (.int (cell * 2654435761)) := by simp [binop, hm1]
    have hc2 : binop .mul (.int i) (.int 40503) = some (.int (i * 40503)) := by simp [binop, hm2]
    have hd : binop .add (.int (cell * 2654435761)) (.int (i * 40503)) = some (.int (cell * 2654435761 + i * 40503)) := rfl
    have he : binop .mod (.int (x ^ 3)) (.int 618970019642690137449562111) = some (.int (x ^ 3 % 618970019642690137449562111)) := by simp [binop]
    have hf : binop .add (.int i) (.int 1) = some (.int (i + 1)) := rfl
    simp [uTake, jug, evSs, evS, evE, evEs, view, index, atI, ixN, compare, truth, bi, tgSet, npSet, setIdx, hq, hr, ha, hb, hc2, hd, he, hf, hlt]
  · refine ⟨cell, hc, ?_⟩
    have hr : binop .pow (.int 10) (.int 18) = some (.int 1000000000000000000) := by
      rw [binop_pow, if_pos (.inl ⟨by omega, by omega, by decide⟩)]
      rfl
    have hf : binop .add (.int i) (.int 1) = some (.int (i + 1)) := rfl
    simp [uTake, jug, evSs, evS, evE, evEs, view, index, atI, ixN, compare, truth, bi, tgSet, npSet, setIdx, hr, hf, hlt]
theorem take_s {m i : Int} (h0 : 0 ≤ i) (cs : List Int) (r : Int) :
    ∃ cell, 0 ≤ cell ∧ evSs R below sTake [some (.obj 0), some (.int m), none, none, none] (jug cs i r :: S) = .ret (.nx [some (.obj 0), some (.int m), none, some (.int i), some (.int cell)]) (jug cs i r :: S) := by
  have hm1 : mulOk 3 i = true := by simp [mulOk]
  have ix1 : index (jug cs i r) (.int 1) = some (.int i) := rfl
  have ix0 : index (jug cs i r) (.int 0) = some (.lst (cs.map .int)) := rfl
  by_cases hlt : i < cs.length
  · obtain ⟨c, hc⟩ := atI_ints h0 hlt
    have ix2 : index (.lst (cs.map .int)) (.int i) = some (.int c) := hc
    have hm2 : ∀ y : Int, mulOk 2 y = true := fun y => by simp [mulOk]
    by_cases hn : c < 0
    · refine ⟨2 * -c + 1, by omega, ?_⟩
      simp [sTake, evSs, evS, evE, evEs, view, ix0, ix1, ix2, binop, compare, truth, bi, tgSet, npSet, hlt, hm1, hm2, hn]
    · refine ⟨2 * c, by omega, ?_⟩
      simp [sTake, evSs, evS, evE, evEs, view, ix0, ix1, ix2, binop, compare, truth, bi, tgSet, npSet, hlt, hm1, hm2, hn]
  · refine ⟨3 * i + 5, by omega, ?_⟩
    simp [sTake, evSs, evS, evE, evEs, view, ix0, ix1, binop, compare, truth, bi, tgSet, npSet, hlt, hm1]
theorem evSs_append (xs ys : List Sm) {env env' : Slots} {S S' : Store} (h : evSs R below xs env S = .ret (.nx env') S') : evSs R below (xs ++ ys) env S = evSs R below ys env' S' := by
  induction xs generalizing env S with
  | nil =>
    rw [evSs] at h
    cases h
    rfl
  | cons x xs ih =>
    rw [List.cons_append, evSs]
    rw [evSs] at h
    cases hx : evS R below x env S with
    | ret fl S1 =>
      rw [hx, T.bind_ret] at h
      rw [T.bind_ret]
      cases fl with
      | nx env1 => exact ih h
      | _ => simp at h
    | _ => rw [hx] at h; simp at h
/-- one draw -/
theorem take_run {m : Int} {b : Nat} {j : D} (hj : Jugs (b + 1) j) (hm : 0 < m) (hm2 : m < 1073741824) :
    ∃ v j', 0 ≤ v ∧ v < m ∧ Jugs b j' ∧ (evSs R below bTake [some (.obj 0), some (.int m), none, none, none] (j :: S)).nox.bind endOf = .ret (.int v) (j' :: S) := by
  obtain ⟨cs, i, r, rfl, h0, h1, h2⟩ := hj.ex
  have fin : ∀ (i' r' : Int) (o3 o4 : Option D), 0 ≤ i' → i' ≤ i + 1 → 0 ≤ r' → evS R below (.ite (.cmp (.idx (.var 0) (.lit (.int 2))) .eq (.lit (.int 0))) (sTake ++ uTake) []) [some (.obj 0), some (.int m), none, none, none] (jug cs i r :: S) = .ret (.nx [some (.obj 0), some (.int m), none, o3, o4]) (jug cs i' r' :: S) →
      ∃ v j', 0 ≤ v ∧ v < m ∧ Jugs b j' ∧ (evSs R below bTake [some (.obj 0), some (.int m), none, none, none] (jug cs i r :: S)).nox.bind endOf = .ret (.int v) (j' :: S) := by
    intro i' r' o3 o4 g0 g1 g2 e
    refine ⟨r' % m, jug cs i' (r' / m), Int.emod_nonneg _ (by omega), Int.emod_lt_of_pos _ hm, ⟨cs, i', r' / m, rfl, g0, by omega, Int.ediv_nonneg g2 (by omega)⟩, ?_⟩
    rw [bTake_eq, evSs, e, T.bind_ret]
    exact take_end hm hm2 cs i' r' o3 o4
  have ix2 : index (jug cs i r) (.int 2) = some (.int r) := rfl
  by_cases hr : r = 0
  · subst hr
    obtain ⟨cell, c0, e1⟩ := take_s (R := R) (below := below) (S := S) (m := m) h0 cs 0
    obtain ⟨r', r0, e2⟩ := take_u (R := R) (below := below) (S := S) (m := m) c0 h0 (by omega) cs 0
    refine fin (i + 1) r' (some (.int i)) (some (.int r')) (by omega) (by omega) r0 ?_
    rw [← e2, ← evSs_append sTake uTake e1]
    simp [evS, evE, view, ix2, compare, truth, D.ok, D.eqv]
  · refine fin i r none none h0 (by omega) h2 ?_
    simp [evS, evSs, evE, view, ix2, compare, truth, hr, D.ok, D.eqv]
end
end Ic

set_option Elab.async false
set_option linter.all false
set_option maxRecDepth 100000
set_option maxHeartbeats 1000000
/-! Bg: draws from a bag: a plain list [cells, at, rest, sum] at the store's first place. -/
namespace Ic
open PySem (Str)
def bPick : List Sm := [.ite (.cmp (.idx (.var 0) (.lit (.int 2))) .lt (.var 1)) [.asg (.nm (.nm 3)) (.idx (.var 0) (.lit (.int 1))), .asg (.nm (.nm 4)) (.ife (.cmp (.var 3) .lt (.bi .len false [(.idx (.var 0) (.lit (.int 0)))])) (.idx (.idx (.var 0) (.lit (.int 0))) (.var 3)) (.bin .add false (.bin .fdiv false (.idx (.var 0) (.lit (.int 3))) (.lit (.int 3))) (.bin .mul false (.lit (.int 77003)) (.var 3)))), .asg (.nm (.nm 4)) (.ife (.cmp (.var 4) .ge (.lit (.int 0))) (.bin .mul false (.lit (.int 2)) (.var 4)) (.bin .sub false (.bin .mul false (.neg (.lit (.int 2))) (.var 4)) (.lit (.int 1)))), .ite (.cmp (.var 4) .lt (.bin .pow false (.lit (.int 10)) (.lit (.int 18)))) [.asg (.nm (.nm 4)) (.bin .mul false (.bin .add false (.bin .add false (.bin .mul false (.var 4) (.lit (.int 1103515249))) (.bin .mul false (.lit (.int 12820163)) (.var 3))) (.lit (.int 2147480009))) (.bin .add false (.bin .add false (.var 4) (.lit (.int 86028157))) (.var 3))), .asg (.nm (.nm 4)) (.bin .add false (.bin .fdiv false (.bin .mul false (.var 4) (.var 4)) (.lit (.int 4093))) (.bin .mul false (.var 4) (.lit (.int 6700417))))] [], .asg (.idx (.var 0) (.lit (.int 1))) (.bin .add false (.var 3) (.lit (.int 1))), .asg (.idx (.var 0) (.lit (.int 2))) (.var 4), .asg (.idx (.var 0) (.lit (.int 3))) (.bin .mod false (.bi .int false [(.bin .add false (.bin .mul false (.idx (.var 0) (.lit (.int 3))) (.lit (.int 40692))) (.var 4))]) (.lit (.int 2305843009213693951)))] [], .asg (.nm (.nm 2)) (.bin .mod false (.bi .int false [(.idx (.var 0) (.lit (.int 2)))]) (.var 1)), .asg (.idx (.var 0) (.lit (.int 2))) (.bin .fdiv false (.idx (.var 0) (.lit (.int 2))) (.var 1)), .ret (.var 2)]
def sPick : List Sm := [.asg (.nm (.nm 3)) (.idx (.var 0) (.lit (.int 1))), .asg (.nm (.nm 4)) (.ife (.cmp (.var 3) .lt (.bi .len false [(.idx (.var 0) (.lit (.int 0)))])) (.idx (.idx (.var 0) (.lit (.int 0))) (.var 3)) (.bin .add false (.bin .fdiv false (.idx (.var 0) (.lit (.int 3))) (.lit (.int 3))) (.bin .mul false (.lit (.int 77003)) (.var 3)))), .asg (.nm (.nm 4)) (.ife (.cmp (.var 4) .ge (.lit (.int 0))) (.bin .mul false (.lit (.int 2)) (.var 4)) (.bin .sub false (.bin .mul false (.neg (.lit (.int 2))) (.var 4)) (.lit (.int 1))))]
def uPick : List Sm := [.ite (.cmp (.var 4) .lt (.bin .pow false (.lit (.int 10)) (.lit (.int 18)))) [.asg (.nm (.nm 4)) (.bin .mul false (.bin .add false (.bin .add false (.bin .mul false (.var 4) (.lit (.int 1103515249))) (.bin .mul false (.lit (.int 12820163)) (.var 3))) (.lit (.int 2147480009))) (.bin .add false (.bin .add false (.var 4) (.lit (.int 86028157))) (.var 3))), .asg (.nm (.nm 4)) (.bin .add false (.bin .fdiv false (.bin .mul false (.var 4) (.var 4)) (.lit (.int 4093))) (.bin .mul false (.var 4) (.lit (.int 6700417))))] [], .asg (.idx (.var 0) (.lit (.int 1))) (.bin .add false (.var 3) (.lit (.int 1))), .asg (.idx (.var 0) (.lit (.int 2))) (.var 4), .asg (.idx (.var 0) (.lit (.int 3))) (.bin .mod false (.bi .int false [(.bin .add false (.bin .mul false (.idx (.var 0) (.lit (.int 3))) (.lit (.int 40692))) (.var 4))]) (.lit (.int 2305843009213693951)))]
theorem bPick_eq : bPick = .ite (.cmp (.idx (.var 0) (.lit (.int 2))) .lt (.var 1)) (sPick ++ uPick) [] :: bPick.drop 1 := rfl
/-- a bag that bears b draws more -/
def bag (cs : List Int) (i r q : Int) : D := .lst [.lst (cs.map .int), .int i, .int r, .int q]
structure Bags (b : Nat) (j : D) : Prop where
  ex : ∃ cs i r q, j = bag cs i r q ∧ 0 ≤ i ∧ i + b ≤ 1000000000000 ∧ 0 ≤ r ∧ 0 ≤ q
theorem Bags.le {b c : Nat} {j : D} (h : Bags b j) (hc : c ≤ b) : Bags c j := by
  obtain ⟨cs, i, r, q, e, h1, h2, h3, h4⟩ := h.ex
  exact ⟨cs, i, r, q, e, h1, by omega, h3, h4⟩
section
variable {R : Rn} {below : Nat → Nat → Bool} {S : Store}
theorem pick_end {m : Int} (hm : 0 < m) (hm2 : m < 1073741824) (cs : List Int) (i r q : Int) (o3 o4 : Option D) :
    (evSs R below (bPick.drop 1) [some (.obj 0), some (.int m), none, o3, o4] (bag cs i r q :: S)).nox.bind endOf = .ret (.int (r % m)) (bag cs i (r / m) q :: S) := by
  have hm' : m ≠ 0 := by omega
  simp [bPick, bag, evSs, evS, evE, evEs, view, index, atI, ixN, binop, compare, truth, bi, tgSet, npSet, setIdx, endOf, hm, hm2, hm']
theorem pick_s {m i q : Int} (h0 : 0 ≤ i) (hq : 0 ≤ q) (cs : List Int) (r : Int) :
    ∃ cell, 0 ≤ cell ∧ evSs R below sPick [some (.obj 0), some (.int m), none, none, none] (bag cs i r q :: S) = .ret (.nx [some (.obj 0), some (.int m), none, some (.int i), some (.int cell)]) (bag cs i r q :: S) := by
  have hm1 : mulOk 77003 i = true := by simp [mulOk]
  have hm2 : ∀ y : Int, mulOk 2 y = true := fun y => by simp [mulOk]
  have hm3 : ∀ y : Int, mulOk (-2) y = true := fun y => by simp [mulOk]
  have ix1 : index (bag cs i r q) (.int 1) = some (.int i) := rfl
  have ix3 : index (bag cs i r q) (.int 3) = some (.int q) := rfl
  have ix0 : index (bag cs i r q) (.int 0) = some (.lst (cs.map .int)) := rfl
  by_cases hlt : i < cs.length
  · obtain ⟨c, hc⟩ := atI_ints h0 hlt
    have ix2 : index (.lst (cs.map .int)) (.int i) = some (.int c) := hc
    by_cases hn : c ≥ 0
    · refine ⟨2 * c, by omega, ?_⟩
      simp [sPick, evSs, evS, evE, evEs, view, ix0, ix1, ix2, binop, compare, truth, bi, tgSet, npSet, hlt, hm1, hm2, hm3, hn]
    · refine ⟨-2 * c - 1, by omega, ?_⟩
      have hn' : ¬ 0 ≤ c := by omega
      simp [sPick, evSs, evS, evE, evEs, view, ix0, ix1, ix2, binop, compare, truth, bi, tgSet, npSet, hlt, hm1, hm2, hm3, hn, hn']
  · have hx : q / 3 + 77003 * i ≥ 0 := by omega
    refine ⟨2 * (q / 3 + 77003 * i), by omega, ?_⟩
    have hx' : 0 ≤ q / 3 + 77003 * i := hx
    simp [sPick, evSs, evS, evE, evEs, view, ix0, ix1, ix3, binop, compare, truth, bi, tgSet, npSet, hlt, hm1, hm2, hm3, hx, hx']
theorem pick_u {m cell i q : Int} (hc : 0 ≤ cell) (h0 : 0 ≤ i) (h1 : i ≤ 1000000000000) (hq : 0 ≤ q) (cs : List Int) (r : Int) :
    ∃ r' q', 0 ≤ r' ∧ 0 ≤ q' ∧ evSs R below uPick [some (.obj 0), some (.int m), none, some (.int i), some (.int cell)] (bag cs i r q :: S) = .ret (.nx [some (.obj 0), some (.int m), none, some (.int i), some (.int r')]) (bag cs (i + 1) r' q' :: S) := by
  have hr : binop .pow (.int 10) (.int 18) = some (.int 1000000000000000000) := by
    rw [binop_pow, if_pos (.inl ⟨by omega, by omega, by decide⟩)]
    rfl
  have hf : binop .add (.int i) (.int 1) = some (.int (i + 1)) := rfl
  have hk : mulOk q 40692 = true := by simp [mulOk]
  have hz : ∀ x : Int, binop .mod (.int x) (.int 2305843009213693951) = some (.int (x % 2305843009213693951)) := fun x => by simp [binop]
  have hq1 : binop .mul (.int q) (.int 40692) = some (.int (q * 40692)) := by simp [binop, hk]
  have ha : ∀ x y : Int, binop .add (.int x) (.int y) = some (.int (x + y)) := fun _ _ => rfl
  by_cases hlt : cell < 1000000000000000000
  · have k1 : binop .mul (.int cell) (.int 1103515249) = some (.int (cell * 1103515249)) := by simp [binop, mulOk]
    have k2 : binop .mul (.int 12820163) (.int i) = some (.int (12820163 * i)) := by simp [binop, mulOk]
    obtain ⟨x, hx⟩ : ∃ x, cell * 1103515249 + 12820163 * i + 2147480009 = x := ⟨_, rfl⟩
    obtain ⟨y, hy⟩ : ∃ y, cell + 86028157 + i = y := ⟨_, rfl⟩
    have y0 : 0 ≤ y := by omega
    have y1 : y < 2000000000000000000 := by omega
    have x0 : 0 ≤ x := by omega
    have x1 : x < 2000000000000000000000000000 := by omega
    have k3 : binop .mul (.int x) (.int y) = some (.int (x * y)) := by
      have : mulOk x y = true := by simp [mulOk]; omega
      simp [binop, this]
    have z0 : 0 ≤ x * y := Int.mul_nonneg x0 y0
    have z1 : x * y < 4000000000000000000000000000000000000000000000 := by
      have h2 : x * y ≤ 2000000000000000000000000000 * y := Int.mul_le_mul_of_nonneg_right (by omega) y0
      omega
    obtain ⟨z, hz2⟩ : ∃ z, x * y = z := ⟨_, rfl⟩
    rw [hz2] at k3 z0 z1
    have zb : z.natAbs < 2 ^ 1000 := by
      have h1 : z.natAbs < 4000000000000000000000000000000000000000000000 := by omega
      exact Nat.lt_trans h1 (by decide +kernel)
    have k4 : binop .mul (.int z) (.int z) = some (.int (z * z)) := by
      have : mulOk z z = true := by
        unfold mulOk
        rw [decide_eq_true zb]
        simp
      simp [binop, this]
    have k5 : binop .mul (.int z) (.int 6700417) = some (.int (z * 6700417)) := by simp [binop, mulOk]
    have k6 : binop .fdiv (.int (z * z)) (.int 4093) = some (.int (z * z / 4093)) := by simp [binop]
    have w0 : 0 ≤ z * z / 4093 := Int.ediv_nonneg (Int.mul_nonneg z0 z0) (by omega)
    refine ⟨z * z / 4093 + z * 6700417, (q * 40692 + (z * z / 4093 + z * 6700417)) % 2305843009213693951, by omega, Int.emod_nonneg _ (by decide), ?_⟩
    simp [uPick, bag, evSs, evS, evE, evEs, view, index, atI, ixN, compare, truth, bi, tgSet, npSet, setIdx, hr, hf, hlt, k1, k2, ha, hx, hy, k3, k4, k5, k6, hq1, hz]
  · refine ⟨cell, (q * 40692 + cell) % 2305843009213693951, hc, Int.emod_nonneg _ (by decide), ?_⟩
    simp [uPick, bag, evSs, evS, evE, evEs, view, index, atI, ixN, compare, truth, bi, tgSet, npSet, setIdx, hr, hf, hlt, ha, hq1, hz]
/-- one draw -/
theorem pick_run {m : Int} {b : Nat} {j : D} (hj : Bags (b + 1) j) (hm : 0 < m) (hm2 : m < 1073741824) :
    ∃ v j', 0 ≤ v ∧ v < m ∧ Bags b j' ∧ (evSs R below bPick [some (.obj 0), some (.int m), none, none, none] (j :: S)).nox.bind endOf = .ret (.int v) (j' :: S) := by
  obtain ⟨cs, i, r, q, rfl, h0, h1, h2, h3⟩ := hj.ex
  have fin : ∀ (i' r' q' : Int) (o3 o4 : Option D), 0 ≤ i' → i' ≤ i + 1 → 0 ≤ r' → 0 ≤ q' → evS R below (.ite (.cmp (.idx (.var 0) (.lit (.int 2))) .lt (.var 1)) (sPick ++ uPick) []) [some (.obj 0), some (.int m), none, none, none] (bag cs i r q :: S) = .ret (.nx [some (.obj 0), some (.int m), none, o3, o4]) (bag cs i' r' q' :: S) →
      ∃ v j', 0 ≤ v ∧ v < m ∧ Bags b j' ∧ (evSs R below bPick [some (.obj 0), some (.int m), none, none, none] (bag cs i r q :: S)).nox.bind endOf = .ret (.int v) (j' :: S) := by
    intro i' r' q' o3 o4 g0 g1 g2 g3 e
    refine ⟨r' % m, bag cs i' (r' / m) q', Int.emod_nonneg _ (by omega), Int.emod_lt_of_pos _ hm, ⟨cs, i', r' / m, q', rfl, g0, by omega, Int.ediv_nonneg g2 (by omega), g3⟩, ?_⟩
    rw [bPick_eq, evSs, e, T.bind_ret]
    exact pick_end hm hm2 cs i' r' q' o3 o4
  have ix2 : index (bag cs i r q) (.int 2) = some (.int r) := rfl
  by_cases hr : r < m
  · obtain ⟨cell, c0, e1⟩ := pick_s (R := R) (below := below) (S := S) (m := m) h0 h3 cs r
    obtain ⟨r', q', r0, q0, e2⟩ := pick_u (R := R) (below := below) (S := S) (m := m) c0 h0 (by omega) h3 cs r
    refine fin (i + 1) r' q' (some (.int i)) (some (.int r')) (by omega) (by omega) r0 q0 ?_
    rw [← e2, ← evSs_append sPick uPick e1]
    simp [evS, evE, view, ix2, compare, truth, hr]
  · refine fin i r q none none h0 (by omega) h2 h3 ?_
    simp [evS, evSs, evE, view, ix2, compare, truth, hr]
end
end Ic

set_option Elab.async false
set_option linter.all false
set_option maxRecDepth 100000
set_option maxHeartbeats 1000000
/-! Ic10: rules for plain runs. -/
namespace Ic
open PySem (Str)
section
variable {rn : Nat → List D → Store → T D} {f : Nat} {args : List D} {S S' : Store} {v : D}
theorem call_ret (hp : pus args = true) (h : rn f args [] = .ret v S') (hv : v.pu = true) : callD rn f false args S = .ret v S := by
  simp [callD, hp, h, outOf, freeze_pu hv]
theorem call_exc {e : Exc} (hp : pus args = true) (h : rn f args [] = .exc e S') (hv : e.arg.pu = true) : callD rn f false args S = .exc e S := by
  simp [callD, hp, h, T.iso, hv]
theorem call_all {P : D → Store → Prop} {X : Exc → Store → Prop} (hp : pus args = true) (h : (rn f args []).All (fun d _ => d.pu = true ∧ P d S) fun e _ => e.arg.pu = true ∧ X e S) : (callD rn f false args S).All P X := by
  unfold callD
  rw [if_pos hp, T.All_iso]
  refine h.mono (fun d S' z => ?_) fun _ _ z => z
  simp [outOf, freeze_pu z.1, z.2]
/-- a new list that is to be changed comes back -/
theorem call_retM {c : D} {n : Nat} (hp : pus args = true) (h : rn f args [] = .ret (.obj n) S') (hc : S'[n]? = some c) (hv : c.pu = true) : callD rn f true args S = .ret (.obj S.length) (S ++ [c]) := by
  simp [callD, hp, h, outOf, hc, hv]
end
theorem pus_ints : ∀ (ns : List Int), pus (ns.map .int) = true
  | [] => by simp [pus]
  | n :: ns => by simp [pus, D.pu, pus_ints ns]
theorem pus_mem : ∀ {xs : List D}, (∀ x ∈ xs, x.pu = true) → pus xs = true
  | [], _ => by simp [pus]
  | x :: xs, h => by simp [pus, h x List.mem_cons_self, pus_mem fun y hy => h y (List.mem_cons_of_mem _ hy)]
@[simp] theorem still_nil (S S' : Store) : still S S' [] = true := rfl
theorem compLoop_filter {ok : Store → Bool} {f : D → Store → T (Option D)} {S : Store} (hok : ok S = true) {p : D → Bool} {g : D → D} : ∀ (xs acc : List D), (∀ x ∈ xs, f x S = .ret (if p x then some (g x) else none) S) → acc.length + xs.length ≤ line → compLoop ok f xs acc S = .ret (acc ++ (xs.filter p).map g) S
  | [], acc, _, _ => by simp [compLoop]
  | x :: xs, acc, h, hl => by
    simp only [List.length_cons] at hl
    rw [compLoop, h x List.mem_cons_self, T.bind_ret, if_pos hok]
    by_cases hp : p x = true
    · simp only [push, hp, if_true]
      rw [if_pos (by omega), some?_some, compLoop_filter hok xs _ (fun y hy => h y (List.mem_cons_of_mem _ hy)) (by simp; omega)]
      simp [hp]
    · simp only [push, hp, if_false, some?_some, Bool.false_eq_true]
      rw [compLoop_filter hok xs _ (fun y hy => h y (List.mem_cons_of_mem _ hy)) (by omega)]
      simp [hp]
/-- a comprehension's turns with draws: I by the items gone and what was found -/
theorem compLoop_all {ok : Store → Bool} {f : D → Store → T (Option D)} {P : List D → Store → Prop} {X : Exc → Store → Prop} (I : Nat → List D → Store → Prop) (xs : List D)
    (step : ∀ (i : Nat) x acc S, xs[i]? = some x → I i acc S → (f x S).All (fun o S' => ok S' = true ∧ ∃ acc', push acc o = some acc' ∧ I (i + 1) acc' S') X) (fin : ∀ acc S, I xs.length acc S → P acc S) :
    ∀ (n i : Nat) acc S, n = xs.length - i → i ≤ xs.length → I i acc S → (compLoop ok f (xs.drop i) acc S).All P X
  | 0, i, acc, S, hn, hi, h => by
    have : i = xs.length := by omega
    subst this
    rw [List.drop_length]
    exact fin acc S h
  | n + 1, i, acc, S, hn, hi, h => by
    have hlt : i < xs.length := by omega
    rw [List.drop_eq_getElem_cons hlt, compLoop, T.All_bind]
    refine (step i _ acc S (List.getElem?_eq_getElem hlt) h).mono (fun o S' z => ?_) fun _ _ z => z
    obtain ⟨h1, acc', h2, h3⟩ := z
    rw [if_pos h1, h2, some?_some]
    exact compLoop_all I xs step fin n (i + 1) acc' S' (by omega) (by omega) h3
/-- for: I by the turns -/
theorem forLoop_all {ok : Store → Bool} {f : D → Slots → Store → T Flow} {P : Flow → Store → Prop} {X : Exc → Store → Prop} (I : Nat → Slots → Store → Prop) (xs : List D)
    (step : ∀ (i : Nat) x env S, xs[i]? = some x → I i env S → (f x env S).All (fun fl S' => match fl with
      | .nx env' | .ct env' => ok S' = true ∧ I (i + 1) env' S'
      | .bk env' => P (.nx env') S'
      | .rt d => P (.rt d) S'
      | .ex e env' => P (.ex e env') S') X) (fin : ∀ env S, I xs.length env S → P (.nx env) S) :
    ∀ (n i : Nat) env S, n = xs.length - i → i ≤ xs.length → I i env S → (forLoop ok f (xs.drop i) env S).All P X
  | 0, i, env, S, hn, hi, h => by
    have : i = xs.length := by omega
    subst this
    rw [List.drop_length]
    exact fin env S h
  | n + 1, i, env, S, hn, hi, h => by
    have hlt : i < xs.length := by omega
    rw [List.drop_eq_getElem_cons hlt, forLoop, T.All_bind]
    refine (step i _ env S (List.getElem?_eq_getElem hlt) h).mono (fun fl S' z => ?_) fun _ _ z => z
    cases fl with
    | nx env' =>
      have z' : ok S' = true ∧ I (i + 1) env' S' := z
      show (if ok S' = true then forLoop ok f (xs.drop (i + 1)) env' S' else .bad).All P X
      rw [if_pos z'.1]
      exact forLoop_all I xs step fin n (i + 1) env' S' (by omega) (by omega) z'.2
    | ct env' =>
      have z' : ok S' = true ∧ I (i + 1) env' S' := z
      show (if ok S' = true then forLoop ok f (xs.drop (i + 1)) env' S' else .bad).All P X
      rw [if_pos z'.1]
      exact forLoop_all I xs step fin n (i + 1) env' S' (by omega) (by omega) z'.2
    | bk env' => exact z
    | rt d => exact z
    | ex e env' => exact z
/-- while: I with a measure below the fuel -/
theorem whlLoop_all {c b : Slots → Store → T Flow} {P : Flow → Store → Prop} {X : Exc → Store → Prop} (I : Nat → Slots → Store → Prop)
    (step : ∀ (m : Nat) env S, I m env S → (c env S).All (fun fl S1 => match fl with
      | .bk env1 => P (.nx env1) S1
      | .ex e env1 => P (.ex e env1) S1
      | _ => (b env S1).All (fun fl S2 => match fl with
        | .nx env' | .ct env' => ∃ m', m' < m ∧ I m' env' S2
        | .bk env' => P (.nx env') S2
        | .rt d => P (.rt d) S2
        | .ex e env' => P (.ex e env') S2) X) X) :
    ∀ (k m : Nat) env S, m < k → I m env S → (whlLoop c b k env S).All P X
  | 0, m, env, S, hk, h => by omega
  | k + 1, m, env, S, hk, h => by
    rw [whlLoop, T.All_bind]
    refine (step m env S h).mono (fun fl S1 z => ?_) fun _ _ z => z
    have go : (b env S1).All (fun fl S2 => match fl with
        | .nx env' | .ct env' => ∃ m', m' < m ∧ I m' env' S2
        | .bk env' => P (.nx env') S2
        | .rt d => P (.rt d) S2
        | .ex e env' => P (.ex e env') S2) X → ((b env S1).bind fun fl S2 => match fl with
      | .nx env' | .ct env' => whlLoop c b k env' S2
      | .bk env' => .ret (.nx env') S2
      | .rt d => .ret (.rt d) S2
      | .ex e env' => .ret (.ex e env') S2).All P X := fun z => by
      rw [T.All_bind]
      refine z.mono (fun fl S2 z => ?_) fun _ _ z => z
      cases fl with
      | nx env' => obtain ⟨m', h1, h2⟩ := z; exact whlLoop_all I step k m' env' S2 (by omega) h2
      | ct env' => obtain ⟨m', h1, h2⟩ := z; exact whlLoop_all I step k m' env' S2 (by omega) h2
      | bk env' => exact z
      | rt d => exact z
      | ex e env' => exact z
    cases fl with
    | nx env1 => exact go z
    | ct env1 => exact go z
    | rt d => exact go z
    | bk env1 => exact z
    | ex e env1 => exact z
end Ic

set_option Elab.async false
set_option linter.all false
set_option maxRecDepth 100000
set_option maxHeartbeats 1000000
/-! Ic11: comprehensions without draws, as maps and filters. -/
namespace Ic
open PySem (Str)
section
variable {R : Rn} {own own2 : List Nat} {ee : E} {p p2 : NPat} {k k2 : Itk} {its its2 cs cs2 : List E} {env : Slots} {S : Store} {ds items : List D}
theorem evE_comp (h1 : evEs R its env S = .ret ds S) (h2 : itemsK S k ds = some items) (hs : still S S (objsOf ds) = true) (hl : items.length ≤ line) (q : D → Bool) (g : D → D)
    (h3 : ∀ x ∈ items, ∃ env', npSet S p x (wipeD env own) = some env' ∧ evC R cs env' S = .ret (q x) S ∧ (q x = true → evE R ee env' S = .ret (g x) S)) :
    evE R (.comp false own ee p k its cs) env S = .ret (.lst ((items.filter q).map g)) S := by
  rw [evE, h1, T.bind_ret, h2, some?_some]
  rw [compLoop_filter (p := q) (g := g) hs items [] (fun x hx => ?_) (by simpa using hl)]
  · have : ((items.filter q).map g).length ≤ line := by
      rw [List.length_map]
      exact Nat.le_trans (List.length_filter_le _ _) hl
    simp only [List.nil_append, T.nox_ret, T.bind_ret, if_pos this, mk_f]
  · obtain ⟨env', e1, e2, e3⟩ := h3 x hx
    rw [e1, some?_some, e2, T.bind_ret]
    by_cases hq : q x = true
    · rw [if_pos hq, e3 hq, if_pos hq]; rfl
    · rw [if_neg hq, if_neg hq]
/-- .. every item taken -/
theorem evE_map (h1 : evEs R its env S = .ret ds S) (h2 : itemsK S k ds = some items) (hs : still S S (objsOf ds) = true) (hl : items.length ≤ line) (g : D → D)
    (h3 : ∀ x ∈ items, ∃ env', npSet S p x (wipeD env own) = some env' ∧ evE R ee env' S = .ret (g x) S) :
    evE R (.comp false own ee p k its []) env S = .ret (.lst (items.map g)) S := by
  rw [evE_comp h1 h2 hs hl (fun _ => true) g fun x hx => ?_]
  · rw [List.filter_eq_self.mpr fun _ _ => rfl]
  · obtain ⟨env', e1, e2⟩ := h3 x hx
    exact ⟨env', e1, by simp [evC], fun _ => e2⟩
theorem compLoop2_flat {ok : Store → Bool} {f : D → List D → Store → T (List D)} {S : Store} (hok : ok S = true) {g : D → List D} : ∀ (xs acc : List D), (∀ x ∈ xs, ∀ acc : List D, acc.length + (g x).length ≤ line → f x acc S = .ret (acc ++ g x) S) → acc.length + (xs.flatMap g).length ≤ line → compLoop2 ok f xs acc S = .ret (acc ++ xs.flatMap g) S
  | [], acc, _, _ => by simp [compLoop2]
  | x :: xs, acc, h, hl => by
    rw [List.flatMap_cons, List.length_append] at hl
    rw [compLoop2, h x List.mem_cons_self acc (by omega), T.bind_ret, if_pos hok, compLoop2_flat hok xs _ (fun y hy => h y (List.mem_cons_of_mem _ hy)) (by rw [List.length_append]; omega)]
    simp
/-- two sources, no conditions -/
theorem evE_flat (h1 : evEs R its env S = .ret ds S) (h2 : itemsK S k ds = some items) (hs : still S S (objsOf ds) = true) (inner : D → List D) (g : D → D → D) (hl : (items.flatMap fun x => (inner x).map (g x)).length ≤ line)
    (h3 : ∀ x ∈ items, ∃ env1 ds2, npSet S p x (wipeD env own) = some env1 ∧ evEs R its2 env1 S = .ret ds2 S ∧ itemsK S k2 ds2 = some (inner x) ∧ still S S (objsOf ds2) = true ∧ ∀ y ∈ inner x, ∃ env2, npSet S p2 y (wipeD env1 own2) = some env2 ∧ evE R ee env2 S = .ret (g x y) S) :
    evE R (.comp2 false own ee p k its [] own2 p2 k2 its2 []) env S = .ret (.lst (items.flatMap fun x => (inner x).map (g x))) S := by
  rw [evE, h1, T.bind_ret, h2, some?_some]
  rw [compLoop2_flat (g := fun x => (inner x).map (g x)) hs items [] (fun x hx acc ha => ?_) (by simpa using hl)]
  · simp only [List.nil_append, T.nox_ret, T.bind_ret, if_pos hl, mk_f]
  · obtain ⟨env1, ds2, e1, e2, e3, e4, e5⟩ := h3 x hx
    rw [e1, some?_some]
    have ec : evC R [] env1 S = .ret true S := by simp [evC]
    rw [ec, T.bind_ret, if_pos rfl, e2, T.bind_ret, e3, some?_some]
    rw [List.length_map] at ha
    refine compLoop_map e4 (inner x) acc (fun y hy => ?_) ha
    obtain ⟨env2, f1, f2⟩ := e5 y hy
    have ec2 : evC R [] env2 S = .ret true S := by simp [evC]
    rw [f1, some?_some, ec2, T.bind_ret, if_pos rfl, f2]; rfl
end
end Ic

set_option Elab.async false
set_option linter.all false
set_option maxRecDepth 100000
set_option maxHeartbeats 1000000
/-! Pl2: _law_alike at two equal values. -/
namespace Ic
open PySem (Str)
def bAlike : List Sm := [.asg (.nm (.nm 2)) (.lst true [(.tup [(.var 0), (.var 1)])]), .whl (.cmp (.var 2) .ne (.lst false [])) [.asg (.tup [.nm (.nm 3), .nm (.nm 4)]) (.mth .pop (.var 2) []), .ite (.bi (.isi .tup) false [(.var 4)]) [.ite (.or [(.not (.bi (.isi .tup) false [(.var 3)])), (.cmp (.bi .len false [(.var 3)]) .ne (.bi .len false [(.var 4)]))]) [.ret (.lit (.bl false))] [], .asg (.nm (.nm 2)) (.bin .add true (.var 2) (.comp false [5] (.tup [(.idx (.var 3) (.var 5)), (.idx (.var 4) (.var 5))]) (.nm 5) .range1 [(.bi .len false [(.var 4)])] []))] [.ite (.or [(.bi (.isi .tup) false [(.var 3)]), (.cmp (.bi (.isi .bool) false [(.var 3)]) .ne (.bi (.isi .bool) false [(.var 4)])), (.cmp (.bi (.isi .str) false [(.var 3)]) .ne (.bi (.isi .str) false [(.var 4)]))]) [.ret (.lit (.bl false))] [.ite (.or [(.cmp (.cmp (.var 3) .is (.lit .non)) .ne (.cmp (.var 4) .is (.lit .non))), (.cmp (.var 3) .ne (.var 4))]) [.ret (.lit (.bl false))] []]]], .ret (.lit (.bl true))]
mutual
/-- ints, bools, strs, None, tuples of them -/
def D.alk : D → Bool
  | .non | .bl _ | .int _ => true
  | .str s => PySem.PyData.strOk s
  | .tup xs => alks xs
  | _ => false
def alks : List D → Bool
  | [] => true
  | x :: xs => x.alk && alks xs
end
mutual
def D.nodes : D → Nat
  | .tup xs => 1 + nodess xs
  | _ => 1
def nodess : List D → Nat
  | [] => 0
  | x :: xs => x.nodes + nodess xs
end
theorem alks_mem : ∀ {xs : List D} {x : D}, alks xs = true → x ∈ xs → x.alk = true
  | y :: ys, x, h, hx => by
    have h' : y.alk = true ∧ alks ys = true := by simpa [alks] using h
    rcases List.mem_cons.mp hx with e | hx
    · rw [e]; exact h'.1
    · exact alks_mem h'.2 hx
mutual
theorem D.eqv_refl : ∀ (d : D), d.alk = true → d.eqv d = true
  | .non, _ => by simp [D.eqv]
  | .bl _, _ => by simp [D.eqv]
  | .int _, _ => by simp [D.eqv]
  | .str _, _ => by simp [D.eqv]
  | .tup xs, h => by simp [D.eqv, eqvs_refl xs (by simpa [D.alk] using h)]
  | .lst _, h => by simp [D.alk] at h
  | .scr _, h => by simp [D.alk] at h
  | .dct _, h => by simp [D.alk] at h
  | .set _, h => by simp [D.alk] at h
  | .ins _ _, h => by simp [D.alk] at h
  | .rng, h => by simp [D.alk] at h
  | .obj _, h => by simp [D.alk] at h
theorem eqvs_refl : ∀ (xs : List D), alks xs = true → eqvs xs xs = true
  | [], _ => by simp [eqvs]
  | x :: xs, h => by
    have h' : x.alk = true ∧ alks xs = true := by simpa [alks] using h
    simp [eqvs, D.eqv_refl x h'.1, eqvs_refl xs h'.2]
end
mutual
theorem D.ok_mono : ∀ (n : Nat) (d : D), d.ok n = true → d.ok (n + 1) = true
  | n, .non, _ => by cases n <;> simp [D.ok]
  | n, .bl _, _ => by cases n <;> simp [D.ok]
  | n, .int _, _ => by cases n <;> simp [D.ok]
  | n, .str s, h => by cases n <;> simpa [D.ok] using h
  | 0, .tup _, h => by simp [D.ok] at h
  | 0, .lst _, h => by simp [D.ok] at h
  | n + 1, .tup xs, h => by
    have h' : oks n xs = true := by simpa [D.ok] using h
    simp [D.ok, oks_mono n xs h']
  | n + 1, .lst xs, h => by
    have h' : oks n xs = true := by simpa [D.ok] using h
    simp [D.ok, oks_mono n xs h']
  | n, .scr _, h => by cases n <;> simp [D.ok] at h
  | n, .dct _, h => by cases n <;> simp [D.ok] at h
  | n, .set _, h => by cases n <;> simp [D.ok] at h
  | n, .ins _ _, h => by cases n <;> simp [D.ok] at h
  | n, .rng, h => by cases n <;> simp [D.ok] at h
  | n, .obj _, h => by cases n <;> simp [D.ok] at h
theorem oks_mono : ∀ (n : Nat) (xs : List D), oks n xs = true → oks (n + 1) xs = true
  | _, [], _ => by simp [oks]
  | n, x :: xs, h => by
    have h' : x.ok n = true ∧ oks n xs = true := by simpa [oks] using h
    simp [oks, D.ok_mono n x h'.1, oks_mono n xs h'.2]
end
theorem oks_mem {n : Nat} : ∀ {xs : List D}, oks n xs = true → ∀ x ∈ xs, x.ok n = true
  | y :: ys, h, x, hx => by
    have h' : y.ok n = true ∧ oks n ys = true := by simpa [oks] using h
    rcases List.mem_cons.mp hx with e | hx
    · rw [e]; exact h'.1
    · exact oks_mem h'.2 x hx
theorem oks_of {n : Nat} : ∀ {xs : List D}, (∀ x ∈ xs, x.ok n = true) → oks n xs = true
  | [], _ => by simp [oks]
  | y :: ys, h => by simp [oks, h y List.mem_cons_self, oks_of fun x hx => h x (List.mem_cons_of_mem _ hx)]
def twin (v : D) : D := .tup [v, v]
theorem twin_ok {v : D} (h : v.ok 38 = true) : (twin v).ok 39 = true := by simp [twin, D.ok, oks, h]
section
variable {R : Rn} {below : Nat → Nat → Bool} {env : Slots} {S : Store} {n : Nat} {st : List D}
theorem stack_ok (hk : ∀ v ∈ st, v.ok 38 = true) : (D.lst (st.map twin)).ok 40 = true := by
  have : oks 39 (st.map twin) = true := oks_of fun x hx => by
    obtain ⟨v, hv, rfl⟩ := List.mem_map.mp hx
    exact twin_ok (hk v hv)
  simpa [D.ok] using this
theorem alike_test (h2 : env[2]? = some (some (.obj n))) (hS : S[n]? = some (.lst (st.map twin))) (hk : ∀ v ∈ st, v.ok 38 = true) : evE R (.cmp (.var 2) .ne (.lst false [])) env S = .ret (.bl (!st.isEmpty)) S := by
  have h40 := stack_ok hk
  have h0 : (D.lst []).ok 40 = true := by simp [D.ok, oks]
  have he : (D.lst (st.map twin)).eqv (.lst []) = st.isEmpty := by cases st <;> simp [D.eqv, eqvs]
  simp [evE, evEs, h2, view, hS, compare, h40, h0, he]
theorem alike_pop (h2 : env[2]? = some (some (.obj n))) {v : D} (hS : S[n]? = some (.lst ((st ++ [v]).map twin))) : evE R (.mth .pop (.var 2) []) env S = .ret (twin v) (S.set n (.lst (st.map twin))) := by
  simp [evE, evEs, h2, view, hS, meTy, mth]
/-- one turn's body -/
def alikeBody : List Sm := [.asg (.tup [.nm (.nm 3), .nm (.nm 4)]) (.mth .pop (.var 2) []), .ite (.bi (.isi .tup) false [(.var 4)]) [.ite (.or [(.not (.bi (.isi .tup) false [(.var 3)])), (.cmp (.bi .len false [(.var 3)]) .ne (.bi .len false [(.var 4)]))]) [.ret (.lit (.bl false))] [], .asg (.nm (.nm 2)) (.bin .add true (.var 2) (.comp false [5] (.tup [(.idx (.var 3) (.var 5)), (.idx (.var 4) (.var 5))]) (.nm 5) .range1 [(.bi .len false [(.var 4)])] []))] [.ite (.or [(.bi (.isi .tup) false [(.var 3)]), (.cmp (.bi (.isi .bool) false [(.var 3)]) .ne (.bi (.isi .bool) false [(.var 4)])), (.cmp (.bi (.isi .str) false [(.var 3)]) .ne (.bi (.isi .str) false [(.var 4)]))]) [.ret (.lit (.bl false))] [.ite (.or [(.cmp (.cmp (.var 3) .is (.lit .non)) .ne (.cmp (.var 4) .is (.lit .non))), (.cmp (.var 3) .ne (.var 4))]) [.ret (.lit (.bl false))] []]]]
/-- a leaf: nothing more is put on the stack -/
theorem alike_leaf {a b c d e : Option D} (hn : n < S.length) {v : D} (hS : S[n]? = some (.lst ((st ++ [v]).map twin))) (ha : v.alk = true) (ht : ∀ xs, v ≠ .tup xs) (hk : v.ok 38 = true) :
    evSs R below alikeBody [a, b, some (.obj n), c, d, e] S = .ret (.nx [a, b, some (.obj n), some v, some v, e]) (S.set n (.lst (st.map twin))) := by
  have hp := alike_pop (R := R) (env := [a, b, some (.obj n), c, d, e]) rfl hS
  have h40 : v.ok 40 = true := D.ok_mono _ _ (D.ok_mono _ _ hk)
  have hr := D.eqv_refl v ha
  have hso : ∀ s, v = .str s → PySem.PyData.strOk s = true := fun s e => by subst e; simpa [D.alk] using ha
  cases v <;> first | (simp [D.alk] at ha; done) | (exact absurd rfl (ht _)) | skip
  all_goals
    rw [alikeBody, evSs, evS, hp]
    first
    | (simp [tgSet, tgSets, npSet, twin, view, evSs, evS, evE, evEs, evOr, bi, isTy, truth, compare, D.ok, h40, hr, D.eqv, hso _ rfl]; done)
    | simp [tgSet, tgSets, npSet, twin, view, evSs, evS, evE, evEs, evOr, bi, isTy, truth, compare, D.ok, h40, hr, D.eqv]
/-- a tuple: its parts are put on the stack, in a new list -/
theorem alike_tup {a b c d e : Option D} (hn : n < S.length) {xs : List D} (hS : S[n]? = some (.lst ((st ++ [D.tup xs]).map twin))) (hl : st.length + xs.length ≤ line) :
    evSs R below alikeBody [a, b, some (.obj n), c, d, e] S = .ret (.nx [a, b, some (.obj S.length), some (.tup xs), some (.tup xs), e]) (S.set n (.lst (st.map twin)) ++ [.lst ((st ++ xs).map twin)]) := by
  have hp := alike_pop (R := R) (env := [a, b, some (.obj n), c, d, e]) rfl hS
  have hcomp : ∀ S', evE R (.comp false [5] (.tup [(.idx (.var 3) (.var 5)), (.idx (.var 4) (.var 5))]) (.nm 5) .range1 [(.bi .len false [(.var 4)])] []) [a, b, some (.obj n), some (.tup xs), some (.tup xs), e] S' = .ret (.lst (xs.map twin)) S' := fun S' => by
    rw [evE_map (ds := [.int xs.length]) (items := rangeL 0 xs.length) (by simp [evEs, evE, view, bi]) (by
      simp only [itemsK]
      rw [if_pos (by constructor <;> omega)]) rfl (by simp [rangeL]; omega) (fun i => match i with | .int j => twin ((xs[j.toNat]?).getD .non) | _ => .non) fun x hx => ?_]
    · congr 2
      apply List.ext_getElem?
      intro j
      simp only [rangeL, List.getElem?_map, List.map_map]
      by_cases hj : j < xs.length
      · simp [hj]
      · simp [hj]
    · obtain ⟨j, hj, rfl⟩ := List.mem_map.mp hx
      have hj' : j < xs.length := by simpa using hj
      refine ⟨[a, b, some (.obj n), some (.tup xs), some (.tup xs), some (.int (0 + (j : Int)))], by simp [npSet, wipeD], ?_⟩
      have hix : ixN xs.length (j : Int) = some j := by simp [ixN, hj']
      simp [evE, evEs, view, index, atI, hix, hj', twin, show 2 ≤ line by decide]
  have hSn : (S.set n (.lst (st.map twin)))[n]? = some (.lst (st.map twin)) := by simp [hn]
  have hv : ∀ S', evE R (.var 2) [a, b, some (.obj n), some (.tup xs), some (.tup xs), e] S' = .ret (.obj n) S' := fun S' => by simp [evE]
  have hbin : evE R (.bin .add true (.var 2) (.comp false [5] (.tup [(.idx (.var 3) (.var 5)), (.idx (.var 4) (.var 5))]) (.nm 5) .range1 [(.bi .len false [(.var 4)])] [])) [a, b, some (.obj n), some (.tup xs), some (.tup xs), e] (S.set n (.lst (st.map twin))) =
      .ret (.obj S.length) (S.set n (.lst (st.map twin)) ++ [.lst ((st ++ xs).map twin)]) := by
    rw [evE, hv, T.bind_ret, hcomp, T.bind_ret]
    simp [view, hSn, binop, hl]
  have hasg : evS R below (.asg (.nm (.nm 2)) (.bin .add true (.var 2) (.comp false [5] (.tup [(.idx (.var 3) (.var 5)), (.idx (.var 4) (.var 5))]) (.nm 5) .range1 [(.bi .len false [(.var 4)])] []))) [a, b, some (.obj n), some (.tup xs), some (.tup xs), e] (S.set n (.lst (st.map twin))) =
      .ret (.nx [a, b, some (.obj S.length), some (.tup xs), some (.tup xs), e]) (S.set n (.lst (st.map twin)) ++ [.lst ((st ++ xs).map twin)]) := by
    rw [evS, hbin]
    simp [tgSet, npSet]
  rw [alikeBody, evSs, evS, hp]
  simp only [T.stm_ret, tgSet, tgSets, npSet, twin, view, List.length_cons, List.length_nil, if_true, some?_some, T.bind_ret, T.nox_ret, List.set_cons_succ, List.set_cons_zero]
  rw [evSs, evS]
  have ht : ∀ S', evE R (.bi (.isi .tup) false [(.var 4)]) [a, b, some (.obj n), some (.tup xs), some (.tup xs), e] S' = .ret (.bl true) S' := fun S' => by simp [evE, evEs, view, bi, isTy]
  have ho : ∀ S', evE R (.or [(.not (.bi (.isi .tup) false [(.var 3)])), (.cmp (.bi .len false [(.var 3)]) .ne (.bi .len false [(.var 4)]))]) [a, b, some (.obj n), some (.tup xs), some (.tup xs), e] S' = .ret (.bl false) S' := fun S' => by
    simp [evE, evEs, evOr, view, bi, isTy, truth, compare, D.ok, D.eqv]
  rw [ht]
  simp only [T.stm_ret, view, truth, some?_some, if_true]
  rw [evSs, evS, ho]
  simp only [T.stm_ret, view, truth, some?_some, Bool.false_eq_true, if_false]
  rw [evSs, T.bind_ret]
  simp only []
  rw [evSs, hasg]
  simp [evSs]
theorem nodes_pos (d : D) : 0 < d.nodes := by cases d <;> simp [D.nodes] <;> omega
theorem nodess_append : ∀ (xs ys : List D), nodess (xs ++ ys) = nodess xs + nodess ys
  | [], ys => by simp [nodess]
  | x :: xs, ys => by simp [nodess, nodess_append xs ys]; omega
theorem nodess_len : ∀ (xs : List D), xs.length ≤ nodess xs
  | [] => by simp [nodess]
  | x :: xs => by
    have := nodes_pos x
    have := nodess_len xs
    simp [nodess]; omega
theorem alike_loop (a b e : Option D) (c d : Option D) (hn : n < S.length) (hS : S[n]? = some (.lst (st.map twin))) (ha : ∀ v ∈ st, v.alk = true) (hk : ∀ v ∈ st, v.ok 38 = true) (hz : nodess st < 1000000) :
    (whlLoop (fun env S => (evE R (.cmp (.var 2) .ne (.lst false [])) env S).stm env fun x S => some? (truth (view S x)) fun t => if t then .ret (.nx env) S else .ret (.bk env) S) (evSs R below alikeBody) fuel [a, b, some (.obj n), c, d, e] S).All (fun fl _ => ∃ env, fl = .nx env) fun _ _ => False := by
  refine whlLoop_all (fun m env S => ∃ n st c d, env = [a, b, some (.obj n), c, d, e] ∧ n < S.length ∧ S[n]? = some (.lst (st.map twin)) ∧ (∀ v ∈ st, v.alk = true) ∧ (∀ v ∈ st, v.ok 38 = true) ∧ m = nodess st ∧ nodess st < 1000000) (fun m env S hI => ?_) fuel (nodess st) _ S hz ⟨n, st, c, d, rfl, hn, hS, ha, hk, rfl, hz⟩
  obtain ⟨n, st, c, d, rfl, hn, hS, ha, hk, rfl, hz⟩ := hI
  rw [alike_test rfl hS hk]
  simp only [T.stm_ret, view, truth, some?_some]
  rcases List.eq_nil_or_concat st with rfl | ⟨st', v, rfl⟩
  · simp only [List.isEmpty_nil, Bool.not_true, Bool.false_eq_true, if_false, T.All_ret]
    exact ⟨_, rfl⟩
  · have he : (!(st'.concat v).isEmpty) = true := by simp
    rw [List.concat_eq_append] at hS ha hk hz he
    rw [List.concat_eq_append]
    rw [he, if_pos rfl, T.All_ret]
    show (evSs R below alikeBody _ S).All _ _
    have hv := ha v (by simp)
    have hvk := hk v (by simp)
    have hz' : nodess st' + v.nodes < 1000000 := by
      rw [nodess_append] at hz
      simpa [nodess] using hz
    have ha' : ∀ u ∈ st', u.alk = true := fun u hu => ha u (by simp [hu])
    have hk' : ∀ u ∈ st', u.ok 38 = true := fun u hu => hk u (by simp [hu])
    have hlen := nodess_len st'
    by_cases ht : ∃ xs, v = .tup xs
    · obtain ⟨xs, rfl⟩ := ht
      have hlx := nodess_len xs
      have hnx : (D.tup xs).nodes = 1 + nodess xs := by simp [D.nodes]
      have hal : alks xs = true := by simpa [D.alk] using hv
      have hox : oks 37 xs = true := by simpa [D.ok] using hvk
      have hline : line = 16777216 := rfl
      rw [alike_tup hn hS (by omega), T.All_ret]
      refine ⟨nodess (st' ++ xs), by rw [nodess_append, nodess_append]; simp [nodess, hnx], S.length, st' ++ xs, _, _, rfl, by simp, by simp, fun u hu => ?_, fun u hu => ?_, rfl, by rw [nodess_append]; omega⟩
      · rcases List.mem_append.mp hu with h | h
        · exact ha' u h
        · exact alks_mem hal h
      · rcases List.mem_append.mp hu with h | h
        · exact hk' u h
        · exact D.ok_mono _ _ (oks_mem hox u h)
    · rw [alike_leaf hn hS hv (fun xs h => ht ⟨xs, h⟩) hvk, T.All_ret]
      have := nodes_pos v
      exact ⟨nodess st', by rw [nodess_append]; simp [nodess]; omega, n, st', _, _, rfl, by simpa using hn, by simp [hn], ha', hk', rfl, by omega⟩
end
end Ic

set_option Elab.async false
set_option linter.all false
set_option maxRecDepth 100000
/-! Sx: the evaluator's rules for simp. What comes later is boxed: simp does not look into it before its turn. -/
namespace Ic
open PySem (Str)
class Box (α : Type) where
  val : α
/-- a test: its worth stays a Bool -/
def bite {α : Type} (b : Bool) (x y : α) : α := if b then x else y
section
variable {α β : Type}
def bnd (t : T α) [f : Box (α → Store → T β)] : T β := t.bind f.val
def opt (o : Option α) [f : Box (α → T β)] : T β := some? o f.val
def stb (t : T α) (env : Slots) [f : Box (α → Store → T Flow)] : T Flow := t.stm env f.val
def isb (t : T α) (S : Store) [f : Box (α → Store → T D)] : T D := t.iso S f.val
/-- how a statement's end is taken -/
def flw (fl : Flow) (S : Store) [f : Box (Slots → Store → T Flow)] : T Flow := match fl with
  | .nx env => f.val env S
  | fl => .ret fl S
def clp (ok : Store → Bool) (items acc : List D) (S : Store) [f : Box (D → Store → T (Option D))] : T (List D) := compLoop ok f.val items acc S
def clp2 (ok : Store → Bool) (items acc : List D) (S : Store) [f : Box (D → List D → Store → T (List D))] : T (List D) := compLoop2 ok f.val items acc S
def flp (ok : Store → Bool) (items : List D) (env : Slots) (S : Store) [f : Box (D → Slots → Store → T Flow)] : T Flow := forLoop ok f.val items env S
def wlp (k : Nat) (env : Slots) (S : Store) [c : Box (Slots → Store → T Flow)] [b : Box (Slots → Store → T Flow)] : T Flow := whlLoop c.val b.val k env S
theorem bite_cg {b c : Bool} {x y : α} (h : b = c) : bite b x y = bite c x y := by rw [h]
@[simp ↓] theorem bite_true' {x y : α} : bite true x y = x := by simp [bite]
@[simp ↓] theorem bite_false' {x y : α} : bite false x y = y := by simp [bite]
@[simp] theorem bite_true {x y : α} : bite true x y = x := by simp [bite]
@[simp] theorem bite_false {x y : α} : bite false x y = y := by simp [bite]
@[simp] theorem bite_not {b : Bool} {x y : α} : bite (!b) x y = bite b y x := by cases b <;> simp [bite]
@[simp] theorem bnd_ret {a : α} {S : Store} {f : α → Store → T β} : bnd (.ret a S) (f := ⟨f⟩) = f a S := rfl
@[simp] theorem bnd_exc {e : Exc} {S : Store} {f : Box (α → Store → T β)} : bnd (.exc e S : T α) (f := f) = .exc e S := rfl
@[simp] theorem opt_some {a : α} {f : α → T β} : opt (some a) (f := ⟨f⟩) = f a := rfl
@[simp] theorem stb_ret {a : α} {S : Store} {env : Slots} {f : α → Store → T Flow} : stb (.ret a S) env (f := ⟨f⟩) = f a S := rfl
@[simp] theorem stb_exc {e : Exc} {S : Store} {env : Slots} {f : Box (α → Store → T Flow)} : stb (.exc e S : T α) env (f := f) = .ret (.ex e env) S := rfl
@[simp] theorem isb_ret {a : α} {S S' : Store} {f : α → Store → T D} : isb (.ret a S') S (f := ⟨f⟩) = f a S' := rfl
@[simp] theorem isb_exc {e : Exc} {S S' : Store} {f : Box (α → Store → T D)} (h : e.arg.pu = true) : isb (.exc e S' : T α) S (f := f) = .exc e S := by simp [isb, T.iso, h]
@[simp] theorem flw_nx {env : Slots} {S : Store} {f : Slots → Store → T Flow} : flw (.nx env) S (f := ⟨f⟩) = f env S := rfl
@[simp] theorem flw_rt {d : D} {S : Store} {f : Box (Slots → Store → T Flow)} : flw (.rt d) S (f := f) = .ret (.rt d) S := rfl
@[simp] theorem flw_bk {env : Slots} {S : Store} {f : Box (Slots → Store → T Flow)} : flw (.bk env) S (f := f) = .ret (.bk env) S := rfl
@[simp] theorem flw_ct {env : Slots} {S : Store} {f : Box (Slots → Store → T Flow)} : flw (.ct env) S (f := f) = .ret (.ct env) S := rfl
@[simp] theorem flw_ex {e : Exc} {env : Slots} {S : Store} {f : Box (Slots → Store → T Flow)} : flw (.ex e env) S (f := f) = .ret (.ex e env) S := rfl
theorem All_bnd {P : β → Store → Prop} {X : Exc → Store → Prop} {t : T α} {f : Box (α → Store → T β)} : (bnd t (f := f)).All P X ↔ t.All (fun a S => (f.val a S).All P X) X := T.All_bind t f.val
theorem All_stb {P : Flow → Store → Prop} {X : Exc → Store → Prop} {t : T α} {env : Slots} {f : Box (α → Store → T Flow)} : (stb t env (f := f)).All P X ↔ t.All (fun a S => (f.val a S).All P X) (fun e S => P (.ex e env) S) := T.All_stm t env f.val
theorem All_isb {P : D → Store → Prop} {X : Exc → Store → Prop} {t : T α} {S : Store} {f : Box (α → Store → T D)} : (isb t S (f := f)).All P X ↔ t.All (fun a S' => (f.val a S').All P X) (fun e _ => e.arg.pu = true ∧ X e S) := T.All_iso t S f.val
end
section
variable {R : Rn} {env : Slots} {S : Store} {i j : Int} {n : Nat}
@[simp ↓] theorem evE_var0 {d : D} : evE R (.var 0) (some d :: env) S = .ret d S := by rw [evE]; rfl
@[simp ↓] theorem evE_varS {o : Option D} : evE R (.var (n + 1)) (o :: env) S = evE R (.var n) env S := by rw [evE, evE]; rfl
@[simp ↓] theorem evE_lit {d : D} : evE R (.lit d) env S = .ret d S := by rw [evE]
@[simp ↓] theorem evE_glob : evE R (.glob n) env S = opt (R.glob n) (f := ⟨fun d => .ret d S⟩) := by rw [evE]; rfl
@[simp ↓] theorem evE_bin {op : Op} {mu : Bool} {a b : E} : evE R (.bin op mu a b) env S = bnd (evE R a env S) (f := ⟨fun x S => bnd (evE R b env S) (f := ⟨fun y S => opt (binop op (view S x) (view S y)) (f := ⟨fun d => mk mu d S⟩)⟩)⟩) := by rw [evE]; rfl
/-- minus an int -/
def negD : D → Option D
  | .int i => some (.int (-i))
  | _ => none
@[simp] theorem negD_int : negD (.int i) = some (.int (-i)) := rfl
@[simp ↓] theorem evE_neg {a : E} : evE R (.neg a) env S = bnd (evE R a env S) (f := ⟨fun x S => opt (negD x) (f := ⟨fun d => .ret d S⟩)⟩) := by
  rw [evE]
  unfold bnd
  congr 1
  funext x S
  cases x <;> rfl
@[simp ↓] theorem evE_not {a : E} : evE R (.not a) env S = bnd (evE R a env S) (f := ⟨fun x S => opt (truth (view S x)) (f := ⟨fun b => .ret (.bl (!b)) S⟩)⟩) := by rw [evE]; rfl
@[simp ↓] theorem evE_cmp {op : Cm} {a b : E} : evE R (.cmp a op b) env S = bnd (evE R a env S) (f := ⟨fun x S => bnd (evE R b env S) (f := ⟨fun y S => opt (compare op (view S x) (view S y)) (f := ⟨fun b => .ret (.bl b) S⟩)⟩)⟩) := by rw [evE]; rfl
@[simp ↓] theorem evE_cmp2 {op op2 : Cm} {a b c : E} : evE R (.cmp2 a op b op2 c) env S = bnd (evE R a env S) (f := ⟨fun x S => bnd (evE R b env S) (f := ⟨fun y S => opt (compare op (view S x) (view S y)) (f := ⟨fun t =>
      bite t (bnd (evE R c env S) (f := ⟨fun z S => opt (compare op2 (view S y) (view S z)) (f := ⟨fun u => .ret (.bl u) S⟩)⟩)) (.ret (.bl false) S)⟩)⟩)⟩) := by rw [evE]; rfl
@[simp ↓] theorem evE_and {es : List E} : evE R (.and es) env S = evAnd R es env S := by rw [evE]
@[simp ↓] theorem evE_or {es : List E} : evE R (.or es) env S = evOr R es env S := by rw [evE]
@[simp ↓] theorem evE_ife {c a b : E} : evE R (.ife c a b) env S = bnd (evE R c env S) (f := ⟨fun x S => opt (truth (view S x)) (f := ⟨fun t => bite t (evE R a env S) (evE R b env S)⟩)⟩) := by rw [evE]; rfl
/-- not too long -/
def lng {α : Type} (n : Nat) (t : T α) : T α := if n ≤ line then t else .bad
@[simp] theorem lng_ok {α : Type} {t : T α} (h : n ≤ 16777216) : lng n t = t := if_pos h
@[simp ↓] theorem evE_tup {es : List E} : evE R (.tup es) env S = bnd (evEs R es env S) (f := ⟨fun ds S => lng ds.length (.ret (.tup ds) S)⟩) := by rw [evE]; rfl
@[simp ↓] theorem evE_lst {mu : Bool} {es : List E} : evE R (.lst mu es) env S = bnd (evEs R es env S) (f := ⟨fun ds S => lng ds.length (mk mu (.lst ds) S)⟩) := by rw [evE]; rfl
@[simp ↓] theorem evE_dict {mu : Bool} : evE R (.dict mu [] []) env S = mk mu (.dct []) S := by rw [evE]
@[simp ↓] theorem evE_idx {a b : E} : evE R (.idx a b) env S = bnd (evE R a env S) (f := ⟨fun x S => bnd (evE R b env S) (f := ⟨fun y S => opt (index (view S x) y) (f := ⟨fun d => .ret d S⟩)⟩)⟩) := by rw [evE]; rfl
@[simp ↓] theorem evE_slc {mu : Bool} {a : E} {lo hi : Option E} : evE R (.slc mu a lo hi) env S = bnd (evE R a env S) (f := ⟨fun x S => bnd (evO R lo env S) (f := ⟨fun l S => bnd (evO R hi env S) (f := ⟨fun h S => opt (slice (view S x) l h) (f := ⟨fun d => mk mu d S⟩)⟩)⟩)⟩) := by rw [evE]; rfl
@[simp ↓] theorem evE_back {mu : Bool} {a : E} : evE R (.back mu a) env S = bnd (evE R a env S) (f := ⟨fun x S => opt (backw (view S x)) (f := ⟨fun d => mk mu d S⟩)⟩) := by rw [evE]; rfl
/-- an object's field -/
def fldD (f : Nat) : D → Option D
  | .ins _ fs => lookF fs f
  | _ => none
@[simp ↓] theorem evE_fld {a : E} {f : Nat} : evE R (.fld a f) env S = bnd (evE R a env S) (f := ⟨fun x S => opt (fldD f (view S x)) (f := ⟨fun d => .ret d S⟩)⟩) := by
  rw [evE]
  unfold bnd
  congr 1
  funext x S
  show (match view S x with | .ins _ fs => _ | _ => _) = opt (fldD f (view S x)) (f := ⟨fun d => .ret d S⟩)
  cases view S x <;> rfl
@[simp ↓] theorem evE_call {f : Nat} {mu : Bool} {es : List E} {pm : List Nat} : evE R (.call f mu es pm) env S = bnd (evEs R es env S) (f := ⟨fun ds S => opt (permute ds pm) (f := ⟨fun qs => R.call f mu qs S⟩)⟩) := by rw [evE]; rfl
@[simp ↓] theorem evE_callk {f : Nat} {mu : Bool} {np nk : Nat} {es ks : List E} {pm : List Nat} : evE R (.callk f mu np nk es ks pm) env S = bnd (evEs R es env S) (f := ⟨fun xs S => bnd (evEs R ks env S) (f := ⟨fun ys S => if xs.length = np ∧ ys.length = nk then opt (permute (xs ++ ys) pm) (f := ⟨fun qs => R.call f mu qs S⟩) else .bad⟩)⟩) := by rw [evE]; rfl
@[simp ↓] theorem evE_bi {b : Bi} {mu : Bool} {es : List E} : evE R (.bi b mu es) env S = bnd (evEs R es env S) (f := ⟨fun ds S => opt (bi b (ds.map (view S))) (f := ⟨fun d => mk mu d S⟩)⟩) := by rw [evE]; rfl
@[simp ↓] theorem evE_mth {m : Me} {a : E} {es : List E} : evE R (.mth m a es) env S = bnd (evE R a env S) (f := ⟨fun x S => if meTy m (view S x) then bnd (evEs R es env S) (f := ⟨fun ds S => opt (mth S m x ds) (f := ⟨fun q => .ret q.1 q.2⟩)⟩) else .bad⟩) := by rw [evE]; rfl
@[simp ↓] theorem evE_cmpr {mu : Bool} {own : List Nat} {elt : E} {p : NPat} {k : Itk} {its cs : List E} : evE R (.comp mu own elt p k its cs) env S = bnd (evEs R its env S) (f := ⟨fun ds S => opt (itemsK S k ds) (f := ⟨fun items =>
      bnd (clp (fun S' => still S S' (objsOf ds)) items [] S (f := ⟨fun x S => opt (npSet S p x (wipeD env own)) (f := ⟨fun env' => bnd (evC R cs env' S) (f := ⟨fun t S => bite t (bnd (evE R elt env' S) (f := ⟨fun y S => .ret (some y) S⟩)) (.ret none S)⟩)⟩)⟩)).nox (f := ⟨fun ys S =>
        lng ys.length (mk mu (.lst ys) S)⟩)⟩)⟩) := by rw [evE]; rfl
@[simp ↓] theorem evE_comp2 {mu : Bool} {own own2 : List Nat} {elt : E} {p p2 : NPat} {k k2 : Itk} {its cs its2 cs2 : List E} : evE R (.comp2 mu own elt p k its cs own2 p2 k2 its2 cs2) env S = bnd (evEs R its env S) (f := ⟨fun ds S => opt (itemsK S k ds) (f := ⟨fun items =>
      bnd (clp2 (fun S' => still S S' (objsOf ds)) items [] S (f := ⟨fun x acc S => opt (npSet S p x (wipeD env own)) (f := ⟨fun env1 => bnd (evC R cs env1 S) (f := ⟨fun t S => bite t (
        bnd (evEs R its2 env1 S) (f := ⟨fun ds2 S => opt (itemsK S k2 ds2) (f := ⟨fun items2 =>
          clp (fun S' => still S S' (objsOf ds2)) items2 acc S (f := ⟨fun y S => opt (npSet S p2 y (wipeD env1 own2)) (f := ⟨fun env2 => bnd (evC R cs2 env2 S) (f := ⟨fun t S => bite t (bnd (evE R elt env2 S) (f := ⟨fun y S => .ret (some y) S⟩)) (.ret none S)⟩)⟩)⟩)⟩)⟩))
        (.ret acc S)⟩)⟩)⟩)).nox (f := ⟨fun ys S =>
        lng ys.length (mk mu (.lst ys) S)⟩)⟩)⟩) := by rw [evE]; rfl
@[simp ↓] theorem evEs_nil : evEs R [] env S = .ret [] S := by rw [evEs]
@[simp ↓] theorem evEs_cons {e : E} {es : List E} : evEs R (e :: es) env S = bnd (evE R e env S) (f := ⟨fun x S => bnd (evEs R es env S) (f := ⟨fun xs S => .ret (x :: xs) S⟩)⟩) := by rw [evEs]; rfl
@[simp ↓] theorem evO_none : evO R none env S = .ret none S := by rw [evO]
/-- an int -/
def intD : D → Option Int
  | .int i => some i
  | _ => none
@[simp] theorem intD_int : intD (.int i) = some i := rfl
@[simp ↓] theorem evO_some {e : E} : evO R (some e) env S = bnd (evE R e env S) (f := ⟨fun x S => opt (intD x) (f := ⟨fun i => .ret (some i) S⟩)⟩) := by
  rw [evO]
  unfold bnd
  congr 1
  funext x S
  cases x <;> rfl
@[simp ↓] theorem evAnd_one {e : E} : evAnd R [e] env S = evE R e env S := by simp only [evAnd]
@[simp ↓] theorem evAnd_cons {e f : E} {es : List E} : evAnd R (e :: f :: es) env S = bnd (evE R e env S) (f := ⟨fun x S => opt (truth (view S x)) (f := ⟨fun t => bite t (evAnd R (f :: es) env S) (.ret x S)⟩)⟩) := by
  conv => lhs; unfold evAnd
  rfl
@[simp ↓] theorem evOr_one {e : E} : evOr R [e] env S = evE R e env S := by simp only [evOr]
@[simp ↓] theorem evOr_cons {e f : E} {es : List E} : evOr R (e :: f :: es) env S = bnd (evE R e env S) (f := ⟨fun x S => opt (truth (view S x)) (f := ⟨fun t => bite t (.ret x S) (evOr R (f :: es) env S)⟩)⟩) := by
  conv => lhs; unfold evOr
  rfl
@[simp ↓] theorem evC_nil : evC R [] env S = .ret true S := by rw [evC]
@[simp ↓] theorem evC_cons {e : E} {es : List E} : evC R (e :: es) env S = bnd (evE R e env S) (f := ⟨fun x S => opt (truth (view S x)) (f := ⟨fun t => bite t (evC R es env S) (.ret false S)⟩)⟩) := by rw [evC]; rfl
end
section
variable {R : Rn} {bl : Nat → Nat → Bool} {env : Slots} {S : Store} {n : Nat} {e : E}
@[simp ↓] theorem evSs_nil : evSs R bl [] env S = .ret (.nx env) S := by rw [evSs]
@[simp ↓] theorem evSs_cons {s : Sm} {ss : List Sm} : evSs R bl (s :: ss) env S = bnd (evS R bl s env S) (f := ⟨fun fl S => flw fl S (f := ⟨fun env' S => evSs R bl ss env' S⟩)⟩) := by
  rw [evSs]
  unfold bnd
  congr 1
@[simp ↓] theorem evS_expr : evS R bl (.expr e) env S = stb (evE R e env S) env (f := ⟨fun _ S => .ret (.nx env) S⟩) := by rw [evS]; rfl
@[simp ↓] theorem evS_asg {t : Tg} : evS R bl (.asg t e) env S = stb (evE R e env S) env (f := ⟨fun d S => bnd (tgSet R t d env S).nox (f := ⟨fun env' S => .ret (.nx env') S⟩)⟩) := by rw [evS]; rfl
@[simp ↓] theorem evS_aug {op : Op} : evS R bl (.aug op n e) env S = opt (env[n]?) (f := ⟨fun o => opt o (f := ⟨fun x => stb (evE R e env S) env (f := ⟨fun y S => opt (augop op x y) (f := ⟨fun d => .ret (.nx (env.set n (some d))) S⟩)⟩)⟩)⟩) := by rw [evS]; rfl
@[simp ↓] theorem evS_ret : evS R bl (.ret e) env S = stb (evE R e env S) env (f := ⟨fun d S => .ret (.rt d) S⟩) := by rw [evS]; rfl
@[simp ↓] theorem evS_ite {a b : List Sm} : evS R bl (.ite e a b) env S = stb (evE R e env S) env (f := ⟨fun x S => opt (truth (view S x)) (f := ⟨fun t => bite t (evSs R bl a env S) (evSs R bl b env S)⟩)⟩) := by rw [evS]; rfl
@[simp ↓] theorem evS_for {p : NPat} {k : Itk} {its : List E} {body : List Sm} : evS R bl (.for p k its body) env S = stb (evEs R its env S) env (f := ⟨fun ds S => opt (itemsK S k ds) (f := ⟨fun items =>
      flp (fun S' => still S S' (objsOf ds)) items env S (f := ⟨fun x env S => opt (npSet S p x env) (f := ⟨fun env' => evSs R bl body env' S⟩)⟩)⟩)⟩) := by rw [evS]; rfl
theorem evS_whl {body : List Sm} : evS R bl (.whl e body) env S = wlp fuel env S (c := ⟨fun env S => stb (evE R e env S) env (f := ⟨fun x S => opt (truth (view S x)) (f := ⟨fun t => bite t (.ret (.nx env) S) (.ret (.bk env) S)⟩)⟩)⟩) (b := ⟨evSs R bl body⟩) := by rw [evS]; rfl
@[simp ↓] theorem evS_brk : evS R bl .brk env S = .ret (.bk env) S := by rw [evS]
@[simp ↓] theorem evS_cnt : evS R bl .cnt env S = .ret (.ct env) S := by rw [evS]
@[simp ↓] theorem evS_pass : evS R bl .pass env S = .ret (.nx env) S := by rw [evS]
@[simp ↓] theorem evS_raise {c : Nat} : evS R bl (.raise c none) env S = .ret (.ex ⟨c, .non⟩ env) S := by rw [evS]
/-- a try's clauses at the end of its body -/
def trf (bl : Nat → Nat → Bool) (hs : List (Nat × List (Nat × D))) (fl : Flow) (S : Store) : T Flow := match fl with
  | .ex e env' => evH bl hs e env' S
  | fl => .ret fl S
@[simp] theorem trf_ex {hs : List (Nat × List (Nat × D))} {x : Exc} : trf bl hs (.ex x env) S = evH bl hs x env S := rfl
@[simp] theorem trf_nx {hs : List (Nat × List (Nat × D))} : trf bl hs (.nx env) S = .ret (.nx env) S := rfl
@[simp] theorem trf_rt {hs : List (Nat × List (Nat × D))} {d : D} : trf bl hs (.rt d) S = .ret (.rt d) S := rfl
@[simp ↓] theorem evS_try {body : List Sm} {hs : List (Nat × List (Nat × D))} : evS R bl (.try body hs) env S = bnd (evSs R bl body env S) (f := ⟨fun fl S => trf bl hs fl S⟩) := by rw [evS]; rfl
@[simp ↓] theorem tgSet_nm {p : NPat} {d : D} : tgSet R (.nm p) d env S = opt (npSet S p d env) (f := ⟨fun env' => .ret env' S⟩) := by rw [tgSet]; rfl
@[simp ↓] theorem tgSet_idx {o i : E} {d : D} : tgSet R (.idx o i) d env S = bnd (evE R o env S) (f := ⟨fun x S => bnd (evE R i env S) (f := ⟨fun y S => opt (setIdx S x y d) (f := ⟨fun S' => .ret env S'⟩)⟩)⟩) := by rw [tgSet]; rfl
theorem tgSet_tup {ts : List Tg} {d : D} {xs : List D} (h : view S d = .tup xs) : tgSet R (.tup ts) d env S = if xs.length = ts.length then tgSets R ts xs env S else .bad := by rw [tgSet, h]
@[simp ↓] theorem tgSet_tup' {ts : List Tg} {xs : List D} : tgSet R (.tup ts) (.tup xs) env S = if xs.length = ts.length then tgSets R ts xs env S else .bad := tgSet_tup rfl
@[simp ↓] theorem tgSets_nil : tgSets R [] [] env S = .ret env S := by rw [tgSets]
@[simp ↓] theorem tgSets_cons {t : Tg} {ts : List Tg} {x : D} {xs : List D} : tgSets R (t :: ts) (x :: xs) env S = bnd (tgSet R t x env S) (f := ⟨fun env' S' => tgSets R ts xs env' S'⟩) := by rw [tgSets]; rfl
@[simp ↓] theorem evH_nil {x : Exc} : evH bl [] x env S = .ret (.ex x env) S := by rw [evH]
@[simp ↓] theorem evH_cons {h : Nat} {as : List (Nat × D)} {r : List (Nat × List (Nat × D))} {x : Exc} : evH bl ((h, as) :: r) x env S = if bl x.c h then .ret (.nx (as.foldl (fun env p => env.set p.1 (some p.2)) env)) S else evH bl r x env S := by rw [evH]
@[simp] theorem npSet_nm {d : D} : npSet S (.nm n) d env = some (env.set n (some d)) := by rw [npSet]
@[simp] theorem npSet_tup {ps : List NPat} {xs : List D} : npSet S (.tup ps) (.tup xs) env = if xs.length = ps.length then npSets S ps xs env else none := by rw [npSet]; rfl
@[simp] theorem npSets_nil : npSets S [] [] env = some env := by rw [npSets]
@[simp] theorem npSets_cons {p : NPat} {ps : List NPat} {x : D} {xs : List D} : npSets S (p :: ps) (x :: xs) env = (npSet S p x env).bind fun env' => npSets S ps xs env' := by rw [npSets]
@[simp] theorem wipeD_nil : wipeD env [] = env := rfl
@[simp] theorem wipeD_cons {v : Nat} {vs : List Nat} : wipeD env (v :: vs) = (wipeD env vs).set v none := rfl
end
section
variable {S : Store} {i j : Int} {n : Nat} {b : Bool} {xs ys : List D} {s : Str}
@[simp] theorem view_non : view S .non = .non := rfl
@[simp] theorem view_bl : view S (.bl b) = .bl b := rfl
@[simp] theorem view_int : view S (.int i) = .int i := rfl
@[simp] theorem view_str : view S (.str s) = .str s := rfl
@[simp] theorem view_tup : view S (.tup xs) = .tup xs := rfl
@[simp] theorem view_lst : view S (.lst xs) = .lst xs := rfl
@[simp] theorem view_scr {ns : List Int} : view S (.scr ns) = .scr ns := rfl
@[simp] theorem view_dct {kv : List (D × D)} : view S (.dct kv) = .dct kv := rfl
@[simp] theorem view_rng : view S .rng = .rng := rfl
@[simp] theorem view_obj : view S (.obj n) = (S[n]?).getD (.obj n) := rfl
@[simp] theorem truth_bl : truth (.bl b) = some b := rfl
@[simp] theorem truth_int : truth (.int i) = some (i != 0) := rfl
@[simp] theorem truth_non : truth .non = some false := rfl
@[simp] theorem truth_tup : truth (.tup xs) = some (!xs.isEmpty) := rfl
@[simp] theorem truth_lst : truth (.lst xs) = some (!xs.isEmpty) := rfl
@[simp] theorem binop_add : binop .add (.int i) (.int j) = some (.int (i + j)) := rfl
@[simp] theorem binop_sub : binop .sub (.int i) (.int j) = some (.int (i - j)) := rfl
@[simp] theorem binop_mod (h : 0 < j) : binop .mod (.int i) (.int j) = some (.int (i % j)) := by simp [binop, h]
@[simp] theorem binop_fdiv (h : 0 < j) (h2 : j < 1073741824) : binop .fdiv (.int i) (.int j) = some (.int (i / j)) := by simp [binop, h, h2]
@[simp] theorem binop_addL (h : xs.length + ys.length ≤ 16777216) : binop .add (.lst xs) (.lst ys) = some (.lst (xs ++ ys)) := by simp [binop, h]
@[simp] theorem binop_addT (h : xs.length + ys.length ≤ 16777216) : binop .add (.tup xs) (.tup ys) = some (.tup (xs ++ ys)) := by simp [binop, h]
theorem mulOk_small (hi : -1000000000 < i) (hi2 : i < 1000000000) : mulOk i j = true := by
  have h1 : (-(2 ^ 64) : Int) < i := by omega
  have h2 : i < (2 ^ 64 : Int) := by omega
  unfold mulOk
  rw [decide_eq_true h1, decide_eq_true h2]
  rfl
@[simp] theorem binop_mul (hi : -1000000000 < i) (hi2 : i < 1000000000) : binop .mul (.int i) (.int j) = some (.int (i * j)) := by simp [binop, mulOk_small hi hi2]
@[simp] theorem compare_lt : compare .lt (.int i) (.int j) = some (decide (i < j)) := rfl
@[simp] theorem compare_le : compare .le (.int i) (.int j) = some (decide (i ≤ j)) := rfl
@[simp] theorem compare_gt : compare .gt (.int i) (.int j) = some (decide (j < i)) := rfl
@[simp] theorem compare_ge : compare .ge (.int i) (.int j) = some (decide (j ≤ i)) := rfl
@[simp] theorem compare_eq {x y : D} (hx : x.ok 40 = true) (hy : y.ok 40 = true) : compare .eq x y = some (x.eqv y) := by simp [compare, hx, hy]
@[simp] theorem compare_ne {x y : D} (hx : x.ok 40 = true) (hy : y.ok 40 = true) : compare .ne x y = some (!x.eqv y) := by simp [compare, hx, hy]
@[simp] theorem compare_is_bl {c : Bool} : compare .is (.bl b) (.bl c) = some (b == c) := rfl
@[simp] theorem compare_isnot_bl {c : Bool} : compare .isnot (.bl b) (.bl c) = some (b != c) := rfl
@[simp] theorem compare_in {x : D} : compare .isin x (.lst ys) = isIn x (.lst ys) := rfl
@[simp] theorem compare_notin {x : D} : compare .notin x (.lst ys) = (isIn x (.lst ys)).map (!·) := rfl
@[simp] theorem compare_inT {x : D} : compare .isin x (.tup ys) = isIn x (.tup ys) := rfl
@[simp] theorem compare_notinT {x : D} : compare .notin x (.tup ys) = (isIn x (.tup ys)).map (!·) := rfl
theorem mth_append (h : S[n]? = some (.lst xs)) (hl : xs.length < 16777216) {x : D} : mth S .append (.obj n) [x] = some (.non, S.set n (.lst (xs ++ [x]))) := by simp [mth, h, hl]
@[simp] theorem rnOf_call {P : Prog} {rn : Nat → List D → Store → T D} : (rnOf P rn).call = callD rn := rfl
@[simp] theorem rnOf_glob {P : Prog} {rn : Nat → List D → Store → T D} : (rnOf P rn).glob n = P.globs[n]? := rfl
end
end Ic

set_option Elab.async false
set_option linter.all false
set_option maxRecDepth 100000
/-! Sx2: comprehensions over typed lists; ways joined; calls. -/
namespace Ic
open PySem (Str)
section
variable {α β : Type} {ok : Store → Bool} {S : Store}
/-- typed items as data -/
def em (e : α → D) (xs : List α) : List D := xs.map e
@[simp] theorem em_nil {e : α → D} : em e [] = [] := rfl
theorem em_cons {e : α → D} {x : α} {xs : List α} : em e (x :: xs) = e x :: em e xs := rfl
@[simp] theorem em_length {e : α → D} {xs : List α} : (em e xs).length = xs.length := by simp [em]
@[simp] theorem em_append {e : α → D} {xs ys : List α} : em e xs ++ em e ys = em e (xs ++ ys) := by simp [em]
@[simp] theorem em_reverse {e : α → D} {xs : List α} : (em e xs).reverse = em e xs.reverse := by simp [em]
@[simp] theorem em_tail {e : α → D} {xs : List α} : (em e xs).tail = em e xs.tail := by simp [em]
@[simp] theorem em_drop {e : α → D} {xs : List α} {n : Nat} : (em e xs).drop n = em e (xs.drop n) := by simp [em]
@[simp] theorem em_take {e : α → D} {xs : List α} {n : Nat} : (em e xs).take n = em e (xs.take n) := by simp [em]
@[simp] theorem em_dropLast {e : α → D} {xs : List α} : (em e xs).dropLast = em e xs.dropLast := by simp [em, List.dropLast_eq_take]
@[simp] theorem em_isEmpty {e : α → D} {xs : List α} : (em e xs).isEmpty = xs.isEmpty := by cases xs <;> rfl
@[simp] theorem em_eq_nil {e : α → D} {xs : List α} : em e xs = [] ↔ xs = [] := by cases xs <;> simp [em]
@[simp] theorem em_snoc_int {xs : List Int} {c : Int} {r : List D} : em D.int xs ++ (D.int c :: r) = em D.int (xs ++ [c]) ++ r := by simp [em]
@[simp] theorem em_front_int {xs : List Int} {c : Int} : D.int c :: em D.int xs = em D.int (c :: xs) := rfl
/-- rows of ints -/
def tI (ns : List Int) : D := .tup (em .int ns)
@[simp] theorem tI_eq {ns : List Int} : tI ns = .tup (em .int ns) := rfl
/-- a comprehension's turns over typed items -/
def cpA (ok : Store → Bool) (f : α → Store → T (Option D)) : List α → List D → Store → T (List D)
  | [], acc, S => .ret acc S
  | x :: xs, acc, S => (f x S).bind fun o S' => if ok S' then some? (push acc o) fun acc' => cpA ok f xs acc' S' else .bad
theorem compLoop_map' {f : D → Store → T (Option D)} {e : α → D} : ∀ {xs : List α} {acc : List D} {S : Store}, compLoop ok f (em e xs) acc S = cpA ok (fun a S => f (e a) S) xs acc S
  | [], _, _ => rfl
  | x :: xs, acc, S => by
    simp only [em_cons, compLoop, cpA, compLoop_map']
theorem clp_emA {f : D → Store → T (Option D)} {e : α → D} {xs : List α} {acc : List D} : clp ok (em e xs) acc S (f := ⟨f⟩) = cpA ok (fun a S => f (e a) S) xs acc S := compLoop_map'
@[simp] theorem clp_nil {f : D → Store → T (Option D)} {acc : List D} : clp ok [] acc S (f := ⟨f⟩) = .ret acc S := rfl
@[simp] theorem clp_cons {f : D → Store → T (Option D)} {x : D} {xs acc : List D} : clp ok (x :: xs) acc S (f := ⟨f⟩) = bnd (f x S) (f := ⟨fun o S' => if ok S' then opt (push acc o) (f := ⟨fun acc' => clp ok xs acc' S' (f := ⟨f⟩)⟩) else .bad⟩) := rfl
@[simp] theorem push_some {acc : List D} {y : D} (h : acc.length < 16777216) : push acc (some y) = some (acc ++ [y]) := if_pos h
@[simp] theorem push_none {acc : List D} : push acc none = some acc := rfl
theorem cpA_congr {f g : α → Store → T (Option D)} : ∀ {xs : List α} {acc : List D} {S : Store}, (∀ a ∈ xs, ∀ S, f a S = g a S) → cpA ok f xs acc S = cpA ok g xs acc S
  | [], _, _, _ => rfl
  | x :: xs, acc, S, h => by
    rw [cpA, cpA, h x List.mem_cons_self]
    congr 1
    funext o S'
    split
    · congr 1
      funext acc'
      exact cpA_congr fun a ha => h a (List.mem_cons_of_mem _ ha)
    · rfl
theorem cpA_cg {f g : α → Store → T (Option D)} {xs ys : List α} {acc acc' : List D} {S S' : Store} (hx : xs = ys) (ha : acc = acc') (hS : S = S') (h : ∀ a, a ∈ ys → ∀ S, f a S = g a S) : cpA ok f xs acc S = cpA ok g ys acc' S' := by
  subst hx ha hS
  exact cpA_congr h
/-- each turn gives an item or none, and keeps the store -/
theorem cpA_ret {h : α → Option D} : ∀ {xs : List α} {acc : List D} {S : Store}, acc.length + xs.length ≤ 16777216 → cpA (fun S' => still S S' []) (fun a S => .ret (h a) S) xs acc S = .ret (acc ++ xs.filterMap h) S
  | [], acc, S, _ => by simp [cpA]
  | x :: xs, acc, S, hl => by
    simp only [List.length_cons] at hl
    rw [cpA, T.bind_ret, if_pos (show still S S [] = true from rfl)]
    cases e : h x with
    | none =>
      simp only [push, some?_some]
      rw [cpA_ret (by omega)]
      simp [e]
    | some y =>
      simp only [push, line]
      rw [if_pos (by omega), some?_some, cpA_ret (by simp; omega)]
      simp [e]
/-- items put behind -/
def appT (acc ys : List D) (S : Store) : T (List D) := if ys = [] ∨ acc.length + ys.length ≤ 16777216 then .ret (acc ++ ys) S else .bad
@[simp] theorem appT_nil {ys : List D} {S : Store} (h : ys.length ≤ 16777216) : appT [] ys S = .ret ys S := by simp [appT, h]
theorem cpA_app {h : α → Option D} {S : Store} : ∀ {xs : List α} {acc : List D}, cpA (fun S' => still S S' []) (fun a S => .ret (h a) S) xs acc S = appT acc (xs.filterMap h) S
  | [], acc => by simp [cpA, appT]
  | x :: xs, acc => by
    rw [cpA, T.bind_ret, if_pos (show still S S [] = true from rfl)]
    cases e : h x with
    | none =>
      simp only [push, some?_some]
      rw [cpA_app]
      simp [e]
    | some y =>
      simp only [push, line]
      by_cases hl : acc.length < 16777216
      · rw [if_pos hl, some?_some, cpA_app]
        simp only [appT, List.filterMap_cons, e]
        by_cases h2 : (acc ++ [y]).length + (xs.filterMap h).length ≤ 16777216
        · rw [if_pos (.inr h2), if_pos (.inr (by simp at h2 ⊢; omega))]
          simp
        · by_cases h3 : xs.filterMap h = []
          · rw [if_pos (.inl h3), if_pos (.inr (by simp [h3]; omega))]
            simp
          · rw [if_neg (by simp only [not_or]; exact ⟨h3, h2⟩), if_neg (by
              simp only [not_or]
              refine ⟨by simp, ?_⟩
              simp at h2 ⊢
              omega)]
      · rw [if_neg hl, some?_none]
        simp only [appT, List.filterMap_cons, e]
        rw [if_neg]
        simp only [not_or]
        exact ⟨by simp, by simp; omega⟩
theorem cpA_app' {ok : Store → Bool} {h : α → Option D} {S : Store} {xs : List α} {acc : List D} (hok : ok = fun S' => still S S' []) : cpA ok (fun a S => .ret (h a) S) xs acc S = appT acc (xs.filterMap h) S := by
  subst hok
  exact cpA_app
/-- two sources -/
def cpB (ok : Store → Bool) (f : α → List D → Store → T (List D)) : List α → List D → Store → T (List D)
  | [], acc, S => .ret acc S
  | x :: xs, acc, S => (f x acc S).bind fun acc' S' => if ok S' then cpB ok f xs acc' S' else .bad
theorem compLoop2_map' {f : D → List D → Store → T (List D)} {e : α → D} : ∀ {xs : List α} {acc : List D} {S : Store}, compLoop2 ok f (em e xs) acc S = cpB ok (fun a acc S => f (e a) acc S) xs acc S
  | [], _, _ => rfl
  | x :: xs, acc, S => by
    simp only [em_cons, compLoop2, cpB, compLoop2_map']
theorem clp2_emB {f : D → List D → Store → T (List D)} {e : α → D} {xs : List α} {acc : List D} : clp2 ok (em e xs) acc S (f := ⟨f⟩) = cpB ok (fun a acc S => f (e a) acc S) xs acc S := compLoop2_map'
@[simp] theorem clp2_nil {f : D → List D → Store → T (List D)} {acc : List D} : clp2 ok [] acc S (f := ⟨f⟩) = .ret acc S := rfl
@[simp] theorem clp2_cons {f : D → List D → Store → T (List D)} {x : D} {xs acc : List D} : clp2 ok (x :: xs) acc S (f := ⟨f⟩) = bnd (f x acc S) (f := ⟨fun acc' S' => if ok S' then clp2 ok xs acc' S' (f := ⟨f⟩) else .bad⟩) := rfl
theorem cpB_app {h : α → List D} {S : Store} : ∀ {xs : List α} {acc : List D}, cpB (fun S' => still S S' []) (fun a acc S => appT acc (h a) S) xs acc S = appT acc (xs.flatMap h) S
  | [], acc => by simp [cpB, appT]
  | x :: xs, acc => by
    rw [cpB]
    by_cases h1 : h x = [] ∨ acc.length + (h x).length ≤ 16777216
    · rw [appT, if_pos h1, T.bind_ret, if_pos (show still S S [] = true from rfl), cpB_app]
      simp only [appT, List.flatMap_cons]
      by_cases h2 : xs.flatMap h = [] ∨ (acc ++ h x).length + (xs.flatMap h).length ≤ 16777216
      · rw [if_pos h2, if_pos]
        · simp
        · rcases h1 with h1 | h1 <;> rcases h2 with h2 | h2
          · left; simp [h1, h2]
          · by_cases h4 : xs.flatMap h = []
            · left; simp [h1, h4]
            · right; simp [h1] at h2 ⊢; omega
          · right; rw [h2]; simpa using h1
          · right; simp at h2 ⊢; omega
      · rw [if_neg h2, if_neg]
        simp only [not_or, List.append_eq_nil_iff, not_and] at h2 ⊢
        refine ⟨fun _ => h2.1, ?_⟩
        have := h2.2
        simp at this ⊢
        omega
    · rw [appT, if_neg h1, T.bind_bad, appT, if_neg]
      simp only [not_or, List.append_eq_nil_iff, not_and, List.flatMap_cons] at h1 ⊢
      refine ⟨fun hx => absurd hx h1.1, ?_⟩
      have := h1.2
      simp at this ⊢
      omega
/-! ### at one store -/
@[simp] theorem s_still_nil {S S' : Store} : still S S' [] = true := rfl
def outO : T (Option D) → Option D
  | .ret o _ => o
  | _ => none
open Classical in
/-- a comprehension's turns whose items are told at one store; fb: the turns themselves -/
noncomputable def cpF (ok : Store → Bool) (xs : List α) (acc : List D) (S : Store) (g : (a : α) → a ∈ xs → T (Option D)) [fb : Box (T (List D))] : T (List D) :=
  if (∀ a, ∀ h : a ∈ xs, ∃ o, g a h = .ret o S) ∧ ok S = true then appT acc (xs.attach.filterMap fun p => outO (g p.1 p.2)) S else fb.val
theorem attach_fm {γ : Type} {F : α → Option γ} {xs : List α} : (xs.attach.filterMap fun p => F p.1) = xs.filterMap F := by
  have : (fun p : {x // x ∈ xs} => F p.1) = F ∘ Subtype.val := rfl
  rw [this, ← List.filterMap_map, List.attach_map_subtype_val]
theorem cpA_at {ok : Store → Bool} {f : α → Store → T (Option D)} {S : Store} (hok : ok S = true) : ∀ {xs : List α} {acc : List D}, (∀ a ∈ xs, ∃ o, f a S = .ret o S) → cpA ok f xs acc S = appT acc (xs.filterMap fun a => outO (f a S)) S
  | [], acc, _ => by simp [cpA, appT]
  | x :: xs, acc, h => by
    obtain ⟨o, ho⟩ := h x List.mem_cons_self
    have ih := fun acc => cpA_at hok (xs := xs) (acc := acc) fun a ha => h a (List.mem_cons_of_mem _ ha)
    rw [cpA, ho, T.bind_ret, if_pos hok]
    have e : outO (f x S) = o := by rw [ho]; rfl
    cases o with
    | none =>
      simp only [push, some?_some]
      rw [ih]
      simp [e]
    | some y =>
      simp only [push, line]
      by_cases hl : acc.length < 16777216
      · rw [if_pos hl, some?_some, ih]
        simp only [appT, List.filterMap_cons, e]
        by_cases h2 : (acc ++ [y]).length + (xs.filterMap fun a => outO (f a S)).length ≤ 16777216
        · rw [if_pos (.inr h2), if_pos (.inr (by simp at h2 ⊢; omega))]
          simp
        · by_cases h3 : (xs.filterMap fun a => outO (f a S)) = []
          · rw [if_pos (.inl h3), if_pos (.inr (by simp [h3]; omega))]
            simp
          · rw [if_neg (by simp only [not_or]; exact ⟨h3, h2⟩), if_neg (by
              simp only [not_or]
              refine ⟨by simp, ?_⟩
              simp at h2 ⊢
              omega)]
      · rw [if_neg hl, some?_none]
        simp only [appT, List.filterMap_cons, e]
        rw [if_neg]
        simp only [not_or]
        exact ⟨by simp, by simp; omega⟩
theorem cpF_eq {ok : Store → Bool} {f : α → Store → T (Option D)} {S : Store} {xs : List α} {acc : List D} : cpF ok xs acc S (fun a _ => f a S) (fb := ⟨cpA ok f xs acc S⟩) = cpA ok f xs acc S := by
  unfold cpF
  split
  · rename_i h
    rw [attach_fm (F := fun a => outO (f a S))]
    exact (cpA_at h.2 fun a ha => h.1 a ha).symm
  · rfl
@[simp] theorem clp_em {ok : Store → Bool} {f : D → Store → T (Option D)} {e : α → D} {xs : List α} {acc : List D} {S : Store} : clp ok (em e xs) acc S (f := ⟨f⟩) = cpF ok xs acc S (fun a _ => f (e a) S) (fb := ⟨cpA ok (fun a S => f (e a) S) xs acc S⟩) := by
  rw [clp_emA]
  exact (cpF_eq (f := fun a S => f (e a) S)).symm
@[simp] theorem cpF_ret {ok : Store → Bool} {h : α → Option D} {S : Store} {xs : List α} {acc : List D} {fb : Box (T (List D))} (hok : ok S = true) : cpF ok xs acc S (fun a _ => .ret (h a) S) (fb := fb) = appT acc (xs.filterMap h) S := by
  unfold cpF
  rw [if_pos ⟨fun a _ => ⟨_, rfl⟩, hok⟩]
  exact congrArg (fun l => appT acc l S) (attach_fm (F := h))
@[simp] theorem cpF_nil {ok : Store → Bool} {g : (a : α) → a ∈ ([] : List α) → T (Option D)} {S : Store} {acc : List D} {fb : Box (T (List D))} (hok : ok S = true) : cpF ok [] acc S g (fb := fb) = .ret acc S := by
  unfold cpF
  rw [if_pos ⟨fun a ha => absurd ha List.not_mem_nil, hok⟩]
  simp [appT]
open Classical in
/-- .. of two sources -/
noncomputable def cpG (ok : Store → Bool) (xs : List α) (acc : List D) (S : Store) (g : (a : α) → a ∈ xs → List D → T (List D)) [fb : Box (T (List D))] : T (List D) :=
  if (∀ a, ∀ h : a ∈ xs, ∃ ys : List D, ys.length ≤ 16777216 ∧ ∀ acc, g a h acc = appT acc ys S) ∧ ok S = true then appT acc (xs.attach.flatMap fun p => if h : ∃ ys : List D, ys.length ≤ 16777216 ∧ ∀ acc, g p.1 p.2 acc = appT acc ys S then Classical.choose h else []) S else fb.val
theorem attach_flm {γ : Type} {F : α → List γ} {xs : List α} : (xs.attach.flatMap fun p => F p.1) = xs.flatMap F := by
  have : (fun p : {x // x ∈ xs} => F p.1) = F ∘ Subtype.val := rfl
  have e := List.attach_map_subtype_val xs
  conv => rhs; rw [← e]
  rw [List.flatMap_map]
theorem cpB_at {ok : Store → Bool} {f : α → List D → Store → T (List D)} {h : α → List D} {S : Store} (hok : ok S = true) : ∀ {xs : List α} {acc : List D}, (∀ a ∈ xs, ∀ acc, f a acc S = appT acc (h a) S) → cpB ok f xs acc S = appT acc (xs.flatMap h) S
  | [], acc, _ => by simp [cpB, appT]
  | x :: xs, acc, hf => by
    have ih := fun acc => cpB_at hok (xs := xs) (acc := acc) fun a ha => hf a (List.mem_cons_of_mem _ ha)
    rw [cpB, hf x List.mem_cons_self]
    by_cases h1 : h x = [] ∨ acc.length + (h x).length ≤ 16777216
    · rw [appT, if_pos h1, T.bind_ret, if_pos hok, ih]
      simp only [appT, List.flatMap_cons]
      by_cases h2 : xs.flatMap h = [] ∨ (acc ++ h x).length + (xs.flatMap h).length ≤ 16777216
      · rw [if_pos h2, if_pos]
        · simp
        · rcases h1 with h1 | h1 <;> rcases h2 with h2 | h2
          · left; simp [h1, h2]
          · by_cases h4 : xs.flatMap h = []
            · left; simp [h1, h4]
            · right; simp [h1] at h2 ⊢; omega
          · right; rw [h2]; simpa using h1
          · right; simp at h2 ⊢; omega
      · rw [if_neg h2, if_neg]
        simp only [not_or, List.append_eq_nil_iff, not_and] at h2 ⊢
        refine ⟨fun _ => h2.1, ?_⟩
        have := h2.2
        simp at this ⊢
        omega
    · rw [appT, if_neg h1, T.bind_bad, appT, if_neg]
      simp only [not_or, List.append_eq_nil_iff, not_and, List.flatMap_cons] at h1 ⊢
      refine ⟨fun hx => absurd hx h1.1, ?_⟩
      have := h1.2
      simp at this ⊢
      omega
open Classical in
theorem cpG_eq {ok : Store → Bool} {f : α → List D → Store → T (List D)} {S : Store} {xs : List α} {acc : List D} : cpG ok xs acc S (fun a _ acc => f a acc S) (fb := ⟨cpB ok f xs acc S⟩) = cpB ok f xs acc S := by
  unfold cpG
  split
  · rename_i h
    rw [attach_flm (F := fun a => if h : ∃ ys : List D, ys.length ≤ 16777216 ∧ ∀ acc, f a acc S = appT acc ys S then Classical.choose h else [])]
    refine (cpB_at h.2 fun a ha acc => ?_).symm
    have z := h.1 a ha
    rw [dif_pos z]
    exact (Classical.choose_spec z).2 acc
  · rfl
@[simp] theorem clp2_em {ok : Store → Bool} {f : D → List D → Store → T (List D)} {e : α → D} {xs : List α} {acc : List D} {S : Store} : clp2 ok (em e xs) acc S (f := ⟨f⟩) = cpG ok xs acc S (fun a _ acc => f (e a) acc S) (fb := ⟨cpB ok (fun a acc S => f (e a) acc S) xs acc S⟩) := by
  rw [clp2_emB]
  exact (cpG_eq (f := fun a acc S => f (e a) acc S)).symm
theorem mem_flatMap_len {h : α → List D} {xs : List α} {a : α} (ha : a ∈ xs) : (h a).length ≤ (xs.flatMap h).length := by
  induction xs with
  | nil => cases ha
  | cons x xs ih =>
    rw [List.flatMap_cons, List.length_append]
    rcases List.mem_cons.mp ha with rfl | ha
    · omega
    · have := ih ha
      omega
open Classical in
@[simp] theorem cpG_ret {ok : Store → Bool} {h : α → List D} {S : Store} {xs : List α} {fb : Box (T (List D))} (hl : (xs.flatMap h).length ≤ 16777216) (hok : ok S = true) : cpG ok xs [] S (fun a _ acc => appT acc (h a) S) (fb := fb) = .ret (xs.flatMap h) S := by
  have z : ∀ a, ∀ _ : a ∈ xs, ∃ ys : List D, ys.length ≤ 16777216 ∧ ∀ acc, appT acc (h a) S = appT acc ys S := fun a ha => ⟨h a, Nat.le_trans (mem_flatMap_len ha) hl, fun _ => rfl⟩
  unfold cpG
  rw [if_pos ⟨z, hok⟩]
  have e1 := attach_flm (xs := xs) (F := fun a => if h : ∃ ys : List D, ys.length ≤ 16777216 ∧ ∀ acc, appT acc (h a) S = appT acc ys S then Classical.choose h else [])
  have e2 : ∀ (l : List α), (∀ a ∈ l, a ∈ xs) → (l.flatMap fun a => if h : ∃ ys : List D, ys.length ≤ 16777216 ∧ ∀ acc, appT acc (h a) S = appT acc ys S then Classical.choose h else []) = l.flatMap h := by
    intro l
    induction l with
    | nil => intro _; rfl
    | cons x l ih =>
      intro zz
      have zx := z x (zz x List.mem_cons_self)
      rw [List.flatMap_cons, List.flatMap_cons, dif_pos zx, ih fun a ha => zz a (List.mem_cons_of_mem _ ha)]
      congr 1
      have c := Classical.choose_spec zx
      have hx : (h x).length ≤ 16777216 := Nat.le_trans (mem_flatMap_len (zz x List.mem_cons_self)) hl
      have c2 := c.2 []
      rw [appT_nil hx, appT_nil c.1] at c2
      injection c2 with c3
      exact c3.symm
  have e3 := e1.trans (e2 xs fun _ h => h)
  exact (congrArg (fun l => appT [] l S) e3).trans (appT_nil hl)
/-! ### ways joined -/
section
variable {p : Prop} [Decidable p]
@[simp] theorem bite_bl {b x y : Bool} : bite b (T.ret (D.bl x) S) (T.ret (D.bl y) S) = T.ret (D.bl (cond b x y)) S := by cases b <;> rfl
@[simp] theorem bite_b {b x y : Bool} : bite b (T.ret x S) (T.ret y S) = T.ret (cond b x y) S := by cases b <;> rfl
@[simp] theorem bite_int {b : Bool} {x y : Int} : bite b (T.ret (D.int x) S) (T.ret (D.int y) S) = T.ret (D.int (cond b x y)) S := by cases b <;> rfl
@[simp] theorem bite_sn {b : Bool} {x : D} : bite b (T.ret (some x) S) (T.ret none S) = T.ret (if b = true then some x else none) S := by cases b <;> rfl
@[simp] theorem bite_ns {b : Bool} {x : D} : bite b (T.ret none S) (T.ret (some x) S) = T.ret (if b = true then none else some x) S := by cases b <;> rfl
@[simp] theorem bite_rt {b x y : Bool} : bite b (T.ret (Flow.rt (D.bl x)) S) (T.ret (Flow.rt (D.bl y)) S) = T.ret (Flow.rt (D.bl (cond b x y))) S := by cases b <;> rfl
@[simp] theorem cond_and {b c : Bool} : cond b c b = (b && c) := by cases b <;> rfl
@[simp] theorem cond_or {b c : Bool} : cond b b c = (b || c) := by cases b <;> rfl
@[simp] theorem bnd_bite {b : Bool} {t u : T α} {f : Box (α → Store → T β)} : bnd (bite b t u) (f := f) = bite b (bnd t (f := f)) (bnd u (f := f)) := by cases b <;> rfl
@[simp] theorem stb_bite {b : Bool} {t u : T α} {env : Slots} {f : Box (α → Store → T Flow)} : stb (bite b t u) env (f := f) = bite b (stb t env (f := f)) (stb u env (f := f)) := by cases b <;> rfl
@[simp] theorem nox_bite {b : Bool} {t u : T α} : (bite b t u).nox = bite b t.nox u.nox := by cases b <;> rfl
@[simp] theorem isb_bite {b : Bool} {t u : T α} {S : Store} {f : Box (α → Store → T D)} : isb (bite b t u) S (f := f) = bite b (isb t S (f := f)) (isb u S (f := f)) := by cases b <;> rfl
@[simp] theorem T.All_bite {b : Bool} {t u : T α} {P : α → Store → Prop} {X : Exc → Store → Prop} : (bite b t u).All P X ↔ (b = true → t.All P X) ∧ (b = false → u.All P X) := by cases b <;> simp [bite]
@[simp] theorem bite_same {γ : Type} {b : Bool} {x : γ} : bite b x x = x := by cases b <;> rfl
@[simp] theorem ite_ret {x y : α} : (if p then T.ret x S else T.ret y S) = T.ret (if p then x else y) S := by split <;> rfl
@[simp] theorem ite_bad {t : T α} (h : p) : (if p then t else T.bad) = t := if_pos h
@[simp] theorem T.All_ite {t u : T α} {P : α → Store → Prop} {X : Exc → Store → Prop} : (if p then t else u).All P X ↔ (p → t.All P X) ∧ (¬ p → u.All P X) := by split <;> simp_all
@[simp] theorem ite_bl {a b : Bool} : (if p then D.bl a else D.bl b) = D.bl (if p then a else b) := by split <;> rfl
@[simp] theorem ite_int {a b : Int} : (if p then D.int a else D.int b) = D.int (if p then a else b) := by split <;> rfl
@[simp] theorem ite_tup {a b : List D} : (if p then D.tup a else D.tup b) = D.tup (if p then a else b) := by split <;> rfl
@[simp] theorem ite_lst {a b : List D} : (if p then D.lst a else D.lst b) = D.lst (if p then a else b) := by split <;> rfl
@[simp] theorem truth_ite {x y : D} : truth (if p then x else y) = if p then truth x else truth y := by split <;> rfl
end
@[simp] theorem objsOf_nil : objsOf [] = [] := rfl
@[simp] theorem objsOf_int {i : Int} {r : List D} : objsOf (.int i :: r) = objsOf r := rfl
@[simp] theorem objsOf_tup {xs r : List D} : objsOf (.tup xs :: r) = objsOf r := rfl
@[simp] theorem objsOf_lst {xs r : List D} : objsOf (.lst xs :: r) = objsOf r := rfl
@[simp] theorem objsOf_scr {xs : List Int} {r : List D} : objsOf (.scr xs :: r) = objsOf r := rfl
@[simp] theorem objsOf_dct {xs : List (D × D)} {r : List D} : objsOf (.dct xs :: r) = objsOf r := rfl
@[simp] theorem objsOf_obj {n : Nat} {r : List D} : objsOf (.obj n :: r) = n :: objsOf r := rfl
/-! ### calls -/
theorem callD_eq {P : Prog} {k f np nl : Nat} {mu : Bool} {b : List Sm} {args : List D} {S : Store} (he : P.ext f = none) (hf : P.fns[f]? = some ⟨np, nl, b⟩) (hl : args.length = np) (hp : pus args = true) :
    callD (run P (k + 1)) f mu args S = isb (bnd (evSs (rnOf P (run P k)) P.below b (args.map some ++ List.replicate (nl - np) none) []).nox (f := ⟨endOf⟩)) S (f := ⟨outOf mu S⟩) := by
  rw [callD, if_pos hp]
  simp only [run, he, hf, some?_some, if_pos hl]
  rfl
theorem run_eq {P : Prog} {k f np nl : Nat} {b : List Sm} {args : List D} {S : Store} (he : P.ext f = none) (hf : P.fns[f]? = some ⟨np, nl, b⟩) (hl : args.length = np) :
    run P (k + 1) f args S = bnd (evSs (rnOf P (run P k)) P.below b (args.map some ++ List.replicate (nl - np) none) S).nox (f := ⟨endOf⟩) := by
  simp only [run, he, hf, some?_some, if_pos hl]
  rfl
@[simp] theorem endOf_rt {d : D} : endOf (.rt d) S = .ret d S := rfl
@[simp] theorem endOf_nx {env : Slots} : endOf (.nx env) S = .ret .non S := rfl
@[simp] theorem endOf_ex {x : Exc} {env : Slots} : endOf (.ex x env) S = .exc x S := rfl
@[simp] theorem outOf_false {d : D} {S' : Store} : outOf false S d S' = opt (freeze S' 0 d) (f := ⟨fun d' => .ret d' S⟩) := rfl
@[simp] theorem freeze_pu' {lo : Nat} {d : D} (h : d.pu = true) : freeze S lo d = some d := freeze_pu h
@[simp] theorem pu_non : D.non.pu = true := by simp [D.pu]
@[simp] theorem pu_bl {b : Bool} : (D.bl b).pu = true := by simp [D.pu]
@[simp] theorem pu_int {i : Int} : (D.int i).pu = true := by simp [D.pu]
@[simp] theorem pu_str {s : Str} : (D.str s).pu = true := by simp [D.pu]
@[simp] theorem pu_rng : D.rng.pu = true := by simp [D.pu]
@[simp] theorem pu_scr {ns : List Int} : (D.scr ns).pu = true := by simp [D.pu]
@[simp] theorem pu_tup {xs : List D} : (D.tup xs).pu = pus xs := by simp [D.pu]
@[simp] theorem pu_lst {xs : List D} : (D.lst xs).pu = pus xs := by simp [D.pu]
@[simp] theorem pus_nil : pus [] = true := by simp [pus]
@[simp] theorem pus_cons {x : D} {xs : List D} : pus (x :: xs) = (x.pu && pus xs) := by simp [pus]
@[simp] theorem pus_append : ∀ {xs ys : List D}, pus (xs ++ ys) = (pus xs && pus ys)
  | [], ys => by simp
  | x :: xs, ys => by simp [pus_append, Bool.and_assoc]
@[simp] theorem pus_map {e : α → D} : ∀ {xs : List α}, pus (em e xs) = xs.all fun a => (e a).pu
  | [] => rfl
  | x :: xs => by simp [em_cons, pus_map]
/-! ### equality of typed data -/
@[simp] theorem ok_non {n : Nat} : D.non.ok n = true := by cases n <;> simp [D.ok]
@[simp] theorem ok_bl {n : Nat} {b : Bool} : (D.bl b).ok n = true := by cases n <;> simp [D.ok]
@[simp] theorem ok_int {n : Nat} {i : Int} : (D.int i).ok n = true := by cases n <;> simp [D.ok]
@[simp] theorem ok_str {n : Nat} {s : Str} : (D.str s).ok n = PySem.PyData.strOk s := by cases n <;> simp [D.ok]
@[simp] theorem ok_tup {n : Nat} {xs : List D} : (D.tup xs).ok (n + 1) = oks n xs := by simp [D.ok]
@[simp] theorem ok_lst {n : Nat} {xs : List D} : (D.lst xs).ok (n + 1) = oks n xs := by simp [D.ok]
@[simp] theorem oks_nil {n : Nat} : oks n [] = true := by simp [oks]
@[simp] theorem oks_cons {n : Nat} {x : D} {xs : List D} : oks n (x :: xs) = (x.ok n && oks n xs) := by simp [oks]
@[simp] theorem oks_append {n : Nat} : ∀ {xs ys : List D}, oks n (xs ++ ys) = (oks n xs && oks n ys)
  | [], ys => by simp
  | x :: xs, ys => by simp [oks_append, Bool.and_assoc]
@[simp] theorem oks_map {n : Nat} {e : α → D} : ∀ {xs : List α}, oks n (em e xs) = xs.all fun a => (e a).ok n
  | [] => by simp
  | x :: xs => by simp [em_cons, oks_map]
/-- told apart by == as by = -/
def Sep (e : α → D) : Prop := ∀ a b, (e a).eqv (e b) = true ↔ a = b
theorem Sep.map {e : α → D} (h : Sep e) : ∀ {xs ys : List α}, eqvs (em e xs) (em e ys) = true ↔ xs = ys
  | [], [] => by simp [eqvs]
  | [], y :: ys => by simp [eqvs, em_cons]
  | x :: xs, [] => by simp [eqvs, em_cons]
  | x :: xs, y :: ys => by simp [eqvs, em_cons, h x y, h.map (xs := xs) (ys := ys)]
theorem sep_int : Sep D.int := fun a b => by simp [D.eqv]
theorem Sep.tup {e : α → D} (h : Sep e) : Sep fun xs : List α => D.tup (em e xs) := fun a b => by simp [D.eqv, h.map]
theorem Sep.lst {e : α → D} (h : Sep e) : Sep fun xs : List α => D.lst (em e xs) := fun a b => by simp [D.eqv, h.map]
theorem sep_rows : Sep tI := sep_int.tup
end
@[simp] theorem eqv_int {i j : Int} : (D.int i).eqv (.int j) = decide (i = j) := by simp [D.eqv]; rfl
@[simp] theorem eqv_bl {i j : Bool} : (D.bl i).eqv (.bl j) = (i == j) := by simp [D.eqv]
@[simp] theorem eqv_non : D.non.eqv .non = true := by simp [D.eqv]
@[simp] theorem eqv_str {i j : Str} : (D.str i).eqv (.str j) = (i == j) := by simp [D.eqv]
@[simp] theorem eqvs_ints {xs ys : List Int} : eqvs (em .int xs) (em .int ys) = decide (xs = ys) := by
  rw [Bool.eq_iff_iff, decide_eq_true_iff]
  exact sep_int.map
@[simp] theorem eqvs_rows {xs ys : List (List Int)} : eqvs (em tI xs) (em tI ys) = decide (xs = ys) := by
  rw [Bool.eq_iff_iff, decide_eq_true_iff]
  exact sep_rows.map
@[simp] theorem eqvs_emn {α : Type} {e : α → D} {xs : List α} : eqvs (em e xs) [] = xs.isEmpty := by cases xs <;> simp [eqvs, em_cons]
@[simp] theorem eqvs_nem {α : Type} {e : α → D} {xs : List α} : eqvs [] (em e xs) = xs.isEmpty := by cases xs <;> simp [eqvs, em_cons]
@[simp] theorem eqv_tup {xs ys : List D} : (D.tup xs).eqv (.tup ys) = eqvs xs ys := by simp [D.eqv]
@[simp] theorem eqv_lst {xs ys : List D} : (D.lst xs).eqv (.lst ys) = eqvs xs ys := by simp [D.eqv]
@[simp] theorem s_eqvs_nil : eqvs [] [] = true := by simp [eqvs]
@[simp] theorem eqvs_cons {x y : D} {xs ys : List D} : eqvs (x :: xs) (y :: ys) = (x.eqv y && eqvs xs ys) := by simp [eqvs]
@[simp] theorem eqvs_nc {y : D} {ys : List D} : eqvs [] (y :: ys) = false := by simp [eqvs]
@[simp] theorem eqvs_cn {y : D} {ys : List D} : eqvs (y :: ys) [] = false := by simp [eqvs]
end Ic

set_option Elab.async false
set_option linter.all false
set_option maxRecDepth 100000
/-! Sx3: operations upon typed data. -/
namespace Ic
open PySem (Str)
section
variable {α β : Type} {ok : Store → Bool} {S : Store} {i j : Int} {n : Nat}
@[simp] theorem s_line_eq : line = 16777216 := rfl
theorem compLoop_raw {f : D → Store → T (Option D)} : ∀ {xs : List D} {acc : List D} {S : Store}, compLoop ok f xs acc S = cpA ok f xs acc S
  | [], _, _ => rfl
  | x :: xs, acc, S => by simp only [compLoop, cpA, compLoop_raw]
theorem compLoop2_raw {f : D → List D → Store → T (List D)} : ∀ {xs : List D} {acc : List D} {S : Store}, compLoop2 ok f xs acc S = cpB ok f xs acc S
  | [], _, _ => rfl
  | x :: xs, acc, S => by simp only [compLoop2, cpB, compLoop2_raw]
theorem em_id {xs : List D} : em id xs = xs := by simp [em]
@[simp low] theorem clp_raw {f : D → Store → T (Option D)} {xs acc : List D} : clp ok xs acc S (f := ⟨f⟩) = cpF ok xs acc S (fun a _ => f a S) (fb := ⟨cpA ok f xs acc S⟩) := by
  have := clp_em (ok := ok) (f := f) (e := id) (xs := xs) (acc := acc) (S := S)
  rw [em_id] at this
  exact this
@[simp low] theorem clp2_raw {f : D → List D → Store → T (List D)} {xs acc : List D} : clp2 ok xs acc S (f := ⟨f⟩) = cpG ok xs acc S (fun a _ acc => f a acc S) (fb := ⟨cpB ok f xs acc S⟩) := by
  have := clp2_em (ok := ok) (f := f) (e := id) (xs := xs) (acc := acc) (S := S)
  rw [em_id] at this
  exact this
theorem cpB_congr {f g : α → List D → Store → T (List D)} : ∀ {xs : List α} {acc : List D} {S : Store}, (∀ a ∈ xs, ∀ acc S, f a acc S = g a acc S) → cpB ok f xs acc S = cpB ok g xs acc S
  | [], _, _, _ => rfl
  | x :: xs, acc, S, h => by
    rw [cpB, cpB, h x List.mem_cons_self]
    congr 1
    funext o S'
    split
    · exact cpB_congr fun a ha => h a (List.mem_cons_of_mem _ ha)
    · rfl
theorem cpB_cg {f g : α → List D → Store → T (List D)} {xs ys : List α} {acc acc' : List D} {S S' : Store} (hx : xs = ys) (ha : acc = acc') (hS : S = S') (h : ∀ a, a ∈ ys → ∀ acc S, f a acc S = g a acc S) : cpB ok f xs acc S = cpB ok g ys acc' S' := by
  subst hx ha hS
  exact cpB_congr h
/-- two sources: what is found for each item of the first -/
theorem cpB_ret {f : α → List D → Store → T (List D)} {h : α → List D} {S : Store} : ∀ {xs : List α} {acc : List D}, (∀ a ∈ xs, ∀ acc : List D, acc.length + (h a).length ≤ line → f a acc S = .ret (acc ++ h a) S) → acc.length + (xs.flatMap h).length ≤ line → cpB (fun S' => still S S' []) f xs acc S = .ret (acc ++ xs.flatMap h) S
  | [], acc, _, _ => by simp [cpB]
  | x :: xs, acc, hf, hl => by
    rw [List.flatMap_cons, List.length_append] at hl
    rw [cpB, hf x List.mem_cons_self acc (by omega), T.bind_ret, if_pos (show still S S [] = true from rfl), cpB_ret (fun a ha => hf a (List.mem_cons_of_mem _ ha)) (by rw [List.length_append]; omega)]
    simp
@[simp] theorem isTy_int {t : Ty} : isTy t (.int i) = some (match t with | .int => true | _ => false) := by cases t <;> rfl
@[simp] theorem isTy_bl {t : Ty} {b : Bool} : isTy t (.bl b) = some (match t with | .int => true | .bool => true | _ => false) := by cases t <;> rfl
@[simp] theorem isTy_non {t : Ty} : isTy t .non = some false := by cases t <;> rfl
@[simp] theorem isTy_str {t : Ty} {s : Str} : isTy t (.str s) = some (match t with | .str => true | _ => false) := by cases t <;> rfl
@[simp] theorem isTy_tup {t : Ty} {xs : List D} : isTy t (.tup xs) = some (match t with | .tup => true | _ => false) := by cases t <;> rfl
@[simp] theorem isTy_lst {t : Ty} {xs : List D} : isTy t (.lst xs) = some (match t with | .lst => true | _ => false) := by cases t <;> rfl
@[simp] theorem bi_isi {t : Ty} {d : D} : bi (.isi t) [d] = (isTy t d).map .bl := rfl
@[simp] theorem bi_isi2 {t u : Ty} {d : D} : bi (.isi2 t u) [d] = (isTy t d).bind fun b => (isTy u d).map fun c => .bl (b || c) := rfl
@[simp] theorem bi_lenL {xs : List D} : bi .len [.lst xs] = some (.int xs.length) := rfl
@[simp] theorem bi_lenT {xs : List D} : bi .len [.tup xs] = some (.int xs.length) := rfl
@[simp] theorem bi_lenS {xs : List Int} : bi .len [.scr xs] = some (.int xs.length) := rfl
@[simp] theorem bi_lenD {xs : List (D × D)} : bi .len [.dct xs] = some (.int xs.length) := rfl
@[simp] theorem bi_tupL {xs : List D} : bi .tuple [.lst xs] = some (.tup xs) := rfl
@[simp] theorem bi_tupT {xs : List D} : bi .tuple [.tup xs] = some (.tup xs) := rfl
@[simp] theorem bi_lstL {xs : List D} : bi .list [.lst xs] = some (.lst xs) := rfl
@[simp] theorem bi_lstT {xs : List D} : bi .list [.tup xs] = some (.lst xs) := rfl
@[simp] theorem s_bi_min : bi .min [.int i, .int j] = some (.int (min i j)) := by
  simp only [bi, Int.min_def]
  congr 2
  split <;> split <;> omega
@[simp] theorem s_bi_max : bi .max [.int i, .int j] = some (.int (max i j)) := by
  simp only [bi, Int.max_def]
  congr 2
  split <;> split <;> omega
@[simp] theorem s_bi_int : bi .int [.int i] = some (.int i) := rfl
@[simp] theorem bi_intb {b : Bool} : bi .int [.bl b] = some (.int (if b then 1 else 0)) := rfl
@[simp] theorem bools_map : ∀ {xs : List Bool}, bools (em .bl xs) = some xs
  | [] => rfl
  | x :: xs => by rw [em_cons, bools, bools_map]; rfl
@[simp] theorem bools_cons {b : Bool} {r : List D} : bools (.bl b :: r) = (bools r).map (b :: ·) := rfl
@[simp] theorem bools_nil : bools [] = some [] := rfl
@[simp] theorem s_bi_all {xs : List D} : bi .all [.lst xs] = (bools xs).map fun bs => .bl (bs.all id) := rfl
@[simp] theorem s_bi_any {xs : List D} : bi .any [.lst xs] = (bools xs).map fun bs => .bl (bs.any id) := rfl
@[simp] theorem s_intsOf_map : ∀ {xs : List Int}, intsOf (em .int xs) = some xs
  | [] => rfl
  | x :: xs => by rw [em_cons, intsOf, s_intsOf_map]; rfl
@[simp] theorem intsOf_nil' : intsOf [] = some [] := rfl
@[simp] theorem intsOf_cons' {r : List D} : intsOf (.int i :: r) = (intsOf r).map (i :: ·) := rfl
@[simp] theorem s_bi_sorted {xs : List D} : bi .sorted [.lst xs] = (intsOf xs).map fun ns => .lst (em .int (sortI ns)) := rfl
@[simp] theorem s_bi_sum {xs : List D} : bi .sum [.lst xs] = (intsOf xs).map fun ns => .int ns.sum := rfl
/-- the ints from i on below j -/
def irange (i j : Int) : List Int := (List.range (j - i).toNat).map fun (k : Nat) => i + (k : Int)
@[simp] theorem rangeL_eq : rangeL i j = em .int (irange i j) := by simp [rangeL, em, irange]
@[simp] theorem mem_irange {a : Int} : a ∈ irange i j ↔ i ≤ a ∧ a < j := by
  simp only [irange, List.mem_map, List.mem_range]
  constructor
  · rintro ⟨k, hk, rfl⟩
    omega
  · intro h
    exact ⟨(a - i).toNat, by omega, by omega⟩
@[simp] theorem irange_length : (irange i j).length = (j - i).toNat := by simp [irange]
@[simp] theorem bi_listR (h : -1000000 ≤ i) (h2 : i ≤ 16777216) : bi .listR [.int i] = some (.lst (rangeL 0 i)) := by
  have h3 : (-(2 ^ 62) : Int) ≤ i := by omega
  show (if -(2 ^ 62) ≤ i ∧ i ≤ ((16777216 : Nat) : Int) then _ else _) = _
  rw [if_pos ⟨h3, h2⟩]
@[simp] theorem items_val {d : D} : itemsK S .val [d] = itemsOf (view S d) := rfl
@[simp] theorem items_range1 (h : -1000000 ≤ i) (h2 : i ≤ 16777216) : itemsK S .range1 [.int i] = some (rangeL 0 i) := by
  have h3 : (-(2 ^ 62) : Int) ≤ i := by omega
  show (if -(2 ^ 62) ≤ i ∧ i ≤ ((16777216 : Nat) : Int) then _ else _) = _
  rw [if_pos ⟨h3, h2⟩]
@[simp] theorem items_range2 (h : -1000000 ≤ i) (h2 : i ≤ 1000000) (h3 : -1000000 ≤ j) (h4 : j ≤ 1000000) : itemsK S .range2 [.int i, .int j] = some (rangeL i j) := by
  have a1 : (-(2 ^ 62) : Int) ≤ i := by omega
  have a2 : i < (2 ^ 62 : Int) := by omega
  have a3 : (-(2 ^ 62) : Int) ≤ j := by omega
  have a4 : j < (2 ^ 62 : Int) := by omega
  have a5 : j - i ≤ (line : Int) := by simp only [line]; omega
  simp only [itemsK, a1, a2, a3, a4, a5, and_self, if_true]
@[simp] theorem itemsOf_tup {xs : List D} : itemsOf (.tup xs) = some xs := rfl
@[simp] theorem itemsOf_lst {xs : List D} : itemsOf (.lst xs) = some xs := rfl
@[simp] theorem itemsOf_scr {xs : List Int} : itemsOf (.scr xs) = some (em .int xs) := rfl
@[simp] theorem items_zipT {xs : List α} {ys : List β} {e : α → D} {g : β → D} : itemsK S .zip [.tup (em e xs), .tup (em g ys)] = some (em (fun p => .tup [e p.1, g p.2]) (xs.zip ys)) := by
  simp only [itemsK, em, view_tup, List.zip_map, List.map_map]
  rfl
@[simp] theorem items_zipL {xs : List α} {ys : List β} {e : α → D} {g : β → D} : itemsK S .zip [.lst (em e xs), .lst (em g ys)] = some (em (fun p => .tup [e p.1, g p.2]) (xs.zip ys)) := by
  simp only [itemsK, em, view_lst, List.zip_map, List.map_map]
  rfl
theorem zipIdx_map' {e : α → D} : ∀ (xs : List α) (n : Nat), (xs.map e).zipIdx n = (xs.zipIdx n).map fun p => (e p.1, p.2)
  | [], _ => rfl
  | x :: xs, n => by simp [zipIdx_map' xs]
@[simp] theorem items_enum {xs : List α} {e : α → D} : itemsK S .enum [.lst (em e xs)] = some (em (fun p => .tup [.int p.2, e p.1]) xs.zipIdx) := by
  simp only [itemsK, em, view_lst, zipIdx_map', List.map_map]
  rfl
@[simp] theorem slice_tup {xs : List D} {lo hi : Option Int} : slice (.tup xs) lo hi = some (.tup (cut xs lo hi)) := rfl
@[simp] theorem slice_lst {xs : List D} {lo hi : Option Int} : slice (.lst xs) lo hi = some (.lst (cut xs lo hi)) := rfl
@[simp] theorem backw_tup {xs : List D} : backw (.tup xs) = some (.tup xs.reverse) := rfl
@[simp] theorem backw_lst {xs : List D} : backw (.lst xs) = some (.lst xs.reverse) := rfl
@[simp] theorem cut_map {xs : List α} {e : α → D} {lo hi : Option Int} : cut (em e xs) lo hi = em e (cut xs lo hi) := by simp [cut, em]
@[simp] theorem cut_from {xs : List α} (h : 0 ≤ i) : cut xs (some i) none = xs.drop i.toNat := by
  simp only [cut, sIx, if_neg (show ¬ i < 0 by omega)]
  by_cases hl : i.toNat ≤ xs.length
  · rw [Nat.min_eq_left hl]
    exact List.take_of_length_le (by simp)
  · rw [Nat.min_eq_right (by omega), List.drop_of_length_le (by omega), List.drop_of_length_le (by omega)]
    simp
@[simp] theorem cut_to {xs : List α} (h : 0 ≤ i) : cut xs none (some i) = xs.take i.toNat := by
  simp only [cut, sIx, if_neg (show ¬ i < 0 by omega), List.drop_zero, Nat.sub_zero]
  by_cases hl : i.toNat ≤ xs.length
  · rw [Nat.min_eq_left hl]
  · rw [Nat.min_eq_right (by omega), List.take_of_length_le (Nat.le_refl _), List.take_of_length_le (by omega)]
@[simp] theorem cut_all {xs : List α} : cut xs none none = xs := by simp [cut, sIx]
theorem cut_mid {xs : List α} (h : 0 ≤ i) (h2 : i ≤ j) : cut xs (some i) (some j) = (xs.drop i.toNat).take (j.toNat - i.toNat) := by
  simp only [cut, sIx, if_neg (show ¬ i < 0 by omega), if_neg (show ¬ j < 0 by omega)]
  by_cases hl : j.toNat ≤ xs.length
  · rw [Nat.min_eq_left hl, Nat.min_eq_left (by omega)]
  · rw [Nat.min_eq_right (a := j.toNat) (by omega)]
    by_cases hi : i.toNat ≤ xs.length
    · rw [Nat.min_eq_left hi, List.take_of_length_le (by simp), List.take_of_length_le (by simp; omega)]
    · rw [Nat.min_eq_right (by omega), List.drop_of_length_le (by omega), List.drop_of_length_le (by omega)]
      simp
@[simp] theorem dget_eq {kvs : List (D × D)} {k : D} : index (.dct kvs) k = if keyOk k then dget kvs k else none := rfl
@[simp] theorem index_lst {xs : List D} : index (.lst xs) (.int i) = atI xs i := rfl
@[simp] theorem index_tup {xs : List D} : index (.tup xs) (.int i) = atI xs i := rfl
@[simp] theorem atI_map {xs : List α} {e : α → D} : atI (em e xs) i = (atI xs i).map e := by
  simp only [atI, em, List.length_map]
  cases ixN xs.length i with
  | none => rfl
  | some j => simp
theorem atI_nat {xs : List α} (h : n < xs.length) : atI xs (n : Int) = some xs[n] := by
  have h1 : (0 : Int) ≤ (n : Int) := by omega
  have h2 : ((n : Nat) : Int) < (xs.length : Int) := by omega
  simp [atI, ixN, h1, h2, h]
@[simp low] theorem atI_some {xs : List α} (h0 : 0 ≤ i) (h : i < xs.length) : atI xs i = xs[i.toNat]? := by
  simp [atI, ixN, h0, h]
@[simp] theorem atI_zero {x : α} {xs : List α} : atI (x :: xs) 0 = some x := by
  have h : (0 : Int) < ((x :: xs).length : Nat) := by simp
  rw [atI_some (by omega) h]
  rfl
/-- put one behind the other -/
def flat (xs : List (List α)) : List α := xs.flatten
@[simp] theorem flatMap_em {xs : List (List α)} {e : α → D} : xs.flatMap (em e) = em e (flat xs) := by
  simp only [em, flat, List.flatMap_def, List.map_flatten]
  rfl
@[simp] theorem flatMap_em' {xs : List β} {g : β → List α} {e : α → D} : (xs.flatMap fun a => em e (g a)) = em e (xs.flatMap g) := by
  simp only [em, List.map_flatMap]
@[simp] theorem binop_mulL2 {xs : List D} (h : xs.length ≤ 1000000) : binop .mul (.lst xs) (.int 2) = some (.lst (xs ++ xs)) := by
  have h1 : xs.length * (2 : Int).toNat ≤ 16777216 := by
    show xs.length * 2 ≤ 16777216
    omega
  simp only [binop, line]
  rw [if_pos ⟨by decide, by decide, h1⟩]
  simp [List.replicate]
/-! ### what comprehensions find -/
@[simp] theorem fm_int {xs : List α} {g : α → Int} : xs.filterMap (fun a => some (D.int (g a))) = em D.int (xs.map g) := by simp [em]
@[simp] theorem fm_bl {xs : List α} {g : α → Bool} : xs.filterMap (fun a => some (D.bl (g a))) = em D.bl (xs.map g) := by simp [em]
@[simp] theorem fm_row {xs : List α} {g : α → List Int} : xs.filterMap (fun a => some (D.tup (em D.int (g a)))) = em tI (xs.map g) := by
  simp only [em, List.map_map, List.filterMap_eq_map']
  rfl
@[simp] theorem fm_intIf {xs : List α} {g : α → Int} {p : α → Prop} [DecidablePred p] : xs.filterMap (fun a => if p a then some (D.int (g a)) else none) = em D.int ((xs.filter fun a => decide (p a)).map g) := by
  induction xs with
  | nil => rfl
  | cons x xs ih => by_cases h : p x <;> simp [h, ih]
@[simp] theorem fm_intIf' {xs : List α} {g : α → Int} {p : α → Prop} [DecidablePred p] : xs.filterMap (fun a => if p a then none else some (D.int (g a))) = em D.int ((xs.filter fun a => !decide (p a)).map g) := by
  induction xs with
  | nil => rfl
  | cons x xs ih => by_cases h : p x <;> simp [h, ih]
end
end Ic

set_option Elab.async false
set_option linter.all false
set_option maxRecDepth 100000
/-! Sx4: loops as folds. -/
namespace Ic
open PySem (Str)
section
variable {α σ : Type}
/-- what the loop's name holds at last -/
def lastv (e : α → D) (v : Option D) (xs : List α) : Option D := xs.foldl (fun _ a => some (e a)) v
theorem forLoop_fold {ok : Store → Bool} {f : D → Slots → Store → T Flow} {e : α → D} {E : Option D → σ → Slots} {St : σ → Store} {step : σ → α → σ} {I : List α → σ → Prop} (all : List α)
    (hf : ∀ pre a v st, pre ++ [a] <+: all → I pre st → f (e a) (E v st) (St st) = .ret (.nx (E (some (e a)) (step st a))) (St (step st a)) ∧ ok (St (step st a)) = true ∧ I (pre ++ [a]) (step st a)) :
    ∀ (xs pre : List α) v st, pre ++ xs = all → I pre st → forLoop ok f (em e xs) (E v st) (St st) = .ret (.nx (E (lastv e v xs) (xs.foldl step st))) (St (xs.foldl step st)) ∧ I all (xs.foldl step st)
  | [], pre, v, st, hp, hI => by
    rw [List.append_nil] at hp
    subst hp
    exact ⟨rfl, hI⟩
  | x :: xs, pre, v, st, hp, hI => by
    obtain ⟨h1, h2, h3⟩ := hf pre x v st ⟨xs, by simpa using hp⟩ hI
    rw [em_cons, forLoop, h1, T.bind_ret]
    simp only [h2, if_true]
    exact forLoop_fold all hf xs (pre ++ [x]) _ _ (by simpa using hp) h3
/-- a for that goes through all its items: a fold; I tells what holds behind a part of them -/
theorem flp_fold {ok : Store → Bool} {f : D → Slots → Store → T Flow} {e : α → D} (E : Option D → σ → Slots) (St : σ → Store) (step : σ → α → σ) (I : List α → σ → Prop) {xs : List α} (v : Option D) (st : σ) (hI : I [] st)
    (hf : ∀ pre a v st, pre ++ [a] <+: xs → I pre st → f (e a) (E v st) (St st) = .ret (.nx (E (some (e a)) (step st a))) (St (step st a)) ∧ ok (St (step st a)) = true ∧ I (pre ++ [a]) (step st a)) :
    flp ok (em e xs) (E v st) (St st) (f := ⟨f⟩) = .ret (.nx (E (lastv e v xs) (xs.foldl step st))) (St (xs.foldl step st)) := (forLoop_fold xs hf xs [] v st rfl hI).1
/-- .. without an invariant -/
theorem flp_fold0 {ok : Store → Bool} {f : D → Slots → Store → T Flow} {e : α → D} (E : Option D → σ → Slots) (St : σ → Store) (step : σ → α → σ) {xs : List α} (v : Option D) (st : σ) (hok : ∀ st, ok (St st) = true)
    (hf : ∀ a ∈ xs, ∀ v st, f (e a) (E v st) (St st) = .ret (.nx (E (some (e a)) (step st a))) (St (step st a))) :
    flp ok (em e xs) (E v st) (St st) (f := ⟨f⟩) = .ret (.nx (E (lastv e v xs) (xs.foldl step st))) (St (xs.foldl step st)) :=
  flp_fold E St step (fun _ _ => True) v st trivial fun pre a v st hp _ => ⟨hf a (hp.subset (by simp)) v st, hok _, trivial⟩
end
/-! ### names in the order of first places -/
def ins (ds : List Int) (c : Int) : List Int := if c ∈ ds then ds else ds ++ [c]
def dis (ns : List Int) : List Int := ns.foldl ins []
theorem mem_ins {ds : List Int} {c x : Int} : x ∈ ins ds c ↔ x ∈ ds ∨ x = c := by
  unfold ins
  split
  · constructor
    · exact .inl
    · rintro (h | rfl) <;> assumption
  · simp
theorem mem_foldl_ins : ∀ {ns ds : List Int} {x : Int}, x ∈ ns.foldl ins ds ↔ x ∈ ds ∨ x ∈ ns
  | [], ds, x => by simp
  | n :: ns, ds, x => by
    rw [List.foldl_cons, mem_foldl_ins, mem_ins, List.mem_cons, or_assoc]
@[simp] theorem mem_dis {ns : List Int} {x : Int} : x ∈ dis ns ↔ x ∈ ns := by simp [dis, mem_foldl_ins]
theorem ins_len {ds : List Int} {c : Int} : (ins ds c).length ≤ ds.length + 1 := by
  unfold ins
  split <;> simp
theorem foldl_ins_len : ∀ {ns ds : List Int}, (ns.foldl ins ds).length ≤ ds.length + ns.length
  | [], ds => by simp
  | n :: ns, ds => by
    have := foldl_ins_len (ns := ns) (ds := ins ds n)
    have := ins_len (ds := ds) (c := n)
    simp only [List.foldl_cons, List.length_cons]
    omega
theorem dis_len {ns : List Int} : (dis ns).length ≤ ns.length := by
  have := foldl_ins_len (ns := ns) (ds := [])
  simpa [dis] using this
theorem dis_snoc {ns : List Int} {c : Int} : dis (ns ++ [c]) = ins (dis ns) c := by simp [dis]
theorem ins_nodup {ds : List Int} {c : Int} (h : ds.Nodup) : (ins ds c).Nodup := by
  unfold ins
  split
  · exact h
  · rename_i hc
    rw [List.nodup_append]
    exact ⟨h, by simp, fun a ha b hb => by
      simp only [List.mem_singleton] at hb
      subst hb
      rintro rfl
      exact hc ha⟩
theorem foldl_ins_nodup : ∀ {ns ds : List Int}, ds.Nodup → (ns.foldl ins ds).Nodup
  | [], ds, h => h
  | n :: ns, ds, h => foldl_ins_nodup (ns := ns) (ins_nodup h)
theorem dis_nodup {ns : List Int} : (dis ns).Nodup := foldl_ins_nodup (by simp)
/-- the number of c's first place among the different ones -/
def nix (ds : List Int) (c : Int) : Int := (ds.idxOf c : Nat)
theorem ins_prefix {ds : List Int} {c : Int} : ds <+: ins ds c := by
  unfold ins
  split
  · exact List.prefix_refl _
  · exact List.prefix_append _ _
theorem foldl_ins_prefix : ∀ {ns ds : List Int}, ds <+: ns.foldl ins ds
  | [], ds => List.prefix_refl _
  | n :: ns, ds => ins_prefix.trans foldl_ins_prefix
theorem nix_prefix {ds es : List Int} {c : Int} (h : ds <+: es) (hc : c ∈ ds) : nix es c = nix ds c := by
  obtain ⟨r, rfl⟩ := h
  simp only [nix, List.idxOf_append, if_pos hc]
/-- the row with its crossings named in order -/
def named (ns : List Int) : List Int := ns.map (nix (dis ns))
theorem named_fold : ∀ (ns ds fs : List Int), ns.foldl (fun (s : List Int × List Int) c => (ins s.1 c, s.2 ++ [nix (ins s.1 c) c])) (ds, fs) = (ns.foldl ins ds, fs ++ ns.map (nix (ns.foldl ins ds)))
  | [], ds, fs => by simp
  | n :: ns, ds, fs => by
    simp only [List.foldl_cons]
    rw [named_fold ns]
    have : nix (ns.foldl ins (ins ds n)) n = nix (ins ds n) n := nix_prefix foldl_ins_prefix (mem_ins.mpr (.inr rfl))
    simp [this]
@[simp] theorem named_length {ns : List Int} : (named ns).length = ns.length := by simp [named]
/-- a dict of names -/
def numD (ds : List Int) : List (D × D) := ds.zipIdx.map fun p => (.int p.1, .int p.2)
theorem dget_num {ds : List Int} {c : Int} : dget (numD ds) (.int c) = if c ∈ ds then some (.int (nix ds c)) else none := by
  have h : ∀ (ds : List Int) (n : Nat), ((ds.zipIdx n).map fun p => ((D.int p.1, D.int p.2) : D × D)).find? (fun p => p.1.beq (.int c)) = if c ∈ ds then some (.int c, .int ((ds.idxOf c + n : Nat) : Int)) else none := by
    intro ds
    induction ds with
    | nil => intro n; rfl
    | cons d ds ih =>
      intro n
      rw [List.zipIdx_cons, List.map_cons, List.find?_cons]
      by_cases hd : d = c
      · subst hd
        simp [D.beq]
      · have hd2 : ¬ c = d := fun h => hd h.symm
        simp only [D.beq, beq_iff_eq, hd, beq_eq_false_iff_ne.mpr hd, ih (n + 1), List.mem_cons, hd2, false_or]
        by_cases hc : c ∈ ds
        · rw [if_pos hc, if_pos hc, List.idxOf_cons, beq_eq_false_iff_ne.mpr hd]
          simp only [cond_false]
          congr 4
          omega
        · rw [if_neg hc, if_neg hc]
  unfold dget numD
  rw [h ds 0]
  by_cases hc : c ∈ ds <;> simp [hc, nix]
@[simp] theorem numD_length {ds : List Int} : (numD ds).length = ds.length := by simp [numD]
theorem numD_snoc {ds : List Int} {c : Int} : numD (ds ++ [c]) = numD ds ++ [(.int c, .int ds.length)] := by simp [numD, List.zipIdx_append]
theorem mem_flat_of {α : Type} {xs : List (List α)} {r : List α} {c : α} (hr : r ∈ xs) (hc : c ∈ r) : c ∈ flat xs := List.mem_flatten.mpr ⟨r, hr, hc⟩
end Ic

set_option Elab.async false
set_option linter.all false
set_option maxRecDepth 100000
/-! Sx5: methods upon lists that are changed. -/
namespace Ic
open PySem (Str)
section
variable {S : Store} {d0 d1 d2 x : D} {xs : List D}
@[simp] theorem append_0 (hl : xs.length < 16777216) : mth (.lst xs :: S) .append (.obj 0) [x] = some (.non, .lst (xs ++ [x]) :: S) := by simp [mth, hl]
@[simp] theorem append_1 (hl : xs.length < 16777216) : mth (d0 :: .lst xs :: S) .append (.obj 1) [x] = some (.non, d0 :: .lst (xs ++ [x]) :: S) := by simp [mth, hl]
@[simp] theorem append_2 (hl : xs.length < 16777216) : mth (d0 :: d1 :: .lst xs :: S) .append (.obj 2) [x] = some (.non, d0 :: d1 :: .lst (xs ++ [x]) :: S) := by simp [mth, hl]
@[simp] theorem append_3 (hl : xs.length < 16777216) : mth (d0 :: d1 :: d2 :: .lst xs :: S) .append (.obj 3) [x] = some (.non, d0 :: d1 :: d2 :: .lst (xs ++ [x]) :: S) := by simp [mth, hl]
@[simp] theorem meTy_app : meTy .append (.lst xs) = true := rfl
@[simp] theorem meTy_ext : meTy .extend (.lst xs) = true := rfl
@[simp] theorem meTy_pop : meTy .pop (.lst xs) = true := rfl
@[simp] theorem meTy_ind : meTy .index (.lst xs) = true := rfl
@[simp] theorem meTy_cnt : meTy .count (.lst xs) = true := rfl
@[simp] theorem meTy_set {kv : List (D × D)} : meTy .setdefault (.dct kv) = true := rfl
@[simp] theorem meTy_get {kv : List (D × D)} : meTy .get (.dct kv) = true := rfl
theorem index_ints {d : D} {ds : List Int} {c : Int} (hv : view S d = .lst (em .int ds)) (hc : c ∈ ds) : mth S .index d [.int c] = some (.int (nix ds c), S) := by
  have hf : ∀ (ds : List Int), c ∈ ds → (em D.int ds).findIdx? (fun y => y.eqv (.int c)) = some (ds.idxOf c) := by
    intro ds
    induction ds with
    | nil => intro h; cases h
    | cons a ds ih =>
      intro h
      rw [em_cons, List.findIdx?_cons]
      by_cases ha : a = c
      · subst ha
        simp
      · have h2 : c ∈ ds := by
          rcases List.mem_cons.mp h with h | h
          · exact absurd h.symm ha
          · exact h
        rw [ih h2, List.idxOf_cons, beq_eq_false_iff_ne.mpr ha]
        simp [ha]
  simp only [mth, hv]
  rw [if_pos (by simp), hf ds hc]
  rfl
@[simp] theorem index_plain {ds : List Int} {c : Int} (hc : c ∈ ds) : mth S .index (.lst (em .int ds)) [.int c] = some (.int (nix ds c), S) := index_ints rfl hc
@[simp] theorem index_0 {ds : List Int} {c : Int} (hc : c ∈ ds) : mth (.lst (em .int ds) :: S) .index (.obj 0) [.int c] = some (.int (nix ds c), .lst (em .int ds) :: S) := index_ints rfl hc
@[simp] theorem index_1 {ds : List Int} {c : Int} (hc : c ∈ ds) : mth (d0 :: .lst (em .int ds) :: S) .index (.obj 1) [.int c] = some (.int (nix ds c), d0 :: .lst (em .int ds) :: S) := index_ints rfl hc
end
@[simp] theorem isIn_intsT {c : Int} {ns : List Int} : isIn (.int c) (.tup (em .int ns)) = some (decide (c ∈ ns)) := by
  have h1 : (em D.int ns).all D.flat = true := by simp [em, D.flat]
  have h2 : ((em D.int ns).any fun y => y.eqv (.int c)) = decide (c ∈ ns) := by
    rw [Bool.eq_iff_iff]
    simp [em]
  simp [isIn, h1, h2, D.flat]
@[simp] theorem isIn_intsL {c : Int} {ns : List Int} : isIn (.int c) (.lst (em .int ns)) = some (decide (c ∈ ns)) := by
  have h2 : ((em D.int ns).any fun y => y.eqv (.int c)) = decide (c ∈ ns) := by
    rw [Bool.eq_iff_iff]
    simp [em]
  simp [isIn, h2]
@[simp] theorem em_int1 {c : Int} {r : List D} : em D.int [c] ++ r = D.int c :: r := rfl
end Ic

set_option Elab.async false
set_option linter.all false
set_option maxRecDepth 100000
/-! Sx6: draws, loops with draws. -/
namespace Ic
open PySem (Str)
section
variable {α β : Type}
/-- any number below n, then on -/
def pck (n : Int) [k : Box (Int → T α)] : T α := .pick n k.val
@[simp] theorem bnd_pck {n : Int} {k : Int → T α} {f : Box (α → Store → T β)} : bnd (pck n (k := ⟨k⟩)) (f := f) = pck n (k := ⟨fun v => bnd (k v) (f := f)⟩) := rfl
@[simp] theorem stb_pck {n : Int} {k : Int → T α} {env : Slots} {f : Box (α → Store → T Flow)} : stb (pck n (k := ⟨k⟩)) env (f := f) = pck n (k := ⟨fun v => stb (k v) env (f := f)⟩) := rfl
@[simp] theorem isb_pck {n : Int} {k : Int → T α} {S : Store} {f : Box (α → Store → T D)} : isb (pck n (k := ⟨k⟩)) S (f := f) = pck n (k := ⟨fun v => isb (k v) S (f := f)⟩) := rfl
@[simp] theorem nox_pck {n : Int} {k : Int → T α} : (pck n (k := ⟨k⟩)).nox = pck n (k := ⟨fun v => (k v).nox⟩) := rfl
theorem All0_pck {n : Int} {k : Int → T α} {P : α → Store → Prop} {X : Exc → Store → Prop} : (pck n (k := ⟨k⟩)).All P X ↔ ∀ v, 0 ≤ v → v < n → (k v).All P X := Iff.rfl
theorem All0_nox {t : T α} {P : α → Store → Prop} {X : Exc → Store → Prop} : t.nox.All P X ↔ t.All P (fun _ _ => False) := T.All_nox t
/-- what is put behind a run that keeps P -/
theorem All_step {t : T α} {P P' : α → Store → Prop} {X X' : Exc → Store → Prop} (h : t.All P X) (hp : ∀ a S, P a S → P' a S) (hx : ∀ e S, X e S → X' e S) : t.All P' X' := h.mono hp hx
end
section
variable {P : Prog} {k i np nl : Nat} {b : List Sm} {args : List D} {S : Store}
/-- a call of a def with plain arguments, all its ends -/
theorem callD_all0 {Q : D → Store → Prop} {X : Exc → Store → Prop} (he : P.ext i = none) (hf : P.fns[i]? = some ⟨np, nl, b⟩) (hl : args.length = np) (hp : pus args = true)
    (h : (bnd (evSs (rnOf P (run P k)) P.below b (args.map some ++ List.replicate (nl - np) none) []).nox (f := ⟨endOf⟩)).All (fun d S' => d.pu = true ∧ Q d S) (fun e _ => e.arg.pu = true ∧ X e S)) : (callD (run P (k + 1)) i false args S).All Q X := by
  rw [callD_eq he hf hl hp, All_isb]
  refine h.mono (fun d S' z => ?_) fun _ _ z => z
  show (outOf false S d S').All Q X
  rw [outOf_false, freeze_pu' z.1, opt_some]
  exact z.2
end
section
variable {c b : Slots → Store → T Flow} {P : Flow → Store → Prop} {X : Exc → Store → Prop}
theorem wlp_all0 (I : Nat → Slots → Store → Prop)
    (step : ∀ (m : Nat) env S, I m env S → (c env S).All (fun fl S1 => match fl with
      | .bk env1 => P (.nx env1) S1
      | .ex e env1 => P (.ex e env1) S1
      | _ => (b env S1).All (fun fl S2 => match fl with
        | .nx env' | .ct env' => ∃ m', m' < m ∧ I m' env' S2
        | .bk env' => P (.nx env') S2
        | .rt d => P (.rt d) S2
        | .ex e env' => P (.ex e env') S2) X) X) {k m : Nat} {env : Slots} {S : Store} (hm : m < k) (hI : I m env S) : (wlp k env S (c := ⟨c⟩) (b := ⟨b⟩)).All P X := by
  have aux : ∀ (k m : Nat) env S, m < k → I m env S → (whlLoop c b k env S).All P X := by
    intro k
    induction k with
    | zero => intro m env S hk; omega
    | succ k ih =>
      intro m env S hk h
      rw [whlLoop, T.All_bind]
      refine (step m env S h).mono (fun fl S1 z => ?_) fun _ _ z => z
      have go : (b env S1).All (fun fl S2 => match fl with
          | .nx env' | .ct env' => ∃ m', m' < m ∧ I m' env' S2
          | .bk env' => P (.nx env') S2
          | .rt d => P (.rt d) S2
          | .ex e env' => P (.ex e env') S2) X → ((b env S1).bind fun fl S2 => match fl with
        | .nx env' | .ct env' => whlLoop c b k env' S2
        | .bk env' => .ret (.nx env') S2
        | .rt d => .ret (.rt d) S2
        | .ex e env' => .ret (.ex e env') S2).All P X := fun z => by
        rw [T.All_bind]
        refine z.mono (fun fl S2 z => ?_) fun _ _ z => z
        cases fl with
        | nx env' => obtain ⟨m', h1, h2⟩ := z; exact ih m' env' S2 (by omega) h2
        | ct env' => obtain ⟨m', h1, h2⟩ := z; exact ih m' env' S2 (by omega) h2
        | bk env' => exact z
        | rt d => exact z
        | ex e env' => exact z
      cases fl with
      | nx env1 => exact go z
      | ct env1 => exact go z
      | rt d => exact go z
      | bk env1 => exact z
      | ex e env1 => exact z
  exact aux k m env S hm hI
/-- .. whose test draws nothing -/
theorem wlp_all20 (I : Nat → Slots → Store → Prop)
    (step : ∀ (m : Nat) env S, I m env S → (c env S = .ret (.bk env) S ∧ P (.nx env) S) ∨ (c env S = .ret (.nx env) S ∧ (b env S).All (fun fl S2 => match fl with
        | .nx env' | .ct env' => ∃ m', m' < m ∧ I m' env' S2
        | .bk env' => P (.nx env') S2
        | .rt d => P (.rt d) S2
        | .ex e env' => P (.ex e env') S2) X)) {k m : Nat} {env : Slots} {S : Store} (hm : m < k) (hI : I m env S) : (wlp k env S (c := ⟨c⟩) (b := ⟨b⟩)).All P X :=
  wlp_all0 I (fun m env S h => by
    rcases step m env S h with ⟨e, h2⟩ | ⟨e, h2⟩
    · rw [e]; exact h2
    · rw [e]; exact h2) hm hI
/-- a for with draws: I by the items gone -/
theorem flp_all0 {α : Type} {e : α → D} {ok : Store → Bool} {f : D → Slots → Store → T Flow} (I : List α → Slots → Store → Prop) {xs : List α}
    (step : ∀ pre a env S, pre ++ [a] <+: xs → I pre env S → (f (e a) env S).All (fun fl S' => match fl with
      | .nx env' | .ct env' => ok S' = true ∧ I (pre ++ [a]) env' S'
      | .bk env' => P (.nx env') S'
      | .rt d => P (.rt d) S'
      | .ex x env' => P (.ex x env') S') X) (fin : ∀ env S, I xs env S → P (.nx env) S) {env : Slots} {S : Store} (hI : I [] env S) : (flp ok (em e xs) env S (f := ⟨f⟩)).All P X := by
  have aux : ∀ (ys pre : List α) env S, pre ++ ys = xs → I pre env S → (forLoop ok f (em e ys) env S).All P X := by
    intro ys
    induction ys with
    | nil =>
      intro pre env S hp h
      rw [List.append_nil] at hp
      subst hp
      exact fin env S h
    | cons y ys ih =>
      intro pre env S hp h
      rw [em_cons, forLoop, T.All_bind]
      refine (step pre y env S ⟨ys, by simpa using hp⟩ h).mono (fun fl S' z => ?_) fun _ _ z => z
      cases fl with
      | nx env' =>
        have z' : ok S' = true ∧ I (pre ++ [y]) env' S' := z
        show (if ok S' = true then forLoop ok f (em e ys) env' S' else .bad).All P X
        rw [if_pos z'.1]
        exact ih (pre ++ [y]) env' S' (by simpa using hp) z'.2
      | ct env' =>
        have z' : ok S' = true ∧ I (pre ++ [y]) env' S' := z
        show (if ok S' = true then forLoop ok f (em e ys) env' S' else .bad).All P X
        rw [if_pos z'.1]
        exact ih (pre ++ [y]) env' S' (by simpa using hp) z'.2
      | bk env' => exact z
      | rt d => exact z
      | ex x env' => exact z
  exact aux xs [] env S rfl hI
end
section
variable {α : Type} {ok : Store → Bool} {f : D → Store → T (Option D)} {P : List D → Store → Prop} {X : Exc → Store → Prop}
/-- a comprehension with draws -/
theorem clp_all0 {e : α → D} (I : List α → List D → Store → Prop) {xs : List α}
    (step : ∀ pre a acc S, pre ++ [a] <+: xs → I pre acc S → (f (e a) S).All (fun o S' => ok S' = true ∧ ∃ acc', push acc o = some acc' ∧ I (pre ++ [a]) acc' S') X) (fin : ∀ acc S, I xs acc S → P acc S) {acc : List D} {S : Store} (hI : I [] acc S) : (clp ok (em e xs) acc S (f := ⟨f⟩)).All P X := by
  have aux : ∀ (ys pre : List α) acc S, pre ++ ys = xs → I pre acc S → (compLoop ok f (em e ys) acc S).All P X := by
    intro ys
    induction ys with
    | nil =>
      intro pre acc S hp h
      rw [List.append_nil] at hp
      subst hp
      exact fin acc S h
    | cons y ys ih =>
      intro pre acc S hp h
      rw [em_cons, compLoop, T.All_bind]
      refine (step pre y acc S ⟨ys, by simpa using hp⟩ h).mono (fun o S' z => ?_) fun _ _ z => z
      obtain ⟨h1, acc', h2, h3⟩ := z
      rw [if_pos h1, h2, some?_some]
      exact ih (pre ++ [y]) acc' S' (by simpa using hp) h3
  exact aux xs [] acc S rfl hI
end
/-! ### the same, never looked into -/
section
variable {α β : Type}
/-- all ends of a run: T.All, shut -/
@[irreducible] def T.Al (P : α → Store → Prop) (X : Exc → Store → Prop) (t : T α) : Prop := t.All P X
theorem T.Al_iff {P : α → Store → Prop} {X : Exc → Store → Prop} {t : T α} : t.Al P X ↔ t.All P X := by unfold T.Al; exact Iff.rfl
@[simp] theorem Al_ret {P : α → Store → Prop} {X : Exc → Store → Prop} {a : α} {S : Store} : (T.ret a S).Al P X ↔ P a S := by unfold T.Al; exact Iff.rfl
@[simp] theorem Al_exc {P : α → Store → Prop} {X : Exc → Store → Prop} {e : Exc} {S : Store} : (T.exc e S : T α).Al P X ↔ X e S := by unfold T.Al; exact Iff.rfl
@[simp] theorem Al_bite {P : α → Store → Prop} {X : Exc → Store → Prop} {b : Bool} {t u : T α} : (bite b t u).Al P X ↔ (b = true → t.Al P X) ∧ (b = false → u.Al P X) := by unfold T.Al; exact T.All_bite
theorem Al_pck {n : Int} {k : Int → T α} {P : α → Store → Prop} {X : Exc → Store → Prop} : (pck n (k := ⟨k⟩)).Al P X ↔ ∀ v, 0 ≤ v → v < n → (k v).Al P X := by unfold T.Al; exact Iff.rfl
theorem Al_nox {t : T α} {P : α → Store → Prop} {X : Exc → Store → Prop} : t.nox.Al P X ↔ t.Al P (fun _ _ => False) := by unfold T.Al; exact T.All_nox t
theorem Al_bnd {P : β → Store → Prop} {X : Exc → Store → Prop} {t : T α} {f : Box (α → Store → T β)} : (bnd t (f := f)).Al P X ↔ t.Al (fun a S => (f.val a S).Al P X) X := by unfold T.Al; exact T.All_bind t f.val
theorem Al_stb {P : Flow → Store → Prop} {X : Exc → Store → Prop} {t : T α} {env : Slots} {f : Box (α → Store → T Flow)} : (stb t env (f := f)).Al P X ↔ t.Al (fun a S => (f.val a S).Al P X) (fun e S => P (.ex e env) S) := by unfold T.Al; exact T.All_stm t env f.val
theorem T.Al.mono {P P' : α → Store → Prop} {X X' : Exc → Store → Prop} {t : T α} (h : t.Al P X) (hp : ∀ a S, P a S → P' a S) (hx : ∀ e S, X e S → X' e S) : t.Al P' X' := by
  unfold T.Al at *
  exact h.mono hp hx
end
theorem callD_all {P : Prog} {k i np nl : Nat} {b : List Sm} {args : List D} {S : Store} {Q : D → Store → Prop} {X : Exc → Store → Prop} (he : P.ext i = none) (hf : P.fns[i]? = some ⟨np, nl, b⟩) (hl : args.length = np) (hp : pus args = true)
    (h : (bnd (evSs (rnOf P (run P k)) P.below b (args.map some ++ List.replicate (nl - np) none) []).nox (f := ⟨endOf⟩)).Al (fun d S' => d.pu = true ∧ Q d S) (fun e _ => e.arg.pu = true ∧ X e S)) : (callD (run P (k + 1)) i false args S).Al Q X := by
  unfold T.Al at *
  exact callD_all0 he hf hl hp h
/-- what is asked behind a statement -/
def fat (P : Flow → Store → Prop) (J : Slots → Store → Prop) (fl : Flow) (S : Store) : Prop := match fl with
  | .nx env' | .ct env' => J env' S
  | .bk env' => P (.nx env') S
  | .rt d => P (.rt d) S
  | .ex e env' => P (.ex e env') S
@[simp] theorem fat_nx {P : Flow → Store → Prop} {J : Slots → Store → Prop} {env : Slots} {S : Store} : fat P J (.nx env) S = J env S := rfl
@[simp] theorem fat_ct {P : Flow → Store → Prop} {J : Slots → Store → Prop} {env : Slots} {S : Store} : fat P J (.ct env) S = J env S := rfl
@[simp] theorem fat_bk {P : Flow → Store → Prop} {J : Slots → Store → Prop} {env : Slots} {S : Store} : fat P J (.bk env) S = P (.nx env) S := rfl
@[simp] theorem fat_rt {P : Flow → Store → Prop} {J : Slots → Store → Prop} {d : D} {S : Store} : fat P J (.rt d) S = P (.rt d) S := rfl
@[simp] theorem fat_ex {P : Flow → Store → Prop} {J : Slots → Store → Prop} {e : Exc} {env : Slots} {S : Store} : fat P J (.ex e env) S = P (.ex e env) S := rfl
section
variable {c b : Slots → Store → T Flow} {P : Flow → Store → Prop} {X : Exc → Store → Prop}
theorem wlp_all2 (I : Nat → Slots → Store → Prop)
    (step : ∀ (m : Nat) env S, I m env S → (c env S = .ret (.bk env) S ∧ P (.nx env) S) ∨ (c env S = .ret (.nx env) S ∧ (b env S).Al (fat P fun env' S2 => ∃ m', m' < m ∧ I m' env' S2) X)) {k m : Nat} {env : Slots} {S : Store} (hm : m < k) (hI : I m env S) : (wlp k env S (c := ⟨c⟩) (b := ⟨b⟩)).Al P X := by
  unfold T.Al at *
  refine wlp_all20 I (fun m env S h => ?_) hm hI
  rcases step m env S h with h | ⟨h1, h2⟩
  · exact .inl h
  · refine .inr ⟨h1, h2.mono (fun fl S2 z => ?_) fun _ _ z => z⟩
    cases fl <;> exact z
theorem flp_all {α : Type} {e : α → D} {ok : Store → Bool} {f : D → Slots → Store → T Flow} (I : List α → Slots → Store → Prop) {xs : List α}
    (step : ∀ pre a env S, pre ++ [a] <+: xs → I pre env S → (f (e a) env S).Al (fat P fun env' S' => ok S' = true ∧ I (pre ++ [a]) env' S') X) (fin : ∀ env S, I xs env S → P (.nx env) S) {env : Slots} {S : Store} (hI : I [] env S) : (flp ok (em e xs) env S (f := ⟨f⟩)).Al P X := by
  unfold T.Al at *
  refine flp_all0 I (fun pre a env S hp h => (step pre a env S hp h).mono (fun fl S2 z => ?_) fun _ _ z => z) fin hI
  cases fl <;> exact z
end
theorem clp_all {α : Type} {ok : Store → Bool} {f : D → Store → T (Option D)} {P : List D → Store → Prop} {X : Exc → Store → Prop} {e : α → D} (I : List α → List D → Store → Prop) {xs : List α}
    (step : ∀ pre a acc S, pre ++ [a] <+: xs → I pre acc S → (f (e a) S).Al (fun o S' => ok S' = true ∧ ∃ acc', push acc o = some acc' ∧ I (pre ++ [a]) acc' S') X) (fin : ∀ acc S, I xs acc S → P acc S) {acc : List D} {S : Store} (hI : I [] acc S) : (clp ok (em e xs) acc S (f := ⟨f⟩)).Al P X := by
  unfold T.Al at *
  exact clp_all0 I step fin hI
end Ic

set_option Elab.async false
set_option linter.all false
set_option maxRecDepth 100000
/-! Sx7: sorted, rows. -/
namespace Ic
open PySem (Str)
theorem insI_comm (x y : Int) : ∀ l : List Int, insI x (insI y l) = insI y (insI x l)
  | [] => by
    simp only [insI]
    split <;> split <;> first | rfl | (have : x = y := by omega) <;> simp_all | omega
  | z :: l => by
    have ih := insI_comm x y l
    simp only [insI]
    by_cases h1 : y ≤ z <;> by_cases h2 : x ≤ z <;> simp only [h1, h2, if_true, if_false, insI]
    · by_cases h3 : x ≤ y <;> by_cases h4 : y ≤ x <;> simp only [h3, h4, h1, h2, if_true, if_false]
      · have : x = y := by omega
        rw [this]
      · omega
    · have h3 : ¬ x ≤ y := by omega
      simp [h3]
    · have h3 : ¬ y ≤ x := by omega
      simp [h3]
    · rw [ih]
theorem sortI_eq {xs ys : List Int} (h : xs.Perm ys) : sortI xs = sortI ys := by
  induction h with
  | nil => rfl
  | cons x _ ih => simp only [sortI, ih]
  | swap x y l => simp only [sortI]; exact insI_comm y x _
  | trans _ _ ih1 ih2 => exact ih1.trans ih2
/-- 0 .. many - 1, each twice -/
def two (many : Int) : List Int := irange 0 many ++ irange 0 many
@[simp] theorem two_length {many : Int} (h : 0 ≤ many) : ((two many).length : Int) = 2 * many := by
  simp [two]
  omega
@[simp] theorem mem_two {many x : Int} : x ∈ two many ↔ 0 ≤ x ∧ x < many := by simp [two]
/-- a drawn row with many crossings -/
def RowP (row : List Int) (many : Int) : Prop := 0 ≤ many ∧ row.Perm (two many)
theorem RowP.len {row : List Int} {many : Int} (h : RowP row many) : (row.length : Int) = 2 * many := by
  rw [h.2.length_eq, two_length h.1]
theorem RowP.mem {row : List Int} {many x : Int} (h : RowP row many) : x ∈ row ↔ 0 ≤ x ∧ x < many := by
  rw [h.2.mem_iff, mem_two]
theorem irange_snoc {i j : Int} (h : i ≤ j) : irange i (j + 1) = irange i j ++ [j] := by
  unfold irange
  have e : (j + 1 - i).toNat = (j - i).toNat + 1 := by omega
  rw [e, List.range_succ, List.map_append]
  simp
  omega
theorem irange_self {i : Int} : irange i i = [] := by simp [irange]
theorem two_zero : two 0 = [] := by simp [two, irange]
theorem two_succ {many : Int} (h : 0 ≤ many) : (two (many + 1)).Perm (many :: many :: two many) := by
  unfold two
  rw [irange_snoc h]
  have h1 : (irange 0 many ++ [many] ++ (irange 0 many ++ [many])).Perm (many :: (irange 0 many ++ (irange 0 many ++ [many]))) := by
    rw [List.append_assoc]
    exact List.perm_middle
  refine h1.trans (List.Perm.cons _ ?_)
  rw [← List.append_assoc]
  exact (List.perm_append_singleton _ _)
theorem RowP.zero : RowP [] 0 := ⟨by omega, by rw [two_zero]⟩
theorem RowP.add {row row' : List Int} {c : Int} (h : RowP row c) (h2 : row'.Perm (c :: c :: row)) : RowP row' (c + 1) := ⟨by have := h.1; omega, h2.trans (((h.2.cons c).cons c).trans (two_succ h.1).symm)⟩
/-- turned names are names -/
theorem RowP.turned {row : List Int} {many t : Int} (h : RowP row many) (hm : 0 < many) : RowP (row.map fun c => (c + t) % many) many := by
  refine ⟨h.1, (h.2.map _).trans ?_⟩
  unfold two
  rw [List.map_append]
  have key : ((irange 0 many).map fun c => (c + t) % many).Perm (irange 0 many) := by
    have nd : ∀ (i j : Int), (irange i j).Nodup := fun i j => by
      unfold irange
      exact List.Pairwise.map _ (fun a b (hab : a ≠ b) => by omega) List.nodup_range
    refine (List.perm_ext_iff_of_nodup ?_ (nd 0 many)).mpr fun x => ?_
    · refine List.Pairwise.map _ (R := fun a b => a ∈ irange 0 many ∧ b ∈ irange 0 many ∧ a ≠ b) (fun a b hab => ?_) ?_
      · obtain ⟨ha, hb, hn⟩ := hab
        rw [mem_irange] at ha hb
        intro e
        apply hn
        have := Int.emod_emod_of_dvd
        have e1 : (a + t - (b + t)) % many = 0 := Int.emod_eq_emod_iff_emod_sub_eq_zero.mp e
        have e2 : many ∣ (a - b) := by
          have : a + t - (b + t) = a - b := by omega
          rw [this] at e1
          exact Int.dvd_of_emod_eq_zero e1
        obtain ⟨q, hq⟩ := e2
        have h1 : a - b < many := by omega
        have h2 : -many < a - b := by omega
        have hq0 : q = 0 := by
          rcases Int.lt_trichotomy q 0 with hlt | h0 | hgt
          · have : many * q ≤ many * (-1) := Int.mul_le_mul_of_nonneg_left (by omega) (by omega)
            omega
          · exact h0
          · have : many * 1 ≤ many * q := Int.mul_le_mul_of_nonneg_left (by omega) (by omega)
            omega
        rw [hq0] at hq
        omega
      · have := nd 0 many
        rw [List.nodup_iff_pairwise_ne] at this
        exact List.Pairwise.imp_of_mem (fun ha hb hn => ⟨ha, hb, hn⟩) this
    · rw [List.mem_map, mem_irange]
      constructor
      · rintro ⟨a, _, rfl⟩
        exact ⟨Int.emod_nonneg _ (by omega), Int.emod_lt_of_pos _ hm⟩
      · intro hx
        refine ⟨(x - t) % many, ?_, ?_⟩
        · rw [mem_irange]
          exact ⟨Int.emod_nonneg _ (by omega), Int.emod_lt_of_pos _ hm⟩
        · rw [Int.emod_add_emod]
          have : x - t + t = x := by omega
          rw [this]
          exact Int.emod_eq_of_lt hx.1 hx.2
  exact key.append key
end Ic

set_option Elab.async false
set_option linter.all false
set_option maxRecDepth 100000
/-! Sx8: rows without some crossings, named anew. -/
namespace Ic
open PySem (Str)
theorem nix_inj {ds : List Int} {a b : Int} (ha : a ∈ ds) (h : nix ds a = nix ds b) : a = b := by
  have h' : ds.idxOf a = ds.idxOf b := by
    simp only [nix] at h
    omega
  have hlt : ds.idxOf a < ds.length := List.idxOf_lt_length_iff.mpr ha
  have e1 : ds[ds.idxOf a] = a := List.getElem_idxOf hlt
  have hlt2 : ds.idxOf b < ds.length := h' ▸ hlt
  have e2 : ds[ds.idxOf b] = b := List.getElem_idxOf hlt2
  rw [← e1, ← e2]
  congr 1
theorem nix_range {ds : List Int} {a : Int} (ha : a ∈ ds) : 0 ≤ nix ds a ∧ nix ds a < ds.length := by
  have hlt : ds.idxOf a < ds.length := List.idxOf_lt_length_iff.mpr ha
  simp only [nix]
  omega
theorem foldl_ins_map {f : Int → Int} : ∀ (ns ds : List Int), (∀ a ∈ ds ++ ns, ∀ b ∈ ds ++ ns, f a = f b → a = b) → (ns.map f).foldl ins (ds.map f) = (ns.foldl ins ds).map f
  | [], ds, _ => rfl
  | n :: ns, ds, h => by
    rw [List.map_cons, List.foldl_cons, List.foldl_cons]
    have e : ins (ds.map f) (f n) = (ins ds n).map f := by
      unfold ins
      by_cases hn : n ∈ ds
      · rw [if_pos hn, if_pos (List.mem_map_of_mem hn)]
      · rw [if_neg hn, if_neg]
        · simp
        · intro hm
          obtain ⟨m, hm1, hm2⟩ := List.mem_map.mp hm
          exact hn (h m (by simp [hm1]) n (by simp) hm2 ▸ hm1)
    rw [e]
    refine foldl_ins_map ns (ins ds n) fun a ha b hb => h a ?_ b ?_
    · rw [List.mem_append, mem_ins] at ha
      simp only [List.mem_append, List.mem_cons]
      rcases ha with (ha | rfl) | ha <;> simp_all
    · rw [List.mem_append, mem_ins] at hb
      simp only [List.mem_append, List.mem_cons]
      rcases hb with (hb | rfl) | hb <;> simp_all
theorem dis_map {f : Int → Int} {ns : List Int} (h : ∀ a ∈ ns, ∀ b ∈ ns, f a = f b → a = b) : dis (ns.map f) = (dis ns).map f := by
  have := foldl_ins_map (f := f) ns [] (by simpa using h)
  simpa [dis] using this
theorem nix_map {f : Int → Int} : ∀ {ds : List Int} {c : Int}, (∀ a ∈ ds, f a = f c → a = c) → nix (ds.map f) (f c) = nix ds c
  | [], c, _ => rfl
  | d :: ds, c, h => by
    have ih := nix_map (f := f) (ds := ds) (c := c) fun a ha => h a (List.mem_cons_of_mem _ ha)
    simp only [nix, List.map_cons, List.idxOf_cons] at ih ⊢
    by_cases hd : d = c
    · subst hd
      simp
    · have hf : ¬ f d = f c := fun e => hd (h d List.mem_cons_self e)
      simp only [beq_eq_false_iff_ne.mpr hd, beq_eq_false_iff_ne.mpr hf, cond_false]
      omega
theorem named_map {f : Int → Int} {ns : List Int} (h : ∀ a ∈ ns, ∀ b ∈ ns, f a = f b → a = b) : named (ns.map f) = named ns := by
  unfold named
  rw [dis_map h, List.map_map]
  refine List.map_congr_left fun c hc => ?_
  exact nix_map fun a ha => h a (mem_dis.mp ha) c hc
/-- names of names -/
theorem named_filter {ns : List Int} {p : Int → Bool} {q : Int → Bool} (h : ∀ c ∈ ns, q (nix (dis ns) c) = p c) : named ((named ns).filter q) = named (ns.filter p) := by
  have e : (named ns).filter q = (ns.filter p).map (nix (dis ns)) := by
    unfold named
    rw [List.filter_map]
    congr 1
    exact List.filter_congr fun c hc => h c hc
  rw [e, named_map]
  intro a ha b hb hab
  exact nix_inj (mem_dis.mpr (List.mem_filter.mp ha).1) hab
theorem named_idem {ns : List Int} : named (named ns) = named ns := by
  have := named_filter (ns := ns) (p := fun _ => true) (q := fun _ => true) fun _ _ => rfl
  rwa [List.filter_eq_self.mpr fun _ _ => rfl, List.filter_eq_self.mpr fun _ _ => rfl] at this
theorem map_nix_self : ∀ {ds : List Int}, ds.Nodup → ds.map (nix ds) = irange 0 ds.length := by
  intro ds h
  apply List.ext_getElem
  · simp
  · intro i h1 h2
    simp only [List.length_map] at h1
    rw [List.getElem_map]
    have e : ds.idxOf ds[i] = i := by
      exact List.Nodup.idxOf_getElem h i h1
    simp only [nix, e, irange, List.getElem_map, List.getElem_range]
    omega
/-- each entry stands twice -/
def Twice (ns : List Int) : Prop := ns.Perm (dis ns ++ dis ns)
theorem Twice.named {ns : List Int} (h : Twice ns) : RowP (named ns) (dis ns).length := by
  refine ⟨by omega, ?_⟩
  unfold Ic.named two
  refine (h.map _).trans ?_
  rw [List.map_append, map_nix_self dis_nodup]
theorem irange_nodup {i j : Int} : (irange i j).Nodup := by
  unfold irange
  exact List.Pairwise.map _ (fun a b (hab : a ≠ b) => by omega) List.nodup_range
theorem RowP.twice {row : List Int} {many : Int} (h : RowP row many) {p : Int → Bool} : Twice (row.filter p) := by
  have h1 : (row.filter p).Perm ((irange 0 many).filter p ++ (irange 0 many).filter p) := by
    rw [← List.filter_append]
    exact h.2.filter p
  have h2 : (dis (row.filter p)).Perm ((irange 0 many).filter p) := by
    refine (List.perm_ext_iff_of_nodup dis_nodup (irange_nodup.filter p)).mpr fun x => ?_
    rw [mem_dis, h1.mem_iff]
    simp
  exact h1.trans (h2.symm.append h2.symm)
theorem RowP.left {row : List Int} {many : Int} (h : RowP row many) (p : Int → Bool) : RowP (named (row.filter p)) (dis (row.filter p)).length ∧ ((dis (row.filter p)).length : Int) ≤ many := by
  refine ⟨h.twice.named, ?_⟩
  have h1 := h.twice.named.len (row := named (row.filter p))
  rw [named_length] at h1
  have h2 := List.length_filter_le p row
  have h3 := h.len
  omega
theorem RowP.named' {row : List Int} {many : Int} (h : RowP row many) : RowP (named row) many := by
  have h1 := h.left (fun _ => true)
  rw [List.filter_eq_self.mpr fun _ _ => rfl] at h1
  have h2 := h1.1.len
  rw [named_length, h.len] at h2
  have : ((dis row).length : Int) = many := by omega
  rw [this] at h1
  exact h1.1
theorem foldl_filter : ∀ (cs ns : List Int), cs.foldl (fun (l : List Int) c => l.filter fun d => !decide (d = c)) ns = ns.filter fun d => !decide (d ∈ cs)
  | [], ns => (List.filter_eq_self.mpr (by simp)).symm
  | c :: cs, ns => by
    rw [List.foldl_cons, foldl_filter cs, List.filter_filter]
    refine List.filter_congr fun d _ => ?_
    by_cases h1 : d = c <;> by_cases h2 : d ∈ cs <;> simp [h1, h2]
/-- the different ones but one, one by one -/
theorem foldl_but (z : Int) : ∀ (ns ds : List Int), ns.foldl (fun (l : List Int) c => l ++ if (!decide (c = z) && !decide (c ∈ l)) = true then [c] else []) ds = (ns.filter fun c => !decide (c = z)).foldl ins ds
  | [], ds => rfl
  | n :: ns, ds => by
    rw [List.foldl_cons, foldl_but z ns, List.filter_cons]
    by_cases h : n = z
    · simp [h]
    · by_cases h2 : n ∈ ds <;> simp [h, h2, ins]
end Ic

set_option Elab.async false
set_option linter.all false
set_option maxRecDepth 100000
/-! Sx9: rows of several skaters, named; lists behind others in the store. -/
namespace Ic
open PySem (Str)
section
variable {S J : Store} {a b x : D} {xs : List D}
theorem append_j (hl : xs.length < 16777216) : mth (a :: b :: (J ++ [.lst xs])) .append (.obj (J.length + 1 + 1)) [x] = some (.non, a :: b :: (J ++ [.lst (xs ++ [x])])) := by
  simp [mth, hl]
end
/-- rows named: what stands behind each row -/
def nrow (s : List Int × List (List Int)) (r : List Int) : List Int × List (List Int) := (r.foldl ins s.1, s.2 ++ [r.map (nix (r.foldl ins s.1))])
theorem nrows_fold : ∀ (rows : List (List Int)) (ds : List Int) (fs : List (List Int)), rows.foldl nrow (ds, fs) = ((flat rows).foldl ins ds, fs ++ rows.map fun r => r.map (nix ((flat rows).foldl ins ds)))
  | [], ds, fs => by simp [flat]
  | r :: rows, ds, fs => by
    rw [List.foldl_cons]
    rw [show nrow (ds, fs) r = (r.foldl ins ds, fs ++ [r.map (nix (r.foldl ins ds))]) from rfl, nrows_fold rows]
    have e : (flat (r :: rows)).foldl ins ds = (flat rows).foldl ins (r.foldl ins ds) := by simp [flat]
    rw [e]
    refine Prod.ext rfl ?_
    simp only [List.map_cons, List.append_assoc, List.singleton_append]
    congr 2
    refine List.map_congr_left fun c hc => ?_
    exact (nix_prefix foldl_ins_prefix (mem_foldl_ins.mpr (.inr hc))).symm
theorem flat_ren {rows : List (List Int)} : flat (rows.map fun r => r.map (nix (dis (flat rows)))) = named (flat rows) := by
  unfold named flat
  rw [List.map_flatten]
theorem named_nix {ns : List Int} {c : Int} (hc : c ∈ ns) : nix (dis (named ns)) (nix (dis ns) c) = nix (dis ns) c := by
  have h := @named_idem ns
  have h2 : (named ns).map (nix (dis (named ns))) = (named ns).map id := by
    rw [List.map_id]
    exact h
  have h3 := List.map_inj_left.mp h2
  exact h3 (nix (dis ns) c) (List.mem_map_of_mem hc)
theorem flat_len_le {rows : List (List Int)} {r : List Int} (h : r ∈ rows) : r.length ≤ (flat rows).length := by
  unfold flat
  induction rows with
  | nil => cases h
  | cons x xs ih =>
    rw [List.flatten_cons, List.length_append]
    rcases List.mem_cons.mp h with rfl | h
    · omega
    · have := ih h
      omega
theorem RowP.perm {row row' : List Int} {many : Int} (h : RowP row many) (h2 : row'.Perm row) : RowP row' many := ⟨h.1, h2.trans h.2⟩
theorem RowP.rev {row : List Int} {many : Int} (h : RowP row many) : RowP row.reverse many := h.perm (List.reverse_perm _)
theorem RowP.begun {row : List Int} {many : Int} {i : Nat} (h : RowP row many) : RowP (row.drop i ++ row.take i) many := h.perm (by
  have := List.perm_append_comm (l₁ := row.drop i) (l₂ := row.take i)
  rwa [List.take_append_drop] at this)
end Ic

set_option Elab.async false
set_option linter.all false
set_option maxRecDepth 100000
/-! Sx10: lists of lists in the store; places. -/
namespace Ic
open PySem (Str)
/-- new empty lists -/
theorem clp_lists {α : Type} {ok : Store → Bool} {f : D → Store → T (Option D)} {e : α → D} (hf : ∀ a S, f (e a) S = .ret (some (.obj S.length)) (S ++ [.lst []])) (hok : ∀ S, ok S = true) : ∀ {xs : List α} {acc : List D} {S : Store}, acc.length + xs.length ≤ 16777216 →
    clp ok (em e xs) acc S (f := ⟨f⟩) = .ret (acc ++ (List.range' S.length xs.length).map .obj) (S ++ List.replicate xs.length (.lst [])) := by
  intro xs
  induction xs with
  | nil => intro acc S _; simp [clp, compLoop]
  | cons x xs ih =>
    intro acc S hl
    simp only [List.length_cons] at hl
    show compLoop ok f (em e (x :: xs)) acc S = _
    rw [em_cons, compLoop, hf, T.bind_ret, if_pos (hok _)]
    simp only [push, line]
    rw [if_pos (by omega), some?_some]
    have := ih (acc := acc ++ [.obj S.length]) (S := S ++ [.lst []]) (by simp; omega)
    rw [show compLoop ok f (em e xs) (acc ++ [.obj S.length]) (S ++ [.lst []]) = clp ok (em e xs) (acc ++ [.obj S.length]) (S ++ [.lst []]) (f := ⟨f⟩) from rfl, this]
    simp [List.range'_succ, List.replicate_succ]
/-- the places of c -/
def plc (es : List Int) (c : Int) : List Int := (es.zipIdx.filter fun p => decide (p.1 = c)).map fun p => (p.2 : Int)
theorem plc_snoc {es : List Int} {x c : Int} : plc (es ++ [x]) c = plc es c ++ (if x = c then [(es.length : Int)] else []) := by
  unfold plc
  rw [List.zipIdx_append, List.filter_append, List.map_append]
  by_cases h : x = c <;> simp [h]
theorem plc_length {es : List Int} {c : Int} : (plc es c).length = es.count c := by
  have : ∀ (es : List Int) (n : Nat), ((es.zipIdx n).filter fun p => decide (p.1 = c)).length = es.count c := by
    intro es
    induction es with
    | nil => intro n; simp
    | cons x es ih =>
      intro n
      rw [List.zipIdx_cons, List.filter_cons, List.count_cons]
      by_cases h : x = c
      · simp [h, ih]
      · simp [h, ih]
  unfold plc
  rw [List.length_map]
  exact this es 0
theorem plc_filter {es : List Int} {c : Int} : ((irange 0 es.length).filter fun k => decide ((es[k.toNat]?).getD 0 = c)) = plc es c := by
  have h : ∀ pre suf : List Int, es = pre ++ suf → ((irange 0 pre.length).filter fun k => decide ((es[k.toNat]?).getD 0 = c)) = plc pre c := by
    intro pre
    generalize hn : pre.length = n
    induction n generalizing pre with
    | zero =>
      intro suf _
      have : pre = [] := List.eq_nil_of_length_eq_zero hn
      subst this
      simp [irange, plc]
    | succ n ih0 =>
      intro suf hs
      obtain ⟨pre, x, rfl⟩ : ∃ p x, pre = p ++ [x] := by
        rcases List.eq_nil_or_concat pre with rfl | ⟨p, x, rfl⟩
        · simp at hn
        · exact ⟨p, x, by simp⟩
      have hn' : pre.length = n := by simpa using hn
      have ih := ih0 pre hn'
      rw [← hn'] at ih
      rw [← hn]
      have e1 : (((pre ++ [x]).length : Nat) : Int) = (pre.length : Int) + 1 := by simp
      rw [e1, irange_snoc (by omega), List.filter_append, ih (x :: suf) (by simpa using hs), plc_snoc]
      congr 1
      have : es[pre.length]? = some x := by
        rw [hs]
        simp
      by_cases h : x = c <;> simp [this, h]
  exact h es [] (by simp)
theorem RowP.count {row : List Int} {many c : Int} (h : RowP row many) (h0 : 0 ≤ c) (h1 : c < many) : row.count c = 2 := by
  rw [h.2.count_eq]
  unfold two
  rw [List.count_append]
  have : (irange 0 many).count c = 1 := by
    rw [irange_nodup.count]
    simp [h0, h1]
  omega
/-- pairs of ints -/
def t2 (p : Int × Int) : D := .tup [.int p.1, .int p.2]
@[simp] theorem t2_eq {p : Int × Int} : t2 p = .tup [.int p.1, .int p.2] := rfl
/-- the two places of each crossing -/
def pls (es : List Int) (many : Int) : List (Int × Int) := (irange 0 many).map fun c => (((plc es c)[0]?).getD 0, ((plc es c)[1]?).getD 0)
theorem plc_two {es : List Int} {c : Int} (h : es.count c = 2) : plc es c = [((plc es c)[0]?).getD 0, ((plc es c)[1]?).getD 0] := by
  have := plc_length (es := es) (c := c)
  rw [h] at this
  match hp : plc es c, this with
  | [a, b], _ => rfl
/-- lists in the store -/
def lol (L : List (List Int)) : Store := L.map fun l => .lst (em .int l)
@[simp] theorem lol_length {L : List (List Int)} : (lol L).length = L.length := by simp [lol]
theorem lol_get {L : List (List Int)} {J : Store} {c : Nat} (h : c < L.length) : (lol L ++ J)[c]? = some (.lst (em .int L[c])) := by
  rw [List.getElem?_append_left (by simpa using h)]
  simp [lol, h]
theorem lol_set {L : List (List Int)} {J : Store} {c : Nat} {l : List Int} (h : c < L.length) : (lol L ++ J).set c (.lst (em .int l)) = lol (L.set c l) ++ J := by
  rw [List.set_append_left _ _ (by simpa using h)]
  simp [lol, List.map_set]
@[simp] theorem npSet_lst {S : Store} {env : Slots} {ps : List NPat} {xs : List D} : npSet S (.tup ps) (.lst xs) env = if xs.length = ps.length then npSets S ps xs env else none := by rw [npSet]; rfl
theorem npSet_obj {S : Store} {env : Slots} {ps : List NPat} {n : Nat} {xs : List D} (h : S[n]? = some (.lst xs)) : npSet S (.tup ps) (.obj n) env = if xs.length = ps.length then npSets S ps xs env else none := by
  rw [npSet]
  simp [Ic.view, h]
theorem mutual_beq_refl : (∀ d : D, d.pu = true ∨ True) := fun _ => .inr trivial
theorem still_same {S : Store} {n : Nat} {xs : List D} (h : S[n]? = some (.lst xs)) (hb : beqs xs xs = true) : still S S [n] = true := by
  simp [still, h, D.beq, hb]
theorem beqs_objs : ∀ {ns : List Nat}, beqs (ns.map .obj) (ns.map .obj) = true
  | [] => by simp [beqs]
  | n :: ns => by simp [beqs, D.beq, beqs_objs]
theorem zip_prefix {α : Type} {es : List α} {pre : List (α × Nat)} {a : α × Nat} (hp : pre ++ [a] <+: es.zipIdx) : ∃ hx : pre.length < es.length, a = (es[pre.length], pre.length) ∧ pre.map Prod.fst = es.take pre.length := by
  obtain ⟨t, ht⟩ := hp
  have hl : pre.length < es.zipIdx.length := by
    rw [← ht]
    simp
  have hl2 : pre.length < es.length := by simpa using hl
  refine ⟨hl2, ?_, ?_⟩
  · have h1 : es.zipIdx[pre.length]? = some a := by
      rw [← ht, List.append_assoc, List.getElem?_append_right (Nat.le_refl _)]
      simp
    have h2 : es.zipIdx[pre.length]? = some (es[pre.length], pre.length) := by
      simp [List.getElem?_zipIdx, hl2]
    rw [h1] at h2
    exact Option.some.inj h2
  · have h1 : es.zipIdx.take pre.length = pre := by
      rw [← ht, List.append_assoc]
      simp
    have h2 : (es.zipIdx.take pre.length).map Prod.fst = es.take pre.length := by
      rw [List.map_take]
      congr 1
      exact List.zipIdx_map_fst 0 es
    rw [← h2, h1]
theorem append_lol {L : List (List Int)} {J : Store} {c : Nat} {v : Int} (h : c < L.length) (hl : L[c].length < 16777216) : mth (lol L ++ J) .append (.obj c) [.int v] = some (.non, lol (L.set c (L[c] ++ [v])) ++ J) := by
  rw [mth_append (lol_get h) (by simpa using hl)]
  rw [em_snoc_int, List.append_nil, lol_set h]
theorem clp_at {α : Type} {ok : Store → Bool} {f : D → Store → T (Option D)} {e : α → D} {xs : List α} {acc : List D} {S : Store} (g : α → D) (hok : ok S = true) (hf : ∀ a ∈ xs, f (e a) S = .ret (some (g a)) S) (hl : acc.length + xs.length ≤ 16777216) : clp ok (em e xs) acc S (f := ⟨f⟩) = .ret (acc ++ em g xs) S := by
  rw [clp_emA, cpA_at hok fun a ha => ⟨_, hf a ha⟩]
  have : (xs.filterMap fun a => outO (f (e a) S)) = em g xs := by
    have : ∀ l : List α, (∀ a ∈ l, a ∈ xs) → (l.filterMap fun a => outO (f (e a) S)) = em g l := by
      intro l
      induction l with
      | nil => intro _; rfl
      | cons x l ih =>
        intro h
        rw [List.filterMap_cons, hf x (h x List.mem_cons_self), ih fun a ha => h a (List.mem_cons_of_mem _ ha)]
        rfl
    exact this xs fun _ h => h
  rw [this, appT, if_pos (.inr (by simpa using hl))]
end Ic

set_option Elab.async false
set_option linter.all false
set_option maxRecDepth 100000
/-! Sx11: any data that can be judged. -/
namespace Ic
open PySem (Str)
mutual
theorem ok_pu : ∀ (n : Nat) (d : D), d.ok n = true → d.pu = true
  | _, .non, _ => by simp
  | _, .bl _, _ => by simp
  | _, .int _, _ => by simp
  | _, .str _, _ => by simp
  | 0, .tup _, h => by simp [D.ok] at h
  | 0, .lst _, h => by simp [D.ok] at h
  | n + 1, .tup xs, h => by
    rw [ok_tup] at h
    rw [pu_tup]
    exact oks_pus n xs h
  | n + 1, .lst xs, h => by
    rw [ok_lst] at h
    rw [pu_lst]
    exact oks_pus n xs h
  | n, .scr _, h => by cases n <;> simp [D.ok] at h
  | n, .dct _, h => by cases n <;> simp [D.ok] at h
  | n, .set _, h => by cases n <;> simp [D.ok] at h
  | n, .ins _ _, h => by cases n <;> simp [D.ok] at h
  | n, .rng, h => by cases n <;> simp [D.ok] at h
  | n, .obj _, h => by cases n <;> simp [D.ok] at h
theorem oks_pus : ∀ (n : Nat) (xs : List D), oks n xs = true → pus xs = true
  | _, [], _ => by simp
  | n, x :: xs, h => by
    simp only [oks_cons, Bool.and_eq_true] at h
    simp [ok_pu n x h.1, oks_pus n xs h.2]
end
theorem ok_isTy {n : Nat} {d : D} (h : d.ok n = true) (t : Ty) : (isTy t d).isSome = true := by
  cases d <;> first | simp | (cases n <;> simp [D.ok] at h)
theorem oks_of_mem {n : Nat} : ∀ {xs : List D} {x : D}, oks n xs = true → x ∈ xs → x.ok n = true
  | y :: ys, x, h, hx => by
    simp only [oks_cons, Bool.and_eq_true] at h
    rcases List.mem_cons.mp hx with rfl | hx
    · exact h.1
    · exact oks_of_mem h.2 hx
theorem ok_view {n : Nat} {d : D} (h : d.ok n = true) (S : Store) : view S d = d := by
  cases d <;> first | rfl | (cases n <;> simp [D.ok] at h)
/-- a tuple -/
def isTupB : D → Bool
  | .tup _ => true
  | _ => false
@[simp] theorem isTupB_tup {xs : List D} : isTupB (.tup xs) = true := rfl
theorem isTy_tupB {n : Nat} {d : D} (h : d.ok n = true) : isTy .tup d = some (isTupB d) := by
  cases d <;> first | rfl | (cases n <;> simp [D.ok] at h)
/-- of a kind -/
def isTyB (t : Ty) (d : D) : Bool := (isTy t d).getD false
theorem isTy_B {n : Nat} {d : D} (h : d.ok n = true) (t : Ty) : isTy t d = some (isTyB t d) := by
  obtain ⟨b, hb⟩ := Option.isSome_iff_exists.mp (ok_isTy h t)
  simp [isTyB, hb]
theorem isTyB_no {d : D} (h : ∀ i, d ≠ .int i) : (isTyB .int d && !isTyB .bool d) = false := by
  cases d <;> first | rfl | exact absurd rfl (h _)
def tupsD : List D → Option (List (List D))
  | [] => some []
  | .tup xs :: r => (tupsD r).map (xs :: ·)
  | _ => none
theorem tupsD_some : ∀ {rs : List D} {xss : List (List D)}, tupsD rs = some xss → rs = em D.tup xss
  | [], xss, h => by
    simp only [tupsD, Option.some.injEq] at h
    subst h
    rfl
  | d :: rs, xss, h => by
    cases d <;> simp only [tupsD, reduceCtorEq] at h
    obtain ⟨r, hr, rfl⟩ := Option.map_eq_some_iff.mp h
    rw [em_cons, tupsD_some hr]
theorem tupsD_none : ∀ {rs : List D}, tupsD rs = none → (rs.all isTupB) = false
  | [], h => by simp [tupsD] at h
  | d :: rs, h => by
    cases d <;> first | (simp [isTupB]; done) | skip
    simp only [tupsD, Option.map_eq_none_iff] at h
    simp [tupsD_none h]
theorem tupsD_ne {rs : List D} (h : tupsD rs = none) : rs.isEmpty = false := by
  cases rs with
  | nil => simp [tupsD] at h
  | cons _ _ => rfl
theorem intsOf_some : ∀ {xs : List D} {ns : List Int}, intsOf xs = some ns → xs = em .int ns
  | [], ns, h => by
    simp only [intsOf, Option.some.injEq] at h
    subst h
    rfl
  | d :: xs, ns, h => by
    cases d <;> simp only [intsOf, reduceCtorEq] at h
    obtain ⟨r, hr, rfl⟩ := Option.map_eq_some_iff.mp h
    rw [em_cons, intsOf_some hr]
theorem intsOf_none {p : D → Bool} (hp : ∀ d, (∀ i, d ≠ .int i) → p d = false) : ∀ {xs : List D}, intsOf xs = none → xs.all p = false
  | [], h => by simp [intsOf] at h
  | d :: xs, h => by
    by_cases hd : ∃ i, d = .int i
    · obtain ⟨i, rfl⟩ := hd
      simp only [intsOf, Option.map_eq_none_iff] at h
      simp [intsOf_none hp h]
    · have := hp d fun i hi => hd ⟨i, hi⟩
      simp [this]
@[simp] theorem fm_id {xs : List D} : (xs.filterMap fun a => some a) = xs := by simp
@[simp high] theorem flatMap_raw {xss : List (List D)} : (xss.flatMap fun a => a) = flat xss := by simp [flat, List.flatMap_def]
@[simp] theorem em_all {α : Type} {e : α → D} {xs : List α} {p : D → Bool} : (em e xs).all p = xs.all fun a => p (e a) := by simp [em, List.all_map]; rfl
theorem sort_length : ∀ xs : List Int, (sortI xs).length = xs.length
  | [] => rfl
  | x :: xs => by
    have h : ∀ (x : Int) (l : List Int), (insI x l).length = l.length + 1 := by
      intro x l
      induction l with
      | nil => rfl
      | cons y l ih =>
        simp only [insI]
        split <;> simp [ih]
    rw [sortI, h, sort_length xs, List.length_cons]
theorem sort_perm : ∀ xs : List Int, (sortI xs).Perm xs
  | [] => .nil
  | x :: xs => by
    have h : ∀ (x : Int) (l : List Int), (insI x l).Perm (x :: l) := by
      intro x l
      induction l with
      | nil => exact List.Perm.refl _
      | cons y l ih =>
        simp only [insI]
        split
        · exact List.Perm.refl _
        · exact (ih.cons y).trans (List.Perm.swap x y l)
    exact (h x _).trans ((sort_perm xs).cons x)
/-- ints that are rows of at most 12 crossings -/
def rowsV (ns : List Int) : Bool := decide (ns.length ≤ 25) && decide (sortI ns = sortI (two ((ns.length : Int) / 2)))
theorem rowsV_prog {ns : List Int} : ((!decide (12 < (ns.length : Int) / 2) && ns.all fun x => decide (0 ≤ x) && decide (x ≤ (ns.length : Int) / 2 - 1)) && decide (sortI ns = sortI (irange 0 ((ns.length : Int) / 2) ++ irange 0 ((ns.length : Int) / 2)))) = rowsV ns := by
  unfold rowsV
  rw [show irange 0 ((ns.length : Int) / 2) ++ irange 0 ((ns.length : Int) / 2) = two ((ns.length : Int) / 2) from rfl]
  by_cases hs : sortI ns = sortI (two ((ns.length : Int) / 2))
  · have hp : ns.Perm (two ((ns.length : Int) / 2)) := ((sort_perm ns).symm.trans (hs ▸ List.Perm.refl _)).trans (sort_perm _)
    have ha : (ns.all fun x => decide (0 ≤ x) && decide (x ≤ (ns.length : Int) / 2 - 1)) = true := by
      rw [List.all_eq_true]
      intro x hx
      have := mem_two.mp (hp.mem_iff.mp hx)
      simp
      omega
    rw [ha]
    by_cases h : ns.length ≤ 25
    · simp [h]; omega
    · simp [h]; omega
  · simp [hs]
theorem rowsV_law {ns : List Int} : (!decide (24 < (ns.length : Int)) && decide (sortI ns = sortI (irange 0 ((ns.length : Int) / 2) ++ irange 0 ((ns.length : Int) / 2)))) = rowsV ns := by
  unfold rowsV
  rw [show irange 0 ((ns.length : Int) / 2) ++ irange 0 ((ns.length : Int) / 2) = two ((ns.length : Int) / 2) from rfl]
  by_cases hs : sortI ns = sortI (two ((ns.length : Int) / 2))
  · have hl := congrArg List.length hs
    rw [sort_length, sort_length] at hl
    have h2 := two_length (many := (ns.length : Int) / 2) (by omega)
    rw [← hl] at h2
    by_cases h : ns.length ≤ 25
    · have : ns.length ≤ 24 := by omega
      simp [h, hs]; omega
    · have : ¬ ns.length ≤ 24 := by omega
      simp [h]; omega
  · simp [hs]
@[simp low] theorem eqvs_rn {xs : List D} : eqvs xs [] = xs.isEmpty := by cases xs <;> simp [eqvs]
@[simp] theorem cut_butlast {α : Type} {xs : List α} : cut xs none (some (-1)) = xs.dropLast := by
  simp only [cut, sIx, List.drop_zero, Nat.sub_zero]
  rw [if_pos (by omega), List.dropLast_eq_take]
  congr 1
  omega
/-- rows, judged -/
def jrT (rs : List D) : Bool := match tupsD rs with
  | some xss => (match intsOf (flat xss) with
    | some ns => rowsV ns
    | none => false)
  | none => false
theorem jrT_none {rs : List D} (h : tupsD rs = none) : jrT rs = false := by simp [jrT, h]
theorem jrT_some {rs : List D} {xss : List (List D)} (h : tupsD rs = some xss) (hi : intsOf (flat xss) = none) : jrT rs = false := by simp [jrT, h, hi]
theorem jrT_ints {rs : List D} {xss : List (List D)} {ns : List Int} (h : tupsD rs = some xss) (hi : intsOf (flat xss) = some ns) : jrT rs = rowsV ns := by simp [jrT, h, hi]
/-- small rows, judged -/
def jr : D → Bool
  | .tup rs => (decide (1 ≤ (rs.length : Int)) && decide ((rs.length : Int) ≤ 4)) && jrT rs
  | _ => false
theorem jr_tup {rs : List D} : jr (.tup rs) = ((decide (1 ≤ (rs.length : Int)) && decide ((rs.length : Int) ≤ 4)) && jrT rs) := rfl
end Ic

set_option Elab.async false
set_option linter.all false
set_option maxRecDepth 100000
/-! Sx12: the least row of all that come by other starts and backward. -/
namespace Ic
open PySem (Str)
/-! ### the order of tuples -/
theorem lexLt_irrefl : ∀ a : List Int, lexLt a a = false
  | [] => rfl
  | x :: xs => by rw [lexLt, if_pos rfl, lexLt_irrefl xs]
theorem lexLt_asymm : ∀ a b : List Int, lexLt a b = true → lexLt b a = false
  | [], [], h => by simp [lexLt] at h
  | [], _ :: _, _ => rfl
  | _ :: _, [], h => by simp [lexLt] at h
  | x :: xs, y :: ys, h => by
    rw [lexLt] at h ⊢
    by_cases e : x = y
    · subst e
      rw [if_pos rfl] at h ⊢
      exact lexLt_asymm xs ys h
    · have e2 : ¬ y = x := fun z => e z.symm
      rw [if_neg e] at h
      rw [if_neg e2]
      simp at h ⊢
      omega
theorem lexLt_antisymm : ∀ a b : List Int, lexLt a b = false → lexLt b a = false → a = b
  | [], [], _, _ => rfl
  | [], _ :: _, h, _ => by simp [lexLt] at h
  | _ :: _, [], _, h => by simp [lexLt] at h
  | x :: xs, y :: ys, h, g => by
    rw [lexLt] at h g
    by_cases e : x = y
    · subst e
      rw [if_pos rfl] at h g
      rw [lexLt_antisymm xs ys h g]
    · have e2 : ¬ y = x := fun z => e z.symm
      rw [if_neg e] at h
      rw [if_neg e2] at g
      simp at h g
      omega
theorem lexLe_trans : ∀ a b c : List Int, lexLt b a = false → lexLt c b = false → lexLt c a = false
  | [], _, [], _, _ => rfl
  | [], _, _ :: _, _, _ => rfl
  | _ :: _, [], _, h, _ => by simp [lexLt] at h
  | _ :: _, _ :: _, [], _, g => by simp [lexLt] at g
  | x :: xs, y :: ys, z :: zs, h, g => by
    rw [lexLt] at h g ⊢
    by_cases e1 : y = x
    · subst e1
      rw [if_pos rfl] at h
      by_cases e2 : z = y
      · subst e2
        rw [if_pos rfl] at g ⊢
        exact lexLe_trans xs ys zs h g
      · rw [if_neg e2] at g ⊢
        exact g
    · rw [if_neg e1] at h
      by_cases e2 : z = y
      · subst e2
        rw [if_neg e1]
        exact h
      · rw [if_neg e2] at g
        simp at h g
        have e3 : ¬ z = x := by omega
        rw [if_neg e3]
        simp
        omega
/-- the lesser one -/
def lmin (a b : List Int) : List Int := if lexLt b a then b else a
/-- a least one of some -/
def LeastIn (C : List Int → Prop) (m : List Int) : Prop := C m ∧ ∀ x, C x → lexLt x m = false
theorem LeastIn.unique {C : List Int → Prop} {m n : List Int} (h : LeastIn C m) (g : LeastIn C n) : m = n := lexLt_antisymm m n (g.2 m h.1) (h.2 n g.1)
theorem LeastIn.iff {C C' : List Int → Prop} {m : List Int} (h : LeastIn C m) (hc : ∀ x, C x ↔ C' x) : LeastIn C' m := ⟨(hc m).mp h.1, fun x hx => h.2 x ((hc x).mpr hx)⟩
theorem foldl_lmin : ∀ (L : List (List Int)) (a : List Int), LeastIn (fun x => x ∈ a :: L) (L.foldl lmin a)
  | [], a => ⟨by simp, fun x hx => by
    have : x = a := by simpa using hx
    subst this
    exact lexLt_irrefl x⟩
  | b :: L, a => by
    have ih := foldl_lmin L (lmin a b)
    rw [List.foldl_cons]
    have hm : lmin a b = a ∨ lmin a b = b := by unfold lmin; split <;> simp
    have h1 : lexLt a (lmin a b) = false := by
      unfold lmin
      split
      · rename_i h
        exact lexLt_asymm _ _ h
      · exact lexLt_irrefl a
    have h2 : lexLt b (lmin a b) = false := by
      unfold lmin
      split
      · exact lexLt_irrefl b
      · rename_i h
        simpa using h
    have h0 := ih.2 (lmin a b) List.mem_cons_self
    refine ⟨?_, fun x hx => ?_⟩
    · rcases List.mem_cons.mp ih.1 with h | h
      · rw [h]
        rcases hm with e | e <;> rw [e] <;> simp
      · simp [h]
    · rcases List.mem_cons.mp hx with rfl | hx
      · exact lexLe_trans _ _ _ h0 h1
      · rcases List.mem_cons.mp hx with rfl | hx
        · exact lexLe_trans _ _ _ h0 h2
        · exact ih.2 x (List.mem_cons_of_mem _ hx)
theorem bestT_least (nss : List (List Int)) : ∀ k, k < nss.length → bestT nss k ≤ k ∧ ∀ j, j ≤ k → lexLt (nss.getD j []) (nss.getD (bestT nss k) []) = false
  | 0, _ => ⟨Nat.le_refl _, fun j hj => by
    have : j = 0 := by omega
    subst this
    exact lexLt_irrefl _⟩
  | k + 1, hk => by
    obtain ⟨h1, h2⟩ := bestT_least nss k (by omega)
    simp only [bestT]
    split
    · rename_i h
      refine ⟨Nat.le_refl _, fun j hj => ?_⟩
      by_cases e : j = k + 1
      · rw [e]; exact lexLt_irrefl _
      · exact lexLe_trans _ _ _ (lexLt_asymm _ _ h) (h2 j (by omega))
    · rename_i h
      refine ⟨by omega, fun j hj => ?_⟩
      by_cases e : j = k + 1
      · rw [e]; simpa using h
      · exact h2 j (by omega)
/-- min of a list of tuples of ints -/
theorem bi_min_rows {nss : List (List Int)} (hne : nss ≠ []) : ∃ m, bi .min [.lst (em tI nss)] = some (.tup (em .int m)) ∧ LeastIn (fun x => x ∈ nss) m := by
  have hi : ∀ nss : List (List Int), intss (em tI nss) = some nss := by
    intro nss
    induction nss with
    | nil => rfl
    | cons n nss ih =>
      rw [em_cons]
      simp only [tI, intss, s_intsOf_map, Option.bind_some, ih, Option.map_some]
  have hpos : 0 < nss.length := List.length_pos_iff.mpr hne
  obtain ⟨h1, h2⟩ := bestT_least nss (nss.length - 1) (by omega)
  have hlt : bestT nss (nss.length - 1) < nss.length := by omega
  refine ⟨nss[bestT nss (nss.length - 1)], ?_, List.getElem_mem hlt, fun x hx => ?_⟩
  · have hem : nss.isEmpty = false := by cases nss with
      | nil => exact absurd rfl hne
      | cons _ _ => rfl
    simp only [bi, hi, Option.bind_some, hem]
    simp [em, hlt]
  · obtain ⟨j, hj, rfl⟩ := List.getElem_of_mem hx
    have := h2 j (by omega)
    simpa [List.getD, hj, hlt] using this
@[simp] theorem bi_min_tup {a b : List Int} : bi .min [.tup (em .int a), .tup (em .int b)] = some (.tup (em .int (lmin a b))) := by
  simp only [bi, s_intsOf_map, Option.bind_some, Option.map_some, lmin]
  split <;> rfl
/-! ### other starts, backward -/
def Rotn (r s : List Int) : Prop := ∃ A B, r = A ++ B ∧ s = B ++ A
theorem Rotn.refl (r : List Int) : Rotn r r := ⟨[], r, by simp, by simp⟩
theorem Rotn.symm {r s : List Int} (h : Rotn r s) : Rotn s r := by
  obtain ⟨A, B, h1, h2⟩ := h
  exact ⟨B, A, h2, h1⟩
theorem Rotn.trans {r s t : List Int} (h : Rotn r s) (g : Rotn s t) : Rotn r t := by
  obtain ⟨A, B, h1, h2⟩ := h
  obtain ⟨C, E, g1, g2⟩ := g
  rw [h2] at g1
  rcases List.append_eq_append_iff.mp g1 with ⟨a, h3, h4⟩ | ⟨c, h3, h4⟩
  · exact ⟨a, E ++ B, by rw [h1, h4]; simp, by rw [g2, h3]; simp⟩
  · exact ⟨A ++ C, c, by rw [h1, h3]; simp, by rw [g2, h4]; simp⟩
theorem Rotn.rev {r s : List Int} (h : Rotn r s) : Rotn r.reverse s.reverse := by
  obtain ⟨A, B, h1, h2⟩ := h
  exact ⟨B.reverse, A.reverse, by rw [h1]; simp, by rw [h2]; simp⟩
theorem Rotn.at (r : List Int) (i : Nat) : Rotn r (r.drop i ++ r.take i) := ⟨r.take i, r.drop i, by simp, rfl⟩
theorem Rotn.ix {r s : List Int} (h : Rotn r s) (hr : r ≠ []) : ∃ i, i < r.length ∧ s = r.drop i ++ r.take i := by
  obtain ⟨A, B, h1, h2⟩ := h
  by_cases hB : B = []
  · subst hB
    refine ⟨0, List.length_pos_iff.mpr hr, ?_⟩
    rw [h2, h1]
    simp
  · refine ⟨A.length, ?_, ?_⟩
    · rw [h1]
      have := List.length_pos_iff.mpr hB
      simp
      omega
    · rw [h1, h2]
      simp
theorem Rotn.map {r s : List Int} (f : Int → Int) (h : Rotn r s) : Rotn (r.map f) (s.map f) := by
  obtain ⟨A, B, h1, h2⟩ := h
  exact ⟨A.map f, B.map f, by rw [h1]; simp, by rw [h2]; simp⟩
theorem Rotn.unmap {r s : List Int} {f : Int → Int} (h : Rotn (r.map f) s) : ∃ t, Rotn r t ∧ s = t.map f := by
  obtain ⟨A, B, h1, h2⟩ := h
  obtain ⟨A', B', e, rfl, rfl⟩ := List.map_eq_append_iff.mp h1
  exact ⟨B' ++ A', ⟨A', B', e, rfl⟩, by rw [h2]; simp⟩
theorem Rotn.mem {r s : List Int} (h : Rotn r s) {x : Int} : x ∈ s ↔ x ∈ r := by
  obtain ⟨A, B, h1, h2⟩ := h
  rw [h1, h2, List.mem_append, List.mem_append, or_comm]
/-- begun elsewhere, or backward -/
def Orb (r s : List Int) : Prop := Rotn r s ∨ Rotn r.reverse s
theorem Orb.of {r s : List Int} (h : Orb r s) (t : List Int) : Orb r t ↔ Orb s t := by
  rcases h with h | h
  · have hr := h.rev
    constructor
    · rintro (g | g)
      · exact .inl (h.symm.trans g)
      · exact .inr (hr.symm.trans g)
    · rintro (g | g)
      · exact .inl (h.trans g)
      · exact .inr (hr.trans g)
  · have hr : Rotn r s.reverse := by simpa using h.rev
    constructor
    · rintro (g | g)
      · exact .inr (hr.symm.trans g)
      · exact .inl (h.symm.trans g)
    · rintro (g | g)
      · exact .inr (h.trans g)
      · exact .inl (hr.trans g)
theorem Orb.mem {r s : List Int} (h : Orb r s) {x : Int} : x ∈ s ↔ x ∈ r := by
  rcases h with h | h
  · exact h.mem
  · rw [h.mem, List.mem_reverse]
/-- what comes of a row -/
def Cand (r x : List Int) : Prop := ∃ s, Orb r s ∧ x = named s
theorem Cand.orb {r s : List Int} (h : Orb r s) (x : List Int) : Cand r x ↔ Cand s x := by
  unfold Cand
  simp only [h.of]
theorem Cand.map {r : List Int} {f : Int → Int} (h : ∀ a ∈ r, ∀ b ∈ r, f a = f b → a = b) (x : List Int) : Cand (r.map f) x ↔ Cand r x := by
  constructor
  · rintro ⟨s, hs, rfl⟩
    have : ∃ t, Orb r t ∧ s = t.map f := by
      rcases hs with hs | hs
      · obtain ⟨t, ht, e⟩ := hs.unmap
        exact ⟨t, .inl ht, e⟩
      · rw [← List.map_reverse] at hs
        obtain ⟨t, ht, e⟩ := hs.unmap
        exact ⟨t, .inr ht, e⟩
    obtain ⟨t, ht, rfl⟩ := this
    exact ⟨t, ht, named_map fun a ha b hb => h a (ht.mem.mp ha) b (ht.mem.mp hb)⟩
  · rintro ⟨t, ht, rfl⟩
    refine ⟨t.map f, ?_, (named_map fun a ha b hb => h a (ht.mem.mp ha) b (ht.mem.mp hb)).symm⟩
    rcases ht with ht | ht
    · exact .inl (ht.map f)
    · refine .inr ?_
      rw [← List.map_reverse]
      exact ht.map f
theorem Cand.named {r : List Int} (x : List Int) : Cand (named r) x ↔ Cand r x := Cand.map (fun a ha b hb => nix_inj (mem_dis.mpr ha)) x
/-- the same by what comes of one of them -/
theorem Cand.cand {r m : List Int} (h : Cand r m) (x : List Int) : Cand m x ↔ Cand r x := by
  obtain ⟨s, hs, rfl⟩ := h
  rw [Cand.named, Cand.orb hs]
theorem Cand.length {r x : List Int} (h : Cand r x) : x.length = r.length := by
  obtain ⟨s, hs, rfl⟩ := h
  rw [named_length]
  rcases hs with ⟨A, B, h1, h2⟩ | ⟨A, B, h1, h2⟩
  · rw [h1, h2]; simp; omega
  · have := congrArg List.length h1
    rw [List.length_reverse] at this
    rw [this, h2]; simp; omega
theorem Orb.perm {r s : List Int} (h : Orb r s) : s.Perm r := by
  rcases h with ⟨A, B, h1, h2⟩ | ⟨A, B, h1, h2⟩
  · rw [h1, h2]; exact List.perm_append_comm
  · have : s.Perm r.reverse := by rw [h1, h2]; exact List.perm_append_comm
    exact this.trans (List.reverse_perm r)
theorem RowP.cand {r m : List Int} {many : Int} (h : RowP r many) (c : Cand r m) : RowP m many := by
  obtain ⟨s, hs, rfl⟩ := c
  exact (h.perm hs.perm).named'
end Ic

set_option Elab.async false
set_option linter.all false
set_option maxRecDepth 100000
set_option maxHeartbeats 1000000
/-! Al: alike at two equal values. -/
namespace Ic
open PySem (Str)
section
variable {c b : Slots → Store → T Flow}
theorem whl_ex (I : Nat → Slots → Store → Prop) (step : ∀ m env S, I m env S → c env S = .ret (.bk env) S ∨ (c env S = .ret (.nx env) S ∧ ∃ m' env' S', b env S = .ret (.nx env') S' ∧ m' < m ∧ I m' env' S')) :
    ∀ (k m : Nat) env S, m < k → I m env S → ∃ env' S', whlLoop c b k env S = .ret (.nx env') S'
  | 0, m, _, _, hk, _ => by omega
  | k + 1, m, env, S, hk, hI => by
    rcases step m env S hI with e | ⟨e, m', env', S', e2, hm, hI'⟩
    · exact ⟨env, S, by rw [whlLoop, e, T.bind_ret]⟩
    · obtain ⟨env2, S2, e3⟩ := whl_ex I step k m' env' S' (by omega) hI'
      exact ⟨env2, S2, by rw [whlLoop, e, T.bind_ret]; simp only []; rw [e2, T.bind_ret]; exact e3⟩
end
section
variable {R : Rn} {below : Nat → Nat → Bool}
theorem alike_loop_ex {n : Nat} {st : List D} {S : Store} (a b e : Option D) (c d : Option D) (hn : n < S.length) (hS : S[n]? = some (.lst (st.map twin))) (ha : ∀ v ∈ st, v.alk = true) (hk : ∀ v ∈ st, v.ok 38 = true) (hz : nodess st < 1000000) :
    ∃ env' S', whlLoop (fun env S => (evE R (.cmp (.var 2) .ne (.lst false [])) env S).stm env fun x S => some? (truth (view S x)) fun t => if t then .ret (.nx env) S else .ret (.bk env) S) (evSs R below alikeBody) fuel [a, b, some (.obj n), c, d, e] S = .ret (.nx env') S' := by
  refine whl_ex (fun m env S => ∃ n st c d, env = [a, b, some (.obj n), c, d, e] ∧ n < S.length ∧ S[n]? = some (.lst (st.map twin)) ∧ (∀ v ∈ st, v.alk = true) ∧ (∀ v ∈ st, v.ok 38 = true) ∧ m = nodess st ∧ nodess st < 1000000) (fun m env S hI => ?_) fuel (nodess st) _ S hz ⟨n, st, c, d, rfl, hn, hS, ha, hk, rfl, hz⟩
  obtain ⟨n, st, c, d, rfl, hn, hS, ha, hk, rfl, hz⟩ := hI
  rw [alike_test rfl hS hk]
  simp only [T.stm_ret, Ic.view, Ic.truth, some?_some]
  rcases List.eq_nil_or_concat st with rfl | ⟨st', v, rfl⟩
  · left
    rfl
  · right
    have he : (!(st'.concat v).isEmpty) = true := by simp
    rw [List.concat_eq_append] at hS ha hk hz he
    rw [List.concat_eq_append]
    rw [he, if_pos rfl]
    refine ⟨rfl, ?_⟩
    have hv := ha v (by simp)
    have hvk := hk v (by simp)
    have hz' : nodess st' + v.nodes < 1000000 := by
      rw [nodess_append] at hz
      simpa [nodess] using hz
    have ha' : ∀ u ∈ st', u.alk = true := fun u hu => ha u (by simp [hu])
    have hk' : ∀ u ∈ st', u.ok 38 = true := fun u hu => hk u (by simp [hu])
    have hlen := nodess_len st'
    by_cases ht : ∃ xs, v = .tup xs
    · obtain ⟨xs, rfl⟩ := ht
      have hlx := nodess_len xs
      have hnx : (D.tup xs).nodes = 1 + nodess xs := by simp [D.nodes]
      have hal : alks xs = true := by simpa [D.alk] using hv
      have hox : oks 37 xs = true := by simpa [D.ok] using hvk
      have hline : line = 16777216 := rfl
      refine ⟨nodess (st' ++ xs), _, _, alike_tup hn hS (by omega), by rw [nodess_append, nodess_append]; simp [nodess, hnx], S.length, st' ++ xs, _, _, rfl, by simp, by simp, fun u hu => ?_, fun u hu => ?_, rfl, by rw [nodess_append]; omega⟩
      · rcases List.mem_append.mp hu with h | h
        · exact ha' u h
        · exact alks_mem hal h
      · rcases List.mem_append.mp hu with h | h
        · exact hk' u h
        · exact D.ok_mono _ _ (oks_mem hox u h)
    · have := nodes_pos v
      exact ⟨nodess st', _, _, alike_leaf hn hS hv (fun xs h => ht ⟨xs, h⟩) hvk, by rw [nodess_append]; simp [nodess]; omega, n, st', _, _, rfl, by simpa using hn, by simp [hn], ha', hk', rfl, by omega⟩
end
@[simp] theorem alk_non : D.non.alk = true := by simp [D.alk]
@[simp] theorem alk_bl {b : Bool} : (D.bl b).alk = true := by simp [D.alk]
@[simp] theorem alk_int {i : Int} : (D.int i).alk = true := by simp [D.alk]
@[simp] theorem alk_str {s : Str} : (D.str s).alk = PySem.PyData.strOk s := by simp [D.alk]
@[simp] theorem alk_tup {xs : List D} : (D.tup xs).alk = alks xs := by simp [D.alk]
@[simp] theorem alks_nil : alks [] = true := by simp [alks]
@[simp] theorem alks_cons {x : D} {xs : List D} : alks (x :: xs) = (x.alk && alks xs) := by simp [alks]
@[simp] theorem alks_em {α : Type} {e : α → D} : ∀ {xs : List α}, alks (em e xs) = xs.all fun a => (e a).alk
  | [] => by simp
  | x :: xs => by rw [em_cons, alks_cons, alks_em]; simp
@[simp] theorem nodes_int {i : Int} : (D.int i).nodes = 1 := by simp [D.nodes]
@[simp] theorem nodes_bl {b : Bool} : (D.bl b).nodes = 1 := by simp [D.nodes]
@[simp] theorem nodes_non : D.non.nodes = 1 := by simp [D.nodes]
@[simp] theorem nodes_str {s : Str} : (D.str s).nodes = 1 := by simp [D.nodes]
@[simp] theorem nodes_tup {xs : List D} : (D.tup xs).nodes = 1 + nodess xs := by simp [D.nodes]
@[simp] theorem nodess_nil : nodess [] = 0 := by simp [nodess]
@[simp] theorem nodess_cons {x : D} {xs : List D} : nodess (x :: xs) = x.nodes + nodess xs := by simp [nodess]
@[simp] theorem nodess_ints : ∀ {xs : List Int}, nodess (em .int xs) = xs.length
  | [] => by simp
  | x :: xs => by rw [em_cons, nodess_cons, nodess_ints]; simp; omega
theorem nodess_rows_le {n : Nat} : ∀ {xs : List (List Int)}, (∀ r ∈ xs, r.length ≤ n) → nodess (em tI xs) ≤ xs.length * (n + 1)
  | [], _ => by simp
  | x :: xs, h => by
    have h1 := h x List.mem_cons_self
    have h2 := nodess_rows_le (xs := xs) fun r hr => h r (List.mem_cons_of_mem _ hr)
    rw [em_cons, nodess_cons, List.length_cons, Nat.succ_mul]
    simp
    omega
end Ic

set_option Elab.async false
set_option linter.all false
set_option maxRecDepth 100000
set_option maxHeartbeats 1000000
/-! Jg2: calls that are handed an object. -/
namespace Ic
open PySem (Str)
theorem Jugs.pu {b : Nat} {j : D} (h : Jugs b j) : j.pu = true := by
  obtain ⟨cs, i, r, rfl, _⟩ := h.ex
  simp [jug, D.pu, pus, pus_ints]
mutual
theorem D.bel_pu (n : Nat) : ∀ {d : D}, d.pu = true → d.bel n = true
  | .non, _ | .bl _, _ | .int _, _ | .str _, _ | .scr _, _ | .set _, _ | .rng, _ => by simp [D.bel]
  | .tup xs, h => by simp [D.bel, belows_pu n (xs := xs) (by simpa [D.pu] using h)]
  | .lst xs, h => by simp [D.bel, belows_pu n (xs := xs) (by simpa [D.pu] using h)]
  | .dct kvs, h => by simp [D.bel, belowks_pu n (xs := kvs) (by simpa [D.pu] using h)]
  | .ins c fs, h => by simp [D.bel, belowfs_pu n (xs := fs) (by simpa [D.pu] using h)]
  | .obj n, h => by simp [D.pu] at h
theorem belows_pu (n : Nat) : ∀ {xs : List D}, pus xs = true → belows n xs = true
  | [], _ => by simp [belows]
  | x :: xs, h => by
    have h' : x.pu = true ∧ pus xs = true := by simpa [pus] using h
    simp [belows, D.bel_pu n h'.1, belows_pu n h'.2]
theorem belowks_pu (n : Nat) : ∀ {xs : List (D × D)}, puks xs = true → belowks n xs = true
  | [], _ => by simp [belowks]
  | (k, v) :: xs, h => by
    have h' : (k.pu = true ∧ v.pu = true) ∧ puks xs = true := by simpa [puks] using h
    simp [belowks, D.bel_pu n h'.1.1, D.bel_pu n h'.1.2, belowks_pu n h'.2]
theorem belowfs_pu (n : Nat) : ∀ {xs : List (Nat × D)}, pufs xs = true → belowfs n xs = true
  | [], _ => by simp [belowfs]
  | (f, v) :: xs, h => by
    have h' : v.pu = true ∧ pufs xs = true := by simpa [pufs] using h
    simp [belowfs, D.bel_pu n h'.1, belowfs_pu n h'.2]
end
theorem dropOf_pu {S A B : Store} {d : D} (hd : d.pu = true) (hA : A.length = S.length) (hp : pus A = true) : dropOf S d (A ++ B) = .ret d A := by
  have e : (A ++ B).take S.length = A := by rw [← hA]; simp
  unfold dropOf
  rw [e, if_pos (belows_pu _ hp), freeze_pu hd]
theorem callD_obj {P : Prog} {k i np nl : Nat} {b : List Sm} {args : List D} {S : Store} {mu : Bool} {Q : D → Store → Prop} {X : Exc → Store → Prop} (he : P.ext i = none) (hf : P.fns[i]? = some ⟨np, nl, b⟩) (hl : args.length = np) (hp : pus args = false)
    (h : (bnd (evSs (rnOf P (run P k)) P.below b (args.map some ++ List.replicate (nl - np) none) S).nox (f := ⟨endOf⟩)).Al (fun d S' => d.pu = true ∧ ∃ A B, S' = A ++ B ∧ A.length = S.length ∧ pus A = true ∧ Q d A) X) : (callD (run P (k + 1)) i mu args S).Al Q X := by
  unfold callD
  rw [if_neg (by simp [hp]), run_eq he hf hl]
  rw [T.Al_iff] at *
  rw [T.All_bind]
  refine h.mono (fun d S' z => ?_) fun _ _ z => z
  obtain ⟨hd, A, B, rfl, hA, hq, hQ⟩ := z
  rw [dropOf_pu hd hA hq]
  exact hQ
end Ic

set_option Elab.async false
set_option linter.all false
set_option maxRecDepth 100000
set_option maxHeartbeats 1000000
/-! Sx13: instances: fields, makers, methods; lists at store places. -/
namespace Ic
open PySem (Str)
section
variable {R : Rn} {env : Slots} {S : Store} {n : Nat} {e : E} {P : Prog}
@[simp ↓] theorem evE_new {c : Nat} {mu : Bool} {es : List E} : evE R (.new c mu es) env S = bnd (evEs R es env S) (f := ⟨fun ds S => R.new c mu ds S⟩) := by rw [evE]; rfl
/-- the class of an instance -/
def clsD : D → Option Nat
  | .ins c _ => some c
  | _ => none
@[simp] theorem clsD_ins {c : Nat} {fs : List (Nat × D)} : clsD (.ins c fs) = some c := rfl
@[simp ↓] theorem evE_own {m : Nat} {mu : Bool} {a : E} {es : List E} : evE R (.own m mu a es) env S = bnd (evE R a env S) (f := ⟨fun x S => opt (clsD (view S x)) (f := ⟨fun c => opt (R.mth c m) (f := ⟨fun f => bnd (evEs R es env S) (f := ⟨fun ds S => R.call f mu (x :: ds) S⟩)⟩)⟩)⟩) := by
  rw [evE]
  unfold bnd
  congr 1
  funext x S
  show (match view S x with | .ins c _ => _ | _ => _) = opt (clsD (view S x)) (f := ⟨fun c => opt (R.mth c m) (f := ⟨fun f => bnd (evEs R es env S) (f := ⟨fun ds S => R.call f mu (x :: ds) S⟩)⟩)⟩)
  cases view S x <;> rfl
@[simp] theorem rnOf_new {rn : Nat → List D → Store → T D} : (rnOf P rn).new = newD P.init rn := rfl
@[simp] theorem rnOf_mth {rn : Nat → List D → Store → T D} : (rnOf P rn).mth = P.mth := rfl
@[simp ↓] theorem tgSet_fld {o : E} {f : Nat} {d : D} : tgSet R (.fld o f) d env S = bnd (evE R o env S) (f := ⟨fun x S => opt (setFld S x f d) (f := ⟨fun S' => .ret env S'⟩)⟩) := by rw [tgSet]; rfl
theorem tgSet_lst {ts : List Tg} {d : D} {xs : List D} (h : view S d = .lst xs) : tgSet R (.tup ts) d env S = if xs.length = ts.length then tgSets R ts xs env S else .bad := by rw [tgSet, h]
@[simp ↓] theorem tgSet_lst' {ts : List Tg} {xs : List D} : tgSet R (.tup ts) (.lst xs) env S = if xs.length = ts.length then tgSets R ts xs env S else .bad := tgSet_lst rfl
@[simp] theorem fldD_ins {c f : Nat} {fs : List (Nat × D)} : fldD f (.ins c fs) = lookF fs f := rfl
@[simp] theorem lookF_cons {a f : Nat} {b : D} {r : List (Nat × D)} : lookF ((a, b) :: r) f = if a = f then some b else lookF r f := by
  unfold lookF
  rw [List.find?_cons]
  by_cases h : a = f
  · simp [h]
  · rw [if_neg h, beq_eq_false_iff_ne.mpr h]
@[simp] theorem putF_nil {f : Nat} {v : D} : putF [] f v = [(f, v)] := rfl
@[simp] theorem putF_cons {a f : Nat} {b v : D} {r : List (Nat × D)} : putF ((a, b) :: r) f v = if a = f then (a, v) :: r else (a, b) :: putF r f v := by
  rw [putF]
  by_cases h : a = f <;> simp [h]
@[simp] theorem setFld_0 {c f : Nat} {fs : List (Nat × D)} {d : D} (h : fs.length < 1000) : setFld (.ins c fs :: S) (.obj 0) f d = some (.ins c (putF fs f d) :: S) := by simp [setFld, h]
theorem setIdx_at {xs : List D} {j : Int} {d : D} (h : S[n]? = some (.lst xs)) (h0 : 0 ≤ j) (h1 : j < xs.length) : setIdx S (.obj n) (.int j) d = some (S.set n (.lst (xs.set j.toNat d))) := by
  simp [setIdx, h, ixN, h0, h1]
theorem em_set {α : Type} {e : α → D} {xs : List α} {i : Nat} {v : α} : (em e xs).set i (e v) = em e (xs.set i v) := by simp [em, List.map_set]
@[simp] theorem view_ins {c : Nat} {fs : List (Nat × D)} : view S (.ins c fs) = .ins c fs := rfl
@[simp] theorem pu_ins {c : Nat} {fs : List (Nat × D)} : (D.ins c fs).pu = pufs fs := by simp [D.pu]
@[simp] theorem pufs_nil : pufs [] = true := by simp [pufs]
@[simp] theorem pufs_cons {f : Nat} {d : D} {fs : List (Nat × D)} : pufs ((f, d) :: fs) = (d.pu && pufs fs) := by simp [pufs]
/-- a row of lists in the store, put in place -/
theorem frzs_objs {k : Nat} : ∀ {L : List D} {b : Nat}, (∀ (i : Nat) (h : i < L.length), S[b + i]? = some L[i]) → pus L = true → frzs (deref S 0 (k + 1)) ((List.range' b L.length).map .obj) = some L
  | [], b, _, _ => by simp [frzs]
  | d :: L, b, hS, hp => by
    have h0 := hS 0 (by simp)
    have hp' : d.pu = true ∧ pus L = true := by simpa using hp
    have ih := frzs_objs (k := k) (L := L) (b := b + 1) (fun i h => by
      have := hS (i + 1) (by simpa using h)
      rw [show b + 1 + i = b + (i + 1) by omega, this]
      rfl) hp'.2
    rw [List.length_cons, List.range'_succ, List.map_cons, frzs]
    have e : (D.obj b).frz (deref S 0 (k + 1)) = some d := by
      rw [Nat.add_zero] at h0
      show deref S 0 (k + 1) b = _
      rw [deref, if_neg (by omega), h0]
      exact D.frz_pu _ hp'.1
    rw [e, ih]
    rfl
theorem deref_obj {k n : Nat} {d : D} (h : S[n]? = some d) : deref S 0 (k + 1) n = d.frz (deref S 0 k) := by
  rw [deref, if_neg (by omega), h]
  rfl
theorem freeze_obj {d : D} (h : S[n]? = some d) (hp : d.pu = true) : freeze S 0 (.obj n) = some d := by
  show deref S 0 8 n = _
  rw [deref_obj h, D.frz_pu _ hp]
@[simp] theorem freeze_0 {d : D} (hp : d.pu = true) : freeze (d :: S) 0 (.obj 0) = some d := freeze_obj rfl hp
@[simp] theorem freeze_1 {d d0 : D} (hp : d.pu = true) : freeze (d0 :: d :: S) 0 (.obj 1) = some d := freeze_obj rfl hp
/-- new lists, one for each item -/
theorem clp_news {α : Type} {ok : Store → Bool} {f : D → Store → T (Option D)} {e : α → D} {L : D} (hf : ∀ a S, f (e a) S = .ret (some (.obj S.length)) (S ++ [L])) (hok : ∀ S, ok S = true) : ∀ {xs : List α} {acc : List D} {S : Store}, acc.length + xs.length ≤ 16777216 →
    clp ok (em e xs) acc S (f := ⟨f⟩) = .ret (acc ++ (List.range' S.length xs.length).map .obj) (S ++ List.replicate xs.length L) := by
  intro xs
  induction xs with
  | nil => intro acc S _; simp [clp, compLoop]
  | cons x xs ih =>
    intro acc S hl
    simp only [List.length_cons] at hl
    show compLoop ok f (em e (x :: xs)) acc S = _
    rw [em_cons, compLoop, hf, T.bind_ret, if_pos (hok _)]
    simp only [push, line]
    rw [if_pos (by omega), some?_some]
    have := ih (acc := acc ++ [.obj S.length]) (S := S ++ [L]) (by simp; omega)
    rw [show compLoop ok f (em e xs) (acc ++ [.obj S.length]) (S ++ [L]) = clp ok (em e xs) (acc ++ [.obj S.length]) (S ++ [L]) (f := ⟨f⟩) from rfl, this]
    simp [List.range'_succ, List.replicate_succ]
end
end Ic

set_option Elab.async false
set_option linter.all false
set_option maxRecDepth 100000
set_option maxHeartbeats 1000000
/-! Dt: the darts of a drawing, plainly. -/
namespace Ic
section
variable {α β τ : Type}
/-- what a run of writes leaves at a place -/
theorem fold_writes {step : τ → α → τ} {get : τ → Option β} {wr : α → Option β} {ok : τ → Prop} {A : α → Prop} (h : ∀ T a, A a → ok T → ok (step T a) ∧ get (step T a) = (wr a).or (get T)) {v : β} :
    ∀ (L : List α) (T : τ), (∀ a ∈ L, A a) → ok T → (∀ a ∈ L, ∀ w, wr a = some w → w = v) → ((∃ a ∈ L, (wr a).isSome) ∨ get T = some v) → get (L.foldl step T) = some v
  | [], T, _, _, _, h3 => by
    rcases h3 with ⟨a, ha, _⟩ | h3
    · cases ha
    · exact h3
  | a :: L, T, hA, hT, h2, h3 => by
    obtain ⟨o, e⟩ := h T a (hA a List.mem_cons_self) hT
    refine fold_writes h L (step T a) (fun b hb => hA b (List.mem_cons_of_mem _ hb)) o (fun b hb => h2 b (List.mem_cons_of_mem _ hb)) ?_
    cases hw : wr a with
    | some w =>
      right
      rw [e, hw, h2 a List.mem_cons_self w hw]
      rfl
    | none =>
      rw [hw] at e
      rcases h3 with ⟨b, hb, hs⟩ | h3
      · rcases List.mem_cons.mp hb with rfl | hb
        · rw [hw] at hs; cases hs
        · exact .inl ⟨b, hb, hs⟩
      · exact .inr (by rw [e, h3]; rfl)
theorem fold_ok {step : τ → α → τ} {ok : τ → Prop} : ∀ (L : List α) (T : τ), (∀ T a, a ∈ L → ok T → ok (step T a)) → ok T → ok (L.foldl step T)
  | [], T, _, h => h
  | a :: L, T, hs, h => fold_ok L _ (fun T b hb => hs T b (List.mem_cons_of_mem _ hb)) (hs T a List.mem_cons_self h)
/-! ### next places -/
def nxtF : Int → List (List α) → List Int
  | _, [] => []
  | b, r :: rs => ((irange 0 r.length).map fun k => b + (k + 1) % r.length) ++ nxtF (b + r.length) rs
def nxt (rows : List (List α)) : List Int := nxtF 0 rows
theorem irange_cons {i j : Int} (h : i < j) : irange i j = i :: irange (i + 1) j := by
  unfold irange
  have e : (j - i).toNat = (j - (i + 1)).toNat + 1 := by omega
  rw [e, List.range_succ_eq_map, List.map_cons, List.map_map]
  congr 1
  · omega
  · refine List.map_congr_left fun k _ => ?_
    simp
    omega
theorem irange_app {i j k : Int} (h : i ≤ j) (h2 : j ≤ k) : irange i j ++ irange j k = irange i k := by
  obtain ⟨n, rfl⟩ : ∃ n : Nat, j = i + n := ⟨(j - i).toNat, by omega⟩
  clear h
  induction n generalizing i with
  | zero => simp [irange]
  | succ n ih =>
    rw [irange_cons (by omega), irange_cons (i := i) (j := k) (by omega), List.cons_append]
    congr 1
    have := ih (i := i + 1) (by omega)
    rw [show i + 1 + (n : Int) = i + ((n + 1 : Nat) : Int) by omega] at this
    exact this
theorem irange_add {i j b : Int} : (irange i j).map (fun k => b + k) = irange (b + i) (b + j) := by
  unfold irange
  rw [List.map_map]
  have : (b + j - (b + i)).toNat = (j - i).toNat := by omega
  rw [this]
  refine List.map_congr_left fun k _ => ?_
  show b + (i + (k : Int)) = b + i + k
  omega
theorem rot_perm (b : Int) (m : Nat) : ((irange 0 m).map fun k => b + (k + 1) % (m : Int)).Perm (irange b (b + m)) := by
  cases m with
  | zero => simp [irange]
  | succ m =>
    rw [show ((m + 1 : Nat) : Int) = (m : Int) + 1 by omega, irange_snoc (by omega), List.map_append]
    have e1 : ((irange 0 (m : Int)).map fun k => b + (k + 1) % ((m : Int) + 1)) = irange (b + 1) (b + (m + 1)) := by
      have e2 : ((irange 0 (m : Int)).map fun k => b + (k + 1) % ((m : Int) + 1)) = (irange 0 (m : Int)).map fun k => (b + 1) + k := by
        refine List.map_congr_left fun k hk => ?_
        rw [mem_irange] at hk
        rw [Int.emod_eq_of_lt (by omega) (by omega)]
        omega
      rw [e2, irange_add, Int.add_zero]
      congr 1
      omega
    rw [e1, irange_cons (i := b) (by omega)]
    simp only [List.map_cons, List.map_nil, Int.emod_self, Int.add_zero]
    exact List.perm_append_singleton _ _
theorem nxtF_perm : ∀ (rows : List (List α)) (b : Int), (nxtF b rows).Perm (irange b (b + (flat rows).length))
  | [], b => by simp [nxtF, flat, irange]
  | r :: rows, b => by
    have h := (rot_perm b r.length).append (nxtF_perm rows (b + r.length))
    rw [irange_app (by omega) (by omega)] at h
    have e : b + (r.length : Int) + ((flat rows).length : Int) = b + ((flat (r :: rows)).length : Int) := by
      simp [flat]
      omega
    rw [e] at h
    exact h
theorem nxt_perm (rows : List (List α)) : (nxt rows).Perm (irange 0 (flat rows).length) := by
  have := nxtF_perm rows 0
  simpa [nxt] using this
theorem nxt_len (rows : List (List α)) : (nxt rows).length = (flat rows).length := by
  have := (nxt_perm rows).length_eq
  simpa using this
theorem irange_nd {i j : Int} : (irange i j).Nodup := by
  unfold irange
  exact List.Pairwise.map _ (fun a b (hab : a ≠ b) => by omega) List.nodup_range
/-! ### the places before -/
def bef (nx : List Int) : List Int := nx.zipIdx.foldl (fun B p => B.set p.1.toNat (p.2 : Int)) (List.replicate nx.length 0)
/-- a turn of all places -/
def Rot (nx : List Int) : Prop := nx.Perm (irange 0 nx.length)
theorem Rot.rng {nx : List Int} (h : Rot nx) {q : Nat} (hq : q < nx.length) : 0 ≤ nx[q] ∧ nx[q] < nx.length := mem_irange.mp (h.mem_iff.mp (List.getElem_mem hq))
theorem Rot.inj {nx : List Int} (h : Rot nx) {p q : Nat} (hp : p < nx.length) (hq : q < nx.length) (e : nx[p] = nx[q]) : p = q := (List.getElem_inj (h.nodup_iff.mpr irange_nd)).mp e
theorem Rot.sur {nx : List Int} (h : Rot nx) {p : Nat} (hp : p < nx.length) : ∃ q, ∃ hq : q < nx.length, nx[q] = p := by
  have := h.mem_iff.mpr (mem_irange.mpr ⟨show (0 : Int) ≤ (p : Int) by omega, by omega⟩)
  obtain ⟨q, hq, e⟩ := List.getElem_of_mem this
  exact ⟨q, hq, e⟩
theorem mem_zip {nx : List α} {x : α × Nat} (h : x ∈ nx.zipIdx) : ∃ hx : x.2 < nx.length, x.1 = nx[x.2] := by
  have := List.mem_zipIdx_iff_getElem?.mp h
  obtain ⟨h1, h2⟩ := List.getElem?_eq_some_iff.mp this
  exact ⟨h1, h2.symm⟩
theorem bef_len {nx : List Int} : (bef nx).length = nx.length := by
  unfold bef
  exact fold_ok (ok := fun B : List Int => B.length = nx.length) _ _ (fun T a _ h => by simpa using h) (by simp)
theorem bef_at {nx : List Int} (h : Rot nx) {q : Nat} (hq : q < nx.length) : (bef nx)[nx[q].toNat]? = some (q : Int) := by
  unfold bef
  refine fold_writes (ok := fun B : List Int => B.length = nx.length) (A := fun p => p ∈ nx.zipIdx) (get := fun B : List Int => B[nx[q].toNat]?) (wr := fun p : Int × Nat => if p.1.toNat = nx[q].toNat then some (p.2 : Int) else none) (fun T a ha hT => ⟨by simpa using hT, ?_⟩) _ _ (fun _ h => h) (by simp) (fun a ha w hw => ?_) (.inl ⟨(nx[q], q), ?_, ?_⟩)
  · have hr := h.rng hq
    have : nx[q].toNat < T.length := by omega
    simp only [List.getElem?_set]
    by_cases e : a.1.toNat = nx[q].toNat
    · simp [e, this]
    · simp [e]
  · obtain ⟨h1, h2⟩ := mem_zip ha
    by_cases e : a.1.toNat = nx[q].toNat
    · rw [if_pos e] at hw
      have r1 := h.rng h1
      have r2 := h.rng hq
      have : a.2 = q := h.inj h1 hq (by omega)
      rw [this] at hw
      exact (Option.some.inj hw).symm
    · rw [if_neg e] at hw; cases hw
  · exact List.mem_zipIdx_iff_getElem?.mpr (by simp [hq])
  · simp
/-! ### tables -/
def get2 (T : List (List β)) (c s : Nat) : Option β := (T[c]?).bind (·[s]?)
def set2 (T : List (List β)) (c s : Nat) (v : β) : List (List β) := T.set c (((T[c]?).getD []).set s v)
def Sq (n m : Nat) (T : List (List β)) : Prop := T.length = n ∧ ∀ c (h : c < T.length), T[c].length = m
theorem Sq.set2 {n m c s : Nat} {T : List (List β)} {v : β} (h : Sq n m T) : Sq n m (set2 T c s v) := by
  refine ⟨by simp [Ic.set2, h.1], fun i hi => ?_⟩
  unfold Ic.set2 at hi ⊢
  have hi' : i < T.length := by simpa using hi
  rw [List.getElem_set]
  split
  · rename_i e
    subst e
    simp [hi', h.2 c hi']
  · exact h.2 i hi'
theorem get2_set2 {n m c s c' s' : Nat} {T : List (List β)} {v : β} (h : Sq n m T) (hc : c < n) (hs : s < m) : get2 (set2 T c s v) c' s' = (if c = c' ∧ s = s' then some v else none).or (get2 T c' s') := by
  have hc' : c < T.length := by rw [h.1]; exact hc
  have hl := h.2 c hc'
  unfold get2 set2
  rw [List.getElem?_set]
  by_cases e : c = c'
  · subst e
    rw [if_pos rfl, if_pos hc', List.getElem?_eq_getElem hc']
    simp only [Option.getD_some, Option.bind_some, List.getElem?_set]
    by_cases e2 : s = s'
    · subst e2
      simp [hl, hs]
    · simp [e2]
  · simp [e]
theorem sq_ext {n m : Nat} {T T' : List (List β)} (h : Sq n m T) (h' : Sq n m T') (e : ∀ c s, c < n → s < m → get2 T c s = get2 T' c s) : T = T' := by
  refine List.ext_getElem (h.1.trans h'.1.symm) fun c h1 h2 => ?_
  refine List.ext_getElem ((h.2 c h1).trans (h'.2 c h2).symm) fun s h3 h4 => ?_
  have := e c s (by rw [← h.1]; exact h1) (by rw [← h.2 c h1]; exact h3)
  unfold get2 at this
  rw [List.getElem?_eq_getElem h1, List.getElem?_eq_getElem h2] at this
  simp only [Option.bind_some, List.getElem?_eq_getElem h3, List.getElem?_eq_getElem h4] at this
  exact Option.some.inj this
end
/-! ### the places of a crossing -/
section
variable {es nx ts B : List Int} {many : Int}
theorem plc_mem {c x : Int} : x ∈ plc es c ↔ 0 ≤ x ∧ x < es.length ∧ (es[x.toNat]?).getD 0 = c := by
  rw [← plc_filter, List.mem_filter, mem_irange, decide_eq_true_iff, and_assoc]
theorem plc_nd {c : Int} : (plc es c).Nodup := by
  rw [← plc_filter]
  exact irange_nd.filter _
def pl (es : List Int) (c : Int) (w : Nat) : Nat := (((plc es c)[w]?).getD 0).toNat
/-- which of its two places -/
def wh (es : List Int) (p : Nat) (c : Int) : Int := if ((plc es c)[0]?).getD 0 = (p : Int) then 0 else 1
def fpl (es : List Int) : List (Int × Int) := es.zipIdx.map fun x => (x.1, wh es x.2 x.1)
theorem pl_two (h : RowP es many) {c : Int} (h0 : 0 ≤ c) (h1 : c < many) : ∃ a b : Nat, plc es c = [(a : Int), (b : Int)] ∧ a ≠ b ∧ a < es.length ∧ b < es.length ∧ es[a]? = some c ∧ es[b]? = some c ∧ pl es c 0 = a ∧ pl es c 1 = b := by
  have e := plc_two (h.count h0 h1)
  generalize ((plc es c)[0]?).getD 0 = a at e
  generalize ((plc es c)[1]?).getD 0 = b at e
  have ma : a ∈ plc es c := by rw [e]; simp
  have mb : b ∈ plc es c := by rw [e]; simp
  have nd := plc_nd (es := es) (c := c)
  rw [e] at nd
  have hne : a ≠ b := by simpa using nd
  obtain ⟨a0, a1, a2⟩ := plc_mem.mp ma
  obtain ⟨b0, b1, b2⟩ := plc_mem.mp mb
  have a3 : a.toNat < es.length := by omega
  have b3 : b.toNat < es.length := by omega
  refine ⟨a.toNat, b.toNat, by rw [e]; simp; omega, by omega, a3, b3, ?_, ?_, ?_, ?_⟩
  · rw [List.getElem?_eq_getElem a3] at a2 ⊢
    simpa using a2
  · rw [List.getElem?_eq_getElem b3] at b2 ⊢
    simpa using b2
  · unfold pl
    rw [e]
    simp
  · unfold pl
    rw [e]
    simp
theorem wh_pl (h : RowP es many) {c : Int} (h0 : 0 ≤ c) (h1 : c < many) : wh es (pl es c 0) c = 0 ∧ wh es (pl es c 1) c = 1 := by
  obtain ⟨a, b, e, hne, ha, hb, ea, eb, pa, pb⟩ := pl_two h h0 h1
  unfold wh
  rw [pa, pb, e]
  have : ¬ (a : Int) = (b : Int) := by omega
  simp [this]
theorem place_cases (h : RowP es many) {p : Nat} (hp : p < es.length) : (p = pl es es[p] 0 ∧ wh es p es[p] = 0) ∨ (p = pl es es[p] 1 ∧ wh es p es[p] = 1) := by
  have hm := h.mem.mp (List.getElem_mem hp)
  obtain ⟨a, b, e, hne, ha, hb, ea, eb, pa, pb⟩ := pl_two h hm.1 hm.2
  have hw := wh_pl h hm.1 hm.2
  have : (p : Int) ∈ plc es es[p] := plc_mem.mpr ⟨by omega, by omega, by simp [hp]⟩
  rw [e] at this
  simp only [List.mem_cons, List.not_mem_nil, or_false] at this
  rcases this with q | q
  · have e1 : p = pl es es[p] 0 := by omega
    have h3 := hw.1
    rw [← e1] at h3
    exact .inl ⟨e1, h3⟩
  · have e1 : p = pl es es[p] 1 := by omega
    have h3 := hw.2
    rw [← e1] at h3
    exact .inr ⟨e1, h3⟩
/-! ### arms -/
def so (w t : Int) : Nat := if w = 0 then 0 else if t = 1 then 1 else 3
def sb (w t : Int) : Nat := if w = 0 then 2 else if t = 1 then 3 else 1
/-- the dart back at a place -/
def bk (B : List Int) (p : Nat) : Int := 2 * ((B[p]?).getD 0) + 1
def armR (es B : List Int) (t c : Int) : List Int :=
  if t = 1 then [2 * (pl es c 0 : Int), 2 * (pl es c 1 : Int), bk B (pl es c 0), bk B (pl es c 1)] else [2 * (pl es c 0 : Int), bk B (pl es c 1), bk B (pl es c 0), 2 * (pl es c 1 : Int)]
def arms (es B ts : List Int) : List (List Int) := ts.zipIdx.map fun x => armR es B x.1 x.2
@[simp] theorem armR_len {t c : Int} : (armR es B t c).length = 4 := by
  unfold armR
  split <;> rfl
theorem arms_sq : Sq ts.length 4 ((arms es B ts).map (em D.int)) := by
  refine ⟨by simp [arms], fun c h => ?_⟩
  simp [arms]
theorem arms_get {c : Nat} (hc : c < ts.length) (s : Nat) : get2 ((arms es B ts).map (em D.int)) c s = ((armR es B ts[c] c)[s]?).map D.int := by
  unfold get2 arms
  simp [hc, em]
theorem so_lt {w t : Int} : so w t < 4 := by
  unfold so
  split
  · omega
  · split <;> omega
theorem sb_lt {w t : Int} : sb w t < 4 := by
  unfold sb
  split
  · omega
  · split <;> omega
theorem so_sb {w w' t : Int} (h : w = 0 ∨ w = 1) (h' : w' = 0 ∨ w' = 1) : so w t ≠ sb w' t := by
  unfold so sb
  rcases h with rfl | rfl <;> rcases h' with rfl | rfl <;> by_cases ht : t = 1 <;> simp [ht]
theorem slot {t : Int} {s : Nat} (hs : s < 4) : ∃ w : Nat, (w = 0 ∨ w = 1) ∧ (s = so w t ∨ s = sb w t) := by
  unfold so sb
  by_cases ht : t = 1
  · subst ht
    match s, hs with
    | 0, _ => exact ⟨0, by simp⟩
    | 1, _ => exact ⟨1, by simp⟩
    | 2, _ => exact ⟨0, by simp⟩
    | 3, _ => exact ⟨1, by simp⟩
  · match s, hs with
    | 0, _ => exact ⟨0, by simp⟩
    | 1, _ => exact ⟨1, by simp [ht]⟩
    | 2, _ => exact ⟨0, by simp⟩
    | 3, _ => exact ⟨1, by simp [ht]⟩
theorem armR_so {t c : Int} {w : Nat} (hw : w = 0 ∨ w = 1) : (armR es B t c)[so w t]? = some (2 * (pl es c w : Int)) := by
  unfold armR so
  rcases hw with rfl | rfl <;> by_cases ht : t = 1 <;> simp [ht]
theorem armR_sb {t c : Int} {w : Nat} (hw : w = 0 ∨ w = 1) : (armR es B t c)[sb w t]? = some (bk B (pl es c w)) := by
  unfold armR sb
  rcases hw with rfl | rfl <;> by_cases ht : t = 1 <;> simp [ht]
/-- a place's crossing -/
def cr (es : List Int) (p : Nat) : Int := (es[p]?).getD 0
theorem cr_mem (h : RowP es many) {p : Nat} (hp : p < es.length) : 0 ≤ cr es p ∧ cr es p < many := by
  have hm := h.mem.mp (List.getElem_mem hp)
  simpa [cr, hp] using hm
theorem pl_cases (h : RowP es many) {p : Nat} (hp : p < es.length) : ∃ w : Nat, (w = 0 ∨ w = 1) ∧ p = pl es (cr es p) w ∧ wh es p (cr es p) = w := by
  have e : cr es p = es[p] := by simp [cr, hp]
  rw [e]
  rcases place_cases h hp with ⟨h1, h2⟩ | ⟨h1, h2⟩
  · exact ⟨0, by simp, h1, by simpa using h2⟩
  · exact ⟨1, by simp, h1, by simpa using h2⟩
theorem pl_at (h : RowP es many) {c : Int} (h0 : 0 ≤ c) (h1 : c < many) {w : Nat} (hw : w = 0 ∨ w = 1) : pl es c w < es.length ∧ cr es (pl es c w) = c ∧ wh es (pl es c w) c = w := by
  obtain ⟨a, b, e, hne, ha, hb, ea, eb, pa, pb⟩ := pl_two h h0 h1
  have hw2 := wh_pl h h0 h1
  rcases hw with rfl | rfl
  · rw [pa] at hw2 ⊢
    exact ⟨ha, by simp [cr, ea], by simpa using hw2.1⟩
  · rw [pb] at hw2 ⊢
    exact ⟨hb, by simp [cr, eb], by simpa using hw2.2⟩
/-- the turn of a crossing -/
def tu (ts : List Int) (c : Int) : Int := (ts[c.toNat]?).getD 0
/-- a place's dart out is put down -/
def stO (es ts : List Int) (T : List (List D)) (p : Nat) : List (List D) := set2 T (cr es p).toNat (so (wh es p (cr es p)) (tu ts (cr es p))) (.int (2 * (p : Int)))
/-- a place's dart back is put down -/
def stB (es ts : List Int) (v : Int) (T : List (List D)) (p : Nat) : List (List D) := set2 T (cr es p).toNat (sb (wh es p (cr es p)) (tu ts (cr es p))) (.int v)
def non4 (n : Nat) : List (List D) := List.replicate n (List.replicate 4 .non)
theorem non4_sq {n : Nat} : Sq n 4 (non4 n) := ⟨by simp [non4], fun c h => by simp [non4]⟩
theorem stO_get (h : RowP es many) (hl : (ts.length : Int) = many) {T : List (List D)} (hT : Sq ts.length 4 T) {p : Nat} (hp : p < es.length) {c s : Nat} :
    Sq ts.length 4 (stO es ts T p) ∧ get2 (stO es ts T p) c s = (if (cr es p).toNat = c ∧ so (wh es p (cr es p)) (tu ts (cr es p)) = s then some (D.int (2 * (p : Int))) else none).or (get2 T c s) := by
  have hm := cr_mem h hp
  exact ⟨hT.set2, get2_set2 hT (by omega) so_lt⟩
theorem stB_get (h : RowP es many) (hl : (ts.length : Int) = many) {T : List (List D)} {v : Int} (hT : Sq ts.length 4 T) {p : Nat} (hp : p < es.length) {c s : Nat} :
    Sq ts.length 4 (stB es ts v T p) ∧ get2 (stB es ts v T p) c s = (if (cr es p).toNat = c ∧ sb (wh es p (cr es p)) (tu ts (cr es p)) = s then some (D.int v) else none).or (get2 T c s) := by
  have hm := cr_mem h hp
  exact ⟨hT.set2, get2_set2 hT (by omega) sb_lt⟩
/-- what a write of a place puts down stands in the table -/
theorem wrO (h : RowP es many) (hl : (ts.length : Int) = many) {p c s : Nat} (hp : p < es.length) (e : (cr es p).toNat = c ∧ so (wh es p (cr es p)) (tu ts (cr es p)) = s) : get2 ((arms es B ts).map (em D.int)) c s = some (.int (2 * (p : Int))) := by
  have hm := cr_mem h hp
  obtain ⟨rfl, rfl⟩ := e
  obtain ⟨w, hw, e1, e2⟩ := pl_cases h hp
  have hc : (cr es p).toNat < ts.length := by omega
  have e3 : (((cr es p).toNat : Nat) : Int) = cr es p := by omega
  have e4 : tu ts (cr es p) = ts[(cr es p).toNat] := by simp [tu, hc]
  rw [arms_get hc, e2, e4, e3, armR_so hw, ← e1]
  rfl
theorem wrB (h : RowP es many) (hl : (ts.length : Int) = many) {p c s : Nat} (hp : p < es.length) (e : (cr es p).toNat = c ∧ sb (wh es p (cr es p)) (tu ts (cr es p)) = s) : get2 ((arms es B ts).map (em D.int)) c s = some (.int (bk B p)) := by
  have hm := cr_mem h hp
  obtain ⟨rfl, rfl⟩ := e
  obtain ⟨w, hw, e1, e2⟩ := pl_cases h hp
  have hc : (cr es p).toNat < ts.length := by omega
  have e3 : (((cr es p).toNat : Nat) : Int) = cr es p := by omega
  have e4 : tu ts (cr es p) = ts[(cr es p).toNat] := by simp [tu, hc]
  rw [arms_get hc, e2, e4, e3, armR_sb hw, ← e1]
  rfl
/-- each slot is a place's -/
theorem slot_of (h : RowP es many) (hl : (ts.length : Int) = many) {c s : Nat} (hc : c < ts.length) (hs : s < 4) : ∃ p, p < es.length ∧ (cr es p).toNat = c ∧ (so (wh es p (cr es p)) (tu ts (cr es p)) = s ∨ sb (wh es p (cr es p)) (tu ts (cr es p)) = s) := by
  obtain ⟨w, hw, e⟩ := slot (t := ts[c]) hs
  obtain ⟨h1, h2, h3⟩ := pl_at h (c := (c : Int)) (by omega) (by omega) hw
  refine ⟨_, h1, by rw [h2]; omega, ?_⟩
  have e4 : tu ts (c : Int) = ts[c] := by simp [tu, hc]
  rw [h2, h3, e4]
  rcases e with e | e
  · exact .inl e.symm
  · exact .inr e.symm
/-- the program's arms -/
theorem arms_prog (h : RowP es many) (hl : (ts.length : Int) = many) : (List.range es.length).foldl (fun T p => stB es ts (bk B p) (stO es ts T p) p) (non4 ts.length) = (arms es B ts).map (em D.int) := by
  refine sq_ext (n := ts.length) (m := 4) (fold_ok (ok := Sq ts.length 4) _ _ (fun T p _ hT => hT.set2.set2) non4_sq) arms_sq fun c s hc hs => ?_
  obtain ⟨v, hv⟩ : ∃ v, get2 ((arms es B ts).map (em D.int)) c s = some v := by
    rw [arms_get hc, List.getElem?_eq_getElem (by rw [armR_len]; exact hs)]
    exact ⟨_, rfl⟩
  rw [hv]
  refine fold_writes (get := fun T => get2 T c s) (ok := Sq ts.length 4) (A := fun p => p < es.length) (wr := fun p => (if (cr es p).toNat = c ∧ sb (wh es p (cr es p)) (tu ts (cr es p)) = s then some (D.int (bk B p)) else none).or (if (cr es p).toNat = c ∧ so (wh es p (cr es p)) (tu ts (cr es p)) = s then some (D.int (2 * (p : Int))) else none)) (fun T p hp hT => ?_) _ _ (fun p hp => List.mem_range.mp hp) non4_sq (fun p hp w hw => ?_) (.inl ?_)
  · obtain ⟨o1, g1⟩ := stO_get h hl hT hp (c := c) (s := s)
    obtain ⟨o2, g2⟩ := stB_get h hl (v := bk B p) o1 hp (c := c) (s := s)
    exact ⟨o2, by rw [g2, g1, Option.or_assoc]⟩
  · have hp := List.mem_range.mp hp
    by_cases e1 : (cr es p).toNat = c ∧ sb (wh es p (cr es p)) (tu ts (cr es p)) = s
    · have := wrB (B := B) h hl hp e1
      rw [if_pos e1] at hw
      simp only [Option.some_or, Option.some.injEq] at hw
      rw [hv] at this
      rw [← hw]
      exact (Option.some.inj this).symm
    · rw [if_neg e1] at hw
      by_cases e2 : (cr es p).toNat = c ∧ so (wh es p (cr es p)) (tu ts (cr es p)) = s
      · have := wrO (B := B) h hl hp e2
        rw [if_pos e2] at hw
        simp only [Option.none_or, Option.some.injEq] at hw
        rw [hv] at this
        rw [← hw]
        exact (Option.some.inj this).symm
      · rw [if_neg e2] at hw
        cases hw
  · obtain ⟨p, hp, e1, e2⟩ := slot_of h hl hc hs
    refine ⟨p, List.mem_range.mpr hp, ?_⟩
    rcases e2 with e2 | e2 <;> simp [e1, e2]
/-- the law's -/
theorem arms_law (h : RowP es many) (hl : (ts.length : Int) = many) (hr : Rot nx) (hn : nx.length = es.length) :
    (List.range es.length).foldl (fun T (q : Nat) => stB es ts (2 * (q : Int) + 1) T ((nx[q]?).getD 0).toNat) ((List.range es.length).foldl (stO es ts) (non4 ts.length)) = (arms es (bef nx) ts).map (em D.int) := by
  have nxl : ∀ q : Nat, q < es.length → ((nx[q]?).getD 0).toNat < es.length := fun q hq => by
    have := hr.rng (q := q) (by omega)
    rw [List.getElem?_eq_getElem (show q < nx.length by omega), Option.getD_some]
    omega
  have bk_nx : ∀ q : Nat, q < es.length → bk (bef nx) ((nx[q]?).getD 0).toNat = 2 * (q : Int) + 1 := fun q hq => by
    unfold bk
    rw [List.getElem?_eq_getElem (show q < nx.length by omega), Option.getD_some, bef_at hr (show q < nx.length by omega)]
    rfl
  have ok2 : Sq ts.length 4 ((List.range es.length).foldl (stO es ts) (non4 ts.length)) := fold_ok (ok := Sq ts.length 4) _ _ (fun T p _ hT => hT.set2) non4_sq
  refine sq_ext (n := ts.length) (m := 4) (fold_ok (ok := Sq ts.length 4) _ _ (fun T p _ hT => hT.set2) ok2) arms_sq fun c s hc hs => ?_
  obtain ⟨v, hv⟩ : ∃ v, get2 ((arms es (bef nx) ts).map (em D.int)) c s = some v := by
    rw [arms_get hc, List.getElem?_eq_getElem (by rw [armR_len]; exact hs)]
    exact ⟨_, rfl⟩
  rw [hv]
  refine fold_writes (get := fun T => get2 T c s) (ok := Sq ts.length 4) (A := fun p => p < es.length) (wr := fun q : Nat => if (cr es ((nx[q]?).getD 0).toNat).toNat = c ∧ sb (wh es ((nx[q]?).getD 0).toNat (cr es ((nx[q]?).getD 0).toNat)) (tu ts (cr es ((nx[q]?).getD 0).toNat)) = s then some (D.int (2 * (q : Int) + 1)) else none) (fun T q hq hT => stB_get h hl hT (nxl q hq)) _ _ (fun p hp => List.mem_range.mp hp) ok2 (fun q hq w hw => ?_) ?_
  · have hq := List.mem_range.mp hq
    by_cases e1 : (cr es ((nx[q]?).getD 0).toNat).toNat = c ∧ sb (wh es ((nx[q]?).getD 0).toNat (cr es ((nx[q]?).getD 0).toNat)) (tu ts (cr es ((nx[q]?).getD 0).toNat)) = s
    · have := wrB (B := bef nx) h hl (nxl q hq) e1
      rw [if_pos e1] at hw
      rw [hv, bk_nx q hq] at this
      rw [← Option.some.inj hw]
      exact (Option.some.inj this).symm
    · rw [if_neg e1] at hw
      cases hw
  · obtain ⟨p, hp, e1, e2⟩ := slot_of h hl hc hs
    rcases e2 with e2 | e2
    · right
      refine fold_writes (get := fun T => get2 T c s) (ok := Sq ts.length 4) (A := fun p => p < es.length) (wr := fun p => if (cr es p).toNat = c ∧ so (wh es p (cr es p)) (tu ts (cr es p)) = s then some (D.int (2 * (p : Int))) else none) (fun T p hp hT => stO_get h hl hT hp) _ _ (fun p hp => List.mem_range.mp hp) non4_sq (fun p hp w hw => ?_) (.inl ⟨p, List.mem_range.mpr hp, by simp [e1, e2]⟩)
      have hp := List.mem_range.mp hp
      by_cases e1 : (cr es p).toNat = c ∧ so (wh es p (cr es p)) (tu ts (cr es p)) = s
      · have := wrO (B := bef nx) h hl hp e1
        rw [if_pos e1] at hw
        rw [hv] at this
        rw [← Option.some.inj hw]
        exact (Option.some.inj this).symm
      · rw [if_neg e1] at hw
        cases hw
    · left
      obtain ⟨q, hq, e3⟩ := hr.sur (p := p) (by omega)
      refine ⟨q, List.mem_range.mpr (by omega), ?_⟩
      have e4 : ((nx[q]?).getD 0).toNat = p := by rw [List.getElem?_eq_getElem hq, Option.getD_some, e3]; omega
      simp only [e4]
      simp [e1, e2]
/-! ### ways -/
def fl (v : Int) : Int := v + 1 - 2 * (v % 2)
theorem fl_fl {v : Int} : fl (fl v) = v := by unfold fl; omega
theorem fl_inj {u v : Int} (h : fl u = fl v) : u = v := by rw [← fl_fl (v := u), h, fl_fl]
def wst (row : List Int) (st : List Int × List Int × List Int) (k : Nat) : List Int × List Int × List Int :=
  (st.1.set (fl ((row[k]?).getD 0)).toNat ((row[(k + 2) % 4]?).getD 0), st.2.1.set (fl ((row[k]?).getD 0)).toNat ((row[(k + 3) % 4]?).getD 0), st.2.2.set (fl ((row[k]?).getD 0)).toNat ((row[(k + 1) % 4]?).getD 0))
def wrow (st : List Int × List Int × List Int) (row : List Int) : List Int × List Int × List Int := (List.range 4).foldl (wst row) st
def ways (T : List (List Int)) (m : Int) : List Int × List Int × List Int := T.foldl wrow (irange 0 m, irange 0 m, irange 0 m)
def Len3 (m : Int) (st : List Int × List Int × List Int) : Prop := (st.1.length : Int) = m ∧ (st.2.1.length : Int) = m ∧ (st.2.2.length : Int) = m
theorem wst_len {m : Int} {row : List Int} {st : List Int × List Int × List Int} {k : Nat} (h : Len3 m st) : Len3 m (wst row st k) := by
  unfold Len3 wst at *
  simpa using h
theorem wrow_len {m : Int} {row : List Int} {st : List Int × List Int × List Int} (h : Len3 m st) : Len3 m (wrow st row) := fold_ok (ok := Len3 m) _ _ (fun T a _ h => wst_len h) h
theorem ways_len {T : List (List Int)} {m : Int} (hm : 0 ≤ m) : Len3 m (ways T m) := fold_ok (ok := Len3 m) _ _ (fun T a _ h => wrow_len h) (by unfold Len3; simp; omega)
theorem foldl_nest {α γ τ : Type} {f : α → τ → γ → τ} {M : List γ} : ∀ (L : List α) (st : τ), L.foldl (fun st a => M.foldl (f a) st) st = (L.flatMap fun a => M.map fun b => (a, b)).foldl (fun st p => f p.1 st p.2) st
  | [], st => rfl
  | a :: L, st => by
    rw [List.foldl_cons, foldl_nest L, List.flatMap_cons, List.foldl_append, List.foldl_map]
/-- the dart at a slot -/
def ent (es B ts : List Int) (c : Int) (k : Nat) : Int := ((armR es B (tu ts c) c)[k]?).getD 0
theorem ent_so {c : Int} {w : Nat} (hw : w = 0 ∨ w = 1) : ent es B ts c (so w (tu ts c)) = 2 * (pl es c w : Int) := by simp [ent, armR_so hw]
theorem ent_sb {c : Int} {w : Nat} (hw : w = 0 ∨ w = 1) : ent es B ts c (sb w (tu ts c)) = bk B (pl es c w) := by simp [ent, armR_sb hw]
theorem slotT {c : Int} {k : Nat} (hk : k < 4) : ∃ w : Nat, (w = 0 ∨ w = 1) ∧ (k = so w (tu ts c) ∨ k = sb w (tu ts c)) := by
  obtain ⟨w, hw, e⟩ := slot (t := tu ts c) hk
  exact ⟨w, hw, e⟩
theorem bef_sur (hr : Rot nx) {p : Nat} (hp : p < nx.length) : ∃ q, ∃ hq : q < nx.length, nx[q] = p ∧ bk (bef nx) p = 2 * (q : Int) + 1 := by
  obtain ⟨q, hq, e⟩ := hr.sur hp
  have := bef_at hr hq
  rw [e] at this
  refine ⟨q, hq, e, ?_⟩
  unfold bk
  simp at this
  simp [this]
/-- the slot of a dart -/
def pos (es nx ts : List Int) (v : Int) : Int × Nat :=
  let p := if v % 2 = 0 then (v / 2).toNat else ((nx[(v / 2).toNat]?).getD 0).toNat
  (cr es p, if v % 2 = 0 then so (wh es p (cr es p)) (tu ts (cr es p)) else sb (wh es p (cr es p)) (tu ts (cr es p)))
theorem pos_ent (h : RowP es many) (hr : Rot nx) (hn : nx.length = es.length) {c : Int} (h0 : 0 ≤ c) (h1 : c < many) {k : Nat} (hk : k < 4) : pos es nx ts (ent es (bef nx) ts c k) = (c, k) ∧ 0 ≤ ent es (bef nx) ts c k ∧ ent es (bef nx) ts c k < 2 * es.length := by
  obtain ⟨w, hw, e⟩ := slotT (ts := ts) (c := c) hk
  obtain ⟨g1, g2, g3⟩ := pl_at h h0 h1 hw
  rcases e with rfl | rfl
  · rw [ent_so hw]
    refine ⟨?_, by omega, by omega⟩
    unfold pos
    have e1 : (2 * (pl es c w : Int)) % 2 = 0 := by omega
    have e2 : ((2 * (pl es c w : Int)) / 2).toNat = pl es c w := by omega
    simp only [e1, if_true, e2, g2, g3]
  · rw [ent_sb hw]
    obtain ⟨q, hq, e, eb⟩ := bef_sur hr (p := pl es c w) (by omega)
    rw [eb]
    refine ⟨?_, by omega, by omega⟩
    unfold pos
    have e1 : ¬ (2 * (q : Int) + 1) % 2 = 0 := by omega
    have e2 : ((2 * (q : Int) + 1) / 2).toNat = q := by omega
    have e3 : ((nx[q]?).getD 0).toNat = pl es c w := by rw [List.getElem?_eq_getElem hq, Option.getD_some, e]; omega
    simp only [e1, if_false, e2, e3, g2, g3]
theorem ent_sur (h : RowP es many) (hr : Rot nx) (hn : nx.length = es.length) {v : Int} (h0 : 0 ≤ v) (h1 : v < 2 * es.length) : ∃ c k, 0 ≤ c ∧ c < many ∧ k < 4 ∧ ent es (bef nx) ts c k = v := by
  by_cases hv : v % 2 = 0
  · have hp : (v / 2).toNat < es.length := by omega
    obtain ⟨w, hw, e1, e2⟩ := pl_cases h hp
    have hm := cr_mem h hp
    refine ⟨cr es (v / 2).toNat, so w (tu ts (cr es (v / 2).toNat)), hm.1, hm.2, so_lt, ?_⟩
    rw [ent_so hw, ← e1]
    omega
  · have hq : (v / 2).toNat < nx.length := by omega
    have hx := hr.rng hq
    have hp : nx[(v / 2).toNat].toNat < es.length := by omega
    obtain ⟨w, hw, e1, e2⟩ := pl_cases h hp
    have hm := cr_mem h hp
    refine ⟨cr es nx[(v / 2).toNat].toNat, sb w (tu ts (cr es nx[(v / 2).toNat].toNat)), hm.1, hm.2, sb_lt, ?_⟩
    rw [ent_sb hw, ← e1]
    unfold bk
    rw [bef_at hr hq, Option.getD_some]
    omega
theorem mem_arms {row : List Int} (hl : (ts.length : Int) = many) (h : row ∈ arms es B ts) : ∃ c : Int, 0 ≤ c ∧ c < many ∧ row = armR es B (tu ts c) c := by
  unfold arms at h
  obtain ⟨x, hx, rfl⟩ := List.mem_map.mp h
  obtain ⟨h1, h2⟩ := mem_zip hx
  refine ⟨(x.2 : Int), by omega, by omega, ?_⟩
  have : tu ts (x.2 : Int) = x.1 := by simp [tu, h1, h2]
  rw [this]
theorem arms_mem (hl : (ts.length : Int) = many) {c : Int} (h0 : 0 ≤ c) (h1 : c < many) : armR es B (tu ts c) c ∈ arms es B ts := by
  have hc : c.toNat < ts.length := by omega
  refine List.mem_map.mpr ⟨(ts[c.toNat], c.toNat), List.mem_zipIdx_iff_getElem?.mpr (by simp [hc]), ?_⟩
  have e : ((c.toNat : Nat) : Int) = c := by omega
  simp [tu, hc, e]
theorem ways_at {π : List Int × List Int × List Int → List Int} {j : Nat} (hπ : ∀ row st k, π (wst row st k) = (π st).set (fl ((row[k]?).getD 0)).toNat ((row[(k + j) % 4]?).getD 0)) (h : RowP es many) (hl : (ts.length : Int) = many) (hr : Rot nx) (hn : nx.length = es.length)
    {m : Int} (hm : 2 * (es.length : Int) ≤ m) (hπl : ((π (irange 0 m, irange 0 m, irange 0 m)).length : Int) = m) {c : Int} (h0 : 0 ≤ c) (h1 : c < many) {k : Nat} (hk : k < 4) : (π (ways (arms es (bef nx) ts) m))[(fl (ent es (bef nx) ts c k)).toNat]? = some (ent es (bef nx) ts c ((k + j) % 4)) := by
  unfold ways
  have e : (arms es (bef nx) ts).foldl wrow (irange 0 m, irange 0 m, irange 0 m) = _ := foldl_nest (f := wst) (M := List.range 4) (arms es (bef nx) ts) (irange 0 m, irange 0 m, irange 0 m)
  rw [e]
  have hp := pos_ent (ts := ts) h hr hn h0 h1 hk
  refine fold_writes (get := fun st => (π st)[(fl (ent es (bef nx) ts c k)).toNat]?) (ok := fun st => ((π st).length : Int) = m) (A := fun p => p ∈ (arms es (bef nx) ts).flatMap fun a => (List.range 4).map fun b => (a, b)) (wr := fun p : List Int × Nat => if (fl ((p.1[p.2]?).getD 0)).toNat = (fl (ent es (bef nx) ts c k)).toNat then some ((p.1[(p.2 + j) % 4]?).getD 0) else none) (fun st p hpm hst => ?_) _ _ (fun _ h => h) hπl (fun p hpm w hw => ?_) (.inl ⟨(armR es (bef nx) (tu ts c) c, k), ?_, ?_⟩)
  · rw [hπ]
    refine ⟨by simpa using hst, ?_⟩
    simp only [List.getElem?_set]
    by_cases e1 : (fl ((p.1[p.2]?).getD 0)).toNat = (fl (ent es (bef nx) ts c k)).toNat
    · have : (fl (ent es (bef nx) ts c k)).toNat < (π st).length := by
        have := hp.2
        unfold fl
        omega
      simp [e1, this]
    · simp [e1]
  · obtain ⟨row, hrow, hp2⟩ := List.mem_flatMap.mp hpm
    obtain ⟨k', hk', rfl⟩ := List.mem_map.mp hp2
    have hk' := List.mem_range.mp hk'
    obtain ⟨c', c0, c1, rfl⟩ := mem_arms hl hrow
    simp only at hw
    have hp' := pos_ent (ts := ts) h hr hn c0 c1 hk'
    by_cases e1 : (fl (((armR es (bef nx) (tu ts c') c')[k']?).getD 0)).toNat = (fl (ent es (bef nx) ts c k)).toNat
    · rw [if_pos e1] at hw
      have e2 : ent es (bef nx) ts c' k' = ent es (bef nx) ts c k := by
        refine fl_inj ?_
        have h3 := hp.2
        have h4 := hp'.2
        unfold ent at h3 h4 ⊢
        unfold ent at e1
        unfold fl at e1 ⊢
        omega
      have e3 := hp'.1
      rw [e2, hp.1] at e3
      have e4 : c = c' := congrArg Prod.fst e3
      have e5 : k = k' := congrArg Prod.snd e3
      subst e4 e5
      exact (Option.some.inj hw).symm
    · rw [if_neg e1] at hw
      cases hw
  · exact List.mem_flatMap.mpr ⟨_, arms_mem hl h0 h1, List.mem_map.mpr ⟨k, List.mem_range.mpr hk, rfl⟩⟩
  · simp [ent]
/-- left, turned back, right: the way back -/
theorem back_right (h : RowP es many) (hl : (ts.length : Int) = many) (hr : Rot nx) (hn : nx.length = es.length) {m : Int} (hm : 2 * (es.length : Int) ≤ m) {d : Nat} (hd : d < 2 * es.length) :
    ∃ l : Int, (ways (arms es (bef nx) ts) m).2.1[d]? = some l ∧ 0 ≤ fl l ∧ fl l < 2 * es.length ∧ (ways (arms es (bef nx) ts) m).2.2[(fl l).toNat]? = some (fl (d : Int)) := by
  have hfd : 0 ≤ fl (d : Int) ∧ fl (d : Int) < 2 * es.length := by unfold fl; omega
  obtain ⟨c, k, h0, h1, hk, e⟩ := ent_sur (ts := ts) h hr hn hfd.1 hfd.2
  have e1 : fl (ent es (bef nx) ts c k) = d := by rw [e, fl_fl]
  have g1 := ways_at (π := fun st => st.2.1) (j := 3) (fun _ _ _ => rfl) h hl hr hn hm (by simp; omega) h0 h1 hk
  have g2 := ways_at (π := fun st => st.2.2) (j := 1) (fun _ _ _ => rfl) h hl hr hn hm (by simp; omega) h0 h1 (k := (k + 3) % 4) (by omega)
  rw [e1] at g1
  have hp := (pos_ent (ts := ts) h hr hn h0 h1 (k := (k + 3) % 4) (by omega)).2
  refine ⟨_, by simpa using g1, by unfold fl; omega, by unfold fl; omega, ?_⟩
  rw [g2, show ((k + 3) % 4 + 1) % 4 = k by omega, e]
end
end Ic

set_option Elab.async false
set_option linter.all false
set_option maxRecDepth 100000
set_option maxHeartbeats 1000000
/-! Dx: stores with a table of lists. -/
namespace Ic
open PySem (Str)
section
variable {S : Store} {n : Nat}
@[simp] theorem binop_xor1 {v : Int} (h : 0 ≤ v) : binop .xor (.int v) (.int 1) = some (.int (fl v)) := by
  show some (D.int (PySem.Builtin.bitXor v 1)) = _
  rw [PyProof.Rows.bitXor_and]
  have e : PySem.Builtin.bitAnd v 1 = v % 2 := by
    unfold PySem.Builtin.bitAnd
    rw [decide_eq_true h, decide_eq_true (show (0 : Int) ≤ 1 by omega)]
    simp only [Int.toNat_one]
    rw [Nat.and_one_is_mod]
    omega
  rw [e]
  rfl
theorem binop_mulL1 {d : D} {i : Int} (h : -1000000 ≤ i) (h2 : i ≤ 16777216) : binop .mul (.lst [d]) (.int i) = some (.lst (List.replicate i.toNat d)) := by
  have h3 : -(2 ^ 63 : Int) ≤ i := by omega
  have h4 : i < (2 ^ 63 : Int) := by omega
  have h5 : [d].length * i.toNat ≤ line := by
    show 1 * i.toNat ≤ 16777216
    omega
  simp only [binop]
  rw [if_pos ⟨h3, h4, h5⟩]
  congr 2
  have : ∀ n : Nat, (List.replicate n [d]).flatten = List.replicate n d := fun n => by
    induction n with
    | zero => rfl
    | succ n ih => simp [List.replicate_succ, ih]
  exact this _
theorem em_rep {i : Int} {n : Nat} : List.replicate n (D.int i) = em D.int (List.replicate n i) := by simp [em]
/-- pre, a table's rows, the rest -/
def tst (pre : Store) (T : List (List D)) (J : Store) : Store := pre ++ (T.map .lst ++ J)
theorem tst_len {pre J : Store} {T : List (List D)} : (tst pre T J).length = pre.length + (T.length + J.length) := by simp [tst]
theorem tst_snoc {pre J : Store} {T : List (List D)} {x : D} : tst pre T J ++ [x] = tst pre T (J ++ [x]) := by simp [tst]
theorem tst_app {pre J K : Store} {T : List (List D)} : tst pre T J ++ K = tst pre T (J ++ K) := by simp [tst]
theorem tst_pre {pre J : Store} {T : List (List D)} {i : Nat} (h : i < pre.length) : (tst pre T J)[i]? = pre[i]? := List.getElem?_append_left h
theorem tst_row {pre J : Store} {T : List (List D)} {c : Nat} (hc : c < T.length) : (tst pre T J)[pre.length + c]? = some (.lst T[c]) := by
  unfold tst
  rw [List.getElem?_append_right (by omega), List.getElem?_append_left (by simp; omega)]
  simp [hc]
theorem tst_J {pre J : Store} {T : List (List D)} {j : Nat} : (tst pre T J)[pre.length + T.length + j]? = J[j]? := by
  unfold tst
  rw [List.getElem?_append_right (by omega), List.getElem?_append_right (by simp; omega)]
  congr 1
  simp
  omega
theorem tst_setJ {pre J : Store} {T : List (List D)} {j : Nat} {x : D} : (tst pre T J).set (pre.length + T.length + j) x = tst pre T (J.set j x) := by
  unfold tst
  rw [List.set_append_right _ _ (by omega), List.set_append_right _ _ (by simp; omega)]
  congr 3
  simp
  omega
theorem tst_set {pre J : Store} {T : List (List D)} {c : Nat} {r : List D} (hc : c < T.length) : (tst pre T J).set (pre.length + c) (.lst r) = tst pre (T.set c r) J := by
  unfold tst
  rw [List.set_append_right _ _ (by omega), List.set_append_left _ _ (by simp; omega)]
  congr 2
  rw [List.map_set]
  congr 1
  omega
/-- a table's slot is written -/
theorem setIdx_T {pre J : Store} {T : List (List D)} {n m c : Nat} {j : Int} {d : D} (hT : Sq n m T) (hc : c < n) (h0 : 0 ≤ j) (h1 : j < m) : setIdx (tst pre T J) (.obj (pre.length + c)) (.int j) d = some (tst pre (set2 T c j.toNat d) J) := by
  have hc' : c < T.length := by rw [hT.1]; exact hc
  rw [setIdx_at (tst_row hc') h0 (by rw [hT.2 c hc']; exact h1), tst_set hc']
  congr 2
  unfold set2
  rw [List.getElem?_eq_getElem hc']
  rfl
/-- the objects of a table's rows -/
def objs (b n : Nat) : List D := (List.range' b n).map .obj
theorem objs_em {b n : Nat} : objs b n = em (fun c : Nat => D.obj (b + c)) (List.range n) := by
  unfold objs em
  rw [List.range'_eq_map_range, List.map_map]
  rfl
theorem objs_at {b n : Nat} {c : Int} (h0 : 0 ≤ c) (h1 : c < n) : atI (objs b n) c = some (.obj (b + c.toNat)) := by
  rw [atI_some h0 (by simp [objs]; omega)]
  unfold objs
  have : c.toNat < n := by omega
  simp [this]
theorem items_enum_obj {α : Type} {xs : List α} {e : α → D} (h : S[n]? = some (.lst (em e xs))) : itemsK S .enum [.obj n] = some (em (fun p => .tup [.int p.2, e p.1]) xs.zipIdx) := by
  have h2 := items_enum (S := S) (xs := xs) (e := e)
  unfold itemsK at h2 ⊢
  simpa [Ic.view, h] using h2
/-- items by their places -/
theorem em_zip {α : Type} {xs : List α} {e : α → Nat → D} {f : Nat → D} (h : ∀ i (hi : i < xs.length), e xs[i] i = f i) : em (fun p : α × Nat => e p.1 p.2) xs.zipIdx = em f (List.range xs.length) := by
  apply List.ext_getElem
  · simp [em]
  · intro i h1 h2
    have hi : i < xs.length := by simpa [em] using h1
    simp [em, h i hi]
theorem em_irange {n : Nat} : em D.int (irange 0 n) = em (fun p : Nat => D.int p) (List.range n) := by
  unfold em irange
  rw [List.map_map]
  simp
theorem still_one {S S' : Store} {n : Nat} {xs : List D} (h : S[n]? = some (.lst xs)) (h' : S'[n]? = some (.lst xs)) : still S S' [n] = true := by
  simp [still, h, h', D.beq, beqs_refl]
/-- a for that goes through all its items: the store is a fold, the names are somehow -/
theorem flp_ex {α σ : Type} {ok : Store → Bool} {f : D → Slots → Store → T Flow} {e : α → D} (St : σ → Store) (step : σ → α → σ) (I : List α → σ → Slots → Prop) {xs : List α} (st : σ) (env : Slots) (hI : I [] st env)
    (hf : ∀ pre a env st, pre ++ [a] <+: xs → I pre st env → ∃ env', f (e a) env (St st) = .ret (.nx env') (St (step st a)) ∧ ok (St (step st a)) = true ∧ I (pre ++ [a]) (step st a) env') :
    ∃ env', flp ok (em e xs) env (St st) (f := ⟨f⟩) = .ret (.nx env') (St (xs.foldl step st)) ∧ I xs (xs.foldl step st) env' := by
  have aux : ∀ (ys pre : List α) env st, pre ++ ys = xs → I pre st env → ∃ env', forLoop ok f (em e ys) env (St st) = .ret (.nx env') (St (ys.foldl step st)) ∧ I xs (ys.foldl step st) env' := by
    intro ys
    induction ys with
    | nil =>
      intro pre env st hp h
      rw [List.append_nil] at hp
      subst hp
      exact ⟨env, rfl, h⟩
    | cons y ys ih =>
      intro pre env st hp h
      obtain ⟨env1, h1, h2, h3⟩ := hf pre y env st ⟨ys, by simpa using hp⟩ h
      obtain ⟨env2, h4, h5⟩ := ih (pre ++ [y]) env1 (step st y) (by simpa using hp) h3
      refine ⟨env2, ?_, h5⟩
      rw [em_cons, forLoop, h1, T.bind_ret]
      simp only [h2, if_true]
      exact h4
  exact aux xs [] env st rfl hI
theorem evSs_step {R : Rn} {bl : Nat → Nat → Bool} {s : Sm} {ss : List Sm} {env env' : Slots} {S S' : Store} (h : evS R bl s env S = .ret (.nx env') S') : evSs R bl (s :: ss) env S = evSs R bl ss env' S' := by
  rw [evSs_cons, h, bnd_ret, flw_nx]
theorem newD_ret {P : Prog} {rn : Nat → List D → Store → T D} {c f : Nat} {args : List D} {S S' : Store} {d : D} (hi : P.init c = some f) (hp : pus args = true) (h : rn f (.obj 0 :: args) [.ins c []] = .ret .non S') (hf : freeze S' 0 (.obj 0) = some d) : newD P.init rn c false args S = .ret d S := by
  unfold newD
  rw [hi, some?_some]
  simp only [hp, Bool.not_false, Bool.and_self, if_true, h, T.iso_ret, hf, some?_some]
theorem setFld_t {pre J : Store} {T : List (List D)} {c f : Nat} {fs : List (Nat × D)} {d : D} (h : fs.length < 1000) : setFld (tst (.ins c fs :: pre) T J) (.obj 0) f d = some (tst (.ins c (putF fs f d) :: pre) T J) := by
  unfold tst
  rw [List.cons_append, setFld_0 h]
  rfl
/-- new lists, one for each item, where the store keeps Q -/
theorem clp_newsQ {α : Type} {ok : Store → Bool} {f : D → Store → T (Option D)} {e : α → D} {L : D} {Q : Store → Prop} (hQ : ∀ S, Q S → Q (S ++ [L])) (hf : ∀ a S, Q S → f (e a) S = .ret (some (.obj S.length)) (S ++ [L])) (hok : ∀ S, Q S → ok S = true) : ∀ {xs : List α} {acc : List D} {S : Store}, Q S → acc.length + xs.length ≤ 16777216 →
    clp ok (em e xs) acc S (f := ⟨f⟩) = .ret (acc ++ (List.range' S.length xs.length).map .obj) (S ++ List.replicate xs.length L) := by
  intro xs
  induction xs with
  | nil => intro acc S _ _; simp [clp, compLoop]
  | cons x xs ih =>
    intro acc S hS hl
    simp only [List.length_cons] at hl
    show compLoop ok f (em e (x :: xs)) acc S = _
    rw [em_cons, compLoop, hf _ _ hS, T.bind_ret, if_pos (hok _ (hQ _ hS))]
    simp only [push, line]
    rw [if_pos (by omega), some?_some]
    have := ih (acc := acc ++ [.obj S.length]) (S := S ++ [L]) (hQ _ hS) (by simp; omega)
    rw [show compLoop ok f (em e xs) (acc ++ [.obj S.length]) (S ++ [L]) = clp ok (em e xs) (acc ++ [.obj S.length]) (S ++ [L]) (f := ⟨f⟩) from rfl, this]
    simp [List.range'_succ, List.replicate_succ]
theorem ent_row {es nx ts : List Int} {many : Int} (h : RowP es many) (hl : (ts.length : Int) = many) (hr : Rot nx) (hn : nx.length = es.length) {row : List Int} (hrow : row ∈ arms es (bef nx) ts) : row.length = 4 ∧ ∀ v ∈ row, 0 ≤ v ∧ v < 2 * es.length := by
  obtain ⟨c, h0, h1, rfl⟩ := mem_arms hl hrow
  refine ⟨armR_len, fun v hv => ?_⟩
  obtain ⟨k, hk, rfl⟩ := List.getElem_of_mem hv
  have hk4 : k < 4 := by rw [armR_len] at hk; exact hk
  have := (pos_ent (ts := ts) h hr hn h0 h1 hk4).2
  have e : ent es (bef nx) ts c k = (armR es (bef nx) (tu ts c) c)[k] := by unfold ent; rw [List.getElem?_eq_getElem hk, Option.getD_some]
  rw [e] at this
  exact this
end
end Ic

set_option Elab.async false
set_option linter.all false
set_option maxRecDepth 100000
set_option maxHeartbeats 1000000
/-! Dp: the passes of rows, as the laws put them down. -/
namespace Ic
open PySem (Str)
section
variable {es : List Int} {many : Int}
theorem plc_sorted {c : Int} : (plc es c).Pairwise (· < ·) := by
  rw [← plc_filter]
  refine List.Pairwise.filter _ ?_
  unfold irange
  exact List.Pairwise.map _ (fun a b (hab : a < b) => by omega) List.pairwise_lt_range
theorem wh_seen (h : RowP es many) {p : Nat} (hp : p < es.length) : wh es p (cr es p) = if cr es p ∈ es.take p then 1 else 0 := by
  have hm := cr_mem h hp
  obtain ⟨a, b, e, hne, ha, hb, ea, eb, pa, pb⟩ := pl_two h hm.1 hm.2
  have hs := plc_sorted (es := es) (c := cr es p)
  rw [e] at hs
  have hab : a < b := by
    simp at hs
    omega
  have hw := wh_pl h hm.1 hm.2
  rw [pa, pb] at hw
  have hc : es[p]? = some (cr es p) := by simp [cr, hp]
  have hpm : (p : Int) ∈ plc es (cr es p) := plc_mem.mpr ⟨by omega, by omega, by simp [hc]⟩
  rw [e] at hpm
  simp only [List.mem_cons, List.not_mem_nil, or_false] at hpm
  rcases hpm with q | q
  · have q : p = a := by omega
    rw [q] at hp ⊢
    rw [← q] at hw ⊢
    rw [hw.1, if_neg]
    intro hmem
    obtain ⟨i, hi, ei⟩ := List.getElem_of_mem hmem
    have hi2 : i < p ∧ i < es.length := by simp at hi; omega
    have ei2 : es[i]? = some (cr es p) := by
      rw [List.getElem?_eq_getElem hi2.2]
      simpa using ei
    have him : (i : Int) ∈ plc es (cr es p) := plc_mem.mpr ⟨by omega, by omega, by simp [ei2]⟩
    rw [e] at him
    simp at him
    omega
  · have q : p = b := by omega
    rw [if_pos]
    · rw [q] at hw ⊢
      rw [← q] at hw ⊢
      exact hw.2
    · refine List.mem_iff_getElem.mpr ⟨a, by simp; omega, ?_⟩
      rw [List.getElem?_eq_getElem ha] at ea
      simpa using ea
/-- what was seen -/
def seenD (L : List Int) : List (D × D) := (dis L).map fun c => (.int c, .int 1)
theorem seen_any {L : List Int} {c : Int} : ((seenD L).any fun p => p.1.beq (.int c)) = decide (c ∈ L) := by
  rw [Bool.eq_iff_iff]
  unfold seenD
  simp only [List.any_map, List.any_eq_true, decide_eq_true_iff, Function.comp_apply]
  constructor
  · rintro ⟨x, hx, e⟩
    have : x = c := by simpa [D.beq] using e
    rw [← this]
    exact mem_dis.mp hx
  · intro h
    exact ⟨c, mem_dis.mpr h, by simp [D.beq]⟩
theorem dget_seen {L : List Int} {c : Int} : dget (seenD L) (.int c) = if c ∈ L then some (.int 1) else none := by
  have h : ∀ ds : List Int, (ds.map fun x => ((D.int x, D.int 1) : D × D)).find? (fun p => p.1.beq (.int c)) = if c ∈ ds then some (.int c, .int 1) else none := by
    intro ds
    induction ds with
    | nil => rfl
    | cons d ds ih =>
      rw [List.map_cons, List.find?_cons]
      by_cases hd : d = c
      · subst hd
        simp [D.beq]
      · have hd2 : ¬ c = d := fun h => hd h.symm
        have hb : (D.int d).beq (.int c) = false := by simp [D.beq, hd]
        simp only [hb, ih, List.mem_cons, hd2, false_or]
  unfold dget seenD
  rw [h]
  by_cases hc : c ∈ L
  · simp [hc]
  · simp [hc]
theorem dput_seen {L : List Int} {c : Int} : dput (seenD L) (.int c) (.int 1) = seenD (L ++ [c]) := by
  unfold dput
  rw [seen_any]
  have e : dis (L ++ [c]) = ins (dis L) c := dis_snoc
  by_cases h : c ∈ L
  · simp only [h, decide_true, if_true]
    have e2 : ins (dis L) c = dis L := by unfold ins; rw [if_pos (mem_dis.mpr h)]
    unfold seenD
    rw [e, e2, List.map_map]
    refine List.map_congr_left fun x _ => ?_
    simp only [Function.comp_apply]
    by_cases hx : (D.int x).beq (.int c) = true
    · rw [if_pos hx]
    · rw [if_neg hx]
  · simp only [h, decide_false]
    have e2 : ins (dis L) c = dis L ++ [c] := by unfold ins; rw [if_neg (fun hh => h (mem_dis.mp hh))]
    unfold seenD
    rw [e, e2]
    simp
theorem seen_len {L : List Int} : (seenD L).length ≤ L.length := by
  unfold seenD
  rw [List.length_map]
  exact dis_len
end
section
variable {α : Type}
theorem nxtF_app : ∀ (xs ys : List (List α)) (b : Int), nxtF b (xs ++ ys) = nxtF b xs ++ nxtF (b + (flat xs).length) ys
  | [], ys, b => by simp [nxtF, flat]
  | x :: xs, ys, b => by
    rw [List.cons_append, nxtF, nxtF, nxtF_app xs ys, List.append_assoc]
    congr 3
    simp [flat]
    omega
theorem nxt_at {rows pre : List (List α)} {r : List α} (hp : pre ++ [r] <+: rows) {k : Nat} (hk : k < r.length) : (nxt rows)[(flat pre).length + k]? = some (((flat pre).length : Int) + ((k : Int) + 1) % (r.length : Int)) := by
  obtain ⟨t, rfl⟩ := hp
  unfold nxt
  have hl := (nxtF_perm pre 0).length_eq
  have hl2 : (nxtF 0 pre).length = (flat pre).length := by simpa using hl
  rw [List.append_assoc, nxtF_app, List.getElem?_append_right (by omega), hl2]
  have e : (flat pre).length + k - (flat pre).length = k := by omega
  rw [e, List.cons_append, nxtF, List.getElem?_append_left (by simp; exact hk)]
  unfold irange
  simp [hk]
theorem flat_at {rows pre : List (List α)} {r : List α} (hp : pre ++ [r] <+: rows) {k : Nat} (hk : k < r.length) : (flat rows)[(flat pre).length + k]? = some r[k] := by
  obtain ⟨t, rfl⟩ := hp
  have e : flat (pre ++ [r] ++ t) = flat pre ++ (r ++ flat t) := by simp [flat]
  rw [e, List.getElem?_append_right (by omega)]
  have e : (flat pre).length + k - (flat pre).length = k := by omega
  rw [e, List.getElem?_append_left hk, List.getElem?_eq_getElem hk]
theorem flat_pre {rows pre : List (List α)} {r : List α} (hp : pre ++ [r] <+: rows) : (flat pre).length + r.length ≤ (flat rows).length := by
  obtain ⟨t, rfl⟩ := hp
  simp [flat]
end
/-- triples of ints -/
def t3 (p : Int × Int × Int) : D := .tup [.int p.1, .int p.2.1, .int p.2.2]
@[simp] theorem t3_eq {p : Int × Int × Int} : t3 p = .tup [.int p.1, .int p.2.1, .int p.2.2] := rfl
/-- each place's crossing, which passing, next place -/
def psl (es nx : List Int) : List (Int × Int × Int) := (List.range es.length).map fun p => (cr es p, wh es p (cr es p), (nx[p]?).getD 0)
@[simp] theorem psl_len {es nx : List Int} : (psl es nx).length = es.length := by simp [psl]
theorem psl_at {es nx : List Int} {p : Nat} (hp : p < es.length) : (psl es nx)[p]? = some (cr es p, wh es p (cr es p), (nx[p]?).getD 0) := by simp [psl, hp]
theorem psl_atI {es nx : List Int} {p : Nat} (hp : p < es.length) : atI (psl es nx) (p : Int) = some (cr es p, wh es p (cr es p), (nx[p]?).getD 0) := by
  rw [atI_nat (by simpa using hp)]
  have := psl_at (nx := nx) hp
  rw [List.getElem?_eq_getElem (by simpa using hp)] at this
  exact this
theorem take_snoc {xs : List α} {p : Nat} {x : α} (h : xs[p]? = some x) : xs.take p ++ [x] = xs.take (p + 1) := by
  rw [List.take_add_one, h]
  rfl
theorem freeze_tup1 {S : Store} {d : D} {i : Int} (h : S[0]? = some d) (hp : d.pu = true) : freeze S 0 (.tup [.obj 0, .int i]) = some (.tup [d, .int i]) := by
  have e : (D.obj 0).frz (deref S 0 8) = some d := by
    show deref S 0 8 0 = _
    rw [deref_obj h, D.frz_pu _ hp]
  show (frzs _ _).map D.tup = _
  simp only [frzs, e, Option.bind_some, Option.map_some]
  rfl
theorem freeze_tup3 {S : Store} {d0 d1 d2 : D} (h0 : d0.pu = true) (h1 : d1.pu = true) (h2 : d2.pu = true) : freeze (d0 :: d1 :: d2 :: S) 0 (.tup [.obj 0, .obj 1, .obj 2]) = some (.tup [d0, d1, d2]) := by
  have e : ∀ (n : Nat) d, (d0 :: d1 :: d2 :: S)[n]? = some d → d.pu = true → (D.obj n).frz (deref (d0 :: d1 :: d2 :: S) 0 8) = some d := fun n d h hp => by
    show deref _ 0 8 n = _
    rw [deref_obj h, D.frz_pu _ hp]
  show (frzs _ _).map D.tup = _
  simp only [frzs, e 0 d0 rfl h0, e 1 d1 rfl h1, e 2 d2 rfl h2, Option.bind_some, Option.map_some]
/-- a table, put in place -/
theorem frz_tbl {pre J : Store} {T : List (List D)} {k : Nat} (hJ : J[0]? = some (.lst (objs pre.length T.length))) (hp : pus (T.map D.lst) = true) : (D.obj (pre.length + T.length)).frz (deref (tst pre T J) 0 (k + 3)) = some (.lst (T.map .lst)) := by
  have g := tst_J (pre := pre) (T := T) (J := J) (j := 0)
  rw [Nat.add_zero, hJ] at g
  show deref (tst pre T J) 0 (k + 3) (pre.length + T.length) = _
  rw [deref_obj g]
  show (frzs _ (objs pre.length T.length)).map D.lst = _
  have fz := frzs_objs (S := tst pre T J) (k := k + 1) (L := T.map D.lst) (b := pre.length) (fun i h => by
    have hi : i < T.length := by simpa using h
    rw [tst_row hi]
    simp) hp
  rw [List.length_map] at fz
  unfold objs
  rw [fz]
  rfl
end Ic

set_option maxHeartbeats 0
namespace Law
open PySem PySem.Spec PyProof.Rows L2 Ic
/-! the program part, printed by gen.py -/
def top (i : Nat) : Stmt := PySem.Challenge.pw_icetracks_k14_arms_and_darts.main.body.getD i (.Pass ⟨0, 0, 0, 0⟩)
def Y_0 : Sym := { N := ["k"], sc := defScope (top 0), fns := [], kws := [], cls := [], exc := [], globs := [], att := [], mts := [], mu := [], blt := [] }
def d_0 : FnD := ⟨"_wall", "_wall", defArgs (top 0), defBody (top 0), defScope (top 0), ["k"], ["k"], Y_0, ("_wall", none)⟩
/-- _wall -/
def b_0 : List Sm := [.whl (.lit (.bl true)) [.pass]]
theorem code_0 : (defBody (top 0)).map (irS (ir 40) Y_0 40) = b_0 := by kernel_rfl
theorem sc_0 : FnScope ["k"] ["k"] (defScope (top 0)) := ⟨rfl, rfl, rfl, by decide +kernel, rfl, by decide +kernel, by decide +kernel⟩
def Y_1 : Sym := { N := ["thing"], sc := defScope (top 8), fns := [], kws := [], cls := [], exc := [], globs := [], att := [], mts := [], mu := [], blt := ["isinstance", "int", "bool"] }
def d_1 : FnD := ⟨"is_int", "is_int", defArgs (top 8), defBody (top 8), defScope (top 8), ["thing"], ["thing"], Y_1, ("is_int", none)⟩
/-- is_int -/
def b_1 : List Sm := [.ret (.and [(.bi (.isi .int) false [(.var 0)]), (.not (.bi (.isi .bool) false [(.var 0)]))])]
theorem code_1 : (defBody (top 8)).map (irS (ir 40) Y_1 40) = b_1 := by kernel_rfl
theorem sc_1 : FnScope ["thing"] ["thing"] (defScope (top 8)) := ⟨rfl, rfl, rfl, by decide +kernel, rfl, by decide +kernel, by decide +kernel⟩
def Y_2 : Sym := { N := ["thing", "low", "high"], sc := defScope (top 9), fns := [("is_int", 1, 1)], kws := [], cls := [], exc := [], globs := [], att := [], mts := [], mu := [], blt := [] }
def d_2 : FnD := ⟨"within", "within", defArgs (top 9), defBody (top 9), defScope (top 9), ["thing", "low", "high"], ["thing", "low", "high"], Y_2, ("within", none)⟩
/-- within -/
def b_2 : List Sm := [.ret (.and [(.call 1 false [(.var 0)] [0]), (.cmp2 (.var 1) .le (.var 0) .le (.var 2))])]
theorem code_2 : (defBody (top 9)).map (irS (ir 40) Y_2 40) = b_2 := by kernel_rfl
theorem sc_2 : FnScope ["thing", "low", "high"] ["thing", "low", "high"] (defScope (top 9)) := ⟨rfl, rfl, rfl, by decide +kernel, rfl, by decide +kernel, by decide +kernel⟩
def Y_3 : Sym := { N := ["thing", "low", "high"], sc := defScope (top 10), fns := [], kws := [], cls := [], exc := [], globs := [], att := [], mts := [], mu := [], blt := ["isinstance", "tuple", "len"] }
def d_3 : FnD := ⟨"is_row", "is_row", defArgs (top 10), defBody (top 10), defScope (top 10), ["thing", "low", "high"], ["thing", "low", "high"], Y_3, ("is_row", none)⟩
/-- is_row -/
def b_3 : List Sm := [.ret (.and [(.bi (.isi .tup) false [(.var 0)]), (.cmp2 (.var 1) .le (.bi .len false [(.var 0)]) .le (.var 2))])]
theorem code_3 : (defBody (top 10)).map (irS (ir 40) Y_3 40) = b_3 := by kernel_rfl
theorem sc_3 : FnScope ["thing", "low", "high"] ["thing", "low", "high"] (defScope (top 10)) := ⟨rfl, rfl, rfl, by decide +kernel, rfl, by decide +kernel, by decide +kernel⟩
def Y_4 : Sym := { N := ["thing", "most", "entries", "many", "row", "entry"], sc := defScope (top 14), fns := [("within", 2, 3)], kws := [], cls := [], exc := [], globs := [], att := [], mts := [], mu := [], blt := ["isinstance", "tuple", "all", "len", "sorted", "list", "range"] }
def d_4 : FnD := ⟨"is_rows_of_any_size", "is_rows_of_any_size", defArgs (top 14), defBody (top 14), defScope (top 14), ["thing", "most"], ["thing", "most", "entries", "many", "row", "entry"], Y_4, ("is_rows_of_any_size", none)⟩
/-- is_rows_of_any_size -/
def b_4 : List Sm := [.ite (.or [(.not (.bi (.isi .tup) false [(.var 0)])), (.cmp (.var 0) .eq (.tup [])), (.not (.bi .all false [(.comp false [4] (.bi (.isi .tup) false [(.var 4)]) (.nm 4) .val [(.var 0)] [])]))]) [.ret (.lit (.bl false))] [], .asg (.nm (.nm 2)) (.comp2 false [4, 5] (.var 5) (.nm 4) .val [(.var 0)] [] [5] (.nm 5) .val [(.var 4)] []), .asg (.nm (.nm 3)) (.bin .fdiv false (.bi .len false [(.var 2)]) (.lit (.int 2))), .ite (.or [(.cmp (.var 3) .gt (.var 1)), (.not (.bi .all false [(.comp false [5] (.call 2 false [(.var 5), (.lit (.int 0)), (.bin .sub false (.var 3) (.lit (.int 1)))] [0, 1, 2]) (.nm 5) .val [(.var 2)] [])]))]) [.ret (.lit (.bl false))] [], .ret (.cmp (.bi .sorted false [(.var 2)]) .eq (.bi .sorted false [(.bin .mul false (.bi .listR false [(.var 3)]) (.lit (.int 2)))]))]
theorem code_4 : (defBody (top 14)).map (irS (ir 40) Y_4 40) = b_4 := by kernel_rfl
theorem sc_4 : FnScope ["thing", "most", "entries", "many", "row", "entry"] ["thing", "most"] (defScope (top 14)) := ⟨rfl, rfl, rfl, by decide +kernel, rfl, by decide +kernel, by decide +kernel⟩
def Y_5 : Sym := { N := ["thing"], sc := defScope (top 15), fns := [("is_row", 3, 3), ("is_rows_of_any_size", 4, 2)], kws := [], cls := [], exc := [], globs := [("MOST_ROWS", 1), ("MOST_CROSSINGS", 0)], att := [], mts := [], mu := [], blt := [] }
def d_5 : FnD := ⟨"is_rows", "is_rows", defArgs (top 15), defBody (top 15), defScope (top 15), ["thing"], ["thing"], Y_5, ("is_rows", none)⟩
/-- is_rows -/
def b_5 : List Sm := [.ret (.and [(.call 3 false [(.var 0), (.lit (.int 1)), (.glob 1)] [0, 1, 2]), (.call 4 false [(.var 0), (.glob 0)] [0, 1])])]
theorem code_5 : (defBody (top 15)).map (irS (ir 40) Y_5 40) = b_5 := by kernel_rfl
theorem sc_5 : FnScope ["thing"] ["thing"] (defScope (top 15)) := ⟨rfl, rfl, rfl, by decide +kernel, rfl, by decide +kernel, by decide +kernel⟩
def Y_6 : Sym := { N := ["rows", "row", "entry"], sc := defScope (top 16), fns := [], kws := [], cls := [], exc := [], globs := [], att := [], mts := [], mu := [], blt := [] }
def d_6 : FnD := ⟨"entries_of", "entries_of", defArgs (top 16), defBody (top 16), defScope (top 16), ["rows"], ["rows", "row", "entry"], Y_6, ("entries_of", none)⟩
/-- entries_of -/
def b_6 : List Sm := [.ret (.comp2 false [1, 2] (.var 2) (.nm 1) .val [(.var 0)] [] [2] (.nm 2) .val [(.var 1)] [])]
theorem code_6 : (defBody (top 16)).map (irS (ir 40) Y_6 40) = b_6 := by kernel_rfl
theorem sc_6 : FnScope ["rows", "row", "entry"] ["rows"] (defScope (top 16)) := ⟨rfl, rfl, rfl, by decide +kernel, rfl, by decide +kernel, by decide +kernel⟩
def Y_7 : Sym := { N := ["rows", "row"], sc := defScope (top 17), fns := [], kws := [], cls := [], exc := [], globs := [], att := [], mts := [], mu := [], blt := ["sum", "len"] }
def d_7 : FnD := ⟨"count_of", "count_of", defArgs (top 17), defBody (top 17), defScope (top 17), ["rows"], ["rows", "row"], Y_7, ("count_of", none)⟩
/-- count_of -/
def b_7 : List Sm := [.ret (.bin .fdiv false (.bi .sum false [(.comp false [1] (.bi .len false [(.var 1)]) (.nm 1) .val [(.var 0)] [])]) (.lit (.int 2)))]
theorem code_7 : (defBody (top 17)).map (irS (ir 40) Y_7 40) = b_7 := by kernel_rfl
theorem sc_7 : FnScope ["rows", "row"] ["rows"] (defScope (top 17)) := ⟨rfl, rfl, rfl, by decide +kernel, rfl, by decide +kernel, by decide +kernel⟩
def Y_8 : Sym := { N := ["rows", "found", "number", "crossing", "one", "other"], sc := defScope (top 18), fns := [("count_of", 7, 1), ("entries_of", 6, 1)], kws := [], cls := [], exc := [], globs := [], att := [], mts := [], mu := [("found", 2)], blt := ["range", "enumerate"] }
def d_8 : FnD := ⟨"passings", "passings", defArgs (top 18), defBody (top 18), defScope (top 18), ["rows"], ["rows", "found", "number", "crossing", "one", "other"], Y_8, ("passings", none)⟩
/-- passings -/
def b_8 : List Sm := [.asg (.nm (.nm 1)) (.comp true [3] (.lst true []) (.nm 3) .range1 [(.call 7 false [(.var 0)] [0])] []), .for (.tup [.nm 2, .nm 3]) .enum [(.call 6 false [(.var 0)] [0])] [.expr (.mth .append (.idx (.var 1) (.var 3)) [(.var 2)])], .ret (.comp false [4, 5] (.tup [(.var 4), (.var 5)]) (.tup [.nm 4, .nm 5]) .val [(.var 1)] [])]
theorem code_8 : (defBody (top 18)).map (irS (ir 40) Y_8 40) = b_8 := by kernel_rfl
theorem sc_8 : FnScope ["rows", "found", "number", "crossing", "one", "other"] ["rows"] (defScope (top 18)) := ⟨rfl, rfl, rfl, by decide +kernel, rfl, by decide +kernel, by decide +kernel⟩
def Y_9 : Sym := { N := ["rows", "pairs", "number", "crossing"], sc := defScope (top 19), fns := [("passings", 8, 1), ("entries_of", 6, 1)], kws := [], cls := [], exc := [], globs := [], att := [], mts := [], mu := [], blt := ["enumerate", "int"] }
def d_9 : FnD := ⟨"flat_places", "flat_places", defArgs (top 19), defBody (top 19), defScope (top 19), ["rows"], ["rows", "pairs", "number", "crossing"], Y_9, ("flat_places", none)⟩
/-- flat_places -/
def b_9 : List Sm := [.asg (.nm (.nm 1)) (.call 8 false [(.var 0)] [0]), .ret (.comp false [2, 3] (.tup [(.var 3), (.bi .int false [(.cmp (.idx (.idx (.var 1) (.var 3)) (.lit (.int 0))) .ne (.var 2))])]) (.tup [.nm 2, .nm 3]) .enum [(.call 6 false [(.var 0)] [0])] [])]
theorem code_9 : (defBody (top 19)).map (irS (ir 40) Y_9 40) = b_9 := by kernel_rfl
theorem sc_9 : FnScope ["rows", "pairs", "number", "crossing"] ["rows"] (defScope (top 19)) := ⟨rfl, rfl, rfl, by decide +kernel, rfl, by decide +kernel, by decide +kernel⟩
def Y_10 : Sym := { N := ["rows", "found", "row", "begin", "k"], sc := defScope (top 20), fns := [], kws := [], cls := [], exc := [], globs := [], att := [], mts := [], mu := [("found", 1)], blt := ["len", "range"] }
def d_10 : FnD := ⟨"next_place", "next_place", defArgs (top 20), defBody (top 20), defScope (top 20), ["rows"], ["rows", "found", "row", "begin", "k"], Y_10, ("next_place", none)⟩
/-- next_place -/
def b_10 : List Sm := [.asg (.nm (.nm 1)) (.lst true []), .for (.nm 2) .val [(.var 0)] [.asg (.nm (.nm 3)) (.bi .len false [(.var 1)]), .expr (.mth .extend (.var 1) [(.comp false [4] (.bin .add false (.var 3) (.bin .mod false (.bin .add false (.var 4) (.lit (.int 1))) (.bi .len false [(.var 2)]))) (.nm 4) .range1 [(.bi .len false [(.var 2)])] [])])], .ret (.var 1)]
theorem code_10 : (defBody (top 20)).map (irS (ir 40) Y_10 40) = b_10 := by kernel_rfl
theorem sc_10 : FnScope ["rows", "found", "row", "begin", "k"] ["rows"] (defScope (top 20)) := ⟨rfl, rfl, rfl, by decide +kernel, rfl, by decide +kernel, by decide +kernel⟩
def Y_11 : Sym := { N := ["thing", "many", "rows", "turns", "row", "turn"], sc := defScope (top 22), fns := [("is_row", 3, 3), ("is_rows", 5, 1), ("is_int", 1, 1)], kws := [], cls := [], exc := [], globs := [], att := [], mts := [], mu := [], blt := ["sum", "len", "all"] }
def d_11 : FnD := ⟨"is_drawing", "is_drawing", defArgs (top 22), defBody (top 22), defScope (top 22), ["thing"], ["thing", "many", "rows", "turns", "row", "turn"], Y_11, ("is_drawing", none)⟩
/-- is_drawing -/
def b_11 : List Sm := [.ite (.or [(.not (.call 3 false [(.var 0), (.lit (.int 2)), (.lit (.int 2))] [0, 1, 2])), (.not (.call 5 false [(.idx (.var 0) (.lit (.int 0)))] [0]))]) [.ret (.lit (.bl false))] [], .asg (.tup [.nm (.nm 2), .nm (.nm 3)]) (.var 0), .asg (.nm (.nm 1)) (.bin .fdiv false (.bi .sum false [(.comp false [4] (.bi .len false [(.var 4)]) (.nm 4) .val [(.var 2)] [])]) (.lit (.int 2))), .ret (.and [(.call 3 false [(.var 3), (.var 1), (.var 1)] [0, 1, 2]), (.bi .all false [(.comp false [5] (.and [(.call 1 false [(.var 5)] [0]), (.cmp (.var 5) .isin (.tup [(.lit (.int 1)), (.neg (.lit (.int 1)))]))]) (.nm 5) .val [(.var 3)] [])])])]
theorem code_11 : (defBody (top 22)).map (irS (ir 40) Y_11 40) = b_11 := by kernel_rfl
theorem sc_11 : FnScope ["thing", "many", "rows", "turns", "row", "turn"] ["thing"] (defScope (top 22)) := ⟨rfl, rfl, rfl, by decide +kernel, rfl, by decide +kernel, by decide +kernel⟩
def Y_12 : Sym := { N := ["drawing"], sc := defScope (top 23), fns := [("is_drawing", 11, 1)], kws := [], cls := [], exc := [("BadDrawing", 2)], globs := [], att := [], mts := [], mu := [], blt := [] }
def d_12 : FnD := ⟨"need_drawing", "need_drawing", defArgs (top 23), defBody (top 23), defScope (top 23), ["drawing"], ["drawing"], Y_12, ("need_drawing", none)⟩
/-- need_drawing -/
def b_12 : List Sm := [.ite (.not (.call 11 false [(.var 0)] [0])) [.raise 2 none] []]
theorem code_12 : (defBody (top 23)).map (irS (ir 40) Y_12 40) = b_12 := by kernel_rfl
theorem sc_12 : FnScope ["drawing"] ["drawing"] (defScope (top 23)) := ⟨rfl, rfl, rfl, by decide +kernel, rfl, by decide +kernel, by decide +kernel⟩
def Y_13 : Sym := { N := ["drawing", "crossing"], sc := defScope (top 27), fns := [("need_drawing", 12, 1), ("within", 2, 3)], kws := [], cls := [("Darts", 0)], exc := [("BadCrossing", 1)], globs := [], att := [("arms", 0)], mts := [], mu := [("arms", 2)], blt := ["len", "tuple"] }
def d_13 : FnD := ⟨"arms", "arms", defArgs (top 27), defBody (top 27), defScope (top 27), ["drawing", "crossing"], ["drawing", "crossing"], Y_13, ("arms", none)⟩
/-- arms -/
def b_13 : List Sm := [.expr (.call 12 false [(.var 0)] [0]), .ite (.not (.call 2 false [(.var 1), (.lit (.int 0)), (.bin .sub false (.bi .len false [(.idx (.var 0) (.lit (.int 1)))]) (.lit (.int 1)))] [0, 1, 2])) [.raise 1 none] [], .ret (.bi .tuple false [(.idx (.fld (.new 0 false [(.var 0)]) 0) (.var 1))])]
theorem code_13 : (defBody (top 27)).map (irS (ir 40) Y_13 40) = b_13 := by kernel_rfl
theorem sc_13 : FnScope ["drawing", "crossing"] ["drawing", "crossing"] (defScope (top 27)) := ⟨rfl, rfl, rfl, by decide +kernel, rfl, by decide +kernel, by decide +kernel⟩
def Y_14 : Sym := { N := ["drawing", "dart", "way", "darts"], sc := defScope (top 28), fns := [("need_drawing", 12, 1), ("within", 2, 3)], kws := [], cls := [("Darts", 0)], exc := [("BadDart", 3), ("BadWay", 4)], globs := [("WAYS", 2)], att := [("many", 1)], mts := [("ways", 0)], mu := [], blt := ["isinstance", "str"] }
def d_14 : FnD := ⟨"dart_after", "dart_after", defArgs (top 28), defBody (top 28), defScope (top 28), ["drawing", "dart", "way"], ["drawing", "dart", "way", "darts"], Y_14, ("dart_after", none)⟩
/-- dart_after -/
def b_14 : List Sm := [.expr (.call 12 false [(.var 0)] [0]), .asg (.nm (.nm 3)) (.new 0 false [(.var 0)]), .ite (.not (.call 2 false [(.var 1), (.lit (.int 0)), (.bin .sub false (.fld (.var 3) 1) (.lit (.int 1)))] [0, 1, 2])) [.raise 3 none] [], .ite (.or [(.not (.bi (.isi .str) false [(.var 2)])), (.cmp (.var 2) .notin (.glob 2))]) [.raise 4 none] [], .ret (.idx (.own 0 false (.var 3) [(.var 2)]) (.var 1))]
theorem code_14 : (defBody (top 28)).map (irS (ir 40) Y_14 40) = b_14 := by kernel_rfl
theorem sc_14 : FnScope ["drawing", "dart", "way", "darts"] ["drawing", "dart", "way"] (defScope (top 28)) := ⟨rfl, rfl, rfl, by decide +kernel, rfl, by decide +kernel, by decide +kernel⟩
def Y_15 : Sym := { N := ["script"], sc := defScope (top 30), fns := [], kws := [], cls := [], exc := [], globs := [], att := [], mts := [], mu := [("return", 1)], blt := ["list"] }
def d_15 : FnD := ⟨"_law_jug", "_law_jug", defArgs (top 30), defBody (top 30), defScope (top 30), ["script"], ["script"], Y_15, ("_law_jug", none)⟩
/-- _law_jug -/
def b_15 : List Sm := [.ret (.lst true [(.bi .list false [(.var 0)]), (.lit (.int 0)), (.lit (.int 0))])]
theorem code_15 : (defBody (top 30)).map (irS (ir 40) Y_15 40) = b_15 := by kernel_rfl
theorem sc_15 : FnScope ["script"] ["script"] (defScope (top 30)) := ⟨rfl, rfl, rfl, by decide +kernel, rfl, by decide +kernel, by decide +kernel⟩
def Y_16 : Sym := { N := ["jug", "many", "got", "at", "cell"], sc := defScope (top 31), fns := [], kws := [], cls := [], exc := [], globs := [], att := [], mts := [], mu := [("jug", 1)], blt := ["len", "abs", "int"] }
def d_16 : FnD := ⟨"_law_take", "_law_take", defArgs (top 31), defBody (top 31), defScope (top 31), ["jug", "many"], ["jug", "many", "got", "at", "cell"], Y_16, ("_law_take", none)⟩
/-- _law_take -/
def b_16 : List Sm := [.ite (.cmp (.idx (.var 0) (.lit (.int 2))) .eq (.lit (.int 0))) [.asg (.nm (.nm 3)) (.idx (.var 0) (.lit (.int 1))), .asg (.nm (.nm 4)) (.bin .add false (.bin .mul false (.lit (.int 3)) (.var 3)) (.lit (.int 5))), .ite (.cmp (.var 3) .lt (.bi .len false [(.idx (.var 0) (.lit (.int 0)))])) [.asg (.nm (.nm 4)) (.bin .add false (.bin .mul false (.lit (.int 2)) (.bi .abs false [(.idx (.idx (.var 0) (.lit (.int 0))) (.var 3))])) (.bi .int false [(.cmp (.idx (.idx (.var 0) (.lit (.int 0))) (.var 3)) .lt (.lit (.int 0)))]))] [], .ite (.cmp (.var 4) .lt (.bin .pow false (.lit (.int 10)) (.lit (.int 18)))) [.asg (.nm (.nm 4)) (.bin .mod false (.bi .int false [(.bin .pow false (.bin .add false (.bin .add false (.bin .mul false (.var 4) (.lit (.int 2654435761))) (.bin .mul false (.var 3) (.lit (.int 40503)))) (.lit (.int 977))) (.lit (.int 3)))]) (.lit (.int 618970019642690137449562111)))] [], .asg (.idx (.var 0) (.lit (.int 1))) (.bin .add false (.var 3) (.lit (.int 1))), .asg (.idx (.var 0) (.lit (.int 2))) (.var 4)] [], .asg (.nm (.nm 2)) (.bin .mod false (.bi .int false [(.idx (.var 0) (.lit (.int 2)))]) (.var 1)), .asg (.idx (.var 0) (.lit (.int 2))) (.bin .fdiv false (.idx (.var 0) (.lit (.int 2))) (.var 1)), .ret (.var 2)]
theorem code_16 : (defBody (top 31)).map (irS (ir 40) Y_16 40) = b_16 := by kernel_rfl
theorem sc_16 : FnScope ["jug", "many", "got", "at", "cell"] ["jug", "many"] (defScope (top 31)) := ⟨rfl, rfl, rfl, by decide +kernel, rfl, by decide +kernel, by decide +kernel⟩
def Y_17 : Sym := { N := ["found", "due", "k"], sc := defScope (top 32), fns := [("_law_same", 17, 2)], kws := [], cls := [], exc := [], globs := [], att := [], mts := [], mu := [], blt := ["isinstance", "tuple", "len", "range", "bool", "str", "int"] }
def d_17 : FnD := ⟨"_law_same", "_law_same", defArgs (top 32), defBody (top 32), defScope (top 32), ["found", "due"], ["found", "due", "k"], Y_17, ("_law_same", none)⟩
/-- _law_same -/
def b_17 : List Sm := [.ite (.or [(.cmp (.var 1) .is (.lit .non)), (.cmp (.var 0) .is (.lit .non))]) [.ret (.and [(.cmp (.var 0) .is (.lit .non)), (.cmp (.var 1) .is (.lit .non))])] [], .ite (.bi (.isi .tup) false [(.var 1)]) [.ite (.or [(.not (.bi (.isi .tup) false [(.var 0)])), (.cmp (.bi .len false [(.var 0)]) .ne (.bi .len false [(.var 1)]))]) [.ret (.lit (.bl false))] [], .ret (.cmp (.comp false [2] (.var 2) (.nm 2) .range1 [(.bi .len false [(.var 1)])] [(.not (.call 17 false [(.idx (.var 0) (.var 2)), (.idx (.var 1) (.var 2))] [0, 1]))]) .eq (.lst false []))] [], .ite (.or [(.cmp (.bi (.isi .bool) false [(.var 0)]) .ne (.bi (.isi .bool) false [(.var 1)])), (.cmp (.bi (.isi .str) false [(.var 0)]) .ne (.bi (.isi .str) false [(.var 1)]))]) [.ret (.lit (.bl false))] [], .ret (.and [(.bi (.isi2 .int .str) false [(.var 0)]), (.cmp (.var 0) .eq (.var 1))])]
theorem code_17 : (defBody (top 32)).map (irS (ir 40) Y_17 40) = b_17 := by kernel_rfl
theorem sc_17 : FnScope ["found", "due", "k"] ["found", "due"] (defScope (top 32)) := ⟨rfl, rfl, rfl, by decide +kernel, rfl, by decide +kernel, by decide +kernel⟩
def Y_18 : Sym := { N := ["jug", "most", "skaters", "crossing", "rows", "k", "many", "word", "at"], sc := defScope (top 33), fns := [("_law_take", 16, 2)], kws := [], cls := [], exc := [], globs := [], att := [], mts := [], mu := [("rows", 1)], blt := ["range", "len", "tuple"] }
def d_18 : FnD := ⟨"_law_rows", "_law_rows", defArgs (top 33), defBody (top 33), defScope (top 33), ["jug", "most", "skaters"], ["jug", "most", "skaters", "crossing", "rows", "k", "many", "word", "at"], Y_18, ("_law_rows", none)⟩
/-- _law_rows -/
def b_18 : List Sm := [.asg (.tup [.nm (.nm 6), .nm (.nm 7)]) (.tup [(.call 16 false [(.var 0), (.bin .add false (.var 1) (.lit (.int 1)))] [0, 1]), (.lst false [])]), .for (.nm 3) .range1 [(.var 6)] [.for (.nm 5) .range1 [(.lit (.int 2))] [.asg (.nm (.nm 8)) (.call 16 false [(.var 0), (.bin .add false (.bi .len false [(.var 7)]) (.lit (.int 1)))] [0, 1]), .asg (.nm (.nm 7)) (.bin .add false (.bin .add false (.slc false (.var 7) none (some (.var 8))) (.lst false [(.var 3)])) (.slc false (.var 7) (some (.var 8)) none))]], .asg (.nm (.nm 4)) (.lst true []), .for (.nm 5) .range1 [(.call 16 false [(.var 0), (.var 2)] [0, 1])] [.asg (.nm (.nm 8)) (.call 16 false [(.var 0), (.bin .add false (.bi .len false [(.var 7)]) (.lit (.int 1)))] [0, 1]), .expr (.mth .append (.var 4) [(.bi .tuple false [(.slc false (.var 7) none (some (.var 8)))])]), .asg (.nm (.nm 7)) (.slc false (.var 7) (some (.var 8)) none)], .ret (.bi .tuple false [(.bin .add false (.var 4) (.lst false [(.bi .tuple false [(.var 7)])]))])]
theorem code_18 : (defBody (top 33)).map (irS (ir 40) Y_18 40) = b_18 := by kernel_rfl
theorem sc_18 : FnScope ["jug", "most", "skaters", "crossing", "rows", "k", "many", "word", "at"] ["jug", "most", "skaters"] (defScope (top 33)) := ⟨rfl, rfl, rfl, by decide +kernel, rfl, by decide +kernel, by decide +kernel⟩
def Y_19 : Sym := { N := ["jug", "many", "crossing"], sc := defScope (top 34), fns := [("_law_take", 16, 2)], kws := [], cls := [], exc := [], globs := [], att := [], mts := [], mu := [], blt := ["tuple", "range"] }
def d_19 : FnD := ⟨"_law_turns", "_law_turns", defArgs (top 34), defBody (top 34), defScope (top 34), ["jug", "many"], ["jug", "many", "crossing"], Y_19, ("_law_turns", none)⟩
/-- _law_turns -/
def b_19 : List Sm := [.ret (.bi .tuple false [(.comp false [2] (.bin .sub false (.bin .mul false (.lit (.int 2)) (.call 16 false [(.var 0), (.lit (.int 2))] [0, 1])) (.lit (.int 1))) (.nm 2) .range1 [(.var 1)] [])])]
theorem code_19 : (defBody (top 34)).map (irS (ir 40) Y_19 40) = b_19 := by kernel_rfl
theorem sc_19 : FnScope ["jug", "many", "crossing"] ["jug", "many"] (defScope (top 34)) := ⟨rfl, rfl, rfl, by decide +kernel, rfl, by decide +kernel, by decide +kernel⟩
def Y_20 : Sym := { N := ["rows", "row", "found", "seen", "begin", "k"], sc := defScope (top 35), fns := [], kws := [], cls := [], exc := [], globs := [], att := [], mts := [], mu := [("seen", 1), ("found", 1)], blt := ["range", "len", "int"] }
def d_20 : FnD := ⟨"_law_passes", "_law_passes", defArgs (top 35), defBody (top 35), defScope (top 35), ["rows"], ["rows", "row", "found", "seen", "begin", "k"], Y_20, ("_law_passes", none)⟩
/-- _law_passes -/
def b_20 : List Sm := [.asg (.tup [.nm (.nm 2), .nm (.nm 3), .nm (.nm 4)]) (.tup [(.lst true []), (.dict true [] []), (.lit (.int 0))]), .for (.nm 1) .val [(.var 0)] [.for (.nm 5) .range1 [(.bi .len false [(.var 1)])] [.expr (.mth .append (.var 2) [(.tup [(.idx (.var 1) (.var 5)), (.mth .get (.var 3) [(.idx (.var 1) (.var 5)), (.lit (.int 0))]), (.bin .add false (.var 4) (.bin .mod false (.bi .int false [(.bin .add false (.var 5) (.lit (.int 1)))]) (.bi .len false [(.var 1)])))])]), .asg (.idx (.var 3) (.idx (.var 1) (.var 5))) (.lit (.int 1))], .asg (.nm (.nm 4)) (.bin .add false (.var 4) (.bi .len false [(.var 1)]))], .ret (.tup [(.var 2), (.bin .add false (.bin .mul false (.lit (.int 2)) (.var 4)) (.bin .mul false (.lit (.int 2)) (.bi .len false [(.comp false [1] (.var 1) (.nm 1) .val [(.var 0)] [(.cmp (.var 1) .eq (.tup []))])])))])]
theorem code_20 : (defBody (top 35)).map (irS (ir 40) Y_20 40) = b_20 := by kernel_rfl
theorem sc_20 : FnScope ["rows", "row", "found", "seen", "begin", "k"] ["rows"] (defScope (top 35)) := ⟨rfl, rfl, rfl, by decide +kernel, rfl, by decide +kernel, by decide +kernel⟩
def Y_21 : Sym := { N := ["drawing", "table", "place", "passes", "many", "turn", "crossing", "which", "after"], sc := defScope (top 36), fns := [("_law_passes", 20, 1)], kws := [], cls := [], exc := [], globs := [], att := [], mts := [], mu := [("table", 2)], blt := ["range", "len"] }
def d_21 : FnD := ⟨"_law_arms", "_law_arms", defArgs (top 36), defBody (top 36), defScope (top 36), ["drawing"], ["drawing", "table", "place", "passes", "many", "turn", "crossing", "which", "after"], Y_21, ("_law_arms", none)⟩
/-- _law_arms -/
def b_21 : List Sm := [.asg (.tup [.nm (.nm 3), .nm (.nm 4)]) (.call 20 false [(.idx (.var 0) (.lit (.int 0)))] [0]), .asg (.nm (.nm 1)) (.comp true [5] (.lst true [(.lit .non), (.lit .non), (.lit .non), (.lit .non)]) (.nm 5) .val [(.idx (.var 0) (.lit (.int 1)))] []), .for (.nm 2) .range1 [(.bi .len false [(.var 3)])] [.asg (.tup [.nm (.nm 6), .nm (.nm 7), .nm (.nm 8)]) (.idx (.var 3) (.var 2)), .asg (.idx (.idx (.var 1) (.var 6)) (.ife (.cmp (.var 7) .eq (.lit (.int 0))) (.lit (.int 0)) (.bin .sub false (.lit (.int 2)) (.idx (.idx (.var 0) (.lit (.int 1))) (.var 6))))) (.bin .mul false (.lit (.int 2)) (.var 2))], .for (.nm 2) .range1 [(.bi .len false [(.var 3)])] [.asg (.tup [.nm (.nm 6), .nm (.nm 7), .nm (.nm 8)]) (.idx (.var 3) (.idx (.idx (.var 3) (.var 2)) (.lit (.int 2)))), .asg (.idx (.idx (.var 1) (.var 6)) (.ife (.cmp (.var 7) .eq (.lit (.int 0))) (.lit (.int 2)) (.bin .add false (.lit (.int 2)) (.idx (.idx (.var 0) (.lit (.int 1))) (.var 6))))) (.bin .add false (.bin .mul false (.lit (.int 2)) (.var 2)) (.lit (.int 1)))], .ret (.tup [(.var 1), (.var 4)])]
theorem code_21 : (defBody (top 36)).map (irS (ir 40) Y_21 40) = b_21 := by kernel_rfl
theorem sc_21 : FnScope ["drawing", "table", "place", "passes", "many", "turn", "crossing", "which", "after"] ["drawing"] (defScope (top 36)) := ⟨rfl, rfl, rfl, by decide +kernel, rfl, by decide +kernel, by decide +kernel⟩
def Y_22 : Sym := { N := ["drawing", "four", "table", "many", "straight", "left", "right", "k", "comes"], sc := defScope (top 37), fns := [("_law_arms", 21, 1)], kws := [], cls := [], exc := [], globs := [], att := [], mts := [], mu := [("straight", 1), ("left", 1), ("right", 1)], blt := ["list", "range", "int"] }
def d_22 : FnD := ⟨"_law_ways", "_law_ways", defArgs (top 37), defBody (top 37), defScope (top 37), ["drawing"], ["drawing", "four", "table", "many", "straight", "left", "right", "k", "comes"], Y_22, ("_law_ways", none)⟩
/-- _law_ways -/
def b_22 : List Sm := [.asg (.tup [.nm (.nm 2), .nm (.nm 3)]) (.call 21 false [(.var 0)] [0]), .asg (.tup [.nm (.nm 4), .nm (.nm 5), .nm (.nm 6)]) (.tup [(.bi .listR true [(.var 3)]), (.bi .listR true [(.var 3)]), (.bi .listR true [(.var 3)])]), .for (.nm 1) .val [(.var 2)] [.for (.nm 7) .range1 [(.lit (.int 4))] [.asg (.nm (.nm 8)) (.bin .sub false (.bin .add false (.idx (.var 1) (.var 7)) (.lit (.int 1))) (.bin .mul false (.lit (.int 2)) (.bin .mod false (.idx (.var 1) (.var 7)) (.lit (.int 2))))), .asg (.idx (.var 4) (.var 8)) (.idx (.var 1) (.bin .mod false (.bi .int false [(.bin .add false (.var 7) (.lit (.int 2)))]) (.lit (.int 4)))), .asg (.idx (.var 5) (.var 8)) (.idx (.var 1) (.bin .mod false (.bi .int false [(.bin .add false (.var 7) (.lit (.int 3)))]) (.lit (.int 4)))), .asg (.idx (.var 6) (.var 8)) (.idx (.var 1) (.bin .mod false (.bi .int false [(.bin .add false (.var 7) (.lit (.int 1)))]) (.lit (.int 4))))]], .ret (.tup [(.var 4), (.var 5), (.var 6)])]
theorem code_22 : (defBody (top 37)).map (irS (ir 40) Y_22 40) = b_22 := by kernel_rfl
theorem sc_22 : FnScope ["drawing", "four", "table", "many", "straight", "left", "right", "k", "comes"] ["drawing"] (defScope (top 37)) := ⟨rfl, rfl, rfl, by decide +kernel, rfl, by decide +kernel, by decide +kernel⟩
def Y_23 : Sym := { N := ["which", "drawing", "one", "two", "word"], sc := defScope (top 38), fns := [("arms", 13, 2), ("dart_after", 14, 3)], kws := [], cls := [], exc := [("BadDrawing", 2), ("BadCrossing", 1), ("BadDart", 3), ("BadWay", 4), ("IceError", 0)], globs := [], att := [], mts := [], mu := [], blt := [] }
def d_23 : FnD := ⟨"_law_word", "_law_word", defArgs (top 38), defBody (top 38), defScope (top 38), ["which", "drawing", "one", "two"], ["which", "drawing", "one", "two", "word"], Y_23, ("_law_word", none)⟩
/-- _law_word -/
def b_23 : List Sm := [.asg (.nm (.nm 4)) (.lit (.str "told")), .try [.ite (.cmp (.var 0) .eq (.lit (.int 0))) [.expr (.call 13 false [(.var 1), (.var 2)] [0, 1])] [.expr (.call 14 false [(.var 1), (.var 2), (.var 3)] [0, 1, 2])]] [(2, [(4, (.str "drawing"))]), (1, [(4, (.str "crossing"))]), (3, [(4, (.str "dart"))]), (4, [(4, (.str "way"))]), (0, [(4, (.str "other"))])], .ret (.var 4)]
theorem code_23 : (defBody (top 38)).map (irS (ir 40) Y_23 40) = b_23 := by kernel_rfl
theorem sc_23 : FnScope ["which", "drawing", "one", "two", "word"] ["which", "drawing", "one", "two"] (defScope (top 38)) := ⟨rfl, rfl, rfl, by decide +kernel, rfl, by decide +kernel, by decide +kernel⟩
def Y_24 : Sym := { N := ["script", "jug", "turn", "rows", "drawing", "ways", "dart", "bad", "words", "own", "many", "told", "back", "c", "way", "which", "row"], sc := defScope (top 39), fns := [("_law_jug", 15, 1), ("_law_rows", 18, 3), ("_law_turns", 19, 2), ("_law_arms", 21, 1), ("_law_same", 17, 2), ("arms", 13, 2), ("_law_ways", 22, 1), ("dart_after", 14, 3), ("_law_take", 16, 2), ("_law_word", 23, 4)], kws := [("arms", 0, ["crossing", "drawing"], [1, 0]), ("dart_after", 0, ["way", "dart", "drawing"], [2, 1, 0])], cls := [], exc := [], globs := [], att := [], mts := [], mu := [("jug", 1)], blt := ["range", "min", "len", "sum", "tuple", "list"] }
def d_24 : FnD := ⟨"law", "law", defArgs (top 39), defBody (top 39), defScope (top 39), ["script"], ["script", "jug", "turn", "rows", "drawing", "ways", "dart", "bad", "words", "own", "many", "told", "back", "c", "way", "which", "row"], Y_24, ("law", none)⟩
/-- law -/
def b_24 : List Sm := [.asg (.nm (.nm 1)) (.call 15 true [(.var 0)] [0]), .for (.nm 2) .range1 [(.bin .add false (.lit (.int 1)) (.bi .min false [(.bi .len false [(.var 0)]), (.lit (.int 6))]))] [.asg (.nm (.nm 3)) (.call 18 false [(.var 1), (.lit (.int 4)), (.lit (.int 3))] [0, 1, 2]), .asg (.nm (.nm 4)) (.tup [(.var 3), (.call 19 false [(.var 1), (.bin .fdiv false (.bi .sum false [(.comp false [16] (.bi .len false [(.var 16)]) (.nm 16) .val [(.var 3)] [])]) (.lit (.int 2)))] [0, 1])]), .asg (.tup [.nm (.nm 9), .nm (.nm 10)]) (.call 21 false [(.var 4)] [0]), .ite (.cmp (.comp false [13] (.var 13) (.nm 13) .range1 [(.bi .len false [(.var 9)])] [(.not (.call 17 false [(.callk 13 false 0 2 [] [(.var 13), (.var 4)] [1, 0]), (.bi .tuple false [(.idx (.var 9) (.var 13))])] [0, 1]))]) .ne (.lst false [])) [.ret (.lit (.bl false))] [], .asg (.nm (.nm 5)) (.call 22 false [(.var 4)] [0]), .for (.nm 6) .range1 [(.var 10)] [.asg (.nm (.nm 11)) (.comp false [14] (.call 14 false [(.var 4), (.var 6), (.var 14)] [0, 1, 2]) (.nm 14) .val [(.tup [(.lit (.str "straight")), (.lit (.str "left")), (.lit (.str "right"))])] []), .ite (.not (.call 17 false [(.bi .tuple false [(.var 11)]), (.bi .tuple false [(.comp false [14] (.idx (.var 14) (.var 6)) (.nm 14) .val [(.var 5)] [])])] [0, 1])) [.ret (.lit (.bl false))] [], .asg (.nm (.nm 12)) (.bin .sub false (.bin .add false (.idx (.var 11) (.lit (.int 1))) (.lit (.int 1))) (.bin .mul false (.lit (.int 2)) (.bin .mod false (.idx (.var 11) (.lit (.int 1))) (.lit (.int 2))))), .ite (.and [(.cmp (.var 6) .lt (.bin .mul false (.lit (.int 2)) (.bi .sum false [(.comp false [16] (.bi .len false [(.var 16)]) (.nm 16) .val [(.var 3)] [])]))), (.cmp (.callk 14 false 0 3 [] [(.lit (.str "right")), (.var 12), (.var 4)] [2, 1, 0]) .ne (.bin .sub false (.bin .add false (.var 6) (.lit (.int 1))) (.bin .mul false (.lit (.int 2)) (.bin .mod false (.var 6) (.lit (.int 2))))))]) [.ret (.lit (.bl false))] []], .asg (.nm (.nm 7)) (.idx (.lst false [(.lit .non), (.tup []), (.slc false (.var 4) none (some (.lit (.int 1)))), (.bi .list false [(.var 4)])]) (.call 16 false [(.var 1), (.lit (.int 4))] [0, 1])), .asg (.nm (.nm 8)) (.bin .add false (.comp false [15] (.call 23 false [(.var 15), (.var 7), (.lit .non), (.lit .non)] [0, 1, 2, 3]) (.nm 15) .range1 [(.lit (.int 2))] []) (.lst false [(.call 23 false [(.lit (.int 0)), (.var 4), (.idx (.lst false [(.neg (.lit (.int 1))), (.bi .len false [(.var 9)]), (.lit (.bl true)), (.lit .non)]) (.call 16 false [(.var 1), (.lit (.int 4))] [0, 1])), (.lit .non)] [0, 1, 2, 3])])), .asg (.nm (.nm 8)) (.bin .add false (.var 8) (.lst false [(.call 23 false [(.lit (.int 1)), (.var 4), (.idx (.lst false [(.neg (.lit (.int 1))), (.var 10), (.lit (.bl true)), (.lit .non)]) (.call 16 false [(.var 1), (.lit (.int 4))] [0, 1])), (.lit (.int 0))] [0, 1, 2, 3]), (.call 23 false [(.lit (.int 1)), (.var 4), (.lit (.int 0)), (.idx (.lst false [(.lit (.str "Left")), (.lit (.str "")), (.lit .non), (.lit (.int 0)), (.tup [(.lit (.str "left"))])]) (.call 16 false [(.var 1), (.lit (.int 5))] [0, 1]))] [0, 1, 2, 3])])), .ite (.cmp (.var 8) .ne (.lst false [(.lit (.str "drawing")), (.lit (.str "drawing")), (.lit (.str "crossing")), (.lit (.str "dart")), (.lit (.str "way"))])) [.ret (.lit (.bl false))] []], .ret (.lit (.bl true))]
theorem code_24 : (defBody (top 39)).map (irS (ir 40) Y_24 40) = b_24 := by kernel_rfl
theorem sc_24 : FnScope ["script", "jug", "turn", "rows", "drawing", "ways", "dart", "bad", "words", "own", "many", "told", "back", "c", "way", "which", "row"] ["script"] (defScope (top 39)) := ⟨rfl, rfl, rfl, by decide +kernel, rfl, by decide +kernel, by decide +kernel⟩
def Y_25 : Sym := { N := ["self", "drawing", "before", "rings", "own", "rows", "turns", "place", "after", "at", "turn", "crossing", "which", "out", "back", "way", "arm", "row"], sc := defScope (inClass (top 26) 0), fns := [("next_place", 10, 1), ("flat_places", 9, 1)], kws := [], cls := [], exc := [], globs := [("WAYS", 2)], att := [("nexts", 2), ("places", 3), ("many", 1), ("arms", 0), ("straight", 4), ("left", 5), ("right", 6)], mts := [], mu := [("before", 1), ("arms", 2), ("straight", 1), ("left", 1), ("right", 1)], blt := ["len", "enumerate", "list", "range"] }
def d_25 : FnD := ⟨"__init__", "Darts.__init__", defArgs (inClass (top 26) 0), defBody (inClass (top 26) 0), defScope (inClass (top 26) 0), ["self", "drawing"], ["self", "drawing", "before", "rings", "own", "rows", "turns", "place", "after", "at", "turn", "crossing", "which", "out", "back", "way", "arm", "row"], Y_25, ("Darts", some "__init__")⟩
/-- __init__ -/
def b_25 : List Sm := [.asg (.tup [.nm (.nm 5), .nm (.nm 6)]) (.var 1), .asg (.fld (.var 0) 2) (.call 10 false [(.var 5)] [0]), .asg (.fld (.var 0) 3) (.call 9 false [(.var 5)] [0]), .asg (.nm (.nm 2)) (.bin .mul true (.lst false [(.lit (.int 0))]) (.bi .len false [(.fld (.var 0) 2)])), .for (.tup [.nm 7, .nm 8]) .enum [(.fld (.var 0) 2)] [.asg (.idx (.var 2) (.var 8)) (.var 7)], .asg (.nm (.nm 3)) (.bi .len false [(.comp false [17] (.var 17) (.nm 17) .val [(.var 5)] [(.cmp (.var 17) .eq (.tup []))])]), .asg (.fld (.var 0) 1) (.bin .mul false (.lit (.int 2)) (.bin .add false (.bi .len false [(.fld (.var 0) 3)]) (.var 3))), .asg (.fld (.var 0) 0) (.comp true [10] (.bin .mul true (.lst false [(.lit .non)]) (.lit (.int 4))) (.nm 10) .val [(.var 6)] []), .for (.tup [.nm 7, .tup [.nm 11, .nm 12]]) .enum [(.fld (.var 0) 3)] [.asg (.tup [.nm (.nm 13), .nm (.nm 14)]) (.tup [(.bin .mul false (.lit (.int 2)) (.var 7)), (.bin .add false (.bin .mul false (.lit (.int 2)) (.idx (.var 2) (.var 7))) (.lit (.int 1)))]), .asg (.nm (.nm 9)) (.ife (.cmp (.var 12) .eq (.lit (.int 0))) (.lit (.int 0)) (.ife (.cmp (.idx (.var 6) (.var 11)) .eq (.lit (.int 1))) (.lit (.int 1)) (.lit (.int 3)))), .asg (.idx (.idx (.fld (.var 0) 0) (.var 11)) (.var 9)) (.var 13), .asg (.idx (.idx (.fld (.var 0) 0) (.var 11)) (.bin .mod false (.bin .add false (.var 9) (.lit (.int 2))) (.lit (.int 4)))) (.var 14)], .asg (.tup [.fld (.var 0) 4, .fld (.var 0) 5, .fld (.var 0) 6]) (.comp true [15] (.bi .listR true [(.fld (.var 0) 1)]) (.nm 15) .val [(.glob 2)] []), .for (.nm 4) .val [(.fld (.var 0) 0)] [.for (.tup [.nm 9, .nm 16]) .enum [(.var 4)] [.asg (.idx (.fld (.var 0) 4) (.bin .xor false (.var 16) (.lit (.int 1)))) (.idx (.var 4) (.bin .mod false (.bin .add false (.var 9) (.lit (.int 2))) (.lit (.int 4)))), .asg (.idx (.fld (.var 0) 5) (.bin .xor false (.var 16) (.lit (.int 1)))) (.idx (.var 4) (.bin .mod false (.bin .add false (.var 9) (.lit (.int 3))) (.lit (.int 4)))), .asg (.idx (.fld (.var 0) 6) (.bin .xor false (.var 16) (.lit (.int 1)))) (.idx (.var 4) (.bin .mod false (.bin .add false (.var 9) (.lit (.int 1))) (.lit (.int 4))))]]]
theorem code_25 : (defBody (inClass (top 26) 0)).map (irS (ir 40) Y_25 40) = b_25 := by kernel_rfl
theorem sc_25 : FnScope ["self", "drawing", "before", "rings", "own", "rows", "turns", "place", "after", "at", "turn", "crossing", "which", "out", "back", "way", "arm", "row"] ["self", "drawing"] (defScope (inClass (top 26) 0)) := ⟨rfl, rfl, rfl, by decide +kernel, rfl, by decide +kernel, by decide +kernel⟩
def Y_26 : Sym := { N := ["self"], sc := defScope (inClass (top 26) 1), fns := [("_wall", 0, 1)], kws := [], cls := [], exc := [], globs := [], att := [], mts := [], mu := [], blt := [] }
def d_26 : FnD := ⟨"faces", "Darts.faces", defArgs (inClass (top 26) 1), defBody (inClass (top 26) 1), defScope (inClass (top 26) 1), ["self"], ["self"], Y_26, ("Darts", some "faces")⟩
/-- faces -/
def b_26 : List Sm := [.expr (.call 0 false [(.lit (.int 0))] [0])]
theorem code_26 : (defBody (inClass (top 26) 1)).map (irS (ir 40) Y_26 40) = b_26 := by kernel_rfl
theorem sc_26 : FnScope ["self"] ["self"] (defScope (inClass (top 26) 1)) := ⟨rfl, rfl, rfl, by decide +kernel, rfl, by decide +kernel, by decide +kernel⟩
def Y_27 : Sym := { N := ["self"], sc := defScope (inClass (top 26) 2), fns := [("_wall", 0, 1)], kws := [], cls := [], exc := [], globs := [], att := [], mts := [], mu := [], blt := [] }
def d_27 : FnD := ⟨"face_numbers", "Darts.face_numbers", defArgs (inClass (top 26) 2), defBody (inClass (top 26) 2), defScope (inClass (top 26) 2), ["self"], ["self"], Y_27, ("Darts", some "face_numbers")⟩
/-- face_numbers -/
def b_27 : List Sm := [.expr (.call 0 false [(.lit (.int 1))] [0])]
theorem code_27 : (defBody (inClass (top 26) 2)).map (irS (ir 40) Y_27 40) = b_27 := by kernel_rfl
theorem sc_27 : FnScope ["self"] ["self"] (defScope (inClass (top 26) 2)) := ⟨rfl, rfl, rfl, by decide +kernel, rfl, by decide +kernel, by decide +kernel⟩
def Y_28 : Sym := { N := ["self", "way"], sc := defScope (inClass (top 26) 3), fns := [], kws := [], cls := [], exc := [], globs := [], att := [("straight", 4), ("left", 5), ("right", 6)], mts := [], mu := [("straight", 1), ("left", 1), ("right", 1)], blt := [] }
def d_28 : FnD := ⟨"ways", "Darts.ways", defArgs (inClass (top 26) 3), defBody (inClass (top 26) 3), defScope (inClass (top 26) 3), ["self", "way"], ["self", "way"], Y_28, ("Darts", some "ways")⟩
/-- ways -/
def b_28 : List Sm := [.ite (.cmp (.var 1) .eq (.lit (.str "straight"))) [.ret (.fld (.var 0) 4)] [], .ret (.ife (.cmp (.var 1) .eq (.lit (.str "left"))) (.fld (.var 0) 5) (.fld (.var 0) 6))]
theorem code_28 : (defBody (inClass (top 26) 3)).map (irS (ir 40) Y_28 40) = b_28 := by kernel_rfl
theorem sc_28 : FnScope ["self", "way"] ["self", "way"] (defScope (inClass (top 26) 3)) := ⟨rfl, rfl, rfl, by decide +kernel, rfl, by decide +kernel, by decide +kernel⟩
def ds : List FnD := [d_0, d_1, d_2, d_3, d_4, d_5, d_6, d_7, d_8, d_9, d_10, d_11, d_12, d_13, d_14, d_15, d_16, d_17, d_18, d_19, d_20, d_21, d_22, d_23, d_24, d_25, d_26, d_27, d_28]
/-! not told:  -/
def GS : Sym := { N := [], sc := defScope (top 0), fns := [("_wall", 0, 1), ("is_int", 1, 1), ("within", 2, 3), ("is_row", 3, 3), ("is_rows_of_any_size", 4, 2), ("is_rows", 5, 1), ("entries_of", 6, 1), ("count_of", 7, 1), ("passings", 8, 1), ("flat_places", 9, 1), ("next_place", 10, 1), ("is_drawing", 11, 1), ("need_drawing", 12, 1), ("arms", 13, 2), ("dart_after", 14, 3), ("_law_jug", 15, 1), ("_law_take", 16, 2), ("_law_same", 17, 2), ("_law_rows", 18, 3), ("_law_turns", 19, 2), ("_law_passes", 20, 1), ("_law_arms", 21, 1), ("_law_ways", 22, 1), ("_law_word", 23, 4), ("law", 24, 1)], kws := [("arms", 0, ["crossing", "drawing"], [1, 0]), ("dart_after", 0, ["way", "dart", "drawing"], [2, 1, 0])], cls := [("Darts", 0)], exc := [("IceError", 0), ("BadCrossing", 1), ("BadDrawing", 2), ("BadDart", 3), ("BadWay", 4)], globs := [("MOST_CROSSINGS", 0), ("MOST_ROWS", 1), ("WAYS", 2)], att := [("arms", 0), ("many", 1), ("nexts", 2), ("places", 3), ("straight", 4), ("left", 5), ("right", 6)], mts := [("ways", 0)], mu := [], blt := ["isinstance", "int", "bool", "tuple", "len", "all", "sorted", "list", "range", "sum", "enumerate", "str", "abs", "min"] }
def clN : List Str := ["Darts"]
def atN : List Str := ["arms", "many", "nexts", "places", "straight", "left", "right"]
def mthF : Nat → Nat → Option Nat
  | 0, 0 => some 28
  | _, _ => none
def initF : Nat → Option Nat
  | 0 => some 25
  | _ => none
def exN : List Str := ["IceError", "BadCrossing", "BadDrawing", "BadDart", "BadWay"]
def belowT : List (List Bool) := [[true, false, false, false, false], [true, true, false, false, false], [true, false, true, false, false], [true, false, false, true, false], [true, false, false, false, true]]
def Pr : Prog := { fns := [⟨1, 1, b_0⟩, ⟨1, 1, b_1⟩, ⟨3, 3, b_2⟩, ⟨3, 3, b_3⟩, ⟨2, 6, b_4⟩, ⟨1, 1, b_5⟩, ⟨1, 3, b_6⟩, ⟨1, 2, b_7⟩, ⟨1, 6, b_8⟩, ⟨1, 4, b_9⟩, ⟨1, 5, b_10⟩, ⟨1, 6, b_11⟩, ⟨1, 1, b_12⟩, ⟨2, 2, b_13⟩, ⟨3, 4, b_14⟩, ⟨1, 1, b_15⟩, ⟨2, 5, b_16⟩, ⟨2, 3, b_17⟩, ⟨3, 9, b_18⟩, ⟨2, 3, b_19⟩, ⟨1, 6, b_20⟩, ⟨1, 9, b_21⟩, ⟨1, 9, b_22⟩, ⟨4, 5, b_23⟩, ⟨1, 17, b_24⟩, ⟨2, 18, b_25⟩, ⟨1, 1, b_26⟩, ⟨1, 1, b_27⟩, ⟨2, 2, b_28⟩], ext := fun _ => none, mth := mthF, init := initF, below := fun c h => ((belowT[c]?).bind (·[h]?)).getD false, globs := [(.int 12), (.int 4), (.tup [.str "straight", .str "left", .str "right"])] }
theorem hcode : Pr.fns = ds.map fun d => ⟨d.ps.length, d.N.length, d.body.map (irS (ir 40) d.Y 40)⟩ := by kernel_rfl
theorem dok_0 : DOk d_0 GS := ⟨fun _ _ _ _ _ _ us hl => match us, hl with | [_], _ => rfl, sc_0, ⟨rfl, rfl⟩, by decide +kernel, by decide +kernel, by decide +kernel, by decide +kernel, by decide +kernel, by decide +kernel, by decide +kernel, by decide +kernel⟩
theorem dok_1 : DOk d_1 GS := ⟨fun _ _ _ _ _ _ us hl => match us, hl with | [_], _ => rfl, sc_1, ⟨rfl, rfl⟩, by decide +kernel, by decide +kernel, by decide +kernel, by decide +kernel, by decide +kernel, by decide +kernel, by decide +kernel, by decide +kernel⟩
theorem dok_2 : DOk d_2 GS := ⟨fun _ _ _ _ _ _ us hl => match us, hl with | [_, _, _], _ => rfl, sc_2, ⟨rfl, rfl⟩, by decide +kernel, by decide +kernel, by decide +kernel, by decide +kernel, by decide +kernel, by decide +kernel, by decide +kernel, by decide +kernel⟩
theorem dok_3 : DOk d_3 GS := ⟨fun _ _ _ _ _ _ us hl => match us, hl with | [_, _, _], _ => rfl, sc_3, ⟨rfl, rfl⟩, by decide +kernel, by decide +kernel, by decide +kernel, by decide +kernel, by decide +kernel, by decide +kernel, by decide +kernel, by decide +kernel⟩
theorem dok_4 : DOk d_4 GS := ⟨fun _ _ _ _ _ _ us hl => match us, hl with | [_, _], _ => rfl, sc_4, ⟨rfl, rfl⟩, by decide +kernel, by decide +kernel, by decide +kernel, by decide +kernel, by decide +kernel, by decide +kernel, by decide +kernel, by decide +kernel⟩
theorem dok_5 : DOk d_5 GS := ⟨fun _ _ _ _ _ _ us hl => match us, hl with | [_], _ => rfl, sc_5, ⟨rfl, rfl⟩, by decide +kernel, by decide +kernel, by decide +kernel, by decide +kernel, by decide +kernel, by decide +kernel, by decide +kernel, by decide +kernel⟩
theorem dok_6 : DOk d_6 GS := ⟨fun _ _ _ _ _ _ us hl => match us, hl with | [_], _ => rfl, sc_6, ⟨rfl, rfl⟩, by decide +kernel, by decide +kernel, by decide +kernel, by decide +kernel, by decide +kernel, by decide +kernel, by decide +kernel, by decide +kernel⟩
theorem dok_7 : DOk d_7 GS := ⟨fun _ _ _ _ _ _ us hl => match us, hl with | [_], _ => rfl, sc_7, ⟨rfl, rfl⟩, by decide +kernel, by decide +kernel, by decide +kernel, by decide +kernel, by decide +kernel, by decide +kernel, by decide +kernel, by decide +kernel⟩
theorem dok_8 : DOk d_8 GS := ⟨fun _ _ _ _ _ _ us hl => match us, hl with | [_], _ => rfl, sc_8, ⟨rfl, rfl⟩, by decide +kernel, by decide +kernel, by decide +kernel, by decide +kernel, by decide +kernel, by decide +kernel, by decide +kernel, by decide +kernel⟩
theorem dok_9 : DOk d_9 GS := ⟨fun _ _ _ _ _ _ us hl => match us, hl with | [_], _ => rfl, sc_9, ⟨rfl, rfl⟩, by decide +kernel, by decide +kernel, by decide +kernel, by decide +kernel, by decide +kernel, by decide +kernel, by decide +kernel, by decide +kernel⟩
theorem dok_10 : DOk d_10 GS := ⟨fun _ _ _ _ _ _ us hl => match us, hl with | [_], _ => rfl, sc_10, ⟨rfl, rfl⟩, by decide +kernel, by decide +kernel, by decide +kernel, by decide +kernel, by decide +kernel, by decide +kernel, by decide +kernel, by decide +kernel⟩
theorem dok_11 : DOk d_11 GS := ⟨fun _ _ _ _ _ _ us hl => match us, hl with | [_], _ => rfl, sc_11, ⟨rfl, rfl⟩, by decide +kernel, by decide +kernel, by decide +kernel, by decide +kernel, by decide +kernel, by decide +kernel, by decide +kernel, by decide +kernel⟩
theorem dok_12 : DOk d_12 GS := ⟨fun _ _ _ _ _ _ us hl => match us, hl with | [_], _ => rfl, sc_12, ⟨rfl, rfl⟩, by decide +kernel, by decide +kernel, by decide +kernel, by decide +kernel, by decide +kernel, by decide +kernel, by decide +kernel, by decide +kernel⟩
theorem dok_13 : DOk d_13 GS := ⟨fun _ _ _ _ _ _ us hl => match us, hl with | [_, _], _ => rfl, sc_13, ⟨rfl, rfl⟩, by decide +kernel, by decide +kernel, by decide +kernel, by decide +kernel, by decide +kernel, by decide +kernel, by decide +kernel, by decide +kernel⟩
theorem dok_14 : DOk d_14 GS := ⟨fun _ _ _ _ _ _ us hl => match us, hl with | [_, _, _], _ => rfl, sc_14, ⟨rfl, rfl⟩, by decide +kernel, by decide +kernel, by decide +kernel, by decide +kernel, by decide +kernel, by decide +kernel, by decide +kernel, by decide +kernel⟩
theorem dok_15 : DOk d_15 GS := ⟨fun _ _ _ _ _ _ us hl => match us, hl with | [_], _ => rfl, sc_15, ⟨rfl, rfl⟩, by decide +kernel, by decide +kernel, by decide +kernel, by decide +kernel, by decide +kernel, by decide +kernel, by decide +kernel, by decide +kernel⟩
theorem dok_16 : DOk d_16 GS := ⟨fun _ _ _ _ _ _ us hl => match us, hl with | [_, _], _ => rfl, sc_16, ⟨rfl, rfl⟩, by decide +kernel, by decide +kernel, by decide +kernel, by decide +kernel, by decide +kernel, by decide +kernel, by decide +kernel, by decide +kernel⟩
theorem dok_17 : DOk d_17 GS := ⟨fun _ _ _ _ _ _ us hl => match us, hl with | [_, _], _ => rfl, sc_17, ⟨rfl, rfl⟩, by decide +kernel, by decide +kernel, by decide +kernel, by decide +kernel, by decide +kernel, by decide +kernel, by decide +kernel, by decide +kernel⟩
theorem dok_18 : DOk d_18 GS := ⟨fun _ _ _ _ _ _ us hl => match us, hl with | [_, _, _], _ => rfl, sc_18, ⟨rfl, rfl⟩, by decide +kernel, by decide +kernel, by decide +kernel, by decide +kernel, by decide +kernel, by decide +kernel, by decide +kernel, by decide +kernel⟩
theorem dok_19 : DOk d_19 GS := ⟨fun _ _ _ _ _ _ us hl => match us, hl with | [_, _], _ => rfl, sc_19, ⟨rfl, rfl⟩, by decide +kernel, by decide +kernel, by decide +kernel, by decide +kernel, by decide +kernel, by decide +kernel, by decide +kernel, by decide +kernel⟩
theorem dok_20 : DOk d_20 GS := ⟨fun _ _ _ _ _ _ us hl => match us, hl with | [_], _ => rfl, sc_20, ⟨rfl, rfl⟩, by decide +kernel, by decide +kernel, by decide +kernel, by decide +kernel, by decide +kernel, by decide +kernel, by decide +kernel, by decide +kernel⟩
theorem dok_21 : DOk d_21 GS := ⟨fun _ _ _ _ _ _ us hl => match us, hl with | [_], _ => rfl, sc_21, ⟨rfl, rfl⟩, by decide +kernel, by decide +kernel, by decide +kernel, by decide +kernel, by decide +kernel, by decide +kernel, by decide +kernel, by decide +kernel⟩
theorem dok_22 : DOk d_22 GS := ⟨fun _ _ _ _ _ _ us hl => match us, hl with | [_], _ => rfl, sc_22, ⟨rfl, rfl⟩, by decide +kernel, by decide +kernel, by decide +kernel, by decide +kernel, by decide +kernel, by decide +kernel, by decide +kernel, by decide +kernel⟩
theorem dok_23 : DOk d_23 GS := ⟨fun _ _ _ _ _ _ us hl => match us, hl with | [_, _, _, _], _ => rfl, sc_23, ⟨rfl, rfl⟩, by decide +kernel, by decide +kernel, by decide +kernel, by decide +kernel, by decide +kernel, by decide +kernel, by decide +kernel, by decide +kernel⟩
theorem dok_24 : DOk d_24 GS := ⟨fun _ _ _ _ _ _ us hl => match us, hl with | [_], _ => rfl, sc_24, ⟨rfl, rfl⟩, by decide +kernel, by decide +kernel, by decide +kernel, by decide +kernel, by decide +kernel, by decide +kernel, by decide +kernel, by decide +kernel⟩
theorem dok_25 : DOk d_25 GS := ⟨fun _ _ _ _ _ _ us hl => match us, hl with | [_, _], _ => rfl, sc_25, ⟨rfl, rfl⟩, by decide +kernel, by decide +kernel, by decide +kernel, by decide +kernel, by decide +kernel, by decide +kernel, by decide +kernel, by decide +kernel⟩
theorem dok_26 : DOk d_26 GS := ⟨fun _ _ _ _ _ _ us hl => match us, hl with | [_], _ => rfl, sc_26, ⟨rfl, rfl⟩, by decide +kernel, by decide +kernel, by decide +kernel, by decide +kernel, by decide +kernel, by decide +kernel, by decide +kernel, by decide +kernel⟩
theorem dok_27 : DOk d_27 GS := ⟨fun _ _ _ _ _ _ us hl => match us, hl with | [_], _ => rfl, sc_27, ⟨rfl, rfl⟩, by decide +kernel, by decide +kernel, by decide +kernel, by decide +kernel, by decide +kernel, by decide +kernel, by decide +kernel, by decide +kernel⟩
theorem dok_28 : DOk d_28 GS := ⟨fun _ _ _ _ _ _ us hl => match us, hl with | [_, _], _ => rfl, sc_28, ⟨rfl, rfl⟩, by decide +kernel, by decide +kernel, by decide +kernel, by decide +kernel, by decide +kernel, by decide +kernel, by decide +kernel, by decide +kernel⟩
theorem dok : ∀ d ∈ ds, DOk d GS := by
  intro d hd
  simp only [ds, List.mem_cons, List.not_mem_nil, or_false] at hd
  rcases hd with rfl | rfl | rfl | rfl | rfl | rfl | rfl | rfl | rfl | rfl | rfl | rfl | rfl | rfl | rfl | rfl | rfl | rfl | rfl | rfl | rfl | rfl | rfl | rfl | rfl | rfl | rfl | rfl | rfl
  · exact dok_0
  · exact dok_1
  · exact dok_2
  · exact dok_3
  · exact dok_4
  · exact dok_5
  · exact dok_6
  · exact dok_7
  · exact dok_8
  · exact dok_9
  · exact dok_10
  · exact dok_11
  · exact dok_12
  · exact dok_13
  · exact dok_14
  · exact dok_15
  · exact dok_16
  · exact dok_17
  · exact dok_18
  · exact dok_19
  · exact dok_20
  · exact dok_21
  · exact dok_22
  · exact dok_23
  · exact dok_24
  · exact dok_25
  · exact dok_26
  · exact dok_27
  · exact dok_28
theorem kok_0 : KOk d_13 ("arms", 0, ["crossing", "drawing"], [1, 0]) := ⟨by decide +kernel, rfl, rfl, by decide +kernel, fun _ _ _ _ _ _ us ws h1 h2 => match us, ws, h1, h2 with | [], [_, _], _, _ => rfl⟩
theorem kok_1 : KOk d_14 ("dart_after", 0, ["way", "dart", "drawing"], [2, 1, 0]) := ⟨by decide +kernel, rfl, rfl, by decide +kernel, fun _ _ _ _ _ _ us ws h1 h2 => match us, ws, h1, h2 with | [], [_, _, _], _, _ => rfl⟩
theorem kok : ∀ q ∈ GS.kws, ∃ d ∈ ds, d.at_ = (q.1, none) ∧ KOk d q := by
  intro q hq
  simp only [GS, List.mem_cons, List.not_mem_nil, or_false] at hq
  rcases hq with rfl | rfl
  · exact ⟨d_13, by simp [ds], rfl, kok_0⟩
  · exact ⟨d_14, by simp [ds], rfl, kok_1⟩
/-! ### the head -/
def fas : List He.Fa := fasOf GS exN Pr ++ fasC clN atN ds GS Pr
abbrev hk : PySem.W.Hook := He.hookX 5 fas (ds.map FnD.toD) [] [] (exOf clN GS Pr)
abbrev Rr : PySem.W.OpenRow := PySem.W.OpenLaw.row PySem.Challenge.rw_icetracks_k14_arms_and_darts
def ob (s : PySem.W.SharedT) : He.AlX := He.obsX 5 fas (ds.map FnD.toD) [] [] (exOf clN GS Pr) (HandSHeadRun.getT s)
theorem ob_eq (s : PySem.W.SharedT) : ob s = hk.obs s.abs := He.obsX_eq (HandSHeadRun.getT_eq s)
def loose : List Str := ("_wall" :: "IceError" :: "BadCrossing" :: "BadDrawing" :: "BadDart" :: "BadWay" :: "is_int" :: "within" :: "is_row" :: "MOST_CROSSINGS" :: "MOST_ROWS" :: "is_rows_of_any_size" :: "is_rows" :: "entries_of" :: "count_of" :: "passings" :: "flat_places" :: "next_place" :: "is_drawing" :: "need_drawing" :: "WAYS" :: "Darts" :: "arms" :: "dart_after" :: "_law_jug" :: "_law_take" :: "_law_same" :: "_law_rows" :: "_law_turns" :: "_law_passes" :: "_law_arms" :: "_law_ways" :: "_law_word" :: [])
theorem runs (w : World) : HandSHeadRun.RunEq Rr (PySem.W.view Rr.prog [39]) hk ob 4000 loose w := by
  intro os
  kernel_rfl
def lawTop : Nat := 39
def lawIx : Nat := 24

abbrev rgF : Option (List Int) → List Int → Prop := rgW
section
variable {P : Program} {w : World} {K : PySem.W.Frag} {h : Heap} {mg : Str → Option Value}
abbrev nmOf (K : PySem.W.Frag) : Nm := ⟨clN.map (He.ga K), atN, exN.map (He.ga K), rgF⟩
/-- what the head tells -/
def Told (K : PySem.W.Frag) : Prop := He.SaysD fas (ds.map FnD.toD) K ∧ exOf clN GS Pr K = true
theorem gfact (c : Told K) : ∀ f ∈ fasOf GS exN Pr, f.ok K = true := fun f hm => c.1.facts (List.mem_append_left _ hm)
theorem gfactC (c : Told K) : ∀ f ∈ fasC clN atN ds GS Pr, f.ok K = true := fun f hm => c.1.facts (List.mem_append_right _ hm)
theorem gdef (c : Told K) : ∀ d ∈ ds, ∃ fd, FunD K d.x d.qual d.params d.body d.scope [] [] (He.fAd K d.at_) fd := fun d hd => c.1.defs (d := d.toD) (List.mem_map.mpr ⟨d, hd, rfl⟩)
theorem base_ (X : K.In h) (hg : h.Ns mainGlobals mg) (c : Told K) : ∃ fd, Base K mg (nmOf K) Pr ds (fun i => ((ds[i]?).map fun d => He.fAd K d.at_).getD 0) fd 40 :=
  mkBase X hg (gfact c) (gfactC c) c.2 (gdef c) dok hcode (by decide +kernel) (by kernel_rfl) kok (by decide +kernel) (by kernel_rfl) (by kernel_rfl) (by decide +kernel) (by kernel_rfl) (by kernel_rfl)
end
section
variable {P : Program} {w : World} {K : PySem.W.Frag} {h : Heap} {mg : Str → Option Value} {base : Heap}
/-- the law's def keeps its promise -/
theorem law_fn (X : K.In h) (hg : h.Ns mainGlobals mg) (c : Told K) : ∃ fd, (∃ d, ds[lawIx]? = some d ∧ FunD K d.x d.qual d.params d.body d.scope [] [] (He.fAd K d.at_) fd) ∧ ∀ (P : Program) (w : World) (base : Heap) (k : Nat), FnOk P w K mg base (L2.CX P w) (2 * k) (He.ga K "law") fd ["script"] (spF K (nmOf K) 1 (run Pr k lawIx)) := by
  obtain ⟨fd, B⟩ := base_ X hg c
  obtain ⟨d, hd⟩ : ∃ d, ds[lawIx]? = some d := ⟨_, rfl⟩
  obtain ⟨fd0, F0⟩ := gdef c d (List.mem_of_getElem? hd)
  obtain ⟨_, _, F1⟩ := B.fun_ lawIx d hd
  have e : fd0 = fd lawIx := by
    cases hd
    exact funD_same F0 F1
  refine ⟨fd lawIx, ⟨d, hd, e ▸ F0⟩, fun P w base k => ?_⟩
  have ok := B.ok (P := P) (w := w) (base := base) (fun i d _ g hg => by cases hg) (fun i d _ g hg => by cases hg) k lawIx d hd
  cases hd
  exact ok
end
theorem facts {h : Heap} {mg : Str → Option Value} {K : PySem.W.Frag} {f : Addr} (plain : ∀ ns : List Int, ns.length ≤ 63 → (run Pr 40 lawIx [.scr ns] []).All (fun d _ => d = .bl true) fun _ _ => False) (X : K.In h) (G : h.Ns mainGlobals mg) (hfa : mg ("law" : Str) = some (.ref f)) (c : Told K) :
    ∃ (fd : FuncData) (sp : Sp), (∀ (s : Shared) (v : Value), BindsTo s fd ⟨[v], []⟩ [("script", v)]) ∧ (∀ (H : Hp) (a : Addr) (ns : List Int), ns.length ≤ 63 → Only H → SqL K H a (ns.map V.int) → sp [.ref a] H (fun v _ => v = .bl true) fun _ _ _ => False) ∧
      ∀ (P : Program) (w : World) (base : Heap), FnOk P w K mg base (L2.CX P w) 80 f fd ["script"] sp := by
  obtain ⟨fd, ⟨d, hd, F⟩, ok⟩ := law_fn X G c
  have e := hfa.symm.trans (He.glo_ok X G (gfact c (.glo "law") (List.mem_append_left _ (List.mem_map.mpr ⟨("law", lawIx, 1), (by decide +kernel : (("law", lawIx, 1) : Str × Nat × Nat) ∈ GS.fns), rfl⟩))))
  cases e
  refine ⟨fd, spF K (nmOf K) 1 (run Pr 40 lawIx), fun s v => ?_, fun H a ns hl _ hS => law_sp hS (plain ns hl), fun P w base => ok P w base 40⟩
  cases hd
  exact FunD.bindsA (ps := ["script"]) F (fun _ _ _ _ _ _ us hl => match us, hl with | [_], _ => rfl) s [v] rfl
end Law
set_option maxHeartbeats 1000000

namespace Law
open PySem Ic
section
variable {k : Nat} {S : Store}
def isInt : D → Bool
  | .int _ => true
  | _ => false
@[simp] theorem isInt_int {i : Int} : isInt (.int i) = true := rfl
@[simp] theorem isInt_bl {b : Bool} : isInt (.bl b) = false := rfl
@[simp] theorem isInt_non : isInt .non = false := rfl
@[simp] theorem isInt_str {s : Str} : isInt (.str s) = false := rfl
@[simp] theorem isInt_tup {xs : List D} : isInt (.tup xs) = false := rfl
@[simp] theorem isInt_lst {xs : List D} : isInt (.lst xs) = false := rfl
@[simp] theorem c_is_int {d : D} (hp : d.pu = true) (ht : (isTy .int d).isSome = true) : callD (run Pr (k + 1)) 1 false [d] S = .ret (.bl (isInt d)) S := by
  rw [callD_eq rfl rfl rfl (by simp [hp])]
  cases d <;> simp [b_1, isTy, bi, isInt] at ht ⊢
/-- an int from lo to hi -/
def withinD (lo hi : Int) : D → Bool
  | .int x => decide (lo ≤ x ∧ x ≤ hi)
  | _ => false
@[simp] theorem withinD_int {lo hi i : Int} : withinD lo hi (.int i) = decide (lo ≤ i ∧ i ≤ hi) := rfl
@[simp] theorem withinD_bl {lo hi : Int} {b : Bool} : withinD lo hi (.bl b) = false := rfl
@[simp] theorem withinD_non {lo hi : Int} : withinD lo hi .non = false := rfl
@[simp] theorem withinD_str {lo hi : Int} {s : Str} : withinD lo hi (.str s) = false := rfl
@[simp] theorem withinD_tup {lo hi : Int} {xs : List D} : withinD lo hi (.tup xs) = false := rfl
@[simp] theorem withinD_lst {lo hi : Int} {xs : List D} : withinD lo hi (.lst xs) = false := rfl
@[simp] theorem c_within {d : D} {lo hi : Int} (hp : d.pu = true) (ht : (isTy .int d).isSome = true) : callD (run Pr (k + 2)) 2 false [d, .int lo, .int hi] S = .ret (.bl (withinD lo hi d)) S := by
  rw [callD_eq rfl rfl rfl (by simp [hp])]
  cases d <;> first | (simp [isTy] at ht; done) | skip
  all_goals simp -implicitDefEqProofs (disch := first | assumption | (simp; done) | omega | (simp; omega)) [permute, permG, b_2, isInt, withinD, hp, ht]
@[simp] theorem c_is_row {xs : List D} {lo hi : Int} (hp : pus xs = true) : callD (run Pr (k + 1)) 3 false [.tup xs, .int lo, .int hi] S = .ret (.bl (decide (lo ≤ (xs.length : Int) ∧ (xs.length : Int) ≤ hi))) S := by
  rw [callD_eq rfl rfl rfl (by simp [hp])]
  simp -implicitDefEqProofs (disch := first | assumption | (simp; done) | omega | (simp; omega)) [permute, permG, b_3]
end

end Law

namespace Law
open PySem Ic
@[simp] theorem glob0 : Pr.globs[0]? = some (.int 12) := rfl
@[simp] theorem glob1 : Pr.globs[1]? = some (.int 4) := rfl
section
variable {k : Nat} {S : Store}
/-- rows: each of 0 .. many - 1 stands twice -/
def rowsB (rows : List (List Int)) (most : Int) : Bool :=
  !rows.isEmpty && ((!decide (most < ((flat rows).length : Int) / 2) && (flat rows).all fun x => decide (0 ≤ x) && decide (x ≤ ((flat rows).length : Int) / 2 - 1)) && decide (sortI (flat rows) = sortI (irange 0 (((flat rows).length : Int) / 2) ++ irange 0 (((flat rows).length : Int) / 2))))
@[simp] theorem all_true {α : Type} {xs : List α} : (xs.all fun _ => true) = true := by simp
@[simp] theorem c_is_rows_any {rows : List (List Int)} {most : Int} (h : rows.length ≤ 1000) (h2 : (flat rows).length ≤ 1000000) : callD (run Pr (k + 3)) 4 false [.tup (em tI rows), .int most] S = .ret (.bl (rowsB rows most)) S := by
  rw [callD_eq rfl rfl rfl (by simp)]
  simp -implicitDefEqProofs (disch := first | assumption | (simp; done) | omega | (simp; omega)) [permute, permG, b_4, rowsB]
/-- small rows -/
def isRows (rows : List (List Int)) : Bool := decide (1 ≤ (rows.length : Int) ∧ (rows.length : Int) ≤ 4) && rowsB rows 12
@[simp] theorem c_is_rows {rows : List (List Int)} (h : rows.length ≤ 1000) (h2 : (flat rows).length ≤ 1000000) : callD (run Pr (k + 4)) 5 false [.tup (em tI rows)] S = .ret (.bl (isRows rows)) S := by
  rw [callD_eq rfl rfl rfl (by simp)]
  simp -implicitDefEqProofs (disch := first | assumption | (simp; done) | omega | (simp; omega)) [permute, permG, b_5, isRows]
theorem em_one {ns : List Int} : [D.tup (em .int ns)] = em tI [ns] := rfl
@[simp] theorem flat_one {ns : List Int} : flat [ns] = ns := by simp [flat]
@[simp] theorem c_is_rows1 {ns : List Int} (h2 : ns.length ≤ 1000000) : callD (run Pr (k + 4)) 5 false [.tup [.tup (em .int ns)]] S = .ret (.bl (isRows [ns])) S := by
  rw [show D.tup [.tup (em .int ns)] = D.tup (em tI [ns]) from rfl, c_is_rows (by simp) (by simpa using h2)]
/-- a single row -/
def isRow (ns : List Int) : Bool := isRows [ns]
@[simp] theorem c_entries_of {rows : List (List Int)} (h2 : (flat rows).length ≤ 1000000) : callD (run Pr (k + 1)) 6 false [.tup (em tI rows)] S = .ret (.lst (em .int (flat rows))) S := by
  rw [callD_eq rfl rfl rfl (by simp)]
  simp -implicitDefEqProofs (disch := first | assumption | (simp; done) | omega | (simp; omega)) [permute, permG, b_6]
end

end Law

namespace Law
open PySem Ic
section
variable {k : Nat} {S : Store}
@[simp] theorem c_jug {ns : List Int} : callD (run Pr (k + 1)) 15 true [.scr ns] [] = .ret (.obj 0) [jug ns 0 0] := by
  rw [callD_eq rfl rfl rfl (by simp)]
  have hb : bi .list [.scr ns] = some (.lst (ns.map .int)) := rfl
  simp -implicitDefEqProofs (disch := first | assumption | (simp; done) | omega | (simp; omega)) [permute, permG, b_15, hb]
  simp [outOf, jug, D.pu, pus, pus_ints]
/-- one draw -/
theorem take_all {Q : D → Store → Prop} {X : Exc → Store → Prop} {m : Int} {b : Nat} {j : D} (hj : Jugs (b + 1) j) (hm : 0 < m) (hm2 : m < 1073741824) (hS : pus S = true) (h : ∀ v j', 0 ≤ v → v < m → Jugs b j' → Q (.int v) (j' :: S)) :
    (callD (run Pr (k + 1)) 16 false [.obj 0, .int m] (j :: S)).Al Q X := by
  refine callD_obj (b := bTake) rfl rfl rfl (by simp [D.pu]) ?_
  obtain ⟨v, j', h0, h1, h2, e⟩ := take_run (R := rnOf Pr (run Pr k)) (below := Pr.below) (S := S) hj hm hm2
  have e' : bnd (evSs (rnOf Pr (run Pr k)) Pr.below bTake ([D.obj 0, D.int m].map some ++ List.replicate (5 - 2) none) (j :: S)).nox (f := ⟨endOf⟩) = .ret (.int v) (j' :: S) := e
  rw [e']
  rw [Al_ret]
  exact ⟨rfl, j' :: S, [], by simp, by simp, by simp [pus, h2.pu, hS], h v j' h0 h1 h2⟩
end

end Law

namespace Law
open PySem Ic
section
variable {k : Nat} {S : Store}
theorem jperm_in {row : List Int} {c : Int} {i : Nat} : (row.take i ++ c :: row.drop i).Perm (c :: row) := by
  have := List.perm_middle (a := c) (l₁ := row.take i) (l₂ := row.drop i)
  rwa [List.take_append_drop] at this
/-- a crossing's two places are put in -/
theorem jrow_cross {P : Ic.Flow → Store → Prop} {X : Exc → Store → Prop} {bl : Nat → Nat → Bool} {most sk many c : Int} {row : List Int} {j : D} {bb b : Nat} {o4 o5 o8 : Option D} (hr : RowP row c) (hc : c < 1000) (hj : Jugs bb j) (hb : b + 2 ≤ bb)
    (hP : ∀ row' j' o5 o8, RowP row' (c + 1) → Jugs b j' → P (.nx [some (.obj 0), some (.int most), some (.int sk), some (.int c), o4, o5, some (.int many), some (.lst (em .int row')), o8]) [j']) :
    (evSs (rnOf Pr (run Pr (k + 1))) bl [.for (.nm 5) .range1 [(.lit (.int 2))] [.asg (.nm (.nm 8)) (.call 16 false [(.var 0), (.bin .add false (.bi .len false [(.var 7)]) (.lit (.int 1)))] [0, 1]), .asg (.nm (.nm 7)) (.bin .add false (.bin .add false (.slc false (.var 7) none (some (.var 8))) (.lst false [(.var 3)])) (.slc false (.var 7) (some (.var 8)) none))]] [some (.obj 0), some (.int most), some (.int sk), some (.int c), o4, o5, some (.int many), some (.lst (em .int row)), o8] [j]).Al P X := by
  have hl := hr.len
  have h0 := hr.1
  simp -implicitDefEqProofs (disch := first | assumption | (simp; done) | omega | (simp; omega)) [permute, permG]
  obtain ⟨I, hI⟩ : ∃ I : List Int → Slots → Store → Prop, ∀ pre env S, I pre env S ↔ ∃ j' bb' row' o5 o8, S = [j'] ∧ Jugs bb' j' ∧ b + 2 ≤ bb' + pre.length ∧ env = [some (.obj 0), some (.int most), some (.int sk), some (.int c), o4, o5, some (.int many), some (.lst (em .int row')), o8] ∧ row'.Perm (List.replicate pre.length c ++ row) := ⟨_, fun _ _ _ => Iff.rfl⟩
  rw [Al_bnd]
  refine flp_all I (fun pre a env S hp h => ?_) (fun env S h => ?_) ((hI _ _ _).mpr ⟨j, bb, row, _, _, rfl, hj, hb, rfl, by simp⟩)
  · obtain ⟨j', bb', row', o5, o8, rfl, hj', hb', rfl, hq⟩ := (hI _ _ _).mp h
    have hl3 := hp.length_le
    have hl4 := hq.length_eq
    simp at hl3 hl4
    simp -implicitDefEqProofs (disch := first | assumption | (simp; done) | omega | (simp; omega)) [permute, permG]
    simp only [Al_bnd, Al_stb, Al_nox]
    refine take_all (b := bb' - 1) (hj'.le (by omega)) (by omega) (by omega) (by simp) fun v j2 h1 h2 hj2 => ?_
    simp -implicitDefEqProofs (disch := first | assumption | (simp; done) | omega | (simp; omega)) [permute, permG]
    refine (hI _ _ _).mpr ⟨j2, bb' - 1, _, _, _, rfl, hj2, by simp; omega, rfl, ?_⟩
    rw [List.length_append, List.length_singleton, List.replicate_succ, List.cons_append]
    exact jperm_in.trans (hq.cons c)
  · obtain ⟨j', bb', row', o5, o8, rfl, hj', hb', rfl, hq⟩ := (hI _ _ _).mp h
    have e : (irange 0 2).length = 2 := rfl
    rw [e] at hb' hq
    simp -implicitDefEqProofs (disch := first | assumption | (simp; done) | omega | (simp; omega)) [permute, permG]
    exact hP _ _ _ _ (hr.add hq) (hj'.le (by omega))
theorem irange_pre {pre : List Int} {a many : Int} (h : pre ++ [a] <+: irange 0 many) : a = pre.length ∧ (pre.length : Int) < many := by
  obtain ⟨t, ht⟩ := h
  have hl := congrArg List.length ht
  have e := congrArg (fun l : List Int => l[pre.length]?) ht
  simp [irange] at e hl
  have h3 : pre.length < many.toNat := by omega
  simp [h3] at e
  omega
@[simp] theorem em_snoc_row {xs : List (List Int)} {r : List Int} {rs : List D} : em tI xs ++ (D.tup (em .int r) :: rs) = em tI (xs ++ [r]) ++ rs := by simp [em]
theorem flat_append {α : Type} {xs ys : List (List α)} : flat (xs ++ ys) = flat xs ++ flat ys := by simp [flat]
/-- drawn rows, from a jug -/
theorem jlawrows_all {Q : D → Store → Prop} {X : Exc → Store → Prop} {most sk : Int} {bb b : Nat} {j : D} (h0 : 0 ≤ most) (hm : most ≤ 100) (hs : 0 < sk) (hs2 : sk ≤ 100) (hj : Jugs bb j) (hb : (b : Int) + 2 * most + sk + 2 ≤ bb)
    (hP : ∀ rows many j', RowP (flat rows) many → many ≤ most → 1 ≤ rows.length → (rows.length : Int) ≤ sk → Jugs b j' → Q (.tup (em tI rows)) [j']) : (callD (run Pr (k + 2)) 18 false [.obj 0, .int most, .int sk] [j]).Al Q X := by
  refine callD_obj (P := Pr) (k := k + 1) (i := 18) (b := b_18) (np := 3) (nl := 9) (by rfl) (by rfl) (by rfl) (by simp [D.pu]) ?_
  simp -implicitDefEqProofs (disch := first | assumption | (simp; done) | omega | (simp; omega)) [permute, permG, b_18]
  simp only [Al_bnd, Al_stb, Al_nox]
  refine take_all (b := bb - 1) (hj.le (by omega)) (by omega) (by omega) (by simp) fun many j1 hm0 hm1 hj1 => ?_
  simp -implicitDefEqProofs (disch := first | assumption | (simp; done) | omega | (simp; omega)) [permute, permG, -evS_for]
  simp only [Al_bnd, Al_stb, Al_nox]
  rw [evS_for]
  simp -implicitDefEqProofs (disch := first | assumption | (simp; done) | omega | (simp; omega)) [permute, permG]
  obtain ⟨I, hI⟩ : ∃ I : List Int → Slots → Store → Prop, ∀ pre env S, I pre env S ↔ ∃ j' bb' row o3 o5 o8, S = [j'] ∧ Jugs bb' j' ∧ (b : Int) + 2 * (many - pre.length) + sk + 1 ≤ bb' ∧ env = [some (.obj 0), some (.int most), some (.int sk), o3, none, o5, some (.int many), some (.lst (em .int row)), o8] ∧ RowP row pre.length := ⟨_, fun _ _ _ => Iff.rfl⟩
  refine flp_all I (fun pre a env S hp h => ?_) (fun env S h => ?_) ((hI _ _ _).mpr ⟨j1, bb - 1, [], _, _, _, rfl, hj1, by simp; omega, rfl, RowP.zero⟩)
  · obtain ⟨j', bb', row, o3, o5, o8, rfl, hj', hb', rfl, hr⟩ := (hI _ _ _).mp h
    obtain ⟨rfl, hlt⟩ := irange_pre hp
    rw [npSet_nm, opt_some]
    refine jrow_cross (b := bb' - 2) hr (by omega) hj' (by omega) fun row' j2 o5 o8 hr2 hj2 => ?_
    refine ⟨rfl, (hI _ _ _).mpr ⟨j2, bb' - 2, row', _, _, _, rfl, hj2, by simp; omega, rfl, by simpa using hr2⟩⟩
  · obtain ⟨j', bb', row, o3, o5, o8, rfl, hj', hb', rfl, hr⟩ := (hI _ _ _).mp h
    have hlm : ((irange 0 many).length : Int) = many := by simp; omega
    rw [hlm] at hb' hr
    have hl := hr.len
    simp -implicitDefEqProofs (disch := first | assumption | (simp; done) | omega | (simp; omega)) [permute, permG]
    simp only [Al_bnd, Al_stb, Al_nox]
    refine take_all (b := bb' - 1) (hj'.le (by omega)) (by omega) (by omega) (by simp) fun n j2 n0 n1 hj2 => ?_
    simp -implicitDefEqProofs (disch := first | assumption | (simp; done) | omega | (simp; omega)) [permute, permG]
    obtain ⟨I2, hI2⟩ : ∃ I : List Int → Slots → Store → Prop, ∀ pre env S, I pre env S ↔ ∃ j' bb2 fs r o5 o8, S = [j', .lst (em tI fs)] ∧ Jugs bb2 j' ∧ (b : Int) + n ≤ bb2 + pre.length ∧ env = [some (.obj 0), some (.int most), some (.int sk), o3, some (.obj 1), o5, some (.int many), some (.lst (em .int r)), o8] ∧ flat fs ++ r = row ∧ fs.length = pre.length := ⟨_, fun _ _ _ => Iff.rfl⟩
    refine flp_all I2 (fun pre a env S hp h => ?_) (fun env S h => ?_) ((hI2 _ _ _).mpr ⟨j2, bb' - 1, [], row, _, _, rfl, hj2, by simp; omega, rfl, rfl, rfl⟩)
    · obtain ⟨j3, bb3, fs, r, o5, o8, rfl, hj3, hb3, rfl, hf, hl2⟩ := (hI2 _ _ _).mp h
      have hl3 := hp.length_le
      simp at hl3
      have hr2 : r.length ≤ row.length := by rw [← hf]; simp
      simp -implicitDefEqProofs (disch := first | assumption | (simp; done) | omega | (simp; omega)) [permute, permG]
      simp only [Al_bnd, Al_stb, Al_nox]
      refine take_all (b := bb3 - 1) (hj3.le (by omega)) (by omega) (by omega) (by simp) fun at_ j4 h1 h2 hj4 => ?_
      simp -implicitDefEqProofs (disch := first | assumption | (simp; done) | omega | (simp; omega)) [permute, permG]
      refine (hI2 _ _ _).mpr ⟨j4, bb3 - 1, fs ++ [r.take at_.toNat], r.drop at_.toNat, _, _, rfl, hj4, by simp; omega, rfl, ?_, ?_⟩
      · rw [flat_append, ← hf, flat_one, List.append_assoc, List.take_append_drop]
      · simp
        omega
    · obtain ⟨j3, bb3, fs, r, o5, o8, rfl, hj3, hb3, rfl, hf, hl2⟩ := (hI2 _ _ _).mp h
      have hr2 : r.length ≤ row.length := by rw [← hf]; simp
      have hln : ((irange 0 n).length : Int) = n := by simp; omega
      rw [hln] at hb3
      simp at hl2
      simp -implicitDefEqProofs (disch := first | assumption | (simp; done) | omega | (simp; omega)) [permute, permG]
      refine ⟨[j3], ⟨[_], rfl⟩, rfl, by simp [pus, hj3.pu], hP (fs ++ [r]) many j3 ?_ (by omega) (by simp) (by simp; omega) (hj3.le (by omega))⟩
      rw [flat_append, flat_one, hf]
      exact hr
/-- drawn turns, from a jug -/
theorem jlawturns_all {Q : D → Store → Prop} {X : Exc → Store → Prop} {many : Int} {bb b : Nat} {j : D} (h0 : 0 ≤ many) (hm : many ≤ 100) (hj : Jugs bb j) (hb : (b : Int) + many ≤ bb)
    (hP : ∀ ts j', (ts.length : Int) = many → (∀ t ∈ ts, t = 1 ∨ t = -1) → Jugs b j' → Q (.tup (em .int ts)) [j']) : (callD (run Pr (k + 2)) 19 false [.obj 0, .int many] [j]).Al Q X := by
  refine callD_obj (P := Pr) (k := k + 1) (i := 19) (b := b_19) (np := 2) (nl := 3) (by rfl) (by rfl) (by rfl) (by simp [D.pu]) ?_
  simp -implicitDefEqProofs (disch := first | assumption | (simp; done) | omega | (simp; omega)) [permute, permG, -clp_em, -clp_raw, b_19]
  simp only [Al_bnd, Al_stb, Al_nox]
  obtain ⟨I, hI⟩ : ∃ I : List Int → List D → Store → Prop, ∀ pre acc S, I pre acc S ↔ ∃ j' bb' ts, S = [j'] ∧ Jugs bb' j' ∧ (b : Int) + many ≤ bb' + pre.length ∧ acc = em .int ts ∧ ts.length = pre.length ∧ ∀ t ∈ ts, t = 1 ∨ t = -1 := ⟨_, fun _ _ _ => Iff.rfl⟩
  refine clp_all I (fun pre a acc S hp h => ?_) (fun acc S h => ?_) ((hI _ _ _).mpr ⟨j, bb, [], rfl, hj, by simpa using hb, rfl, rfl, by simp⟩)
  · obtain ⟨j', bb', ts, rfl, hj', hb', rfl, hl, ht⟩ := (hI _ _ _).mp h
    obtain ⟨rfl, hlt⟩ := irange_pre hp
    simp -implicitDefEqProofs (disch := first | assumption | (simp; done) | omega | (simp; omega)) [permute, permG]
    simp only [Al_bnd, Al_stb, Al_nox]
    refine take_all (b := bb' - 1) (hj'.le (by omega)) (by omega) (by omega) (by simp) fun v j2 h1 h2 hj2 => ?_
    simp -implicitDefEqProofs (disch := first | assumption | (simp; done) | omega | (simp; omega)) [permute, permG]
    refine (hI _ _ _).mpr ⟨j2, bb' - 1, ts ++ [2 * v - 1], rfl, hj2, by simp; omega, rfl, by simp [hl], fun t htm => ?_⟩
    rcases List.mem_append.mp htm with h | h
    · exact ht t h
    · simp at h
      omega
  · obtain ⟨j', bb', ts, rfl, hj', hb', rfl, hl, ht⟩ := (hI _ _ _).mp h
    have hln : ((irange 0 many).length : Int) = many := by simp; omega
    rw [hln] at hb'
    have hl' : (ts.length : Int) = many := by omega
    simp -implicitDefEqProofs (disch := first | assumption | (simp; done) | omega | (simp; omega)) [permute, permG]
    exact ⟨[j'], ⟨[], rfl⟩, rfl, by simp [pus, hj'.pu], hP ts j' hl' ht (hj'.le (by omega))⟩
end

end Law

namespace Law
open PySem Ic
section
variable {k : Nat} {S : Store}
theorem withinD_no (lo hi : Int) : ∀ d : D, (∀ i, d ≠ .int i) → withinD lo hi d = false
  | .int i, h => absurd rfl (h i)
  | .non, _ | .bl _, _ | .str _, _ | .tup _, _ | .lst _, _ | .scr _, _ | .dct _, _ | .set _, _ | .ins _ _, _ | .rng, _ | .obj _, _ => rfl
theorem isInt_no : ∀ d : D, (∀ i, d ≠ .int i) → isInt d = false
  | .int i, h => absurd rfl (h i)
  | .non, _ | .bl _, _ | .str _, _ | .tup _, _ | .lst _, _ | .scr _, _ | .dct _, _ | .set _, _ | .ins _ _, _ | .rng, _ | .obj _, _ => rfl
/-- how a thing can be -/
theorem judged_cases {d : D} {n : Nat} (h : d.ok (n + 2) = true) : (∃ rs, d = .tup rs ∧ oks (n + 1) rs = true) ∨ ((∀ rs, d ≠ .tup rs) ∧ jr d = false) := by
  cases d <;> first | (right; exact ⟨fun _ h => (by cases h), rfl⟩) | skip
  rename_i rs
  left
  exact ⟨rs, rfl, by simpa using h⟩
theorem flat_ok {n : Nat} {xss : List (List D)} (h : oks (n + 1) (em D.tup xss) = true) : ∀ e ∈ flat xss, e.ok n = true := by
  intro e he
  obtain ⟨xs, hx, hm⟩ := List.mem_flatten.mp he
  have := oks_of_mem h (x := .tup xs) (List.mem_map_of_mem hx)
  rw [ok_tup] at this
  exact oks_of_mem this hm
theorem is_rows_j {d : D} (h : d.ok 12 = true) (hs : ∀ rs, d = .tup rs → rs.length ≤ 1000 ∧ ∀ xss, tupsD rs = some xss → (flat xss).length ≤ 1000) : callD (run Pr (k + 4)) 5 false [d] S = .ret (.bl (jr d)) S := by
  have hp := ok_pu _ _ h
  rcases judged_cases h with ⟨rs, rfl, hk⟩ | ⟨hn, hj⟩
  · obtain ⟨hl, hfl⟩ := hs rs rfl
    have hpr : pus rs = true := by simpa using hp
    have hok : (D.tup rs).ok 40 = true := by
      have := h
      have m : ∀ j, (D.tup rs).ok (12 + j) = true := fun j => by
        induction j with
        | zero => exact h
        | succ j ih => exact D.ok_mono _ _ ih
      exact m 28
    have hT : ∀ a ∈ rs, isTy .tup a = some (isTupB a) := fun a ha => isTy_tupB (oks_of_mem hk ha)
    have hV : ∀ a ∈ rs, ∀ S, view S a = a := fun a ha S => ok_view (oks_of_mem hk ha) S
    have key : ∀ S, callD (run Pr (k + 3)) 4 false [.tup rs, .int 12] S = .ret (.bl (!rs.isEmpty && jrT rs)) S := by
      intro S
      cases ht : tupsD rs with
      | none =>
        have hb := tupsD_none ht
        have hne := tupsD_ne ht
        rw [callD_eq rfl rfl rfl (by simp [hpr])]
        simp -implicitDefEqProofs (disch := first | assumption | (simp; done) | omega | (simp; omega)) [permute, permG, b_4, hT, hV, hb, hne, jrT_none ht]
      | some xss =>
        have hrs := tupsD_some ht
        subst hrs
        have hf := hfl xss ht
        have hf' : (xss.flatMap fun a => a).length ≤ 16777216 := by rw [flatMap_raw]; omega
        have hE := flat_ok hk
        have hE1 : ∀ e ∈ flat xss, e.pu = true := fun e he => ok_pu _ _ (hE e he)
        have hE2 : ∀ e ∈ flat xss, (isTy .int e).isSome = true := fun e he => ok_isTy (hE e he) _
        have hlx : xss.length ≤ 1000 := by simpa using hl
        cases hi : intsOf (flat xss) with
        | none =>
          have hw := fun lo hi' => intsOf_none (withinD_no lo hi') hi
          rw [callD_eq rfl rfl rfl (by simp [hpr])]
          simp -implicitDefEqProofs (disch := first | assumption | exact hE1 _ ‹_› | exact hE2 _ ‹_› | (simp; done) | omega | (simp; omega)) [permute, permG, b_4, hw, jrT_some ht hi]
        | some ns =>
          have hns := intsOf_some hi
          have hln : ns.length ≤ 1000 := by rw [hns] at hf; simpa using hf
          rw [callD_eq rfl rfl rfl (by simp [hpr])]
          simp -implicitDefEqProofs (disch := first | assumption | (simp; done) | omega | (simp; omega)) [permute, permG, b_4, hns, rowsV_prog, jrT_ints ht hi]
    rw [callD_eq rfl rfl rfl (by simp [hpr])]
    simp -implicitDefEqProofs (disch := first | assumption | (simp; done) | omega | (simp; omega)) [permute, permG, b_5, key, hpr, jr_tup]
    cases hz : rs with
    | nil => simp
    | cons a r => simp
  · rw [callD_eq rfl rfl rfl (by simp [hp])]
    have hrow : ∀ S, callD (run Pr (k + 3)) 3 false [d, .int 1, .int 4] S = .ret (.bl false) S := by
      intro S
      have hT := isTy_tupB h
      have hB : isTupB d = false := by cases d <;> first | rfl | exact absurd rfl (hn _)
      have hV := ok_view h
      rw [callD_eq rfl rfl rfl (by simp [hp])]
      simp -implicitDefEqProofs (disch := first | assumption | (simp; done) | omega | (simp; omega)) [permute, permG, b_3, hT, hB, hV]
    simp -implicitDefEqProofs (disch := first | assumption | (simp; done) | omega | (simp; omega)) [permute, permG, b_5, hrow, hj]
theorem flat_nodes : ∀ {rs : List D} {xss : List (List D)}, tupsD rs = some xss → (flat xss).length ≤ nodess rs
  | [], xss, h => by
    simp only [tupsD, Option.some.injEq] at h
    subst h
    simp [flat]
  | d :: rs, xss, h => by
    cases d <;> simp only [tupsD, reduceCtorEq] at h
    rename_i xs
    obtain ⟨r, hr, rfl⟩ := Option.map_eq_some_iff.mp h
    have h1 := flat_nodes hr
    have h2 := nodess_len xs
    simp [flat] at h1 ⊢
    omega
theorem sizes {d : D} (h : d.nodes ≤ 1000) : ∀ rs, d = .tup rs → rs.length ≤ 1000 ∧ ∀ xss, tupsD rs = some xss → (flat xss).length ≤ 1000 := by
  rintro rs rfl
  simp only [nodes_tup] at h
  have h1 := nodess_len rs
  exact ⟨by omega, fun xss hx => by have := flat_nodes hx; omega⟩
theorem sizes1 {d : D} (h : d.nodes ≤ 900) : ∀ rs, D.tup [d] = .tup rs → rs.length ≤ 1000 ∧ ∀ xss, tupsD rs = some xss → (flat xss).length ≤ 1000 := sizes (by simp; omega)
end

end Law

namespace Law
open PySem Ic
@[simp] theorem below_0_0 : Pr.below 0 0 = true := rfl
@[simp] theorem below_0_1 : Pr.below 0 1 = false := rfl
@[simp] theorem below_0_2 : Pr.below 0 2 = false := rfl
@[simp] theorem below_0_3 : Pr.below 0 3 = false := rfl
@[simp] theorem below_0_4 : Pr.below 0 4 = false := rfl
@[simp] theorem below_1_0 : Pr.below 1 0 = true := rfl
@[simp] theorem below_1_1 : Pr.below 1 1 = true := rfl
@[simp] theorem below_1_2 : Pr.below 1 2 = false := rfl
@[simp] theorem below_1_3 : Pr.below 1 3 = false := rfl
@[simp] theorem below_1_4 : Pr.below 1 4 = false := rfl
@[simp] theorem below_2_0 : Pr.below 2 0 = true := rfl
@[simp] theorem below_2_1 : Pr.below 2 1 = false := rfl
@[simp] theorem below_2_2 : Pr.below 2 2 = true := rfl
@[simp] theorem below_2_3 : Pr.below 2 3 = false := rfl
@[simp] theorem below_2_4 : Pr.below 2 4 = false := rfl
@[simp] theorem below_3_0 : Pr.below 3 0 = true := rfl
@[simp] theorem below_3_1 : Pr.below 3 1 = false := rfl
@[simp] theorem below_3_2 : Pr.below 3 2 = false := rfl
@[simp] theorem below_3_3 : Pr.below 3 3 = true := rfl
@[simp] theorem below_3_4 : Pr.below 3 4 = false := rfl
@[simp] theorem below_4_0 : Pr.below 4 0 = true := rfl
@[simp] theorem below_4_1 : Pr.below 4 1 = false := rfl
@[simp] theorem below_4_2 : Pr.below 4 2 = false := rfl
@[simp] theorem below_4_3 : Pr.below 4 3 = false := rfl
@[simp] theorem below_4_4 : Pr.below 4 4 = true := rfl
@[simp] theorem fit_0 : PySem.PyData.strOk ("icetracks.errors" : Str) = true := by decide +kernel
@[simp] theorem fit_1 : PySem.PyData.strOk ("icetracks.names" : Str) = true := by decide +kernel
@[simp] theorem fit_2 : PySem.PyData.strOk ("icetracks.rows" : Str) = true := by decide +kernel
@[simp] theorem fit_3 : PySem.PyData.strOk ("icetracks.drawings" : Str) = true := by decide +kernel
@[simp] theorem fit_4 : PySem.PyData.strOk ("icetracks.darts" : Str) = true := by decide +kernel
@[simp] theorem fit_5 : PySem.PyData.strOk ("straight" : Str) = true := by decide +kernel
@[simp] theorem fit_6 : PySem.PyData.strOk ("left" : Str) = true := by decide +kernel
@[simp] theorem fit_7 : PySem.PyData.strOk ("right" : Str) = true := by decide +kernel
@[simp] theorem fit_8 : PySem.PyData.strOk ("told" : Str) = true := by decide +kernel
@[simp] theorem fit_9 : PySem.PyData.strOk ("this is no crossing" : Str) = true := by decide +kernel
@[simp] theorem fit_10 : PySem.PyData.strOk ("this is no dart" : Str) = true := by decide +kernel
@[simp] theorem fit_11 : PySem.PyData.strOk ("drawing" : Str) = true := by decide +kernel
@[simp] theorem fit_12 : PySem.PyData.strOk ("crossing" : Str) = true := by decide +kernel
@[simp] theorem fit_13 : PySem.PyData.strOk ("dart" : Str) = true := by decide +kernel
@[simp] theorem fit_14 : PySem.PyData.strOk ("way" : Str) = true := by decide +kernel
@[simp] theorem fit_15 : PySem.PyData.strOk ("other" : Str) = true := by decide +kernel
@[simp] theorem fit_16 : PySem.PyData.strOk ("Left" : Str) = true := by decide +kernel
@[simp] theorem fit_17 : PySem.PyData.strOk ("" : Str) = true := by decide +kernel
section
variable {k : Nat} {S : Store}
/-- a turn -/
def trn : D → Bool
  | .int i => decide (i = 1) || decide (i = -1)
  | _ => false
/-- what is a drawing -/
def jd : D → Bool
  | .tup [.tup rs, .tup ts] => jr (.tup rs) && (decide ((ts.length : Int) = ((flat ((tupsD rs).getD [])).length : Int) / 2) && ts.all trn)
  | _ => false
theorem jr_shape {a : D} (h : jr a = true) : ∃ xss ns, a = .tup (em D.tup xss) ∧ tupsD (em D.tup xss) = some xss ∧ flat xss = em .int ns ∧ rowsV ns = true ∧ 1 ≤ xss.length ∧ xss.length ≤ 4 := by
  cases a <;> first | (cases h; done) | skip
  rename_i rs
  rw [jr_tup] at h
  simp only [Bool.and_eq_true, decide_eq_true_eq] at h
  obtain ⟨⟨h1, h2⟩, h3⟩ := h
  cases ht : tupsD rs with
  | none => rw [jrT_none ht] at h3; cases h3
  | some xss =>
    have e := tupsD_some ht
    subst e
    cases hi : intsOf (flat xss) with
    | none => rw [jrT_some ht hi] at h3; cases h3
    | some ns =>
      rw [jrT_ints ht hi] at h3
      simp at h1 h2
      exact ⟨xss, ns, rfl, ht, intsOf_some hi, h3, by omega, by omega⟩
theorem is_row_t {xs : List D} {lo hi : Int} (hp : pus xs = true) (hl : xs.length ≤ 1000000) : callD (run Pr (k + 1)) 3 false [.tup xs, .int lo, .int hi] S = .ret (.bl (decide (lo ≤ (xs.length : Int) ∧ (xs.length : Int) ≤ hi))) S := by
  rw [callD_eq rfl rfl rfl (by simp [hp])]
  simp -implicitDefEqProofs (disch := first | assumption | (simp; done) | omega | (simp; omega)) [permute, permG, b_3]
def inT (e : D) : Bool := (D.int 1).eqv e || (D.int (-1)).eqv e
theorem in_turns {e : D} (h : e.flat = true) : isIn e (.tup [.int 1, .int (-1)]) = some (inT e) := by
  have h1 : (D.int 1).flat = true := rfl
  have h2 : (D.int (-1)).flat = true := rfl
  simp [isIn, h, h1, h2, inT]
theorem in_turns2 {e : D} (h : e.flat = true) : isIn e (.tup [.int (-1), .int 1]) = some (inT e) := by
  have h1 : (D.int 1).flat = true := rfl
  have h2 : (D.int (-1)).flat = true := rfl
  simp [isIn, h, h1, h2, inT, Bool.or_comm]
theorem trn_eq {e : D} : (isInt e && inT e) = trn e := by
  cases e <;> first | rfl | skip
  rename_i i
  rw [Bool.eq_iff_iff]
  simp [isInt, inT, trn, D.eqv]
  omega
theorem sum_lens : ∀ xss : List (List D), (xss.map fun a => (a.length : Int)).sum = ((flat xss).length : Int)
  | [] => rfl
  | xs :: xss => by
    rw [List.map_cons, List.sum_cons, sum_lens xss]
    simp [flat]
theorem is_drawing_j {d : D} (h : d.ok 13 = true) (hs : d.nodes ≤ 1000) (hfl : ∀ a ts, d = .tup [a, .tup ts] → ∀ e ∈ ts, e.flat = true) : callD (run Pr (k + 5)) 11 false [d] S = .ret (.bl (jd d)) S := by
  have hp := ok_pu _ _ h
  have hT := isTy_tupB h
  have hV := ok_view h
  by_cases hsh : ∃ a b, d = .tup [a, b]
  · obtain ⟨a, b, rfl⟩ := hsh
    have hab : a.ok 12 = true ∧ b.ok 12 = true := by simpa using h
    have hpa := ok_pu _ _ hab.1
    have hpb := ok_pu _ _ hab.2
    have hna : a.nodes ≤ 1000 := by simp at hs; omega
    have hnb : b.nodes ≤ 1000 := by simp at hs; omega
    have hrows := fun S => is_rows_j (k := k) (S := S) hab.1 (sizes hna)
    have hTb := isTy_tupB hab.2
    have hVb := ok_view hab.2
    have hr2 : ∀ S, callD (run Pr (k + 4)) 3 false [.tup [a, b], .int 2, .int 2] S = .ret (.bl true) S := by
      intro S
      rw [is_row_t (k := k + 3) (by simp [hpa, hpb]) (by simp)]
      simp
    cases hja : jr a with
    | false =>
      have hjd : jd (.tup [a, b]) = false := by
        unfold jd
        split
        · rename_i e
          cases e
          rw [hja]
          rfl
        · rfl
      rw [hja] at hrows
      rw [callD_eq rfl rfl rfl (by simp [hpa, hpb])]
      simp -implicitDefEqProofs (disch := first | assumption | (simp; done) | omega | (simp; omega)) [permute, permG, b_11, hrows, hr2, hjd, hpa, hpb]
    | true =>
      obtain ⟨xss, ns, rfl, hts, hfl, hrv, hl1, hl4⟩ := jr_shape hja
      rw [hja] at hrows
      have hlx : xss.length ≤ 1000 := by omega
      have hn25 : ns.length ≤ 25 := by
        unfold rowsV at hrv
        simp at hrv
        exact hrv.1
      have hfx : (flat xss).length = ns.length := by rw [hfl]; simp
      by_cases hB : ∃ ts, b = .tup ts
      · obtain ⟨ts, rfl⟩ := hB
        have hok : oks 11 ts = true := by simpa using hab.2
        have hpt : pus ts = true := by simpa using hpb
        have hlt : ts.length ≤ 1000 := by
          have := nodess_len ts
          simp at hnb
          omega
        have hrt : ∀ S m, callD (run Pr (k + 4)) 3 false [.tup ts, .int m, .int m] S = .ret (.bl (decide (m ≤ (ts.length : Int) ∧ (ts.length : Int) ≤ m))) S := fun S m => is_row_t (k := k + 3) hpt (by omega)
        have e1 : ∀ e ∈ ts, e.pu = true := fun e he => ok_pu _ _ (oks_of_mem hok he)
        have e2 : ∀ e ∈ ts, (isTy .int e).isSome = true := fun e he => ok_isTy (oks_of_mem hok he) _
        rw [callD_eq rfl rfl rfl (by simp [hpa, hpt])]
        have hflt := hfl _ _ rfl
        have hVt : ∀ e ∈ ts, ∀ S, view S e = e := fun e he S => ok_view (oks_of_mem hok he) S
        have hin : ∀ e ∈ ts, isIn e (.tup [.int 1, .int (-1)]) = some (inT e) := fun e he => in_turns (hflt e he)
        have hjd : jd (.tup [.tup (em D.tup xss), .tup ts]) = (decide ((ts.length : Int) = ((flat xss).length : Int) / 2) && ts.all trn) := by
          show (jr _ && _) = _
          rw [hja, hts]
          rfl
        simp -implicitDefEqProofs (disch := first | assumption | exact e1 _ ‹_› | exact e2 _ ‹_› | (simp; done) | omega | (simp; omega)) [permute, permG, b_11, hrows, hr2, hpa, hpt, hrt, hVt, hin, sum_lens, hjd, trn_eq]
        have e : (decide (((flat xss).length : Int) / 2 ≤ (ts.length : Int)) && decide ((ts.length : Int) ≤ ((flat xss).length : Int) / 2)) = decide ((ts.length : Int) = ((flat xss).length : Int) / 2) := by
          rw [← Bool.decide_and]
          exact decide_eq_decide.mpr (by omega)
        rw [e]
      · have hB' : isTupB b = false := by cases b <;> first | rfl | exact absurd ⟨_, rfl⟩ hB
        have hrt : ∀ S m, callD (run Pr (k + 4)) 3 false [b, .int m, .int m] S = .ret (.bl false) S := by
          intro S m
          rw [callD_eq rfl rfl rfl (by simp [hpb])]
          simp -implicitDefEqProofs (disch := first | assumption | (simp; done) | omega | (simp; omega)) [permute, permG, b_3, hTb, hB', hVb]
        have hjd : jd (.tup [.tup (em D.tup xss), b]) = false := by
          unfold jd
          split
          · rename_i e
            cases e
            exact absurd ⟨_, rfl⟩ hB
          · rfl
        rw [callD_eq rfl rfl rfl (by simp [hpa, hpb])]
        simp -implicitDefEqProofs (disch := first | assumption | (simp; done) | omega | (simp; omega)) [permute, permG, b_11, hrows, hr2, hpa, hpb, hrt, hjd]
  · have hrow : ∀ S, callD (run Pr (k + 4)) 3 false [d, .int 2, .int 2] S = .ret (.bl false) S := by
      intro S
      have hB : isTupB d = false ∨ ∃ xs, d = .tup xs ∧ xs.length ≠ 2 := by
        cases d <;> first | (left; rfl) | skip
        rename_i xs
        right
        refine ⟨xs, rfl, fun h2 => hsh ?_⟩
        match xs, h2 with
        | [a, b], _ => exact ⟨a, b, rfl⟩
      rw [callD_eq rfl rfl rfl (by simp [hp])]
      rcases hB with hB | ⟨xs, rfl, h2⟩
      · simp -implicitDefEqProofs (disch := first | assumption | (simp; done) | omega | (simp; omega)) [permute, permG, b_3, hT, hB, hV]
      · have hp' : pus xs = true := by simpa using hp
        have hl : xs.length ≤ 1000 := by
          have := nodess_len xs
          simp at hs
          omega
        simp -implicitDefEqProofs (disch := first | assumption | (simp; done) | omega | (simp; omega)) [permute, permG, b_3, hp']
        omega
    have hjd : jd d = false := by
      unfold jd
      split
      · exact absurd ⟨_, _, rfl⟩ hsh
      · rfl
    rw [callD_eq rfl rfl rfl (by simp [hp])]
    simp -implicitDefEqProofs (disch := first | assumption | (simp; done) | omega | (simp; omega)) [permute, permG, b_11, hrow, hjd]
theorem need_drawing_j {d : D} (h : d.ok 13 = true) (hs : d.nodes ≤ 1000) (hfl : ∀ a ts, d = .tup [a, .tup ts] → ∀ e ∈ ts, e.flat = true) (hj : jd d = false) : callD (run Pr (k + 6)) 12 false [d] S = .exc ⟨2, .non⟩ S := by
  have hr := fun S => is_drawing_j (k := k) (S := S) h hs hfl
  rw [callD_eq rfl rfl rfl (by simp [ok_pu _ _ h])]
  simp -implicitDefEqProofs (disch := first | assumption | (simp; done) | omega | (simp; omega)) [permute, permG, b_12, hr, hj]
end

end Law

namespace Law
open PySem Ic
section
variable {k : Nat} {S : Store}
theorem tupsD_rows : ∀ rows : List (List Int), tupsD (em tI rows) = some (rows.map (em .int))
  | [] => rfl
  | r :: rows => by
    rw [em_cons]
    show (tupsD (em tI rows)).map _ = _
    rw [tupsD_rows rows]
    rfl
theorem flat_em : ∀ rows : List (List Int), flat (rows.map (em D.int)) = em .int (flat rows)
  | [] => rfl
  | r :: rows => by
    have := flat_em rows
    simp [flat] at this ⊢
    rw [this]
    simp [em]
theorem intsOf_em : ∀ ns : List Int, intsOf (em .int ns) = some ns
  | [] => rfl
  | n :: ns => by
    rw [em_cons]
    show (intsOf (em D.int ns)).map _ = _
    rw [intsOf_em ns]
    rfl
/-- a drawing -/
structure DrwP (rows : List (List Int)) (ts : List Int) (many : Int) : Prop where
  r : RowP (flat rows) many
  m : many ≤ 12
  h1 : 1 ≤ rows.length
  h4 : rows.length ≤ 4
  l : (ts.length : Int) = many
  t : ∀ t ∈ ts, t = 1 ∨ t = -1
theorem DrwP.rowsV {rows : List (List Int)} {ts : List Int} {many : Int} (h : DrwP rows ts many) : rowsV (flat rows) = true := by
  have hl := h.r.len
  have e2 : ((flat rows).length : Int) / 2 = many := by omega
  have hm := h.m
  have hv : Ic.rowsV (flat rows) = true := by
    unfold Ic.rowsV
    rw [e2, sortI_eq h.r.2]
    simp
    omega
  exact hv
theorem DrwP.jd {rows : List (List Int)} {ts : List Int} {many : Int} (h : DrwP rows ts many) : jd (.tup [.tup (em tI rows), .tup (em .int ts)]) = true := by
  have hl := h.r.len
  have h1 := h.h1
  have h4 := h.h4
  have hL := h.l
  show (jr _ && (_ && _)) = true
  rw [jr_tup, jrT_ints (tupsD_rows rows) (by rw [flat_em, intsOf_em]), h.rowsV, tupsD_rows]
  have e : (em D.int ts).all trn = true := by
    rw [em_all, List.all_eq_true]
    intro t ht
    rcases h.t t ht with rfl | rfl <;> rfl
  rw [e]
  simp [flat_em]
  omega
theorem nodess_rows : ∀ rows : List (List Int), nodess (em tI rows) = rows.length + (flat rows).length
  | [] => by simp [flat]
  | r :: rows => by
    rw [em_cons, nodess_cons, nodess_rows rows]
    simp [flat]
    omega
theorem is_drawing_g {rows : List (List Int)} {ts : List Int} {many : Int} (h : DrwP rows ts many) : callD (run Pr (k + 5)) 11 false [.tup [.tup (em tI rows), .tup (em .int ts)]] S = .ret (.bl true) S := by
  have hl := h.r.len
  have h4 := h.h4
  have hL := h.l
  have hm := h.m
  rw [is_drawing_j (by simp) (by simp [nodess_rows]; omega) (fun a us e u hu => ?_), h.jd]
  cases e
  obtain ⟨x, _, rfl⟩ := List.mem_map.mp hu
  rfl
end

end Law

namespace Law
open PySem Ic
section
variable {k : Nat} {S : Store}
@[simp] theorem is_int_non {i : Int} : compare .is (.int i) .non = some false := rfl
@[simp] theorem is_tup_non {xs : List D} : compare .is (.tup xs) .non = some false := rfl
theorem nodes_mem : ∀ {xs : List D} {x : D}, x ∈ xs → x.nodes ≤ nodess xs
  | y :: ys, x, hx => by
    rw [nodess_cons]
    rcases List.mem_cons.mp hx with rfl | hx
    · omega
    · have := nodes_mem hx
      omega
@[simp] theorem c_same_bl {a b : Bool} : callD (run Pr (k + 1)) 17 false [.bl a, .bl b] S = .ret (.bl (a == b)) S := by
  rw [callD_eq rfl rfl rfl (by simp)]
  simp -implicitDefEqProofs (disch := first | assumption | (simp; done) | omega | (simp; omega)) [permute, permG, b_17]
  cases a <;> cases b <;> rfl
mutual
/-- whole numbers and tuples of such -/
def smp : D → Bool
  | .int _ => true
  | .tup xs => smps xs
  | _ => false
def smps : List D → Bool
  | [] => true
  | x :: xs => smp x && smps xs
end
theorem smps_mem : ∀ {xs : List D} {x : D}, smps xs = true → x ∈ xs → smp x = true
  | y :: ys, x, h, hx => by
    simp only [smps, Bool.and_eq_true] at h
    rcases List.mem_cons.mp hx with rfl | hx
    · exact h.1
    · exact smps_mem h.2 hx
theorem same_self : ∀ (n : Nat) {k : Nat} {S : Store} {d : D}, d.ok n = true → smp d = true → d.nodes ≤ 1000 → callD (run Pr (k + n + 1)) 17 false [d, d] S = .ret (.bl true) S := by
  intro n
  induction n with
  | zero =>
    intro k S d h hs hn
    cases d <;> first | (simp [smp] at hs; done) | (simp [D.ok] at h; done) | skip
    rw [callD_eq rfl rfl rfl (by simp)]
    simp -implicitDefEqProofs (disch := first | assumption | (simp; done) | omega | (simp; omega)) [permute, permG, b_17]
  | succ n ih =>
    intro k S d h hs hn
    cases d <;> first | (simp [smp] at hs; done) | skip
    · rw [callD_eq rfl rfl rfl (by simp)]
      simp -implicitDefEqProofs (disch := first | assumption | (simp; done) | omega | (simp; omega)) [permute, permG, b_17]
    · rename_i xs
      rw [ok_tup] at h
      have hp := oks_pus _ _ h
      have hl := nodess_len xs
      simp only [nodes_tup] at hn
      have hat : ∀ i ∈ irange 0 (xs.length : Int), atI xs i = some ((xs[i.toNat]?).getD .non) := by
        intro i hi
        have hb := mem_irange.mp hi
        rw [atI_some hb.1 hb.2]
        have : i.toNat < xs.length := by omega
        simp [this]
      have hrec : ∀ i ∈ irange 0 (xs.length : Int), ∀ S, callD (run Pr (k + (n + 1))) 17 false [(xs[i.toNat]?).getD .non, (xs[i.toNat]?).getD .non] S = .ret (.bl true) S := by
        intro i hi S
        have hb := mem_irange.mp hi
        have hlt : i.toNat < xs.length := by omega
        have hm : xs[i.toNat] ∈ xs := List.getElem_mem hlt
        have e : (xs[i.toNat]?).getD .non = xs[i.toNat] := by simp [hlt]
        rw [e]
        exact ih (k := k) (oks_of_mem h hm) (smps_mem (by simpa [smp] using hs) hm) (by have := nodes_mem hm; omega)
      rw [callD_eq rfl rfl rfl (by simp [hp])]
      have hfm : (irange 0 (xs.length : Int)).filterMap (fun _ => (none : Option D)) = [] := by
        rw [List.filterMap_eq_nil_iff]
        intro a _
        rfl
      simp -implicitDefEqProofs (disch := first | assumption | (simp; done) | omega | (simp; omega)) [permute, permG, b_17, hat, hrec, hfm]
theorem smps_em : ∀ ns : List Int, smps (em .int ns) = true
  | [] => rfl
  | n :: ns => by
    rw [em_cons]
    simp [smps, smp, smps_em ns]
theorem smps_rows : ∀ rows : List (List Int), smps (em tI rows) = true
  | [] => rfl
  | r :: rows => by
    rw [em_cons]
    simp [smps, smp, smps_em, smps_rows rows]
theorem same_g {rows : List (List Int)} {ts us : List Int} {many : Int} (h : DrwP rows ts many) (hu : us.length = ts.length) : callD (run Pr (k + 10)) 17 false [.tup [.tup (em tI rows), .tup (em .int us)], .tup [.tup (em tI rows), .tup (em .int us)]] S = .ret (.bl true) S := by
  have hl := h.r.len
  have h4 := h.h4
  have hL := h.l
  have hm := h.m
  exact same_self 9 (k := k) (by simp) (by simp [smp, smps, smps_rows, smps_em]) (by simp [nodess_rows]; omega)
end

end Law

namespace Law
open PySem Ic
section
variable {k : Nat} {S : Store}
@[simp] theorem c_count_of {rows : List (List Int)} (h : rows.length ≤ 1000) : callD (run Pr (k + 1)) 7 false [.tup (em tI rows)] S = .ret (.int ((flat rows).length / 2 : Int)) S := by
  have e : (rows.map fun r => (r.length : Int)).sum = (flat rows).length := by
    induction rows with
    | nil => simp [flat]
    | cons r rows ih =>
      have := ih (by simp at h; omega)
      simp only [flat, List.map_cons, List.sum_cons, List.flatten_cons, List.length_append] at this ⊢
      omega
  rw [callD_eq rfl rfl rfl (by simp)]
  simp -implicitDefEqProofs (disch := first | assumption | (simp; done) | omega | (simp; omega)) [permute, permG, b_7, e]
/-- the lists of the places so far -/
def plL (es : List Int) (many : Nat) : List (List Int) := (List.range many).map fun (c : Nat) => plc es (c : Int)
theorem plL_set {es : List Int} {many : Nat} {x : Int} (h0 : 0 ≤ x) (h1 : x < many) : (plL es many).set x.toNat (plc es x ++ [(es.length : Int)]) = plL (es ++ [x]) many := by
  apply List.ext_getElem?
  intro i
  unfold plL
  rw [List.getElem?_set]
  by_cases hi : x.toNat = i
  · have hx : ((i : Nat) : Int) = x := by omega
    have hm : i < many := by omega
    simp [hi, hm, hx, plc_snoc]
  · by_cases hm : i < many
    · have hx : ¬ x = (i : Int) := by omega
      simp [hi, hm, plc_snoc, hx]
    · simp [hi, hm]
theorem for_pass {bl : Nat → Nat → Bool} {rows : List (List Int)} {es : List Int} {many : Nat} {a4 a5 : Option D} (hR : flat rows = es) (hl : es.length ≤ 1000) (hes : ∀ x ∈ es, 0 ≤ x ∧ x < many) :
    ∃ o2 o3, evS (rnOf Pr (run Pr (k + 1))) bl (.for (.tup [.nm 2, .nm 3]) .enum [(.call 6 false [(.var 0)] [0])] [.expr (.mth .append (.idx (.var 1) (.var 3)) [(.var 2)])]) [some (.tup (em tI rows)), some (.obj many), none, none, a4, a5] (lol (plL [] many) ++ [.lst ((List.range many).map .obj)]) =
      .ret (.nx [some (.tup (em tI rows)), some (.obj many), o2, o3, a4, a5]) (lol (plL es many) ++ [.lst ((List.range many).map .obj)]) := by
  have key := flp_fold (ok := fun S' => true) (f := fun x env S => opt (npSet S (.tup [.nm 2, .nm 3]) x env) (f := ⟨fun env' => evSs (rnOf Pr (run Pr (k + 1))) bl [.expr (.mth .append (.idx (.var 1) (.var 3)) [(.var 2)])] env' S⟩)) (σ := List (List Int) × Option D × Option D) (e := fun p : Int × Nat => .tup [.int p.2, .int p.1]) (xs := es.zipIdx) (fun _ s => [some (.tup (em tI rows)), some (.obj many), s.2.1, s.2.2, a4, a5]) (fun s => lol s.1 ++ [.lst ((List.range many).map .obj)]) (fun s p => (s.1.set p.1.toNat ((s.1[p.1.toNat]?).getD [] ++ [(p.2 : Int)]), some (.int p.2), some (.int p.1))) (fun pre s => s.1 = plL (pre.map Prod.fst) many) none (plL [] many, none, none) rfl fun pre a v s hp hI => ?_
  · have hfin : ∀ (xs : List (Int × Nat)) (s : List (List Int) × Option D × Option D) (pre : List (Int × Nat)), pre ++ xs = es.zipIdx → s.1 = plL (pre.map Prod.fst) many → (xs.foldl (fun (s : List (List Int) × Option D × Option D) p => (s.1.set p.1.toNat ((s.1[p.1.toNat]?).getD [] ++ [(p.2 : Int)]), some (D.int p.2), some (D.int p.1))) s).1 = plL es many := by
      intro xs
      induction xs with
      | nil =>
        intro s pre hp hs
        rw [List.append_nil] at hp
        rw [List.foldl_nil, hs, hp, List.zipIdx_map_fst 0 es]
      | cons a xs ih =>
        intro s pre hp hs
        rw [List.foldl_cons]
        refine ih _ (pre ++ [a]) (by simpa using hp) ?_
        obtain ⟨hx, ha, hm⟩ := zip_prefix (es := es) (pre := pre) (a := a) ⟨xs, by simpa using hp⟩
        have hb := hes _ (List.getElem_mem hx)
        have h1 : (s.1[a.1.toNat]?).getD [] = plc (pre.map Prod.fst) a.1 := by
          rw [hs, ha]
          unfold plL
          have : es[pre.length].toNat < many := by omega
          have e : ((es[pre.length].toNat : Nat) : Int) = es[pre.length] := by omega
          simp [this, e]
        have h2 : (a.2 : Int) = ((pre.map Prod.fst).length : Nat) := by rw [ha]; simp
        show s.1.set a.1.toNat ((s.1[a.1.toNat]?).getD [] ++ [(a.2 : Int)]) = _
        rw [h1, h2, hs, plL_set (by rw [ha]; exact hb.1) (by rw [ha]; exact hb.2)]
        simp
    generalize hq : es.zipIdx.foldl (fun (s : List (List Int) × Option D × Option D) p => (s.1.set p.1.toNat ((s.1[p.1.toNat]?).getD [] ++ [(p.2 : Int)]), some (D.int p.2), some (D.int p.1))) (plL [] many, none, none) = fin at key
    have h3 : fin.1 = plL es many := by rw [← hq]; exact hfin _ _ [] (by simp) rfl
    simp only [h3] at key
    refine ⟨fin.2.1, fin.2.2, ?_⟩
    have hl1 : (flat rows).length ≤ 1000000 := by rw [hR]; omega
    rw [evS_for]
    simp -implicitDefEqProofs (disch := first | assumption | (simp; done) | omega | (simp; omega)) [permute, permG, hR]
    exact key
  · obtain ⟨hx, ha, hm⟩ := zip_prefix hp
    have hb := hes _ (List.getElem_mem hx)
    obtain ⟨L, o2, o3⟩ := s
    simp only at hI
    subst hI
    have hlen : (plL (pre.map Prod.fst) many).length = many := by simp [plL]
    have hc : es[pre.length].toNat < (plL (pre.map Prod.fst) many).length := by rw [hlen]; omega
    have e : ((es[pre.length].toNat : Nat) : Int) = es[pre.length] := by omega
    have hg : (plL (pre.map Prod.fst) many)[es[pre.length].toNat] = plc (pre.map Prod.fst) es[pre.length] := by simp [plL, e]
    have hpl : (plc (pre.map Prod.fst) es[pre.length]).length ≤ 1000 := by
      have := plc_length (es := pre.map Prod.fst) (c := es[pre.length])
      have h2 := List.count_le_length (a := es[pre.length]) (l := pre.map Prod.fst)
      simp at h2
      omega
    have hgv : (lol (plL (pre.map Prod.fst) many) ++ [.lst ((List.range many).map .obj)])[many]? = some (.lst ((List.range many).map D.obj)) := by
      rw [List.getElem?_append_right (by simp [hlen])]
      simp [hlen]
    have hat : atI ((List.range many).map D.obj) es[pre.length] = some (.obj es[pre.length].toNat) := by
      rw [atI_some hb.1 (by simpa using hb.2)]
      have : es[pre.length].toNat < many := by omega
      simp [this]
    have hgv2 := lol_get (J := [.lst ((List.range many).map D.obj)]) hc
    have hap := fun v => append_lol (J := [.lst ((List.range many).map D.obj)]) (v := v) hc (by rw [hg]; omega)
    rw [hg] at hap hgv2
    have e2 : ((plL (pre.map Prod.fst) many)[es[pre.length].toNat]?).getD [] = plc (pre.map Prod.fst) es[pre.length] := by
      rw [List.getElem?_eq_getElem hc, hg]
      rfl
    refine ⟨?_, rfl, ?_⟩
    · rw [ha]
      have hlg : ∀ hh : es[pre.length].toNat < (lol (plL (pre.map Prod.fst) many)).length, (lol (plL (pre.map Prod.fst) many))[es[pre.length].toNat]'hh = D.lst (em .int (plc (pre.map Prod.fst) es[pre.length])) := fun hh => by
        simp only [lol, List.getElem_map, hg]
      simp -implicitDefEqProofs (disch := first | assumption | (simp; done) | omega | (simp; omega)) [permute, permG, hgv, hat, hgv2, hap, e2, hlg, hg]
    · rw [ha]
      have := plL_set (es := pre.map Prod.fst) hb.1 hb.2
      simp only [List.length_map] at this
      show (plL (pre.map Prod.fst) many).set es[pre.length].toNat (((plL (pre.map Prod.fst) many)[es[pre.length].toNat]?).getD [] ++ [((pre.length : Nat) : Int)]) = _
      rw [e2, this]
      simp
/-- the pairs of places -/
theorem c_passings {rows : List (List Int)} {many : Int} (h : rows.length ≤ 1000) (h2 : (flat rows).length ≤ 1000) (hr : RowP (flat rows) many) : callD (run Pr (k + 2)) 8 false [.tup (em tI rows)] S = .ret (.lst (em t2 (pls (flat rows) many))) S := by
  have h00 := hr.1
  have hlen := hr.len
  have e2 : ((flat rows).length : Int) / 2 = many := by omega
  have hmn : ((many.toNat : Nat) : Int) = many := by omega
  obtain ⟨o2, o3, hfor⟩ := for_pass (k := k) (bl := Pr.below) (rows := rows) (es := flat rows) (many := many.toNat) (a4 := none) (a5 := none) rfl h2 (fun x hx => by have := hr.mem.mp hx; omega)
  have hst : List.replicate many.toNat (D.lst []) ++ [D.lst ((List.range many.toNat).map D.obj)] = lol (plL [] many.toNat) ++ [D.lst ((List.range many.toNat).map D.obj)] := by
    congr 1
    unfold lol plL
    apply List.ext_getElem?
    intro i
    by_cases hi : i < many.toNat <;> simp [hi, plc]
  have hcomp : evE (rnOf Pr (run Pr (k + 1))) (.comp true [3] (.lst true []) (.nm 3) .range1 [(.call 7 false [(.var 0)] [0])] []) [some (.tup (em tI rows)), none, none, none, none, none] [] = .ret (.obj many.toNat) (lol (plL [] many.toNat) ++ [D.lst ((List.range many.toNat).map D.obj)]) := by
    rw [evE_cmpr]
    simp -implicitDefEqProofs (disch := first | assumption | (simp; done) | omega | (simp; omega)) [permute, permG, -clp_em, -clp_raw, e2]
    rw [clp_lists]
    · rw [← hst]
      simp -implicitDefEqProofs (disch := first | assumption | (simp; done) | omega | (simp; omega)) [permute, permG, List.range_eq_range']
    · intro a S
      simp -implicitDefEqProofs (disch := first | assumption | (simp; done) | omega | (simp; omega)) [permute, permG]
    · intro S
      rfl
    · simp
      omega
  have hlen2 : (plL (flat rows) many.toNat).length = many.toNat := by simp [plL]
  have hgv : (lol (plL (flat rows) many.toNat) ++ [.lst ((List.range many.toNat).map .obj)])[many.toNat]? = some (.lst ((List.range many.toNat).map D.obj)) := by
    rw [List.getElem?_append_right (by simp [hlen2])]
    simp [hlen2]
  have hret : evE (rnOf Pr (run Pr (k + 1))) (.comp false [4, 5] (.tup [(.var 4), (.var 5)]) (.tup [.nm 4, .nm 5]) .val [(.var 1)] []) [some (.tup (em tI rows)), some (.obj many.toNat), o2, o3, none, none] (lol (plL (flat rows) many.toNat) ++ [.lst ((List.range many.toNat).map .obj)]) =
      .ret (.lst (em t2 (pls (flat rows) many))) (lol (plL (flat rows) many.toNat) ++ [.lst ((List.range many.toNat).map .obj)]) := by
    have hst2 := still_same hgv beqs_objs
    have hobjs : (List.range many.toNat).map D.obj = em D.obj (List.range many.toNat) := rfl
    rw [evE_cmpr]
    simp -implicitDefEqProofs (disch := first | assumption | (simp; done) | omega | (simp; omega)) [permute, permG, hgv, hobjs, -clp_em, -clp_raw]
    rw [clp_at (fun c : Nat => t2 (((plc (flat rows) (c : Int))[0]?).getD 0, ((plc (flat rows) (c : Int))[1]?).getD 0))]
    · have e3 : em (fun c : Nat => t2 (((plc (flat rows) (c : Int))[0]?).getD 0, ((plc (flat rows) (c : Int))[1]?).getD 0)) (List.range many.toNat) = em t2 (pls (flat rows) many) := by
        unfold pls em irange
        rw [List.map_map, List.map_map]
        simp only [Int.sub_zero]
        refine List.map_congr_left fun c _ => ?_
        simp
      rw [e3]
      have e4 : (pls (flat rows) many).length ≤ 1000 := by
        unfold pls
        simp
        omega
      simp -implicitDefEqProofs (disch := first | assumption | (simp; done) | omega | (simp; omega)) [permute, permG]
    · exact hst2
    · intro c hc
      have hc' : c < many.toNat := by simpa using hc
      have hg := lol_get (L := plL (flat rows) many.toNat) (J := [.lst ((List.range many.toNat).map D.obj)]) (c := c) (by rw [hlen2]; exact hc')
      have hg2 : (plL (flat rows) many.toNat)[c]'(by rw [hlen2]; exact hc') = plc (flat rows) (c : Int) := by simp [plL]
      rw [hg2, plc_two (hr.count (by omega) (by omega))] at hg
      have hg' : (lol (plL (flat rows) many.toNat) ++ [.lst ((List.range many.toNat).map D.obj)])[c]? = some (.lst [.int (((plc (flat rows) (c : Int))[0]?).getD 0), .int (((plc (flat rows) (c : Int))[1]?).getD 0)]) := hg
      have hg3 := npSet_obj (env := [some (.tup (em tI rows)), some (.obj many.toNat), o2, o3, none, none]) (ps := [.nm 4, .nm 5]) hg'
      rw [hobjs] at hg3
      simp -implicitDefEqProofs (disch := first | assumption | (simp; done) | omega | (simp; omega)) [permute, permG, hg3]
    · simp
      omega
  rw [callD_eq rfl rfl rfl (by simp)]
  simp -implicitDefEqProofs (disch := first | assumption | (simp; done) | omega | (simp; omega)) [permute, permG, -evE_cmpr, -evS_for, b_8, hcomp, hfor, hret]
end

end Law

namespace Law
open PySem Ic
section
variable {k : Nat} {S : Store}
theorem pls_at {es : List Int} {many : Int} (h : RowP es many) {c : Int} (hc : c ∈ es) : atI (pls es many) c = some (((plc es c)[0]?).getD 0, ((plc es c)[1]?).getD 0) := by
  have hm := h.mem.mp hc
  rw [atI_some hm.1 (by unfold pls; simp; omega)]
  unfold pls irange
  have : c.toNat < (many - 0).toNat := by omega
  simp [hm.1]
  have h3 : c.toNat < many.toNat := by omega
  have h4 : ((c.toNat : Nat) : Int) = c := by omega
  simp [h3, h4]
@[simp] theorem c_flat_places {rows : List (List Int)} {many : Int} (h : rows.length ≤ 1000) (h2 : (flat rows).length ≤ 1000) (hr : RowP (flat rows) many) : callD (run Pr (k + 3)) 9 false [.tup (em tI rows)] S = .ret (.lst (em t2 (fpl (flat rows)))) S := by
  have hp := fun S => c_passings (k := k) (S := S) h h2 hr
  have hat : ∀ x ∈ (flat rows).zipIdx, atI (pls (flat rows) many) x.1 = some (((plc (flat rows) x.1)[0]?).getD 0, ((plc (flat rows) x.1)[1]?).getD 0) := fun x hx => pls_at hr (by
    obtain ⟨h1, h2⟩ := mem_zip hx
    rw [h2]
    exact List.getElem_mem h1)
  rw [callD_eq rfl rfl rfl (by simp)]
  simp -implicitDefEqProofs (disch := first | assumption | (simp; done) | omega | (simp; omega)) [permute, permG, b_9, hp, hat]
  have e : (List.map (fun x : Int × Nat => D.tup [D.int x.1, D.int (if ((plc (flat rows) x.1)[0]?).getD 0 = (x.2 : Int) then 0 else 1)]) (flat rows).zipIdx) = em t2 (fpl (flat rows)) := by
    simp [fpl, em, wh, Function.comp_def]
  rw [e]
  simp -implicitDefEqProofs (disch := first | assumption | (simp; done) | omega | (simp; omega)) [permute, permG]
theorem extend_0 {xs ys : List D} (h : xs.length + ys.length ≤ 16777216) : mth (.lst xs :: S) .extend (.obj 0) [.lst ys] = some (.non, .lst (xs ++ ys) :: S) := by simp [mth, Ic.view, h]
theorem nxtF_fold : ∀ (rows : List (List Int)) (l : List Int) (o : Option D), (rows.foldl (fun (s : List Int × Option D) r => (s.1 ++ (irange 0 r.length).map (fun k => (s.1.length : Int) + (k + 1) % (r.length : Int)), some (.int s.1.length))) (l, o)).1 = l ++ nxtF l.length rows
  | [], l, o => by simp [nxtF]
  | r :: rows, l, o => by
    rw [List.foldl_cons, nxtF_fold rows]
    simp only [nxtF, List.append_assoc]
    congr 3
    simp
@[simp] theorem c_next_place {rows : List (List Int)} (h : rows.length ≤ 1000) (h2 : (flat rows).length ≤ 1000) : callD (run Pr (k + 1)) 10 false [.tup (em tI rows)] S = .ret (.lst (em .int (nxt rows))) S := by
  have hloop := flp_fold (ok := fun S' => true) (f := fun x env S => opt (npSet S (.nm 2) x env) (f := ⟨fun env' => evSs (rnOf Pr (run Pr k)) Pr.below [.asg (.nm (.nm 3)) (.bi .len false [(.var 1)]), .expr (.mth .extend (.var 1) [(.comp false [4] (.bin .add false (.var 3) (.bin .mod false (.bin .add false (.var 4) (.lit (.int 1))) (.bi .len false [(.var 2)]))) (.nm 4) .range1 [(.bi .len false [(.var 2)])] [])])] env' S⟩)) (σ := List Int × Option D) (e := tI) (xs := rows)
    (fun v s => [some (.tup (em tI rows)), some (.obj 0), v, s.2, none]) (fun s => [.lst (em .int s.1)]) (fun s r => (s.1 ++ (irange 0 r.length).map (fun k => (s.1.length : Int) + (k + 1) % (r.length : Int)), some (.int s.1.length))) (fun pre s => s.1.length = (flat pre).length) none ([], none) rfl fun pre r v s hp hI => ?_
  · generalize hq : rows.foldl (fun (s : List Int × Option D) r => (s.1 ++ (irange 0 r.length).map (fun k => (s.1.length : Int) + (k + 1) % (r.length : Int)), some (.int s.1.length))) ([], none) = fin at hloop
    have h3 : fin.1 = nxt rows := by rw [← hq, nxtF_fold]; rfl
    simp only [h3, show em D.int [] = [] from rfl] at hloop
    have hn := nxt_len rows
    rw [callD_eq rfl rfl rfl (by simp)]
    simp -implicitDefEqProofs (disch := first | assumption | (simp; done) | omega | (simp; omega)) [permute, permG, -evS_for, b_10]
    rw [evS_for]
    simp -implicitDefEqProofs (disch := first | assumption | (simp; done) | omega | (simp; omega)) [permute, permG, hloop]
  · have hl : (flat pre).length + r.length ≤ (flat rows).length := by
      obtain ⟨t, ht⟩ := hp
      rw [← ht]
      simp [flat]
    have hx := fun ys (hy : s.1.length + List.length ys ≤ 16777216) => extend_0 (S := []) (xs := em .int s.1) (ys := em .int ys) (by simpa using hy)
    refine ⟨?_, rfl, by simp [flat, hI]⟩
    have hmod : ∀ a ∈ irange 0 (r.length : Int), binop .mod (.int (a + 1)) (.int (r.length : Int)) = some (.int ((a + 1) % (r.length : Int))) := fun a ha => by
      have := mem_irange.mp ha
      exact binop_mod (by omega)
    have hap : ∀ ys : List Int, em D.int s.1 ++ em D.int ys = em D.int (s.1 ++ ys) := fun ys => by simp [em]
    simp -implicitDefEqProofs (disch := first | assumption | (simp; done) | omega | (simp; omega)) [permute, permG, hx, hmod, hap]
end

end Law

namespace Law
open PySem Ic
section
variable {k : Nat} {S : Store}
@[simp] theorem globW : Pr.globs[2]? = some (.tup [.str "straight", .str "left", .str "right"]) := rfl
/-- the fields of the darts, as they are put in -/
def dI (fs : List (Nat × D)) : D := .ins 0 fs
/-- the program's places before -/
theorem loop_bef {I0 rd d : D} {nx : List Int} {r6 : D} (hr : Rot nx) (hl : nx.length ≤ 1000) : ∃ o7 o8, flp (fun _ => true) (em (fun p : Int × Nat => .tup [.int p.2, .int p.1]) nx.zipIdx) [some (.obj 0), some d, some (.obj 1), none, none, some rd, some r6, none, none, none, none, none, none, none, none, none, none, none] [I0, .lst (em .int (List.replicate nx.length 0))]
    (f := ⟨fun x env S => opt (npSet S (.tup [.nm 7, .nm 8]) x env) (f := ⟨fun env' => evSs (rnOf Pr (run Pr k)) Pr.below [.asg (.idx (.var 2) (.var 8)) (.var 7)] env' S⟩)⟩) = .ret (.nx [some (.obj 0), some d, some (.obj 1), none, none, some rd, some r6, o7, o8, none, none, none, none, none, none, none, none, none]) [I0, .lst (em .int (bef nx))] := by
  have hloop := flp_fold (ok := fun S' => true) (f := fun x env S => opt (npSet S (.tup [.nm 7, .nm 8]) x env) (f := ⟨fun env' => evSs (rnOf Pr (run Pr k)) Pr.below [.asg (.idx (.var 2) (.var 8)) (.var 7)] env' S⟩)) (σ := List Int × Option D × Option D) (e := fun p : Int × Nat => .tup [.int p.2, .int p.1]) (xs := nx.zipIdx)
    (fun v s => [some (.obj 0), some d, some (.obj 1), none, none, some rd, some r6, s.2.1, s.2.2, none, none, none, none, none, none, none, none, none]) (fun s => [I0, .lst (em .int s.1)]) (fun s p => (s.1.set p.1.toNat (p.2 : Int), some (.int p.2), some (.int p.1))) (fun pre s => s.1.length = nx.length) none (List.replicate nx.length 0, none, none) (by simp) fun pre p v s hp hI => ?_
  · have hf : ∀ (L : List (Int × Nat)) (s : List Int × Option D × Option D), (L.foldl (fun (s : List Int × Option D × Option D) p => (s.1.set p.1.toNat (p.2 : Int), some (D.int p.2), some (D.int p.1))) s).1 = L.foldl (fun B p => B.set p.1.toNat (p.2 : Int)) s.1 := by
      intro L
      induction L with
      | nil => intro s; rfl
      | cons p L ih => intro s; rw [List.foldl_cons, ih]; rfl
    have h3 := hf nx.zipIdx (List.replicate nx.length 0, none, none)
    simp only at h3
    rw [show nx.zipIdx.foldl (fun B p => B.set p.1.toNat (p.2 : Int)) (List.replicate nx.length 0) = bef nx from rfl] at h3
    rw [h3] at hloop
    exact ⟨_, _, hloop⟩
  · obtain ⟨h1, h2⟩ := mem_zip (hp.subset (show p ∈ pre ++ [p] by simp))
    have hb := hr.rng h1
    rw [← h2] at hb
    have hs := setIdx_at (S := [I0, .lst (em .int s.1)]) (n := 1) (xs := em .int s.1) (j := p.1) (d := .int p.2) rfl hb.1 (by simp; omega)
    rw [em_set] at hs
    refine ⟨?_, rfl, by simpa using hI⟩
    simp -implicitDefEqProofs (disch := first | assumption | (simp; done) | omega | (simp; omega)) [permute, permG, hs]
end

end Law

namespace Law
open PySem Ic
section
variable {k : Nat} {S : Store}
theorem loop_arms {fs : List (Nat × D)} {rd d : D} {r3 o8 : Option D} {es B ts : List Int} {many : Int} {o7 : Option D} (h : RowP es many) (hl : (ts.length : Int) = many) (hm : many ≤ 12) (ht : ∀ t ∈ ts, t = 1 ∨ t = -1) (hB : B.length = es.length) (hfs : lookF fs 0 = some (.obj (2 + ts.length))) :
    ∃ o7' o9 o11 o12 o13 o14, flp (fun _ => true) (em (fun p : Nat => .tup [.int p, .tup [.int (cr es p), .int (wh es p (cr es p))]]) (List.range es.length)) [some (.obj 0), some d, some (.obj 1), r3, none, some rd, some (.tup (em .int ts)), o7, o8, none, none, none, none, none, none, none, none, none]
      (tst [.ins 0 fs, .lst (em .int B)] (non4 ts.length) [.lst (objs 2 ts.length)]) (f := ⟨fun x env S => opt (npSet S (.tup [.nm 7, .tup [.nm 11, .nm 12]]) x env) (f := ⟨fun env' => evSs (rnOf Pr (run Pr k)) Pr.below [.asg (.tup [.nm (.nm 13), .nm (.nm 14)]) (.tup [(.bin .mul false (.lit (.int 2)) (.var 7)), (.bin .add false (.bin .mul false (.lit (.int 2)) (.idx (.var 2) (.var 7))) (.lit (.int 1)))]), .asg (.nm (.nm 9)) (.ife (.cmp (.var 12) .eq (.lit (.int 0))) (.lit (.int 0)) (.ife (.cmp (.idx (.var 6) (.var 11)) .eq (.lit (.int 1))) (.lit (.int 1)) (.lit (.int 3)))), .asg (.idx (.idx (.fld (.var 0) 0) (.var 11)) (.var 9)) (.var 13), .asg (.idx (.idx (.fld (.var 0) 0) (.var 11)) (.bin .mod false (.bin .add false (.var 9) (.lit (.int 2))) (.lit (.int 4)))) (.var 14)] env' S⟩)⟩) =
      .ret (.nx [some (.obj 0), some d, some (.obj 1), r3, none, some rd, some (.tup (em .int ts)), o7', o8, o9, none, o11, o12, o13, o14, none, none, none]) (tst [.ins 0 fs, .lst (em .int B)] ((arms es B ts).map (em D.int)) [.lst (objs 2 ts.length)]) := by
  have hlen := h.len
  have hloop := flp_fold (ok := fun S' => true) (f := fun x env S => opt (npSet S (.tup [.nm 7, .tup [.nm 11, .nm 12]]) x env) (f := ⟨fun env' => evSs (rnOf Pr (run Pr k)) Pr.below [.asg (.tup [.nm (.nm 13), .nm (.nm 14)]) (.tup [(.bin .mul false (.lit (.int 2)) (.var 7)), (.bin .add false (.bin .mul false (.lit (.int 2)) (.idx (.var 2) (.var 7))) (.lit (.int 1)))]), .asg (.nm (.nm 9)) (.ife (.cmp (.var 12) .eq (.lit (.int 0))) (.lit (.int 0)) (.ife (.cmp (.idx (.var 6) (.var 11)) .eq (.lit (.int 1))) (.lit (.int 1)) (.lit (.int 3)))), .asg (.idx (.idx (.fld (.var 0) 0) (.var 11)) (.var 9)) (.var 13), .asg (.idx (.idx (.fld (.var 0) 0) (.var 11)) (.bin .mod false (.bin .add false (.var 9) (.lit (.int 2))) (.lit (.int 4)))) (.var 14)] env' S⟩)) (σ := List (List D) × Option D × Option D × Option D × Option D × Option D × Option D) (e := fun p : Nat => .tup [.int p, .tup [.int (cr es p), .int (wh es p (cr es p))]]) (xs := List.range es.length)
    (fun v s => [some (.obj 0), some d, some (.obj 1), r3, none, some rd, some (.tup (em .int ts)), s.2.1, o8, s.2.2.1, none, s.2.2.2.1, s.2.2.2.2.1, s.2.2.2.2.2.1, s.2.2.2.2.2.2, none, none, none]) (fun s => tst [.ins 0 fs, .lst (em .int B)] s.1 [.lst (objs 2 ts.length)])
    (fun s p => (stB es ts (bk B p) (stO es ts s.1 p) p, some (.int p), some (.int (so (wh es p (cr es p)) (tu ts (cr es p)))), some (.int (cr es p)), some (.int (wh es p (cr es p))), some (.int (2 * (p : Int))), some (.int (bk B p)))) (fun pre s => Sq ts.length 4 s.1) none (non4 ts.length, o7, none, none, none, none, none) non4_sq fun pre p v s hp hI => ?_
  · have hf : ∀ (L : List Nat) (s : List (List D) × Option D × Option D × Option D × Option D × Option D × Option D), (L.foldl (fun (s : List (List D) × Option D × Option D × Option D × Option D × Option D × Option D) p => (stB es ts (bk B p) (stO es ts s.1 p) p, some (D.int p), some (D.int (so (wh es p (cr es p)) (tu ts (cr es p)))), some (D.int (cr es p)), some (D.int (wh es p (cr es p))), some (D.int (2 * (p : Int))), some (D.int (bk B p)))) s).1 = L.foldl (fun T p => stB es ts (bk B p) (stO es ts T p) p) s.1 := by
      intro L
      induction L with
      | nil => intro s; rfl
      | cons p L ih => intro s; rw [List.foldl_cons, ih]; rfl
    have h3 := hf (List.range es.length) (non4 ts.length, o7, none, none, none, none, none)
    simp only at h3
    rw [arms_prog h hl] at h3
    rw [h3] at hloop
    exact ⟨_, _, _, _, _, _, hloop⟩
  · have hpl : p < es.length := List.mem_range.mp (hp.subset (show p ∈ pre ++ [p] by simp))
    obtain ⟨T, s7, s9, s11, s12, s13, s14⟩ := s
    have hI : Sq ts.length 4 T := hI
    have hc := cr_mem h hpl
    obtain ⟨w, hw, e1, e2⟩ := pl_cases h hpl
    have hcn : (cr es p).toNat < ts.length := by omega
    have htu : tu ts (cr es p) = 1 ∨ tu ts (cr es p) = -1 := by
      have : tu ts (cr es p) = ts[(cr es p).toNat] := by simp [tu, hcn]
      rw [this]
      exact ht _ (List.getElem_mem hcn)
    have hS0 : ∀ T, (tst [.ins 0 fs, .lst (em .int B)] T [.lst (objs 2 ts.length)])[0]? = some (.ins 0 fs) := fun T => tst_pre (by simp)
    have hS1 : ∀ T, (tst [.ins 0 fs, .lst (em .int B)] T [.lst (objs 2 ts.length)])[1]? = some (.lst (em .int B)) := fun T => tst_pre (by simp)
    have hSJ : ∀ T, Sq ts.length 4 T → (tst [.ins 0 fs, .lst (em .int B)] T [.lst (objs 2 ts.length)])[2 + ts.length]? = some (.lst (objs 2 ts.length)) := fun T hT => by
      have := tst_J (pre := [.ins 0 fs, .lst (em .int B)]) (T := T) (J := [.lst (objs 2 ts.length)]) (j := 0)
      rw [hT.1] at this
      exact this
    have hat : atI (objs 2 ts.length) (cr es p) = some (.obj (2 + (cr es p).toNat)) := objs_at hc.1 (by omega)
    have hset : ∀ T j v, Sq ts.length 4 T → 0 ≤ j → j < 4 → setIdx (tst [.ins 0 fs, .lst (em .int B)] T [.lst (objs 2 ts.length)]) (.obj (2 + (cr es p).toNat)) (.int j) v = some (tst [.ins 0 fs, .lst (em .int B)] (set2 T (cr es p).toNat j.toNat v) [.lst (objs 2 ts.length)]) := fun T j v hT h0 h1 => setIdx_T (pre := [.ins 0 fs, .lst (em .int B)]) hT hcn h0 h1
    have hBp : atI B (p : Int) = some ((B[p]?).getD 0) := by
      rw [atI_nat (by omega)]
      simp [show p < B.length by omega]
    have htp : atI ts (cr es p) = some (tu ts (cr es p)) := by
      rw [atI_some hc.1 (by omega)]
      simp [tu, hcn]
    have hT1 : ∀ s v, Sq ts.length 4 (set2 T (cr es p).toNat s v) := fun s v => hI.set2
    have a0 := fun v => hset T 0 v hI (by omega) (by omega)
    have a1 := fun v => hset T 1 v hI (by omega) (by omega)
    have a3 := fun v => hset T 3 v hI (by omega) (by omega)
    have b2 := fun s u v => hset (set2 T (cr es p).toNat s u) 2 v (hT1 _ _) (by omega) (by omega)
    have b1 := fun s u v => hset (set2 T (cr es p).toNat s u) 1 v (hT1 _ _) (by omega) (by omega)
    have b3 := fun s u v => hset (set2 T (cr es p).toNat s u) 3 v (hT1 _ _) (by omega) (by omega)
    have j0 := hSJ T hI
    have j1 := fun s u => hSJ (set2 T (cr es p).toNat s u) (hT1 s u)
    refine ⟨?_, rfl, ?_⟩
    · rcases hw with rfl | rfl
      · simp -implicitDefEqProofs (disch := first | assumption | (simp; done) | omega | (simp; omega)) [permute, permG, hS0, hS1, j0, j1, hat, hBp, htp, e2, a0, b2, hfs, stB, stO, so, sb, bk]
      · rcases htu with hu | hu
        · simp -implicitDefEqProofs (disch := first | assumption | (simp; done) | omega | (simp; omega)) [permute, permG, hS0, hS1, j0, j1, hat, hBp, htp, e2, a1, b3, hfs, stB, stO, so, sb, bk, hu]
        · simp -implicitDefEqProofs (disch := first | assumption | (simp; done) | omega | (simp; omega)) [permute, permG, hS0, hS1, j0, j1, hat, hBp, htp, e2, a3, b1, hfs, stB, stO, so, sb, bk, hu]
    · exact hI.set2.set2
end

end Law

namespace Law
open PySem Ic
section
variable {k : Nat} {S : Store}
/-- behind the table: its objects, the three lists, these together -/
def JJ (n : Nat) (st : List Int × List Int × List Int) : Store := [.lst (objs 2 n), .lst (em .int st.1), .lst (em .int st.2.1), .lst (em .int st.2.2), .lst [.obj (2 + n + 1), .obj (2 + n + 2), .obj (2 + n + 3)]]
section
variable {I0 Bl : D} {T : List (List D)} {n : Nat} {st : List Int × List Int × List Int}
theorem JJ_0 : (tst [I0, Bl] T (JJ n st))[0]? = some I0 := tst_pre (by simp)
theorem JJ_J (hT : T.length = n) (j : Nat) : (tst [I0, Bl] T (JJ n st))[2 + n + j]? = (JJ n st)[j]? := by
  have := tst_J (pre := [I0, Bl]) (T := T) (J := JJ n st) (j := j)
  rw [hT] at this
  exact this
theorem JJ_setJ (hT : T.length = n) (j : Nat) (x : D) : (tst [I0, Bl] T (JJ n st)).set (2 + n + j) x = tst [I0, Bl] T ((JJ n st).set j x) := by
  have := tst_setJ (pre := [I0, Bl]) (T := T) (J := JJ n st) (j := j) (x := x)
  rw [hT] at this
  exact this
theorem JJ_s1 (hT : T.length = n) {i u : Int} (h0 : 0 ≤ i) (h1 : i < st.1.length) : setIdx (tst [I0, Bl] T (JJ n st)) (.obj (2 + n + 1)) (.int i) (.int u) = some (tst [I0, Bl] T (JJ n (st.1.set i.toNat u, st.2.1, st.2.2))) := by
  rw [setIdx_at (JJ_J hT 1) h0 (by simpa using h1), em_set, JJ_setJ hT]
  rfl
theorem JJ_s2 (hT : T.length = n) {i u : Int} (h0 : 0 ≤ i) (h1 : i < st.2.1.length) : setIdx (tst [I0, Bl] T (JJ n st)) (.obj (2 + n + 2)) (.int i) (.int u) = some (tst [I0, Bl] T (JJ n (st.1, st.2.1.set i.toNat u, st.2.2))) := by
  rw [setIdx_at (JJ_J hT 2) h0 (by simpa using h1), em_set, JJ_setJ hT]
  rfl
theorem JJ_s3 (hT : T.length = n) {i u : Int} (h0 : 0 ≤ i) (h1 : i < st.2.2.length) : setIdx (tst [I0, Bl] T (JJ n st)) (.obj (2 + n + 3)) (.int i) (.int u) = some (tst [I0, Bl] T (JJ n (st.1, st.2.1, st.2.2.set i.toNat u))) := by
  rw [setIdx_at (JJ_J hT 3) h0 (by simpa using h1), em_set, JJ_setJ hT]
  rfl
theorem JJ_row (hT : T.length = n) {c : Nat} (hc : c < n) : (tst [I0, Bl] T (JJ n st))[2 + c]? = some (.lst (T[c]'(by rw [hT]; exact hc))) := tst_row (pre := [I0, Bl]) (by rw [hT]; exact hc)
end
theorem row4_at {row : List Int} (hl : row.length = 4) (k j : Nat) : atI row (((k : Int) + (j : Int)) % 4) = some ((row[(k + j) % 4]?).getD 0) := by
  have e : ((k : Int) + (j : Int)) % 4 = (((k + j) % 4 : Nat) : Int) := by omega
  rw [e, atI_nat (by omega)]
  simp [show (k + j) % 4 < row.length by omega]
theorem loop_in {fs : List (Nat × D)} {Bl d : D} {s3 s5 s6 s7 s8 o9 s11 s12 s13 s14 s15 o16 : Option D} {T : List (List D)} {n c : Nat} {row : List Int} {m : Int} {st : List Int × List Int × List Int} (hT : T.length = n) (hc : c < n) (hrow : T[c]? = some (em .int row)) (hl : row.length = 4) (hr : ∀ v ∈ row, 0 ≤ v ∧ fl v < m) (hst : Len3 m st)
    (h4 : lookF fs 4 = some (.obj (2 + n + 1))) (h5 : lookF fs 5 = some (.obj (2 + n + 2))) (h6 : lookF fs 6 = some (.obj (2 + n + 3))) :
    ∃ o9' o16', evS (rnOf Pr (run Pr k)) Pr.below (.for (.tup [.nm 9, .nm 16]) .enum [(.var 4)] [.asg (.idx (.fld (.var 0) 4) (.bin .xor false (.var 16) (.lit (.int 1)))) (.idx (.var 4) (.bin .mod false (.bin .add false (.var 9) (.lit (.int 2))) (.lit (.int 4)))), .asg (.idx (.fld (.var 0) 5) (.bin .xor false (.var 16) (.lit (.int 1)))) (.idx (.var 4) (.bin .mod false (.bin .add false (.var 9) (.lit (.int 3))) (.lit (.int 4)))), .asg (.idx (.fld (.var 0) 6) (.bin .xor false (.var 16) (.lit (.int 1)))) (.idx (.var 4) (.bin .mod false (.bin .add false (.var 9) (.lit (.int 1))) (.lit (.int 4))))]) [some (.obj 0), some d, some (.obj 1), s3, some (.obj (2 + c)), s5, s6, s7, s8, o9, none, s11, s12, s13, s14, s15, o16, none] (tst [.ins 0 fs, Bl] T (JJ n st)) =
      .ret (.nx [some (.obj 0), some d, some (.obj 1), s3, some (.obj (2 + c)), s5, s6, s7, s8, o9', none, s11, s12, s13, s14, s15, o16', none]) (tst [.ins 0 fs, Bl] T (JJ n (wrow st row))) := by
  have hgr : ∀ st, (tst [.ins 0 fs, Bl] T (JJ n st))[2 + c]? = some (.lst (em .int row)) := fun st => by
    rw [JJ_row hT hc]
    rw [List.getElem?_eq_getElem (by omega)] at hrow
    rw [Option.some.inj hrow]
  have hit := items_enum_obj (hgr st)
  have hz : em (fun p : Int × Nat => D.tup [.int p.2, .int p.1]) row.zipIdx = em (fun k : Nat => .tup [.int k, .int ((row[k]?).getD 0)]) (List.range 4) := by
    rw [← hl]
    exact em_zip (e := fun a i => D.tup [.int i, .int a]) fun i hi => by simp [hi]
  rw [hz] at hit
  have hloop := flp_fold (ok := fun S' => still (tst [.ins 0 fs, Bl] T (JJ n st)) S' [2 + c]) (f := fun x env S => opt (npSet S (.tup [.nm 9, .nm 16]) x env) (f := ⟨fun env' => evSs (rnOf Pr (run Pr k)) Pr.below [.asg (.idx (.fld (.var 0) 4) (.bin .xor false (.var 16) (.lit (.int 1)))) (.idx (.var 4) (.bin .mod false (.bin .add false (.var 9) (.lit (.int 2))) (.lit (.int 4)))), .asg (.idx (.fld (.var 0) 5) (.bin .xor false (.var 16) (.lit (.int 1)))) (.idx (.var 4) (.bin .mod false (.bin .add false (.var 9) (.lit (.int 3))) (.lit (.int 4)))), .asg (.idx (.fld (.var 0) 6) (.bin .xor false (.var 16) (.lit (.int 1)))) (.idx (.var 4) (.bin .mod false (.bin .add false (.var 9) (.lit (.int 1))) (.lit (.int 4))))] env' S⟩)) (σ := (List Int × List Int × List Int) × Option D × Option D) (e := fun k : Nat => .tup [.int k, .int ((row[k]?).getD 0)]) (xs := List.range 4)
    (fun v s => [some (.obj 0), some d, some (.obj 1), s3, some (.obj (2 + c)), s5, s6, s7, s8, s.2.1, none, s11, s12, s13, s14, s15, s.2.2, none]) (fun s => tst [.ins 0 fs, Bl] T (JJ n s.1)) (fun s k => (wst row s.1 k, some (.int k), some (.int ((row[k]?).getD 0)))) (fun pre s => Len3 m s.1) none (st, o9, o16) hst fun pre p v s hp hI => ?_
  · have hf : ∀ (L : List Nat) (s : (List Int × List Int × List Int) × Option D × Option D), (L.foldl (fun (s : (List Int × List Int × List Int) × Option D × Option D) k => (wst row s.1 k, some (D.int k), some (D.int ((row[k]?).getD 0)))) s).1 = L.foldl (wst row) s.1 := by
      intro L
      induction L with
      | nil => intro s; rfl
      | cons p L ih => intro s; rw [List.foldl_cons, ih]; rfl
    have h3 := hf (List.range 4) (st, o9, o16)
    simp only at h3
    rw [show (List.range 4).foldl (wst row) st = wrow st row from rfl] at h3
    rw [h3] at hloop
    generalize (List.range 4).foldl (fun (s : (List Int × List Int × List Int) × Option D × Option D) k => (wst row s.1 k, some (D.int k), some (D.int ((row[k]?).getD 0)))) (st, o9, o16) = fin at hloop
    refine ⟨fin.2.1, fin.2.2, ?_⟩
    rw [evS_for]
    simp -implicitDefEqProofs (disch := first | assumption | (simp; done) | omega | (simp; omega)) [permute, permG, hit]
    exact hloop
  · have hp4 : p < 4 := List.mem_range.mp (hp.subset (show p ∈ pre ++ [p] by simp))
    obtain ⟨st1, s9, s16⟩ := s
    have hI : Len3 m st1 := hI
    obtain ⟨I1, I2, I3⟩ := hI
    have hv : (row[p]?).getD 0 = row[p] := by simp [hl, hp4]
    have hb := hr _ (List.getElem_mem (show p < row.length by omega))
    rw [← hv] at hb
    have hfl : 0 ≤ fl ((row[p]?).getD 0) := by unfold fl; omega
    have r1 : atI row (((p : Int) + 1) % 4) = _ := row4_at hl p 1
    have r2 : atI row (((p : Int) + 2) % 4) = _ := row4_at hl p 2
    have r3 : atI row (((p : Int) + 3) % 4) = _ := row4_at hl p 3
    have w1 := fun u => JJ_s1 (I0 := .ins 0 fs) (Bl := Bl) (st := st1) (u := u) hT hfl (by omega)
    have w2 := fun a u => JJ_s2 (I0 := .ins 0 fs) (Bl := Bl) (st := (a, st1.2.1, st1.2.2)) (u := u) hT hfl (by simp only; omega)
    have w3 := fun a b u => JJ_s3 (I0 := .ins 0 fs) (Bl := Bl) (st := (a, b, st1.2.2)) (u := u) hT hfl (by simp only; omega)
    have g0 := fun st => JJ_0 (I0 := .ins 0 fs) (Bl := Bl) (T := T) (n := n) (st := st)
    refine ⟨?_, still_one (hgr _) (hgr _), wst_len ⟨I1, I2, I3⟩⟩
    have hb0 := hb.1
    clear hv hb hrow hz hit
    simp only [wst]
    generalize (row[p]?).getD 0 = v0 at *
    generalize (row[(p + 1) % 4]?).getD 0 = u1 at *
    generalize (row[(p + 2) % 4]?).getD 0 = u2 at *
    generalize (row[(p + 3) % 4]?).getD 0 = u3 at *
    simp -implicitDefEqProofs (disch := first | assumption | (simp; done) | omega | (simp; omega)) [permute, permG, g0, hgr, h4, h5, h6, r1, r2, r3, w1, w2, w3]
end

end Law

namespace Law
open PySem Ic
section
variable {k : Nat} {S : Store}
theorem loop_out {fs : List (Nat × D)} {Bl d : D} {s3 s4 s5 s6 s7 s8 o9 s11 s12 s13 s14 s15 o16 : Option D} {L : List (List Int)} {n : Nat} {m : Int} (hn : L.length = n) (hl : ∀ row ∈ L, row.length = 4) (hr : ∀ row ∈ L, ∀ v ∈ row, 0 ≤ v ∧ fl v < m) (hm : 0 ≤ m)
    (h0 : lookF fs 0 = some (.obj (2 + n))) (h4 : lookF fs 4 = some (.obj (2 + n + 1))) (h5 : lookF fs 5 = some (.obj (2 + n + 2))) (h6 : lookF fs 6 = some (.obj (2 + n + 3))) :
    ∃ env, evS (rnOf Pr (run Pr k)) Pr.below (.for (.nm 4) .val [(.fld (.var 0) 0)] [.for (.tup [.nm 9, .nm 16]) .enum [(.var 4)] [.asg (.idx (.fld (.var 0) 4) (.bin .xor false (.var 16) (.lit (.int 1)))) (.idx (.var 4) (.bin .mod false (.bin .add false (.var 9) (.lit (.int 2))) (.lit (.int 4)))), .asg (.idx (.fld (.var 0) 5) (.bin .xor false (.var 16) (.lit (.int 1)))) (.idx (.var 4) (.bin .mod false (.bin .add false (.var 9) (.lit (.int 3))) (.lit (.int 4)))), .asg (.idx (.fld (.var 0) 6) (.bin .xor false (.var 16) (.lit (.int 1)))) (.idx (.var 4) (.bin .mod false (.bin .add false (.var 9) (.lit (.int 1))) (.lit (.int 4))))]]) [some (.obj 0), some d, some (.obj 1), s3, s4, s5, s6, s7, s8, o9, none, s11, s12, s13, s14, s15, o16, none] (tst [.ins 0 fs, Bl] (L.map (em D.int)) (JJ n (irange 0 m, irange 0 m, irange 0 m))) =
      .ret (.nx env) (tst [.ins 0 fs, Bl] (L.map (em D.int)) (JJ n (ways L m))) := by
  have hT : (L.map (em D.int)).length = n := by simp [hn]
  have hJ0 : ∀ st, (tst [.ins 0 fs, Bl] (L.map (em D.int)) (JJ n st))[2 + n]? = some (.lst (objs 2 n)) := fun st => JJ_J hT 0
  have hS0 : ∀ st, (tst [.ins 0 fs, Bl] (L.map (em D.int)) (JJ n st))[0]? = some (.ins 0 fs) := fun st => JJ_0
  have hz : objs 2 n = em (fun p : List Int × Nat => D.obj (2 + p.2)) L.zipIdx := by
    rw [objs_em, ← hn]
    exact (em_zip (e := fun (a : List Int) i => D.obj (2 + i)) fun i hi => rfl).symm
  have key := flp_ex (ok := fun S' => still (tst [.ins 0 fs, Bl] (L.map (em D.int)) (JJ n (irange 0 m, irange 0 m, irange 0 m))) S' [2 + n]) (f := fun x env S => opt (npSet S (.nm 4) x env) (f := ⟨fun env' => evSs (rnOf Pr (run Pr k)) Pr.below [.for (.tup [.nm 9, .nm 16]) .enum [(.var 4)] [.asg (.idx (.fld (.var 0) 4) (.bin .xor false (.var 16) (.lit (.int 1)))) (.idx (.var 4) (.bin .mod false (.bin .add false (.var 9) (.lit (.int 2))) (.lit (.int 4)))), .asg (.idx (.fld (.var 0) 5) (.bin .xor false (.var 16) (.lit (.int 1)))) (.idx (.var 4) (.bin .mod false (.bin .add false (.var 9) (.lit (.int 3))) (.lit (.int 4)))), .asg (.idx (.fld (.var 0) 6) (.bin .xor false (.var 16) (.lit (.int 1)))) (.idx (.var 4) (.bin .mod false (.bin .add false (.var 9) (.lit (.int 1))) (.lit (.int 4))))]] env' S⟩)) (e := fun p : List Int × Nat => D.obj (2 + p.2)) (xs := L.zipIdx)
    (fun st => tst [.ins 0 fs, Bl] (L.map (em D.int)) (JJ n st)) (fun st p => wrow st p.1) (fun pre st env => Len3 m st ∧ ∃ s4 o9 o16, env = [some (.obj 0), some d, some (.obj 1), s3, s4, s5, s6, s7, s8, o9, none, s11, s12, s13, s14, s15, o16, none]) (irange 0 m, irange 0 m, irange 0 m) [some (.obj 0), some d, some (.obj 1), s3, s4, s5, s6, s7, s8, o9, none, s11, s12, s13, s14, s15, o16, none] ⟨by unfold Len3; simp; omega, _, _, _, rfl⟩ fun pre p env st hp hI => ?_
  · obtain ⟨env', hloop, _⟩ := key
    have hf : ∀ (L : List (List Int × Nat)) (s : List Int × List Int × List Int), L.foldl (fun s p => wrow s p.1) s = (L.map Prod.fst).foldl wrow s := by
      intro L
      induction L with
      | nil => intro s; rfl
      | cons p L ih => intro s; rw [List.foldl_cons, ih]; rfl
    rw [hf, List.zipIdx_map_fst 0 L] at hloop
    rw [show L.foldl wrow (irange 0 m, irange 0 m, irange 0 m) = ways L m from rfl] at hloop
    refine ⟨env', ?_⟩
    rw [evS_for]
    simp -implicitDefEqProofs (disch := first | assumption | (simp; done) | omega | (simp; omega)) [permute, permG, hS0, h0, hJ0, hz]
    exact hloop
  · obtain ⟨hst, s4, o9, o16, rfl⟩ := hI
    obtain ⟨h1, h2⟩ := mem_zip (hp.subset (show p ∈ pre ++ [p] by simp))
    have hmem : p.1 ∈ L := by rw [h2]; exact List.getElem_mem h1
    have hrow : (L.map (em D.int))[p.2]? = some (em .int p.1) := by
      rw [List.getElem?_map, List.getElem?_eq_getElem h1, ← h2]
      rfl
    obtain ⟨o9', o16', e⟩ := loop_in (k := k) (d := d) (Bl := Bl) (s3 := s3) (s5 := s5) (s6 := s6) (s7 := s7) (s8 := s8) (o9 := o9) (s11 := s11) (s12 := s12) (s13 := s13) (s14 := s14) (s15 := s15) (o16 := o16) hT (by omega) hrow (hl _ hmem) (hr _ hmem) hst h4 h5 h6
    refine ⟨[some (.obj 0), some d, some (.obj 1), s3, some (.obj (2 + p.2)), s5, s6, s7, s8, o9', none, s11, s12, s13, s14, s15, o16', none], ?_, still_one (hJ0 _) (hJ0 _), wrow_len hst, _, _, _, rfl⟩
    simp -implicitDefEqProofs (disch := first | assumption | (simp; done) | omega | (simp; omega)) [permute, permG, -evS_for, e]
end

end Law

namespace Law
open PySem Ic
section
variable {k : Nat} {S : Store}
/-- how many darts -/
def dMany (rows : List (List Int)) : Int := 2 * ((flat rows).length + (rows.filter fun r => decide (r = [])).length)
/-- the arms of a drawing -/
def dArms (rows : List (List Int)) (ts : List Int) : List (List Int) := arms (flat rows) (bef (nxt rows)) ts
def dWays (rows : List (List Int)) (ts : List Int) : List Int × List Int × List Int := ways (dArms rows ts) (dMany rows)
def dF (rows : List (List Int)) : List (Nat × D) := [(2, .lst (em .int (nxt rows))), (3, .lst (em t2 (fpl (flat rows)))), (1, .int (dMany rows))]
/-- the darts of a drawing -/
def dartsD (rows : List (List Int)) (ts : List Int) : D := .ins 0 (dF rows ++ [(0, .lst ((dArms rows ts).map fun r => .lst (em .int r))), (4, .lst (em .int (dWays rows ts).1)), (5, .lst (em .int (dWays rows ts).2.1)), (6, .lst (em .int (dWays rows ts).2.2))])
def dFS (rows : List (List Int)) (n : Nat) : List (Nat × D) := dF rows ++ [(0, .obj (2 + n)), (4, .obj (2 + n + 1)), (5, .obj (2 + n + 2)), (6, .obj (2 + n + 3))]
theorem nxt_rot (rows : List (List Int)) : Rot (nxt rows) := by
  unfold Rot
  rw [nxt_len]
  exact nxt_perm rows
theorem init_run {rows : List (List Int)} {ts : List Int} {many : Int} (hD : DrwP rows ts many) : run Pr (k + 4) 25 [.obj 0, .tup [.tup (em tI rows), .tup (em .int ts)]] [.ins 0 []] =
    .ret .non (tst [.ins 0 (dFS rows ts.length), .lst (em .int (bef (nxt rows)))] ((dArms rows ts).map (em D.int)) (JJ ts.length (dWays rows ts))) := by
  have hr := hD.r
  have hlen := hr.len
  have hL := hD.l
  have hm := hD.m
  have h4 := hD.h4
  have hrot := nxt_rot rows
  have hnl := nxt_len rows
  have hfl : (fpl (flat rows)).length = (flat rows).length := by simp [fpl]
  have cn : ∀ S, callD (run Pr (k + 3)) 10 false [.tup (em tI rows)] S = .ret (.lst (em .int (nxt rows))) S := fun S => c_next_place (k := k + 2) (by omega) (by omega)
  have cf : ∀ S, callD (run Pr (k + 3)) 9 false [.tup (em tI rows)] S = .ret (.lst (em t2 (fpl (flat rows)))) S := fun S => c_flat_places (k := k) (by omega) (by omega) hr
  have e0 : evS (rnOf Pr (run Pr (k + 3))) Pr.below (.asg (.tup [.nm (.nm 5), .nm (.nm 6)]) (.var 1)) [some (.obj 0), some (.tup [.tup (em tI rows), .tup (em .int ts)]), none, none, none, none, none, none, none, none, none, none, none, none, none, none, none, none] [.ins 0 []] = .ret (.nx [some (.obj 0), some (.tup [.tup (em tI rows), .tup (em .int ts)]), none, none, none, some (.tup (em tI rows)), some (.tup (em .int ts)), none, none, none, none, none, none, none, none, none, none, none]) [.ins 0 []] := by
    simp -implicitDefEqProofs (disch := first | assumption | (simp; done) | omega | (simp; omega)) [permute, permG]
  have e1 : evS (rnOf Pr (run Pr (k + 3))) Pr.below (.asg (.fld (.var 0) 2) (.call 10 false [(.var 5)] [0])) [some (.obj 0), some (.tup [.tup (em tI rows), .tup (em .int ts)]), none, none, none, some (.tup (em tI rows)), some (.tup (em .int ts)), none, none, none, none, none, none, none, none, none, none, none] [.ins 0 []] = .ret (.nx [some (.obj 0), some (.tup [.tup (em tI rows), .tup (em .int ts)]), none, none, none, some (.tup (em tI rows)), some (.tup (em .int ts)), none, none, none, none, none, none, none, none, none, none, none]) [.ins 0 [(2, .lst (em .int (nxt rows)))]] := by
    simp -implicitDefEqProofs (disch := first | assumption | (simp; done) | omega | (simp; omega)) [permute, permG, cn]
  have e2 : evS (rnOf Pr (run Pr (k + 3))) Pr.below (.asg (.fld (.var 0) 3) (.call 9 false [(.var 5)] [0])) [some (.obj 0), some (.tup [.tup (em tI rows), .tup (em .int ts)]), none, none, none, some (.tup (em tI rows)), some (.tup (em .int ts)), none, none, none, none, none, none, none, none, none, none, none] [.ins 0 [(2, .lst (em .int (nxt rows)))]] = .ret (.nx [some (.obj 0), some (.tup [.tup (em tI rows), .tup (em .int ts)]), none, none, none, some (.tup (em tI rows)), some (.tup (em .int ts)), none, none, none, none, none, none, none, none, none, none, none]) [.ins 0 [(2, .lst (em .int (nxt rows))), (3, .lst (em t2 (fpl (flat rows))))]] := by
    simp -implicitDefEqProofs (disch := first | assumption | (simp; done) | omega | (simp; omega)) [permute, permG, cf]
  have mr : ∀ n : Nat, n ≤ 1000 → binop .mul (.lst [.int 0]) (.int (n : Int)) = some (.lst (em .int (List.replicate n 0))) := fun n hn => by
    rw [binop_mulL1 (by omega) (by omega), ← em_rep]
    simp
  have mr' := mr (nxt rows).length (by omega)
  have e3 : evS (rnOf Pr (run Pr (k + 3))) Pr.below (.asg (.nm (.nm 2)) (.bin .mul true (.lst false [(.lit (.int 0))]) (.bi .len false [(.fld (.var 0) 2)]))) [some (.obj 0), some (.tup [.tup (em tI rows), .tup (em .int ts)]), none, none, none, some (.tup (em tI rows)), some (.tup (em .int ts)), none, none, none, none, none, none, none, none, none, none, none] [.ins 0 [(2, .lst (em .int (nxt rows))), (3, .lst (em t2 (fpl (flat rows))))]] = .ret (.nx [some (.obj 0), some (.tup [.tup (em tI rows), .tup (em .int ts)]), some (.obj 1), none, none, some (.tup (em tI rows)), some (.tup (em .int ts)), none, none, none, none, none, none, none, none, none, none, none]) [.ins 0 [(2, .lst (em .int (nxt rows))), (3, .lst (em t2 (fpl (flat rows))))], .lst (em .int (List.replicate (nxt rows).length 0))] := by
    simp -implicitDefEqProofs (disch := first | assumption | (simp; done) | omega | (simp; omega)) [permute, permG, mr']
  obtain ⟨o7, o8, l4⟩ := loop_bef (k := k + 3) (I0 := .ins 0 [(2, .lst (em .int (nxt rows))), (3, .lst (em t2 (fpl (flat rows))))]) (rd := .tup (em tI rows)) (d := .tup [.tup (em tI rows), .tup (em .int ts)]) (r6 := .tup (em .int ts)) hrot (by omega)
  have e4 : evS (rnOf Pr (run Pr (k + 3))) Pr.below (.for (.tup [.nm 7, .nm 8]) .enum [(.fld (.var 0) 2)] [.asg (.idx (.var 2) (.var 8)) (.var 7)]) [some (.obj 0), some (.tup [.tup (em tI rows), .tup (em .int ts)]), some (.obj 1), none, none, some (.tup (em tI rows)), some (.tup (em .int ts)), none, none, none, none, none, none, none, none, none, none, none] [.ins 0 [(2, .lst (em .int (nxt rows))), (3, .lst (em t2 (fpl (flat rows))))], .lst (em .int (List.replicate (nxt rows).length 0))] = .ret (.nx [some (.obj 0), some (.tup [.tup (em tI rows), .tup (em .int ts)]), some (.obj 1), none, none, some (.tup (em tI rows)), some (.tup (em .int ts)), o7, o8, none, none, none, none, none, none, none, none, none]) [.ins 0 [(2, .lst (em .int (nxt rows))), (3, .lst (em t2 (fpl (flat rows))))], .lst (em .int (bef (nxt rows)))] := by
    rw [evS_for]
    simp -implicitDefEqProofs (disch := first | assumption | (simp; done) | omega | (simp; omega)) [permute, permG]
    exact l4
  have e5 : evS (rnOf Pr (run Pr (k + 3))) Pr.below (.asg (.nm (.nm 3)) (.bi .len false [(.comp false [17] (.var 17) (.nm 17) .val [(.var 5)] [(.cmp (.var 17) .eq (.tup []))])])) [some (.obj 0), some (.tup [.tup (em tI rows), .tup (em .int ts)]), some (.obj 1), none, none, some (.tup (em tI rows)), some (.tup (em .int ts)), o7, o8, none, none, none, none, none, none, none, none, none] [.ins 0 [(2, .lst (em .int (nxt rows))), (3, .lst (em t2 (fpl (flat rows))))], .lst (em .int (bef (nxt rows)))] = .ret (.nx [some (.obj 0), some (.tup [.tup (em tI rows), .tup (em .int ts)]), some (.obj 1), some (.int ((rows.filter fun r => decide (r = [])).length : Nat)), none, some (.tup (em tI rows)), some (.tup (em .int ts)), o7, o8, none, none, none, none, none, none, none, none, none]) [.ins 0 [(2, .lst (em .int (nxt rows))), (3, .lst (em t2 (fpl (flat rows))))], .lst (em .int (bef (nxt rows)))] := by
    have hfm : List.filterMap (fun a => if a = [] then some (D.tup (em D.int a)) else none) rows = em tI (rows.filter fun r => decide (r = [])) := by
      clear hD hr hlen h4 hrot hnl hfl cn cf e0 e1 e2 mr' e3 l4 e4
      induction rows with
      | nil => rfl
      | cons r rows ih => by_cases h : r = [] <;> simp [h, ih, em_cons]
    have hfr := List.length_filter_le (fun r : List Int => decide (r = [])) rows
    simp -implicitDefEqProofs (disch := first | assumption | (simp; done) | omega | (simp; omega)) [permute, permG, hfm]
  have hfr := List.length_filter_le (fun r : List Int => decide (r = [])) rows
  have e6 : evS (rnOf Pr (run Pr (k + 3))) Pr.below (.asg (.fld (.var 0) 1) (.bin .mul false (.lit (.int 2)) (.bin .add false (.bi .len false [(.fld (.var 0) 3)]) (.var 3)))) [some (.obj 0), some (.tup [.tup (em tI rows), .tup (em .int ts)]), some (.obj 1), some (.int ((rows.filter fun r => decide (r = [])).length : Nat)), none, some (.tup (em tI rows)), some (.tup (em .int ts)), o7, o8, none, none, none, none, none, none, none, none, none] [.ins 0 [(2, .lst (em .int (nxt rows))), (3, .lst (em t2 (fpl (flat rows))))], .lst (em .int (bef (nxt rows)))] = .ret (.nx [some (.obj 0), some (.tup [.tup (em tI rows), .tup (em .int ts)]), some (.obj 1), some (.int ((rows.filter fun r => decide (r = [])).length : Nat)), none, some (.tup (em tI rows)), some (.tup (em .int ts)), o7, o8, none, none, none, none, none, none, none, none, none]) [.ins 0 (dF rows), .lst (em .int (bef (nxt rows)))] := by
    simp -implicitDefEqProofs (disch := first | assumption | (simp; done) | omega | (simp; omega)) [permute, permG, hfl, dF, dMany]
  generalize hr3 : some (D.int ((rows.filter fun r => decide (r = [])).length : Nat)) = r3 at e5 e6
  have e7 : evS (rnOf Pr (run Pr (k + 3))) Pr.below (.asg (.fld (.var 0) 0) (.comp true [10] (.bin .mul true (.lst false [(.lit .non)]) (.lit (.int 4))) (.nm 10) .val [(.var 6)] [])) [some (.obj 0), some (.tup [.tup (em tI rows), .tup (em .int ts)]), some (.obj 1), r3, none, some (.tup (em tI rows)), some (.tup (em .int ts)), o7, o8, none, none, none, none, none, none, none, none, none] [.ins 0 (dF rows), .lst (em .int (bef (nxt rows)))] = .ret (.nx [some (.obj 0), some (.tup [.tup (em tI rows), .tup (em .int ts)]), some (.obj 1), r3, none, some (.tup (em tI rows)), some (.tup (em .int ts)), o7, o8, none, none, none, none, none, none, none, none, none]) (tst [.ins 0 (dF rows ++ [(0, .obj (2 + ts.length))]), .lst (em .int (bef (nxt rows)))] (non4 ts.length) [.lst (objs 2 ts.length)]) := by
    have m4 : binop .mul (.lst [.non]) (.int 4) = some (.lst (List.replicate 4 .non)) := by
      rw [binop_mulL1 (by omega) (by omega)]
      rfl
    have hcomp : evE (rnOf Pr (run Pr (k + 3))) (.comp true [10] (.bin .mul true (.lst false [(.lit .non)]) (.lit (.int 4))) (.nm 10) .val [(.var 6)] []) [some (.obj 0), some (.tup [.tup (em tI rows), .tup (em .int ts)]), some (.obj 1), r3, none, some (.tup (em tI rows)), some (.tup (em .int ts)), o7, o8, none, none, none, none, none, none, none, none, none] [.ins 0 (dF rows), .lst (em .int (bef (nxt rows)))] = .ret (.obj (2 + ts.length)) (tst [.ins 0 (dF rows), .lst (em .int (bef (nxt rows)))] (non4 ts.length) [.lst (objs 2 ts.length)]) := by
      rw [evE_cmpr]
      simp -implicitDefEqProofs (disch := first | assumption | (simp; done) | omega | (simp; omega)) [permute, permG, -clp_em, -clp_raw]
      rw [clp_news (L := .lst (List.replicate 4 .non))]
      · simp -implicitDefEqProofs (disch := first | assumption | (simp; done) | omega | (simp; omega)) [permute, permG]
        simp [tst, non4, objs]
        omega
      · intro a S
        simp -implicitDefEqProofs (disch := first | assumption | (simp; done) | omega | (simp; omega)) [permute, permG, m4]
      · intro S
        rfl
      · simp
        omega
    have hsf : ∀ T J d, setFld (tst [.ins 0 (dF rows), .lst (em .int (bef (nxt rows)))] T J) (.obj 0) 0 d = some (tst [.ins 0 (dF rows ++ [(0, d)]), .lst (em .int (bef (nxt rows)))] T J) := fun T J d => by
      rw [setFld_t (by simp [dF])]
      simp [dF]
    simp -implicitDefEqProofs (disch := first | assumption | (simp; done) | omega | (simp; omega)) [permute, permG, -evE_cmpr, hcomp, hsf]
  have e8 : ∃ o7' o9 o11 o12 o13 o14, evS (rnOf Pr (run Pr (k + 3))) Pr.below (.for (.tup [.nm 7, .tup [.nm 11, .nm 12]]) .enum [(.fld (.var 0) 3)] [.asg (.tup [.nm (.nm 13), .nm (.nm 14)]) (.tup [(.bin .mul false (.lit (.int 2)) (.var 7)), (.bin .add false (.bin .mul false (.lit (.int 2)) (.idx (.var 2) (.var 7))) (.lit (.int 1)))]), .asg (.nm (.nm 9)) (.ife (.cmp (.var 12) .eq (.lit (.int 0))) (.lit (.int 0)) (.ife (.cmp (.idx (.var 6) (.var 11)) .eq (.lit (.int 1))) (.lit (.int 1)) (.lit (.int 3)))), .asg (.idx (.idx (.fld (.var 0) 0) (.var 11)) (.var 9)) (.var 13), .asg (.idx (.idx (.fld (.var 0) 0) (.var 11)) (.bin .mod false (.bin .add false (.var 9) (.lit (.int 2))) (.lit (.int 4)))) (.var 14)]) [some (.obj 0), some (.tup [.tup (em tI rows), .tup (em .int ts)]), some (.obj 1), r3, none, some (.tup (em tI rows)), some (.tup (em .int ts)), o7, o8, none, none, none, none, none, none, none, none, none] (tst [.ins 0 (dF rows ++ [(0, .obj (2 + ts.length))]), .lst (em .int (bef (nxt rows)))] (non4 ts.length) [.lst (objs 2 ts.length)]) =
      .ret (.nx [some (.obj 0), some (.tup [.tup (em tI rows), .tup (em .int ts)]), some (.obj 1), r3, none, some (.tup (em tI rows)), some (.tup (em .int ts)), o7', o8, o9, none, o11, o12, o13, o14, none, none, none]) (tst [.ins 0 (dF rows ++ [(0, .obj (2 + ts.length))]), .lst (em .int (bef (nxt rows)))] ((dArms rows ts).map (em D.int)) [.lst (objs 2 ts.length)]) := by
    obtain ⟨o7', o9, o11, o12, o13, o14, l8⟩ := loop_arms (k := k + 3) (fs := dF rows ++ [(0, .obj (2 + ts.length))]) (rd := .tup (em tI rows)) (d := .tup [.tup (em tI rows), .tup (em .int ts)]) (r3 := r3) (o8 := o8) (o7 := o7) (B := bef (nxt rows)) hr hL hm hD.t (by rw [bef_len, hnl]) (by simp [dF])
    refine ⟨o7', o9, o11, o12, o13, o14, ?_⟩
    have hS0 : (tst [.ins 0 (dF rows ++ [(0, .obj (2 + ts.length))]), .lst (em .int (bef (nxt rows)))] (non4 ts.length) [.lst (objs 2 ts.length)])[0]? = some (.ins 0 (dF rows ++ [(0, .obj (2 + ts.length))])) := tst_pre (by simp)
    have hz : em (fun p : (Int × Int) × Nat => D.tup [.int p.2, t2 p.1]) (fpl (flat rows)).zipIdx = em (fun p : Nat => .tup [.int p, .tup [.int (cr (flat rows) p), .int (wh (flat rows) p (cr (flat rows) p))]]) (List.range (flat rows).length) := by
      rw [← hfl]
      refine em_zip (e := fun a i => D.tup [.int i, t2 a]) fun i hi => ?_
      have hi' : i < (flat rows).length := by rw [hfl] at hi; exact hi
      simp [fpl, cr, hi']
    have hf3 : lookF (dF rows ++ [(0, .obj (2 + ts.length))]) 3 = some (.lst (em t2 (fpl (flat rows)))) := by simp [dF]
    have hit : ∀ S, itemsK S .enum [.lst (em t2 (fpl (flat rows)))] = some (em (fun p : Nat => .tup [.int p, .tup [.int (cr (flat rows) p), .int (wh (flat rows) p (cr (flat rows) p))]]) (List.range (flat rows).length)) := fun S => by rw [items_enum, hz]
    rw [evS_for]
    simp -implicitDefEqProofs (disch := first | assumption | (simp; done) | omega | (simp; omega)) [permute, permG, hS0, hf3, hit, -items_enum]
    exact l8
  obtain ⟨o7', o9, o11, o12, o13, o14, e8⟩ := e8
  have hm0 : 0 ≤ dMany rows ∧ dMany rows ≤ 1000 := by unfold dMany; omega
  have e9 : evS (rnOf Pr (run Pr (k + 3))) Pr.below (.asg (.tup [.fld (.var 0) 4, .fld (.var 0) 5, .fld (.var 0) 6]) (.comp true [15] (.bi .listR true [(.fld (.var 0) 1)]) (.nm 15) .val [(.glob 2)] [])) [some (.obj 0), some (.tup [.tup (em tI rows), .tup (em .int ts)]), some (.obj 1), r3, none, some (.tup (em tI rows)), some (.tup (em .int ts)), o7', o8, o9, none, o11, o12, o13, o14, none, none, none] (tst [.ins 0 (dF rows ++ [(0, .obj (2 + ts.length))]), .lst (em .int (bef (nxt rows)))] ((dArms rows ts).map (em D.int)) [.lst (objs 2 ts.length)]) =
      .ret (.nx [some (.obj 0), some (.tup [.tup (em tI rows), .tup (em .int ts)]), some (.obj 1), r3, none, some (.tup (em tI rows)), some (.tup (em .int ts)), o7', o8, o9, none, o11, o12, o13, o14, none, none, none]) (tst [.ins 0 (dFS rows ts.length), .lst (em .int (bef (nxt rows)))] ((dArms rows ts).map (em D.int)) (JJ ts.length (irange 0 (dMany rows), irange 0 (dMany rows), irange 0 (dMany rows)))) := by
    have hA : ((dArms rows ts).map (em D.int)).length = ts.length := by simp [dArms, arms]
    have hcomp : evE (rnOf Pr (run Pr (k + 3))) (.comp true [15] (.bi .listR true [(.fld (.var 0) 1)]) (.nm 15) .val [(.glob 2)] []) [some (.obj 0), some (.tup [.tup (em tI rows), .tup (em .int ts)]), some (.obj 1), r3, none, some (.tup (em tI rows)), some (.tup (em .int ts)), o7', o8, o9, none, o11, o12, o13, o14, none, none, none] (tst [.ins 0 (dF rows ++ [(0, .obj (2 + ts.length))]), .lst (em .int (bef (nxt rows)))] ((dArms rows ts).map (em D.int)) [.lst (objs 2 ts.length)]) = .ret (.obj (2 + ts.length + 4)) (tst [.ins 0 (dF rows ++ [(0, .obj (2 + ts.length))]), .lst (em .int (bef (nxt rows)))] ((dArms rows ts).map (em D.int)) (JJ ts.length (irange 0 (dMany rows), irange 0 (dMany rows), irange 0 (dMany rows)))) := by
      have hS : ∀ J, (tst [.ins 0 (dF rows ++ [(0, .obj (2 + ts.length))]), .lst (em .int (bef (nxt rows)))] ((dArms rows ts).map (em D.int)) J)[0]? = some (.ins 0 (dF rows ++ [(0, .obj (2 + ts.length))])) := fun J => tst_pre (by simp)
      have hl1 : lookF (dF rows ++ [(0, .obj (2 + ts.length))]) 1 = some (.int (dMany rows)) := by simp [dF]
      simp -implicitDefEqProofs (disch := first | assumption | (simp; done) | omega | (simp; omega)) [permute, permG, hS, hl1, tst_snoc, tst_len, hA]
      exact ⟨by omega, by simp only [JJ, Nat.add_assoc]⟩
    have hsf4 : ∀ T J d, setFld (tst [.ins 0 (dF rows ++ [(0, .obj (2 + ts.length))]), .lst (em .int (bef (nxt rows)))] T J) (.obj 0) 4 d = some (tst [.ins 0 ((dF rows ++ [(0, .obj (2 + ts.length))]) ++ [(4, d)]), .lst (em .int (bef (nxt rows)))] T J) := fun T J d => by
      rw [setFld_t (by simp [dF])]
      simp [dF]
    have hsf5 : ∀ T J d e, setFld (tst [.ins 0 ((dF rows ++ [(0, .obj (2 + ts.length))]) ++ [(4, e)]), .lst (em .int (bef (nxt rows)))] T J) (.obj 0) 5 d = some (tst [.ins 0 ((dF rows ++ [(0, .obj (2 + ts.length))]) ++ [(4, e), (5, d)]), .lst (em .int (bef (nxt rows)))] T J) := fun T J d e => by
      rw [setFld_t (by simp [dF])]
      simp [dF]
    have hsf6 : ∀ T J d e f, setFld (tst [.ins 0 ((dF rows ++ [(0, .obj (2 + ts.length))]) ++ [(4, e), (5, f)]), .lst (em .int (bef (nxt rows)))] T J) (.obj 0) 6 d = some (tst [.ins 0 ((dF rows ++ [(0, .obj (2 + ts.length))]) ++ [(4, e), (5, f), (6, d)]), .lst (em .int (bef (nxt rows)))] T J) := fun T J d e f => by
      rw [setFld_t (by simp [dF])]
      simp [dF]
    have hfin : dFS rows ts.length = (dF rows ++ [(0, .obj (2 + ts.length))]) ++ [(4, .obj (2 + ts.length + 1)), (5, .obj (2 + ts.length + 2)), (6, .obj (2 + ts.length + 3))] := by simp [dFS]
    generalize hF1 : (dF rows ++ [(0, .obj (2 + ts.length))]) = F1 at *
    have hu : tgSet (rnOf Pr (run Pr (k + 3))) (.tup [.fld (.var 0) 4, .fld (.var 0) 5, .fld (.var 0) 6]) (.obj (2 + ts.length + 4)) [some (.obj 0), some (.tup [.tup (em tI rows), .tup (em .int ts)]), some (.obj 1), r3, none, some (.tup (em tI rows)), some (.tup (em .int ts)), o7', o8, o9, none, o11, o12, o13, o14, none, none, none] (tst [.ins 0 F1, .lst (em .int (bef (nxt rows)))] ((dArms rows ts).map (em D.int)) (JJ ts.length (irange 0 (dMany rows), irange 0 (dMany rows), irange 0 (dMany rows)))) = .ret [some (.obj 0), some (.tup [.tup (em tI rows), .tup (em .int ts)]), some (.obj 1), r3, none, some (.tup (em tI rows)), some (.tup (em .int ts)), o7', o8, o9, none, o11, o12, o13, o14, none, none, none] (tst [.ins 0 (dFS rows ts.length), .lst (em .int (bef (nxt rows)))] ((dArms rows ts).map (em D.int)) (JJ ts.length (irange 0 (dMany rows), irange 0 (dMany rows), irange 0 (dMany rows)))) := by
      rw [tgSet_lst (xs := [.obj (2 + ts.length + 1), .obj (2 + ts.length + 2), .obj (2 + ts.length + 3)]) (by
        rw [view_obj, JJ_J hA 4]
        rfl), hfin]
      simp -implicitDefEqProofs (disch := first | assumption | (simp; done) | omega | (simp; omega)) [permute, permG, hsf4, hsf5, hsf6]
    simp -implicitDefEqProofs (disch := first | assumption | (simp; done) | omega | (simp; omega)) [permute, permG, -evE_cmpr, hcomp, hu]
  obtain ⟨env, e10⟩ := loop_out (k := k + 3) (fs := dFS rows ts.length) (Bl := .lst (em .int (bef (nxt rows)))) (d := .tup [.tup (em tI rows), .tup (em .int ts)]) (s3 := r3) (s4 := none) (s5 := some (.tup (em tI rows))) (s6 := some (.tup (em .int ts))) (s7 := o7') (s8 := o8) (o9 := o9) (s11 := o11) (s12 := o12) (s13 := o13) (s14 := o14) (s15 := none) (o16 := none) (L := dArms rows ts) (n := ts.length) (m := dMany rows) (by simp [dArms, arms]) (fun row h => (ent_row hr hL hrot hnl h).1) (fun row h v hv => by
    have := (ent_row hr hL hrot hnl h).2 v hv
    unfold fl dMany
    omega) hm0.1 (by simp [dFS, dF]) (by simp [dFS, dF]) (by simp [dFS, dF]) (by simp [dFS, dF])
  rw [run_eq (np := 2) (nl := 18) (b := b_25) rfl rfl rfl]
  unfold b_25
  show bnd (T.nox (evSs _ _ _ [some (.obj 0), some (.tup [.tup (em tI rows), .tup (em .int ts)]), none, none, none, none, none, none, none, none, none, none, none, none, none, none, none, none] _)) (f := ⟨endOf⟩) = _
  rw [evSs_step e0, evSs_step e1, evSs_step e2, evSs_step e3, evSs_step e4, evSs_step e5, evSs_step e6, evSs_step e7, evSs_step e8, evSs_step e9, evSs_step e10, evSs_nil]
  rfl
end

end Law

namespace Law
open PySem Ic
section
variable {k : Nat} {S : Store} {rows : List (List Int)} {ts : List Int} {many : Int}
theorem c_Darts (hD : DrwP rows ts many) : newD Pr.init (run Pr (k + 4)) 0 false [.tup [.tup (em tI rows), .tup (em .int ts)]] S = .ret (dartsD rows ts) S := by
  have hA : ((dArms rows ts).map (em D.int)).length = ts.length := by simp [dArms, arms]
  refine newD_ret (f := 25) rfl (by simp) (init_run hD) ?_
  generalize hst : tst [.ins 0 (dFS rows ts.length), .lst (em .int (bef (nxt rows)))] ((dArms rows ts).map (em D.int)) (JJ ts.length (dWays rows ts)) = S'
  have g0 : S'[0]? = some (.ins 0 (dFS rows ts.length)) := by rw [← hst]; exact tst_pre (by simp)
  have gJ : ∀ j, S'[2 + ts.length + j]? = (JJ ts.length (dWays rows ts))[j]? := fun j => by rw [← hst]; exact JJ_J hA j
  have gr : ∀ i (h : i < ((dArms rows ts).map fun r => D.lst (em .int r)).length), S'[2 + i]? = some ((dArms rows ts).map fun r => D.lst (em .int r))[i] := fun i h => by
    have hi : i < ts.length := by simpa [dArms, arms] using h
    rw [← hst, JJ_row hA hi]
    simp
  have fz := frzs_objs (S := S') (k := 5) gr (by rw [show ((dArms rows ts).map fun r => D.lst (em .int r)) = em (fun r => D.lst (em .int r)) (dArms rows ts) from rfl]; simp)
  have hl : ((dArms rows ts).map fun r => D.lst (em .int r)).length = ts.length := by simp [dArms, arms]
  rw [hl] at fz
  show deref S' 0 8 0 = _
  rw [deref_obj g0]
  have j0 : (D.obj (2 + ts.length)).frz (deref S' 0 7) = some (.lst ((dArms rows ts).map fun r => .lst (em .int r))) := by
    show deref S' 0 7 (2 + ts.length) = _
    rw [deref_obj (d := .lst (objs 2 ts.length)) (by have := gJ 0; exact this)]
    show (frzs _ (objs 2 ts.length)).map D.lst = _
    unfold objs
    rw [fz]
    rfl
  have jn : ∀ (j : Nat) (d : D), (JJ ts.length (dWays rows ts))[j]? = some d → d.pu = true → (D.obj (2 + ts.length + j)).frz (deref S' 0 7) = some d := fun j d h hp => by
    show deref S' 0 7 (2 + ts.length + j) = _
    rw [deref_obj (by rw [gJ j, h]), D.frz_pu _ hp]
  have j1 := jn 1 (.lst (em .int (dWays rows ts).1)) rfl (by simp)
  have j2 := jn 2 (.lst (em .int (dWays rows ts).2.1)) rfl (by simp)
  have j3 := jn 3 (.lst (em .int (dWays rows ts).2.2)) rfl (by simp)
  have p1 : (D.lst (em .int (nxt rows))).frz (deref S' 0 7) = some (.lst (em .int (nxt rows))) := D.frz_pu _ (by simp)
  have p2 : (D.lst (em t2 (fpl (flat rows)))).frz (deref S' 0 7) = some (.lst (em t2 (fpl (flat rows)))) := D.frz_pu _ (by simp)
  have p3 : (D.int (dMany rows)).frz (deref S' 0 7) = some (.int (dMany rows)) := D.frz_pu _ (by simp)
  show (frzfs _ (dFS rows ts.length)).map (D.ins 0) = _
  simp only [dFS, dF, List.cons_append, List.nil_append, frzfs, p1, p2, p3, j0, j1, j2, j3, Option.bind_some, Option.map_some]
  rfl
theorem dArms_len : (dArms rows ts).length = ts.length := by simp [dArms, arms]
theorem dartsD_pu : (dartsD rows ts).pu = true := by
  have e : ((dArms rows ts).map fun r => D.lst (em .int r)) = em (fun r => D.lst (em .int r)) (dArms rows ts) := rfl
  simp [dartsD, dF, e]
theorem lk0 : lookF (dF rows ++ [(0, .lst ((dArms rows ts).map fun r => .lst (em .int r))), (4, .lst (em .int (dWays rows ts).1)), (5, .lst (em .int (dWays rows ts).2.1)), (6, .lst (em .int (dWays rows ts).2.2))]) 0 = some (.lst (em (fun r => D.lst (em .int r)) (dArms rows ts))) := by
  simp [dF]
  rfl
theorem dartsD_fld {f : Nat} : fldD f (dartsD rows ts) = lookF (dF rows ++ [(0, .lst (em (fun r => D.lst (em .int r)) (dArms rows ts))), (4, .lst (em .int (dWays rows ts).1)), (5, .lst (em .int (dWays rows ts).2.1)), (6, .lst (em .int (dWays rows ts).2.2))]) f := rfl
@[simp] theorem dartsD_cls : clsD (dartsD rows ts) = some 0 := rfl
@[simp] theorem dartsD_view : view S (dartsD rows ts) = dartsD rows ts := rfl
@[simp] theorem dartsD_0 : fldD 0 (dartsD rows ts) = some (.lst (em (fun r => D.lst (em .int r)) (dArms rows ts))) := by rw [dartsD_fld]; simp [dF]
@[simp] theorem dartsD_1 : fldD 1 (dartsD rows ts) = some (.int (dMany rows)) := by rw [dartsD_fld]; simp [dF]
@[simp] theorem dartsD_4 : fldD 4 (dartsD rows ts) = some (.lst (em .int (dWays rows ts).1)) := by rw [dartsD_fld]; simp [dF]
@[simp] theorem dartsD_5 : fldD 5 (dartsD rows ts) = some (.lst (em .int (dWays rows ts).2.1)) := by rw [dartsD_fld]; simp [dF]
@[simp] theorem dartsD_6 : fldD 6 (dartsD rows ts) = some (.lst (em .int (dWays rows ts).2.2)) := by rw [dartsD_fld]; simp [dF]
/-- the row of arms of a crossing -/
theorem c_arms (hD : DrwP rows ts many) {c : Int} (h0 : 0 ≤ c) (h1 : c < many) : callD (run Pr (k + 7)) 13 false [.tup [.tup (em tI rows), .tup (em .int ts)], .int c] S = .ret (.tup (em .int (armR (flat rows) (bef (nxt rows)) (tu ts c) c))) S := by
  have hd := fun S => is_drawing_g (k := k) (S := S) hD
  have hL := hD.l
  have hm := hD.m
  have hn : ∀ S, callD (run Pr (k + 6)) 12 false [.tup [.tup (em tI rows), .tup (em .int ts)]] S = .ret .non S := by
    intro S
    rw [callD_eq rfl rfl rfl (by simp)]
    simp -implicitDefEqProofs (disch := first | assumption | (simp; done) | omega | (simp; omega)) [permute, permG, b_12, hd]
  have hN : ∀ S, newD Pr.init (run Pr (k + 6)) 0 false [.tup [.tup (em tI rows), .tup (em .int ts)]] S = .ret (dartsD rows ts) S := fun S => c_Darts (k := k + 2) hD
  have hc : c.toNat < ts.length := by omega
  have hat : atI (dArms rows ts) c = some (armR (flat rows) (bef (nxt rows)) (tu ts c) c) := by
    rw [atI_some h0 (by rw [dArms_len]; omega)]
    unfold dArms arms
    have e : ((c.toNat : Nat) : Int) = c := by omega
    simp [tu, hc, e]
  have hw : withinD 0 ((ts.length : Int) - 1) (.int c) = true := by
    simp
    omega
  rw [callD_eq rfl rfl rfl (by simp)]
  simp -implicitDefEqProofs (disch := first | assumption | (simp; done) | omega | (simp; omega)) [permute, permG, b_13, hn, hN, hat, hw, -withinD_int]
@[simp] theorem mth00 : Pr.mth 0 0 = some 28 := rfl
theorem se1 : (("left" : Str) == ("straight" : Str)) = false := by decide +kernel
theorem se2 : (("right" : Str) == ("straight" : Str)) = false := by decide +kernel
theorem se3 : (("right" : Str) == ("left" : Str)) = false := by decide +kernel
@[simp] theorem c_ways_s : callD (run Pr (k + 1)) 28 false [dartsD rows ts, .str "straight"] S = .ret (.lst (em .int (dWays rows ts).1)) S := by
  rw [callD_eq rfl rfl rfl (by simp [dartsD_pu])]
  simp -implicitDefEqProofs (disch := first | assumption | (simp; done) | omega | (simp; omega)) [permute, permG, b_28, se1, se2, se3]
@[simp] theorem c_ways_l : callD (run Pr (k + 1)) 28 false [dartsD rows ts, .str "left"] S = .ret (.lst (em .int (dWays rows ts).2.1)) S := by
  rw [callD_eq rfl rfl rfl (by simp [dartsD_pu])]
  simp -implicitDefEqProofs (disch := first | assumption | (simp; done) | omega | (simp; omega)) [permute, permG, b_28, se1, se2, se3]
@[simp] theorem c_ways_r : callD (run Pr (k + 1)) 28 false [dartsD rows ts, .str "right"] S = .ret (.lst (em .int (dWays rows ts).2.2)) S := by
  rw [callD_eq rfl rfl rfl (by simp [dartsD_pu])]
  simp -implicitDefEqProofs (disch := first | assumption | (simp; done) | omega | (simp; omega)) [permute, permG, b_28, se1, se2, se3]
theorem in_w1 : isIn (.str "straight") (.tup [.str "straight", .str "left", .str "right"]) = some true := by decide +kernel
theorem in_w2 : isIn (.str "left") (.tup [.str "straight", .str "left", .str "right"]) = some true := by decide +kernel
theorem in_w3 : isIn (.str "right") (.tup [.str "straight", .str "left", .str "right"]) = some true := by decide +kernel
theorem dWays_len (rows : List (List Int)) (ts : List Int) : Len3 (dMany rows) (dWays rows ts) := ways_len (by unfold dMany; omega)
theorem c_need (hD : DrwP rows ts many) : callD (run Pr (k + 6)) 12 false [.tup [.tup (em tI rows), .tup (em .int ts)]] S = .ret .non S := by
  have hd := fun S => is_drawing_g (k := k) (S := S) hD
  have hL := hD.l
  have hm := hD.m
  rw [callD_eq rfl rfl rfl (by simp)]
  simp -implicitDefEqProofs (disch := first | assumption | (simp; done) | omega | (simp; omega)) [permute, permG, b_12, hd]
section
variable (hD : DrwP rows ts many) {d : Int} (h0 : 0 ≤ d) (h1 : d < dMany rows)
include hD h0 h1
theorem c_after_s : callD (run Pr (k + 7)) 14 false [.tup [.tup (em tI rows), .tup (em .int ts)], .int d, .str "straight"] S = .ret (.int (((dWays rows ts).1[d.toNat]?).getD 0)) S := by
  have hn := fun S => c_need (k := k) (S := S) hD
  have hN : ∀ S, newD Pr.init (run Pr (k + 6)) 0 false [.tup [.tup (em tI rows), .tup (em .int ts)]] S = .ret (dartsD rows ts) S := fun S => c_Darts (k := k + 2) hD
  obtain ⟨l1, l2, l3⟩ := dWays_len rows ts
  have hw : withinD 0 (dMany rows - 1) (.int d) = true := by
    simp
    omega
  have hat : atI (dWays rows ts).1 d = some (((dWays rows ts).1[d.toNat]?).getD 0) := by
    rw [atI_some h0 (by omega)]
    have : d.toNat < (dWays rows ts).1.length := by omega
    simp [this]
  have hL := hD.l
  have hm := hD.m
  rw [callD_eq rfl rfl rfl (by simp)]
  simp -implicitDefEqProofs (disch := first | assumption | (simp; done) | omega | (simp; omega)) [permute, permG, b_14, hn, hN, hat, hw, in_w1, -withinD_int]
theorem c_after_l : callD (run Pr (k + 7)) 14 false [.tup [.tup (em tI rows), .tup (em .int ts)], .int d, .str "left"] S = .ret (.int (((dWays rows ts).2.1[d.toNat]?).getD 0)) S := by
  have hn := fun S => c_need (k := k) (S := S) hD
  have hN : ∀ S, newD Pr.init (run Pr (k + 6)) 0 false [.tup [.tup (em tI rows), .tup (em .int ts)]] S = .ret (dartsD rows ts) S := fun S => c_Darts (k := k + 2) hD
  obtain ⟨l1, l2, l3⟩ := dWays_len rows ts
  have hw : withinD 0 (dMany rows - 1) (.int d) = true := by
    simp
    omega
  have hat : atI (dWays rows ts).2.1 d = some (((dWays rows ts).2.1[d.toNat]?).getD 0) := by
    rw [atI_some h0 (by omega)]
    have : d.toNat < (dWays rows ts).2.1.length := by omega
    simp [this]
  have hL := hD.l
  have hm := hD.m
  rw [callD_eq rfl rfl rfl (by simp)]
  simp -implicitDefEqProofs (disch := first | assumption | (simp; done) | omega | (simp; omega)) [permute, permG, b_14, hn, hN, hat, hw, in_w2, -withinD_int]
theorem c_after_r : callD (run Pr (k + 7)) 14 false [.tup [.tup (em tI rows), .tup (em .int ts)], .int d, .str "right"] S = .ret (.int (((dWays rows ts).2.2[d.toNat]?).getD 0)) S := by
  have hn := fun S => c_need (k := k) (S := S) hD
  have hN : ∀ S, newD Pr.init (run Pr (k + 6)) 0 false [.tup [.tup (em tI rows), .tup (em .int ts)]] S = .ret (dartsD rows ts) S := fun S => c_Darts (k := k + 2) hD
  obtain ⟨l1, l2, l3⟩ := dWays_len rows ts
  have hw : withinD 0 (dMany rows - 1) (.int d) = true := by
    simp
    omega
  have hat : atI (dWays rows ts).2.2 d = some (((dWays rows ts).2.2[d.toNat]?).getD 0) := by
    rw [atI_some h0 (by omega)]
    have : d.toNat < (dWays rows ts).2.2.length := by omega
    simp [this]
  have hL := hD.l
  have hm := hD.m
  rw [callD_eq rfl rfl rfl (by simp)]
  simp -implicitDefEqProofs (disch := first | assumption | (simp; done) | omega | (simp; omega)) [permute, permG, b_14, hn, hN, hat, hw, in_w3, -withinD_int]
end
end

end Law

namespace Law
open PySem Ic
section
variable {k : Nat} {S : Store}
/-- the law's passes, at a place -/
def stP (rows : List (List Int)) (P : Nat) : Store := [.lst (em t3 ((psl (flat rows) (nxt rows)).take P)), .dct (seenD ((flat rows).take P))]
/-- the law's passes -/
theorem c_law_passes {rows : List (List Int)} {many : Int} (h : rows.length ≤ 100) (h2 : (flat rows).length ≤ 100) (hr : RowP (flat rows) many) : callD (run Pr (k + 1)) 20 false [.tup (em tI rows)] S = .ret (.tup [.lst (em t3 (psl (flat rows) (nxt rows))), .int (dMany rows)]) S := by
  have hnl := nxt_len rows
  -- one place
  have hin : ∀ (pre : List (List Int)) (r : List Int) (o5 : Option D), pre ++ [r] <+: rows → ∃ o5', evS (rnOf Pr (run Pr k)) Pr.below (.for (.nm 5) .range1 [(.bi .len false [(.var 1)])] [.expr (.mth .append (.var 2) [(.tup [(.idx (.var 1) (.var 5)), (.mth .get (.var 3) [(.idx (.var 1) (.var 5)), (.lit (.int 0))]), (.bin .add false (.var 4) (.bin .mod false (.bi .int false [(.bin .add false (.var 5) (.lit (.int 1)))]) (.bi .len false [(.var 1)])))])]), .asg (.idx (.var 3) (.idx (.var 1) (.var 5))) (.lit (.int 1))]) [some (.tup (em tI rows)), some (.tup (em .int r)), some (.obj 0), some (.obj 1), some (.int (flat pre).length), o5] (stP rows (flat pre).length) = .ret (.nx [some (.tup (em tI rows)), some (.tup (em .int r)), some (.obj 0), some (.obj 1), some (.int (flat pre).length), o5']) (stP rows ((flat pre).length + r.length)) := by
    intro pre r o5 hp
    have hfp := flat_pre hp
    have key := flp_ex (ok := fun S' => true) (f := fun x env S => opt (npSet S (.nm 5) x env) (f := ⟨fun env' => evSs (rnOf Pr (run Pr k)) Pr.below [.expr (.mth .append (.var 2) [(.tup [(.idx (.var 1) (.var 5)), (.mth .get (.var 3) [(.idx (.var 1) (.var 5)), (.lit (.int 0))]), (.bin .add false (.var 4) (.bin .mod false (.bi .int false [(.bin .add false (.var 5) (.lit (.int 1)))]) (.bi .len false [(.var 1)])))])]), .asg (.idx (.var 3) (.idx (.var 1) (.var 5))) (.lit (.int 1))] env' S⟩)) (e := fun p : Nat => D.int p) (xs := List.range r.length)
      (stP rows) (fun P _ => P + 1) (fun pre2 P env => P = (flat pre).length + pre2.length ∧ ∃ o5, env = [some (.tup (em tI rows)), some (.tup (em .int r)), some (.obj 0), some (.obj 1), some (.int (flat pre).length), o5]) (flat pre).length [some (.tup (em tI rows)), some (.tup (em .int r)), some (.obj 0), some (.obj 1), some (.int (flat pre).length), o5] ⟨rfl, _, rfl⟩ fun pre2 j env P hp2 hI => ?_
    · obtain ⟨env', hloop, hP, o5', rfl⟩ := key
      rw [hP] at hloop
      have hlr : (List.range r.length).length = r.length := by simp
      rw [hlr] at hloop
      refine ⟨o5', ?_⟩
      have hz : ∀ n : Nat, em D.int (irange 0 n) = em (fun p : Nat => D.int p) (List.range n) := fun n => em_irange
      rw [evS_for]
      simp -implicitDefEqProofs (disch := first | assumption | (simp; done) | omega | (simp; omega)) [permute, permG, hz]
      exact hloop
    · obtain ⟨rfl, o5, rfl⟩ := hI
      have hj : pre2.length = j ∧ j < r.length := by
        obtain ⟨t, ht⟩ := hp2
        have e := congrArg (fun l : List Nat => l[pre2.length]?) ht
        have hl := congrArg List.length ht
        simp at e hl
        have : pre2.length < r.length := by omega
        simp [this] at e
        omega
      obtain ⟨hj, hjl⟩ := hj
      subst hj
      have hPl : (flat pre).length + pre2.length < (flat rows).length := by omega
      have ha := flat_at hp hjl
      have hn := nxt_at hp hjl
      have hcr : cr (flat rows) ((flat pre).length + pre2.length) = r[pre2.length] := by simp [cr, ha]
      have hrj : atI r (pre2.length : Int) = some r[pre2.length] := atI_nat hjl
      have hps := psl_at (nx := nxt rows) hPl
      rw [hn, Option.getD_some, wh_seen hr hPl, hcr] at hps
      have htk := take_snoc hps
      have htk2 := take_snoc ha
      have hget : ∀ S x, mth (x :: .dct (seenD ((flat rows).take ((flat pre).length + pre2.length))) :: S) .get (.obj 1) [.int r[pre2.length], .int 0] = some (.int (if r[pre2.length] ∈ (flat rows).take ((flat pre).length + pre2.length) then 1 else 0), x :: .dct (seenD ((flat rows).take ((flat pre).length + pre2.length))) :: S) := by
        intro S x
        simp only [mth, Ic.view, List.getElem?_cons_succ, List.getElem?_cons_zero, Option.getD_some, dget_seen]
        by_cases hc : r[pre2.length] ∈ (flat rows).take ((flat pre).length + pre2.length) <;> simp [hc, keyOk]
      have hset : ∀ x, setIdx [x, .dct (seenD ((flat rows).take ((flat pre).length + pre2.length)))] (.obj 1) (.int r[pre2.length]) (.int 1) = some [x, .dct (seenD ((flat rows).take ((flat pre).length + pre2.length + 1)))] := by
        intro x
        have hl := seen_len (L := (flat rows).take ((flat pre).length + pre2.length))
        have hl2 : (seenD ((flat rows).take ((flat pre).length + pre2.length))).length < 16777216 := by
          simp at hl
          omega
        simp [setIdx, keyOk, hl2, dput_seen, htk2]
      have hmod : binop .mod (.int ((pre2.length : Int) + 1)) (.int (r.length : Int)) = some (.int (((pre2.length : Int) + 1) % (r.length : Int))) := binop_mod (by omega)
      have hap : em t3 ((psl (flat rows) (nxt rows)).take ((flat pre).length + pre2.length)) ++ [D.tup [.int r[pre2.length], .int (if r[pre2.length] ∈ (flat rows).take ((flat pre).length + pre2.length) then 1 else 0), .int (((flat pre).length : Int) + ((pre2.length : Int) + 1) % (r.length : Int))]] = em t3 ((psl (flat rows) (nxt rows)).take ((flat pre).length + pre2.length + 1)) := by
        rw [← htk]
        simp [em]
      refine ⟨[some (.tup (em tI rows)), some (.tup (em .int r)), some (.obj 0), some (.obj 1), some (.int (flat pre).length), some (.int pre2.length)], ?_, rfl, by simp; omega, _, rfl⟩
      unfold stP
      simp -implicitDefEqProofs (disch := first | assumption | (simp; done) | omega | (simp; omega)) [permute, permG, hrj, hget, hset, hmod, hap]
  have key := flp_ex (ok := fun S' => true) (f := fun x env S => opt (npSet S (.nm 1) x env) (f := ⟨fun env' => evSs (rnOf Pr (run Pr k)) Pr.below [.for (.nm 5) .range1 [(.bi .len false [(.var 1)])] [.expr (.mth .append (.var 2) [(.tup [(.idx (.var 1) (.var 5)), (.mth .get (.var 3) [(.idx (.var 1) (.var 5)), (.lit (.int 0))]), (.bin .add false (.var 4) (.bin .mod false (.bi .int false [(.bin .add false (.var 5) (.lit (.int 1)))]) (.bi .len false [(.var 1)])))])]), .asg (.idx (.var 3) (.idx (.var 1) (.var 5))) (.lit (.int 1))], .asg (.nm (.nm 4)) (.bin .add false (.var 4) (.bi .len false [(.var 1)]))] env' S⟩)) (e := tI) (xs := rows)
    (stP rows) (fun P r => P + r.length) (fun pre P env => P = (flat pre).length ∧ ∃ o1 o5, env = [some (.tup (em tI rows)), o1, some (.obj 0), some (.obj 1), some (.int P), o5]) 0 [some (.tup (em tI rows)), none, some (.obj 0), some (.obj 1), some (.int 0), none] ⟨rfl, _, _, rfl⟩ fun pre r env P hp hI => ?_
  · obtain ⟨env', hloop, hP, o1, o5, rfl⟩ := key
    rw [hP] at hloop
    have e0 : stP rows 0 = [.lst [], .dct []] := by simp [stP, seenD, dis, em]
    have eN : stP rows (flat rows).length = [.lst (em t3 (psl (flat rows) (nxt rows))), .dct (seenD (flat rows))] := by
      unfold stP
      rw [List.take_of_length_le (by simp), List.take_of_length_le (by omega)]
    rw [e0, eN] at hloop
    have e1 : evS (rnOf Pr (run Pr k)) Pr.below (.for (.nm 1) .val [(.var 0)] [.for (.nm 5) .range1 [(.bi .len false [(.var 1)])] [.expr (.mth .append (.var 2) [(.tup [(.idx (.var 1) (.var 5)), (.mth .get (.var 3) [(.idx (.var 1) (.var 5)), (.lit (.int 0))]), (.bin .add false (.var 4) (.bin .mod false (.bi .int false [(.bin .add false (.var 5) (.lit (.int 1)))]) (.bi .len false [(.var 1)])))])]), .asg (.idx (.var 3) (.idx (.var 1) (.var 5))) (.lit (.int 1))], .asg (.nm (.nm 4)) (.bin .add false (.var 4) (.bi .len false [(.var 1)]))]) [some (.tup (em tI rows)), none, some (.obj 0), some (.obj 1), some (.int 0), none] [.lst [], .dct []] = .ret (.nx [some (.tup (em tI rows)), o1, some (.obj 0), some (.obj 1), some (.int ((flat rows).length : Nat)), o5]) [.lst (em t3 (psl (flat rows) (nxt rows))), .dct (seenD (flat rows))] := by
      rw [evS_for]
      simp -implicitDefEqProofs (disch := first | assumption | (simp; done) | omega | (simp; omega)) [permute, permG]
      exact hloop
    have hfm : List.filterMap (fun a => if a = [] then some (D.tup (em D.int a)) else none) rows = em tI (rows.filter fun r => decide (r = [])) := by
      clear hr hnl hin e1 hloop e0 eN h h2 hP
      induction rows with
      | nil => rfl
      | cons r rows ih => by_cases h : r = [] <;> simp [h, ih, em_cons]
    have hfr := List.length_filter_le (fun r : List Int => decide (r = [])) rows
    have hfz : freeze [.lst (em t3 (psl (flat rows) (nxt rows))), .dct (seenD (flat rows))] 0 (.tup [.obj 0, .int (dMany rows)]) = some (.tup [.lst (em t3 (psl (flat rows) (nxt rows))), .int (dMany rows)]) := freeze_tup1 rfl (by simp)
    have hdm : 2 * ((flat rows).length : Int) + 2 * ((rows.filter fun r => decide (r = [])).length : Int) = dMany rows := by unfold dMany; omega
    rw [callD_eq rfl rfl rfl (by simp)]
    simp -implicitDefEqProofs (disch := first | assumption | (simp; done) | omega | (simp; omega)) [permute, permG, -evS_for, b_20, e1, hfm, hdm, hfz]
  · obtain ⟨rfl, o1, o5, rfl⟩ := hI
    obtain ⟨o5', e⟩ := hin pre r o5 hp
    refine ⟨[some (.tup (em tI rows)), some (.tup (em .int r)), some (.obj 0), some (.obj 1), some (.int ((flat pre).length + r.length : Nat)), o5'], ?_, rfl, by simp [flat], _, _, rfl⟩
    simp -implicitDefEqProofs (disch := first | assumption | (simp; done) | omega | (simp; omega)) [permute, permG, -evS_for, e]
end

end Law

namespace Law
open PySem Ic
section
variable {k : Nat} {S : Store} {rows : List (List Int)} {ts : List Int} {many : Int}
theorem c_law_arms (hD : DrwP rows ts many) : callD (run Pr (k + 2)) 21 false [.tup [.tup (em tI rows), .tup (em .int ts)]] S = .ret (.tup [.lst (em (fun r => D.lst (em .int r)) (dArms rows ts)), .int (dMany rows)]) S := by
  have hr := hD.r
  have hlen := hr.len
  have hL := hD.l
  have hm := hD.m
  have h4 := hD.h4
  have hrot := nxt_rot rows
  have hnl := nxt_len rows
  have hp := fun S => c_law_passes (k := k) (S := S) (rows := rows) (by omega) (by omega) hr
  have hJn : ∀ T, Sq ts.length 4 T → (tst [] T [.lst (objs 0 ts.length)])[ts.length]? = some (.lst (objs 0 ts.length)) := fun T hT => by
    have := tst_J (pre := []) (T := T) (J := [.lst (objs 0 ts.length)]) (j := 0)
    rw [hT.1, List.length_nil, Nat.zero_add, Nat.add_zero] at this
    exact this
  have hset : ∀ T (c : Nat) j v, Sq ts.length 4 T → c < ts.length → 0 ≤ j → j < 4 → setIdx (tst [] T [.lst (objs 0 ts.length)]) (.obj c) (.int j) v = some (tst [] (set2 T c j.toNat v) [.lst (objs 0 ts.length)]) := fun T c j v hT hc h0 h1 => by
    have := setIdx_T (pre := []) (J := [.lst (objs 0 ts.length)]) (d := v) hT hc h0 h1
    rw [List.length_nil, Nat.zero_add] at this
    exact this
  have hat : ∀ c : Int, 0 ≤ c → c < many → atI (objs 0 ts.length) c = some (.obj c.toNat) := fun c h0 h1 => by
    have := objs_at (b := 0) (n := ts.length) h0 (by omega)
    rw [Nat.zero_add] at this
    exact this
  have htu : ∀ c : Int, 0 ≤ c → c < many → (tu ts c = 1 ∨ tu ts c = -1) ∧ atI ts c = some (tu ts c) := fun c h0 h1 => by
    have hcn : c.toNat < ts.length := by omega
    have : tu ts c = ts[c.toNat] := by simp [tu, hcn]
    refine ⟨by rw [this]; exact hD.t _ (List.getElem_mem hcn), ?_⟩
    rw [atI_some h0 (by omega)]
    simp [tu, hcn]
  -- one write
  have body1 := fun (p : Nat) (hp : p < (flat rows).length) => cr_mem hr hp
  have l1 := flp_ex (ok := fun S' => true) (f := fun x env S => opt (npSet S (.nm 2) x env) (f := ⟨fun env' => evSs (rnOf Pr (run Pr (k + 1))) Pr.below [.asg (.tup [.nm (.nm 6), .nm (.nm 7), .nm (.nm 8)]) (.idx (.var 3) (.var 2)), .asg (.idx (.idx (.var 1) (.var 6)) (.ife (.cmp (.var 7) .eq (.lit (.int 0))) (.lit (.int 0)) (.bin .sub false (.lit (.int 2)) (.idx (.idx (.var 0) (.lit (.int 1))) (.var 6))))) (.bin .mul false (.lit (.int 2)) (.var 2))] env' S⟩)) (e := fun p : Nat => D.int p) (xs := List.range (flat rows).length)
    (fun T => tst [] T [.lst (objs 0 ts.length)]) (stO (flat rows) ts) (fun pre T env => Sq ts.length 4 T ∧ ∃ o2 o6 o7 o8, env = [some (.tup [.tup (em tI rows), .tup (em .int ts)]), some (.obj ts.length), o2, some (.lst (em t3 (psl (flat rows) (nxt rows)))), some (.int (dMany rows)), none, o6, o7, o8]) (non4 ts.length) [some (.tup [.tup (em tI rows), .tup (em .int ts)]), some (.obj ts.length), none, some (.lst (em t3 (psl (flat rows) (nxt rows)))), some (.int (dMany rows)), none, none, none, none] ⟨non4_sq, _, _, _, _, rfl⟩ fun pre p env T hp1 hI => ?_
  rotate_left
  · obtain ⟨hT, o2, o6, o7, o8, rfl⟩ := hI
    have hpl : p < (flat rows).length := List.mem_range.mp (hp1.subset (show p ∈ pre ++ [p] by simp))
    have hc := cr_mem hr hpl
    obtain ⟨w, hw, e1, e2⟩ := pl_cases hr hpl
    obtain ⟨ht, hta⟩ := htu _ hc.1 hc.2
    have ha := hat _ hc.1 hc.2
    have hj := hJn T hT
    have hps := psl_atI (nx := nxt rows) hpl
    have s0 := fun v => hset T (cr (flat rows) p).toNat 0 v hT (by omega) (by omega) (by omega)
    have s1 := fun v => hset T (cr (flat rows) p).toNat 1 v hT (by omega) (by omega) (by omega)
    have s3 := fun v => hset T (cr (flat rows) p).toNat 3 v hT (by omega) (by omega) (by omega)
    refine ⟨[some (.tup [.tup (em tI rows), .tup (em .int ts)]), some (.obj ts.length), some (.int p), some (.lst (em t3 (psl (flat rows) (nxt rows)))), some (.int (dMany rows)), none, some (.int (cr (flat rows) p)), some (.int (wh (flat rows) p (cr (flat rows) p))), some (.int (((nxt rows)[p]?).getD 0))], ?_, rfl, hT.set2, _, _, _, _, rfl⟩
    rcases hw with rfl | rfl
    · simp -implicitDefEqProofs (disch := first | assumption | (simp; done) | omega | (simp; omega)) [permute, permG, hj, ha, hps, e2, s0, stO, so, hta]
    · rcases ht with ht | ht
      · simp -implicitDefEqProofs (disch := first | assumption | (simp; done) | omega | (simp; omega)) [permute, permG, hj, ha, hps, e2, s1, stO, so, hta, ht]
      · simp -implicitDefEqProofs (disch := first | assumption | (simp; done) | omega | (simp; omega)) [permute, permG, hj, ha, hps, e2, s3, stO, so, hta, ht]
  obtain ⟨env1, l1, hT1, o2, o6, o7, o8, rfl⟩ := l1
  generalize hT0 : (List.range (flat rows).length).foldl (stO (flat rows) ts) (non4 ts.length) = T0 at l1 hT1
  have l2 := flp_ex (ok := fun S' => true) (f := fun x env S => opt (npSet S (.nm 2) x env) (f := ⟨fun env' => evSs (rnOf Pr (run Pr (k + 1))) Pr.below [.asg (.tup [.nm (.nm 6), .nm (.nm 7), .nm (.nm 8)]) (.idx (.var 3) (.idx (.idx (.var 3) (.var 2)) (.lit (.int 2)))), .asg (.idx (.idx (.var 1) (.var 6)) (.ife (.cmp (.var 7) .eq (.lit (.int 0))) (.lit (.int 2)) (.bin .add false (.lit (.int 2)) (.idx (.idx (.var 0) (.lit (.int 1))) (.var 6))))) (.bin .add false (.bin .mul false (.lit (.int 2)) (.var 2)) (.lit (.int 1)))] env' S⟩)) (e := fun p : Nat => D.int p) (xs := List.range (flat rows).length)
    (fun T => tst [] T [.lst (objs 0 ts.length)]) (fun T (q : Nat) => stB (flat rows) ts (2 * (q : Int) + 1) T (((nxt rows)[q]?).getD 0).toNat) (fun pre T env => Sq ts.length 4 T ∧ ∃ o2 o6 o7 o8, env = [some (.tup [.tup (em tI rows), .tup (em .int ts)]), some (.obj ts.length), o2, some (.lst (em t3 (psl (flat rows) (nxt rows)))), some (.int (dMany rows)), none, o6, o7, o8]) T0 [some (.tup [.tup (em tI rows), .tup (em .int ts)]), some (.obj ts.length), o2, some (.lst (em t3 (psl (flat rows) (nxt rows)))), some (.int (dMany rows)), none, o6, o7, o8] ⟨hT1, _, _, _, _, rfl⟩ fun pre q env T hp1 hI => ?_
  rotate_left
  · obtain ⟨hT, o2, o6, o7, o8, rfl⟩ := hI
    have hql : q < (flat rows).length := List.mem_range.mp (hp1.subset (show q ∈ pre ++ [q] by simp))
    have hpl : (((nxt rows)[q]?).getD 0).toNat < (flat rows).length := by
      have := hrot.rng (q := q) (by omega)
      rw [List.getElem?_eq_getElem (show q < (nxt rows).length by omega), Option.getD_some]
      omega
    have hp0 : 0 ≤ (((nxt rows)[q]?).getD 0) := by
      have := hrot.rng (q := q) (by omega)
      rw [List.getElem?_eq_getElem (show q < (nxt rows).length by omega), Option.getD_some]
      omega
    have hc := cr_mem hr hpl
    obtain ⟨w, hw, e1, e2⟩ := pl_cases hr hpl
    obtain ⟨ht, hta⟩ := htu _ hc.1 hc.2
    have ha := hat _ hc.1 hc.2
    have hj := hJn T hT
    have hps := psl_atI (nx := nxt rows) hql
    have hps2 := psl_atI (nx := nxt rows) hpl
    rw [show (((((nxt rows)[q]?).getD 0).toNat : Nat) : Int) = (((nxt rows)[q]?).getD 0) by omega] at hps2
    generalize hpe : (((nxt rows)[q]?).getD 0).toNat = p at *
    generalize hne : (((nxt rows)[q]?).getD 0) = nq at *
    have s2 := fun v => hset T (cr (flat rows) p).toNat 2 v hT (by omega) (by omega) (by omega)
    have s1 := fun v => hset T (cr (flat rows) p).toNat 1 v hT (by omega) (by omega) (by omega)
    have s3 := fun v => hset T (cr (flat rows) p).toNat 3 v hT (by omega) (by omega) (by omega)
    refine ⟨[some (.tup [.tup (em tI rows), .tup (em .int ts)]), some (.obj ts.length), some (.int q), some (.lst (em t3 (psl (flat rows) (nxt rows)))), some (.int (dMany rows)), none, some (.int (cr (flat rows) p)), some (.int (wh (flat rows) p (cr (flat rows) p))), some (.int (((nxt rows)[p]?).getD 0))], ?_, rfl, hT.set2, _, _, _, _, rfl⟩
    rcases hw with rfl | rfl
    · simp -implicitDefEqProofs (disch := first | assumption | (simp; done) | omega | (simp; omega)) [permute, permG, hj, ha, hps, hps2, e2, s2, stB, sb, hta, hpe]
    · rcases ht with ht | ht
      · simp -implicitDefEqProofs (disch := first | assumption | (simp; done) | omega | (simp; omega)) [permute, permG, hj, ha, hps, hps2, e2, s3, stB, sb, hta, ht, hpe]
      · simp -implicitDefEqProofs (disch := first | assumption | (simp; done) | omega | (simp; omega)) [permute, permG, hj, ha, hps, hps2, e2, s1, stB, sb, hta, ht, hpe]
  obtain ⟨env2, l2, hT2, p2, p6, p7, p8, rfl⟩ := l2
  rw [← hT0, arms_law hr hL hrot hnl, hT0] at l2
  have hz : em D.int (irange 0 ((flat rows).length : Nat)) = em (fun p : Nat => D.int p) (List.range (flat rows).length) := em_irange
  have e2 : evS (rnOf Pr (run Pr (k + 1))) Pr.below (.for (.nm 2) .range1 [(.bi .len false [(.var 3)])] [.asg (.tup [.nm (.nm 6), .nm (.nm 7), .nm (.nm 8)]) (.idx (.var 3) (.var 2)), .asg (.idx (.idx (.var 1) (.var 6)) (.ife (.cmp (.var 7) .eq (.lit (.int 0))) (.lit (.int 0)) (.bin .sub false (.lit (.int 2)) (.idx (.idx (.var 0) (.lit (.int 1))) (.var 6))))) (.bin .mul false (.lit (.int 2)) (.var 2))]) [some (.tup [.tup (em tI rows), .tup (em .int ts)]), some (.obj ts.length), none, some (.lst (em t3 (psl (flat rows) (nxt rows)))), some (.int (dMany rows)), none, none, none, none] (tst [] (non4 ts.length) [.lst (objs 0 ts.length)]) = .ret (.nx [some (.tup [.tup (em tI rows), .tup (em .int ts)]), some (.obj ts.length), o2, some (.lst (em t3 (psl (flat rows) (nxt rows)))), some (.int (dMany rows)), none, o6, o7, o8]) (tst [] T0 [.lst (objs 0 ts.length)]) := by
    rw [evS_for]
    simp -implicitDefEqProofs (disch := first | assumption | (simp; done) | omega | (simp; omega)) [permute, permG, hz]
    exact l1
  have e3 : evS (rnOf Pr (run Pr (k + 1))) Pr.below (.for (.nm 2) .range1 [(.bi .len false [(.var 3)])] [.asg (.tup [.nm (.nm 6), .nm (.nm 7), .nm (.nm 8)]) (.idx (.var 3) (.idx (.idx (.var 3) (.var 2)) (.lit (.int 2)))), .asg (.idx (.idx (.var 1) (.var 6)) (.ife (.cmp (.var 7) .eq (.lit (.int 0))) (.lit (.int 2)) (.bin .add false (.lit (.int 2)) (.idx (.idx (.var 0) (.lit (.int 1))) (.var 6))))) (.bin .add false (.bin .mul false (.lit (.int 2)) (.var 2)) (.lit (.int 1)))]) [some (.tup [.tup (em tI rows), .tup (em .int ts)]), some (.obj ts.length), o2, some (.lst (em t3 (psl (flat rows) (nxt rows)))), some (.int (dMany rows)), none, o6, o7, o8] (tst [] T0 [.lst (objs 0 ts.length)]) = .ret (.nx [some (.tup [.tup (em tI rows), .tup (em .int ts)]), some (.obj ts.length), p2, some (.lst (em t3 (psl (flat rows) (nxt rows)))), some (.int (dMany rows)), none, p6, p7, p8]) (tst [] ((dArms rows ts).map (em D.int)) [.lst (objs 0 ts.length)]) := by
    rw [evS_for]
    simp -implicitDefEqProofs (disch := first | assumption | (simp; done) | omega | (simp; omega)) [permute, permG, hz]
    exact l2
  have hcomp : evE (rnOf Pr (run Pr (k + 1))) (.comp true [5] (.lst true [(.lit .non), (.lit .non), (.lit .non), (.lit .non)]) (.nm 5) .val [(.idx (.var 0) (.lit (.int 1)))] []) [some (.tup [.tup (em tI rows), .tup (em .int ts)]), none, none, some (.lst (em t3 (psl (flat rows) (nxt rows)))), some (.int (dMany rows)), none, none, none, none] [] = .ret (.obj ts.length) (tst [] (non4 ts.length) [.lst (objs 0 ts.length)]) := by
    rw [evE_cmpr]
    simp -implicitDefEqProofs (disch := first | assumption | (simp; done) | omega | (simp; omega)) [permute, permG, -clp_em, -clp_raw]
    rw [clp_news (L := .lst [.non, .non, .non, .non])]
    · simp -implicitDefEqProofs (disch := first | assumption | (simp; done) | omega | (simp; omega)) [permute, permG]
      simp [tst, non4, objs, List.replicate]
    · intro a S
      simp -implicitDefEqProofs (disch := first | assumption | (simp; done) | omega | (simp; omega)) [permute, permG]
    · intro S
      rfl
    · simp
      omega
  have hfz : freeze (tst [] ((dArms rows ts).map (em D.int)) [.lst (objs 0 ts.length)]) 0 (.tup [.obj ts.length, .int (dMany rows)]) = some (.tup [.lst (em (fun r => D.lst (em .int r)) (dArms rows ts)), .int (dMany rows)]) := by
    have hA : ((dArms rows ts).map (em D.int)).length = ts.length := by simp [dArms, arms]
    have g := frz_tbl (pre := []) (J := [.lst (objs 0 ts.length)]) (T := (dArms rows ts).map (em D.int)) (k := 5) (by rw [hA]; rfl) (by
      rw [List.map_map, show (dArms rows ts).map (D.lst ∘ em D.int) = em (fun r => D.lst (em .int r)) (dArms rows ts) from rfl]
      simp)
    rw [List.length_nil, Nat.zero_add, hA] at g
    show (frzs _ _).map D.tup = _
    have g2 : (D.int (dMany rows)).frz (deref (tst [] ((dArms rows ts).map (em D.int)) [.lst (objs 0 ts.length)]) 0 8) = some (.int (dMany rows)) := D.frz_pu _ (by simp)
    simp only [frzs, g, g2, Option.bind_some, Option.map_some]
    simp [em]
  rw [callD_eq rfl rfl rfl (by simp)]
  simp -implicitDefEqProofs (disch := first | assumption | (simp; done) | omega | (simp; omega)) [permute, permG, -evS_for, -evE_cmpr, b_21, hp, hcomp, e2, e3, hfz]
end

end Law

namespace Law
open PySem Ic
section
variable {k : Nat} {S : Store} {rows : List (List Int)} {ts : List Int} {many : Int}
def st3 (st : List Int × List Int × List Int) : Store := [.lst (em .int st.1), .lst (em .int st.2.1), .lst (em .int st.2.2)]
theorem loop_w {d tb : D} {m : Int} {row : List Int} {s7 s8 : Option D} {st : List Int × List Int × List Int} (hl : row.length = 4) (hr : ∀ v ∈ row, 0 ≤ v ∧ fl v < m) (hm2 : m ≤ 1000) (hst : Len3 m st) :
    ∃ s7' s8', evS (rnOf Pr (run Pr k)) Pr.below (.for (.nm 7) .range1 [(.lit (.int 4))] [.asg (.nm (.nm 8)) (.bin .sub false (.bin .add false (.idx (.var 1) (.var 7)) (.lit (.int 1))) (.bin .mul false (.lit (.int 2)) (.bin .mod false (.idx (.var 1) (.var 7)) (.lit (.int 2))))), .asg (.idx (.var 4) (.var 8)) (.idx (.var 1) (.bin .mod false (.bi .int false [(.bin .add false (.var 7) (.lit (.int 2)))]) (.lit (.int 4)))), .asg (.idx (.var 5) (.var 8)) (.idx (.var 1) (.bin .mod false (.bi .int false [(.bin .add false (.var 7) (.lit (.int 3)))]) (.lit (.int 4)))), .asg (.idx (.var 6) (.var 8)) (.idx (.var 1) (.bin .mod false (.bi .int false [(.bin .add false (.var 7) (.lit (.int 1)))]) (.lit (.int 4))))]) [some d, some (.lst (em .int row)), some tb, some (.int m), some (.obj 0), some (.obj 1), some (.obj 2), s7, s8] (st3 st) = .ret (.nx [some d, some (.lst (em .int row)), some tb, some (.int m), some (.obj 0), some (.obj 1), some (.obj 2), s7', s8']) (st3 (wrow st row)) := by
  have key := flp_ex (ok := fun S' => true) (f := fun x env S => opt (npSet S (.nm 7) x env) (f := ⟨fun env' => evSs (rnOf Pr (run Pr k)) Pr.below [.asg (.nm (.nm 8)) (.bin .sub false (.bin .add false (.idx (.var 1) (.var 7)) (.lit (.int 1))) (.bin .mul false (.lit (.int 2)) (.bin .mod false (.idx (.var 1) (.var 7)) (.lit (.int 2))))), .asg (.idx (.var 4) (.var 8)) (.idx (.var 1) (.bin .mod false (.bi .int false [(.bin .add false (.var 7) (.lit (.int 2)))]) (.lit (.int 4)))), .asg (.idx (.var 5) (.var 8)) (.idx (.var 1) (.bin .mod false (.bi .int false [(.bin .add false (.var 7) (.lit (.int 3)))]) (.lit (.int 4)))), .asg (.idx (.var 6) (.var 8)) (.idx (.var 1) (.bin .mod false (.bi .int false [(.bin .add false (.var 7) (.lit (.int 1)))]) (.lit (.int 4))))] env' S⟩)) (e := fun p : Nat => D.int p) (xs := List.range 4)
    st3 (wst row) (fun pre st env => Len3 m st ∧ ∃ s7 s8, env = [some d, some (.lst (em .int row)), some tb, some (.int m), some (.obj 0), some (.obj 1), some (.obj 2), s7, s8]) st [some d, some (.lst (em .int row)), some tb, some (.int m), some (.obj 0), some (.obj 1), some (.obj 2), s7, s8] ⟨hst, _, _, rfl⟩ fun pre p env st hp hI => ?_
  · obtain ⟨env', hloop, _, s7', s8', rfl⟩ := key
    refine ⟨s7', s8', ?_⟩
    have hz : em D.int (irange 0 4) = em (fun p : Nat => D.int p) (List.range 4) := em_irange (n := 4)
    rw [evS_for]
    simp -implicitDefEqProofs (disch := first | assumption | (simp; done) | omega | (simp; omega)) [permute, permG, hz]
    exact hloop
  · obtain ⟨⟨I1, I2, I3⟩, s7, s8, rfl⟩ := hI
    have hp4 : p < 4 := List.mem_range.mp (hp.subset (show p ∈ pre ++ [p] by simp))
    have hv : (row[p]?).getD 0 = row[p] := by simp [hl, hp4]
    have hb := hr _ (List.getElem_mem (show p < row.length by omega))
    rw [← hv] at hb
    have hfl : 0 ≤ fl ((row[p]?).getD 0) := by unfold fl; omega
    have r0 : atI row (p : Int) = some ((row[p]?).getD 0) := by
      rw [atI_nat (by omega), hv]
    have r1 : atI row (((p : Int) + 1) % 4) = _ := row4_at hl p 1
    have r2 : atI row (((p : Int) + 2) % 4) = _ := row4_at hl p 2
    have r3 : atI row (((p : Int) + 3) % 4) = _ := row4_at hl p 3
    have w1 : ∀ (a b c : List Int) u, (a.length : Int) = m → setIdx [.lst (em .int a), .lst (em .int b), .lst (em .int c)] (.obj 0) (.int (fl ((row[p]?).getD 0))) (.int u) = some [.lst (em .int (a.set (fl ((row[p]?).getD 0)).toNat u)), .lst (em .int b), .lst (em .int c)] := fun a b c u h => by
      rw [setIdx_at (xs := em .int a) rfl hfl (by simp; omega), em_set]
      rfl
    have w2 : ∀ (a b c : List Int) u, (b.length : Int) = m → setIdx [.lst (em .int a), .lst (em .int b), .lst (em .int c)] (.obj 1) (.int (fl ((row[p]?).getD 0))) (.int u) = some [.lst (em .int a), .lst (em .int (b.set (fl ((row[p]?).getD 0)).toNat u)), .lst (em .int c)] := fun a b c u h => by
      rw [setIdx_at (xs := em .int b) rfl hfl (by simp; omega), em_set]
      rfl
    have w3 : ∀ (a b c : List Int) u, (c.length : Int) = m → setIdx [.lst (em .int a), .lst (em .int b), .lst (em .int c)] (.obj 2) (.int (fl ((row[p]?).getD 0))) (.int u) = some [.lst (em .int a), .lst (em .int b), .lst (em .int (c.set (fl ((row[p]?).getD 0)).toNat u))] := fun a b c u h => by
      rw [setIdx_at (xs := em .int c) rfl hfl (by simp; omega), em_set]
      rfl
    refine ⟨[some d, some (.lst (em .int row)), some tb, some (.int m), some (.obj 0), some (.obj 1), some (.obj 2), some (.int p), some (.int (fl ((row[p]?).getD 0)))], ?_, rfl, wst_len ⟨I1, I2, I3⟩, _, _, rfl⟩
    have hfu : ∀ v : Int, v + 1 - 2 * (v % 2) = fl v := fun _ => rfl
    have hb0 := hb.1
    clear hv hb hr
    unfold st3 wst
    generalize (row[p]?).getD 0 = v0 at *
    generalize (row[(p + 1) % 4]?).getD 0 = u1 at *
    generalize (row[(p + 2) % 4]?).getD 0 = u2 at *
    generalize (row[(p + 3) % 4]?).getD 0 = u3 at *
    simp -implicitDefEqProofs (disch := first | assumption | (simp; done) | omega | (simp; omega)) [permute, permG, r0, r1, r2, r3, hfu, w1, w2, w3, I1, I2, I3]
theorem c_law_ways (hD : DrwP rows ts many) : callD (run Pr (k + 3)) 22 false [.tup [.tup (em tI rows), .tup (em .int ts)]] S = .ret (.tup [.lst (em .int (dWays rows ts).1), .lst (em .int (dWays rows ts).2.1), .lst (em .int (dWays rows ts).2.2)]) S := by
  have hr := hD.r
  have hlen := hr.len
  have hL := hD.l
  have hm := hD.m
  have h4 := hD.h4
  have hrot := nxt_rot rows
  have hnl := nxt_len rows
  have hfr := List.length_filter_le (fun r : List Int => decide (r = [])) rows
  have hm0 : 0 ≤ dMany rows ∧ dMany rows ≤ 1000 := by unfold dMany; omega
  have ha := fun S => c_law_arms (k := k) (S := S) hD
  have key := flp_ex (ok := fun S' => true) (f := fun x env S => opt (npSet S (.nm 1) x env) (f := ⟨fun env' => evSs (rnOf Pr (run Pr (k + 2))) Pr.below [.for (.nm 7) .range1 [(.lit (.int 4))] [.asg (.nm (.nm 8)) (.bin .sub false (.bin .add false (.idx (.var 1) (.var 7)) (.lit (.int 1))) (.bin .mul false (.lit (.int 2)) (.bin .mod false (.idx (.var 1) (.var 7)) (.lit (.int 2))))), .asg (.idx (.var 4) (.var 8)) (.idx (.var 1) (.bin .mod false (.bi .int false [(.bin .add false (.var 7) (.lit (.int 2)))]) (.lit (.int 4)))), .asg (.idx (.var 5) (.var 8)) (.idx (.var 1) (.bin .mod false (.bi .int false [(.bin .add false (.var 7) (.lit (.int 3)))]) (.lit (.int 4)))), .asg (.idx (.var 6) (.var 8)) (.idx (.var 1) (.bin .mod false (.bi .int false [(.bin .add false (.var 7) (.lit (.int 1)))]) (.lit (.int 4))))]] env' S⟩)) (e := fun r : List Int => D.lst (em .int r)) (xs := dArms rows ts)
    st3 wrow (fun pre st env => Len3 (dMany rows) st ∧ ∃ s1 s7 s8, env = [some (.tup [.tup (em tI rows), .tup (em .int ts)]), s1, some (.lst (em (fun r => D.lst (em .int r)) (dArms rows ts))), some (.int (dMany rows)), some (.obj 0), some (.obj 1), some (.obj 2), s7, s8]) (irange 0 (dMany rows), irange 0 (dMany rows), irange 0 (dMany rows)) [some (.tup [.tup (em tI rows), .tup (em .int ts)]), none, some (.lst (em (fun r => D.lst (em .int r)) (dArms rows ts))), some (.int (dMany rows)), some (.obj 0), some (.obj 1), some (.obj 2), none, none] ⟨by unfold Len3; simp; omega, _, _, _, rfl⟩ fun pre row env st hp hI => ?_
  · obtain ⟨env', hloop, _, s1, s7, s8, rfl⟩ := key
    rw [show (dArms rows ts).foldl wrow (irange 0 (dMany rows), irange 0 (dMany rows), irange 0 (dMany rows)) = dWays rows ts from rfl] at hloop
    have e2 : evS (rnOf Pr (run Pr (k + 2))) Pr.below (.for (.nm 1) .val [(.var 2)] [.for (.nm 7) .range1 [(.lit (.int 4))] [.asg (.nm (.nm 8)) (.bin .sub false (.bin .add false (.idx (.var 1) (.var 7)) (.lit (.int 1))) (.bin .mul false (.lit (.int 2)) (.bin .mod false (.idx (.var 1) (.var 7)) (.lit (.int 2))))), .asg (.idx (.var 4) (.var 8)) (.idx (.var 1) (.bin .mod false (.bi .int false [(.bin .add false (.var 7) (.lit (.int 2)))]) (.lit (.int 4)))), .asg (.idx (.var 5) (.var 8)) (.idx (.var 1) (.bin .mod false (.bi .int false [(.bin .add false (.var 7) (.lit (.int 3)))]) (.lit (.int 4)))), .asg (.idx (.var 6) (.var 8)) (.idx (.var 1) (.bin .mod false (.bi .int false [(.bin .add false (.var 7) (.lit (.int 1)))]) (.lit (.int 4))))]]) [some (.tup [.tup (em tI rows), .tup (em .int ts)]), none, some (.lst (em (fun r => D.lst (em .int r)) (dArms rows ts))), some (.int (dMany rows)), some (.obj 0), some (.obj 1), some (.obj 2), none, none] [.lst (em .int (irange 0 (dMany rows))), .lst (em .int (irange 0 (dMany rows))), .lst (em .int (irange 0 (dMany rows)))] = .ret (.nx [some (.tup [.tup (em tI rows), .tup (em .int ts)]), s1, some (.lst (em (fun r => D.lst (em .int r)) (dArms rows ts))), some (.int (dMany rows)), some (.obj 0), some (.obj 1), some (.obj 2), s7, s8]) [.lst (em .int (dWays rows ts).1), .lst (em .int (dWays rows ts).2.1), .lst (em .int (dWays rows ts).2.2)] := by
      rw [evS_for]
      simp -implicitDefEqProofs (disch := first | assumption | (simp; done) | omega | (simp; omega)) [permute, permG]
      exact hloop
    have hfz := freeze_tup3 (S := []) (d0 := .lst (em .int (dWays rows ts).1)) (d1 := .lst (em .int (dWays rows ts).2.1)) (d2 := .lst (em .int (dWays rows ts).2.2)) (by simp) (by simp) (by simp)
    rw [callD_eq rfl rfl rfl (by simp)]
    simp -implicitDefEqProofs (disch := first | assumption | (simp; done) | omega | (simp; omega)) [permute, permG, -evS_for, b_22, ha, e2, hfz]
  · obtain ⟨hst, s1, s7, s8, rfl⟩ := hI
    have hmem : row ∈ dArms rows ts := hp.subset (show row ∈ pre ++ [row] by simp)
    have hrow := ent_row hr hL hrot hnl hmem
    obtain ⟨s7', s8', e⟩ := loop_w (k := k + 2) (d := .tup [.tup (em tI rows), .tup (em .int ts)]) (tb := .lst (em (fun r => D.lst (em .int r)) (dArms rows ts))) (s7 := s7) (s8 := s8) hrow.1 (m := dMany rows) (fun v hv => by
      have := hrow.2 v hv
      unfold fl dMany
      omega) hm0.2 hst
    refine ⟨[some (.tup [.tup (em tI rows), .tup (em .int ts)]), some (.lst (em .int row)), some (.lst (em (fun r => D.lst (em .int r)) (dArms rows ts))), some (.int (dMany rows)), some (.obj 0), some (.obj 1), some (.obj 2), s7', s8'], ?_, rfl, wrow_len hst, _, _, _, rfl⟩
    simp -implicitDefEqProofs (disch := first | assumption | (simp; done) | omega | (simp; omega)) [permute, permG, -evS_for, e]
end

end Law

namespace Law
open PySem Ic
section
variable {k : Nat} {S : Store} {rows : List (List Int)} {ts : List Int} {many : Int}
theorem arms_bad (hD : DrwP rows ts many) {x : D} (hp : x.pu = true) (ht : (isTy .int x).isSome = true) (hw : withinD 0 ((ts.length : Int) - 1) x = false) : callD (run Pr (k + 7)) 13 false [.tup [.tup (em tI rows), .tup (em .int ts)], x] S = .exc ⟨1, .non⟩ S := by
  have hn := fun S => c_need (k := k) (S := S) hD
  have hL := hD.l
  have hm := hD.m
  rw [callD_eq rfl rfl rfl (by simp [hp])]
  simp -implicitDefEqProofs (disch := first | assumption | (simp; done) | omega | (simp; omega)) [permute, permG, b_13, hn, hw, hp, ht]
theorem after_bad_d (hD : DrwP rows ts many) {x y : D} (hp : x.pu = true) (hp2 : y.pu = true) (ht : (isTy .int x).isSome = true) (hw : withinD 0 (dMany rows - 1) x = false) : callD (run Pr (k + 7)) 14 false [.tup [.tup (em tI rows), .tup (em .int ts)], x, y] S = .exc ⟨3, .non⟩ S := by
  have hn := fun S => c_need (k := k) (S := S) hD
  have hN : ∀ S, newD Pr.init (run Pr (k + 6)) 0 false [.tup [.tup (em tI rows), .tup (em .int ts)]] S = .ret (dartsD rows ts) S := fun S => c_Darts (k := k + 2) hD
  have hL := hD.l
  have hm := hD.m
  rw [callD_eq rfl rfl rfl (by simp [hp, hp2])]
  simp -implicitDefEqProofs (disch := first | assumption | (simp; done) | omega | (simp; omega)) [permute, permG, b_14, hn, hN, hw, hp, ht]
/-- no way to go on -/
def noWay (y : D) : Prop := isTy .str y = some false ∨ (isTy .str y = some true ∧ isIn y (.tup [.str "straight", .str "left", .str "right"]) = some false)
theorem after_bad_w (hD : DrwP rows ts many) {y : D} (hp2 : y.pu = true) (hv : ∀ S, view S y = y) (hy : noWay y) (hm0 : 0 < dMany rows) : callD (run Pr (k + 7)) 14 false [.tup [.tup (em tI rows), .tup (em .int ts)], .int 0, y] S = .exc ⟨4, .non⟩ S := by
  have hn := fun S => c_need (k := k) (S := S) hD
  have hN : ∀ S, newD Pr.init (run Pr (k + 6)) 0 false [.tup [.tup (em tI rows), .tup (em .int ts)]] S = .ret (dartsD rows ts) S := fun S => c_Darts (k := k + 2) hD
  have hL := hD.l
  have hm := hD.m
  have hw : withinD 0 (dMany rows - 1) (.int 0) = true := by
    simp
    omega
  rw [callD_eq rfl rfl rfl (by simp [hp2])]
  rcases hy with hy | ⟨hy, hy2⟩
  · simp -implicitDefEqProofs (disch := first | assumption | (simp; done) | omega | (simp; omega)) [permute, permG, b_14, hn, hN, hw, hy, hv, -withinD_int]
  · simp -implicitDefEqProofs (disch := first | assumption | (simp; done) | omega | (simp; omega)) [permute, permG, b_14, hn, hN, hw, hy, hy2, hv, -withinD_int]
section
variable {d : D} (h : d.ok 13 = true) (hs : d.nodes ≤ 1000) (hfl : ∀ a ts, d = .tup [a, .tup ts] → ∀ e ∈ ts, e.flat = true) (hj : jd d = false)
include h hs hfl hj
theorem word_bad {w : Int} (hw : w = 0 ∨ w = 1) : callD (run Pr (k + 8)) 23 false [.int w, d, .non, .non] S = .ret (.str "drawing") S := by
  have hp := ok_pu _ _ h
  have hn := fun S => need_drawing_j (k := k) (S := S) h hs hfl hj
  have ha : ∀ S, callD (run Pr (k + 7)) 13 false [d, .non] S = .exc ⟨2, .non⟩ S := by
    intro S
    rw [callD_eq rfl rfl rfl (by simp [hp])]
    simp -implicitDefEqProofs (disch := first | assumption | (simp; done) | omega | (simp; omega)) [permute, permG, b_13, hn]
  have hb : ∀ S, callD (run Pr (k + 7)) 14 false [d, .non, .non] S = .exc ⟨2, .non⟩ S := by
    intro S
    rw [callD_eq rfl rfl rfl (by simp [hp])]
    simp -implicitDefEqProofs (disch := first | assumption | (simp; done) | omega | (simp; omega)) [permute, permG, b_14, hn]
  rw [callD_eq rfl rfl rfl (by simp [hp])]
  rcases hw with rfl | rfl
  · simp -implicitDefEqProofs (disch := first | assumption | (simp; done) | omega | (simp; omega)) [permute, permG, b_23, ha]
  · simp -implicitDefEqProofs (disch := first | assumption | (simp; done) | omega | (simp; omega)) [permute, permG, b_23, hb]
end
theorem word_crossing (hD : DrwP rows ts many) {x : D} (hp : x.pu = true) (ht : (isTy .int x).isSome = true) (hw : withinD 0 ((ts.length : Int) - 1) x = false) : callD (run Pr (k + 8)) 23 false [.int 0, .tup [.tup (em tI rows), .tup (em .int ts)], x, .non] S = .ret (.str "crossing") S := by
  have ha := fun S => arms_bad (k := k) (S := S) hD hp ht hw
  rw [callD_eq rfl rfl rfl (by simp [hp])]
  simp -implicitDefEqProofs (disch := first | assumption | (simp; done) | omega | (simp; omega)) [permute, permG, b_23, ha]
theorem word_dart (hD : DrwP rows ts many) {x : D} (hp : x.pu = true) (ht : (isTy .int x).isSome = true) (hw : withinD 0 (dMany rows - 1) x = false) : callD (run Pr (k + 8)) 23 false [.int 1, .tup [.tup (em tI rows), .tup (em .int ts)], x, .int 0] S = .ret (.str "dart") S := by
  have ha := fun S => after_bad_d (k := k) (S := S) (y := .int 0) hD hp (by simp) ht hw
  rw [callD_eq rfl rfl rfl (by simp [hp])]
  simp -implicitDefEqProofs (disch := first | assumption | (simp; done) | omega | (simp; omega)) [permute, permG, b_23, ha]
theorem word_way (hD : DrwP rows ts many) {y : D} (hp2 : y.pu = true) (hv : ∀ S, view S y = y) (hy : noWay y) (hm0 : 0 < dMany rows) : callD (run Pr (k + 8)) 23 false [.int 1, .tup [.tup (em tI rows), .tup (em .int ts)], .int 0, y] S = .ret (.str "way") S := by
  have ha := fun S => after_bad_w (k := k) (S := S) hD hp2 hv hy hm0
  rw [callD_eq rfl rfl rfl (by simp [hp2])]
  simp -implicitDefEqProofs (disch := first | assumption | (simp; done) | omega | (simp; omega)) [permute, permG, b_23, ha]
end

end Law

namespace Law
open PySem Ic
section
variable {k : Nat} {S : Store}
theorem sum_lensI : ∀ xss : List (List Int), (xss.map fun a => (a.length : Int)).sum = ((flat xss).length : Int)
  | [] => rfl
  | xs :: xss => by
    rw [List.map_cons, List.sum_cons, sum_lensI xss]
    simp [flat]
theorem same_ints {ns : List Int} (hl : ns.length ≤ 900) : callD (run Pr (k + 4)) 17 false [.tup (em .int ns), .tup (em .int ns)] S = .ret (.bl true) S :=
  same_self 3 (k := k) (by simp) (by simp [smp, smps_em]) (by simp; omega)
/-- all darts lead on as they should -/
theorem darts_loop {rows : List (List Int)} {ts : List Int} {many : Int} {j s tb : D} {o2 o6' o7 o8 i11 i12 : Option D} (hD : DrwP rows ts many) :
    ∃ o6 o11 o12, evS (rnOf Pr (run Pr 39)) Pr.below (.for (.nm 6) .range1 [(.var 10)] [.asg (.nm (.nm 11)) (.comp false [14] (.call 14 false [(.var 4), (.var 6), (.var 14)] [0, 1, 2]) (.nm 14) .val [(.tup [(.lit (.str "straight")), (.lit (.str "left")), (.lit (.str "right"))])] []), .ite (.not (.call 17 false [(.bi .tuple false [(.var 11)]), (.bi .tuple false [(.comp false [14] (.idx (.var 14) (.var 6)) (.nm 14) .val [(.var 5)] [])])] [0, 1])) [.ret (.lit (.bl false))] [], .asg (.nm (.nm 12)) (.bin .sub false (.bin .add false (.idx (.var 11) (.lit (.int 1))) (.lit (.int 1))) (.bin .mul false (.lit (.int 2)) (.bin .mod false (.idx (.var 11) (.lit (.int 1))) (.lit (.int 2))))), .ite (.and [(.cmp (.var 6) .lt (.bin .mul false (.lit (.int 2)) (.bi .sum false [(.comp false [16] (.bi .len false [(.var 16)]) (.nm 16) .val [(.var 3)] [])]))), (.cmp (.callk 14 false 0 3 [] [(.lit (.str "right")), (.var 12), (.var 4)] [2, 1, 0]) .ne (.bin .sub false (.bin .add false (.var 6) (.lit (.int 1))) (.bin .mul false (.lit (.int 2)) (.bin .mod false (.var 6) (.lit (.int 2))))))]) [.ret (.lit (.bl false))] []]) [some s, some (.obj 0), o2, some (.tup (em tI rows)), some (.tup [.tup (em tI rows), .tup (em .int ts)]), some (.tup [.lst (em .int (dWays rows ts).1), .lst (em .int (dWays rows ts).2.1), .lst (em .int (dWays rows ts).2.2)]), o6', o7, o8, some tb, some (.int (dMany rows)), i11, i12, none, none, none, none] [j] =
      .ret (.nx [some s, some (.obj 0), o2, some (.tup (em tI rows)), some (.tup [.tup (em tI rows), .tup (em .int ts)]), some (.tup [.lst (em .int (dWays rows ts).1), .lst (em .int (dWays rows ts).2.1), .lst (em .int (dWays rows ts).2.2)]), o6, o7, o8, some tb, some (.int (dMany rows)), o11, o12, none, none, none, none]) [j] := by
  have hr := hD.r
  have hlen := hr.len
  have hL := hD.l
  have hm := hD.m
  have h4 := hD.h4
  have hrot := nxt_rot rows
  have hnl := nxt_len rows
  have hfr := List.length_filter_le (fun r : List Int => decide (r = [])) rows
  have hm0 : 0 ≤ dMany rows ∧ dMany rows ≤ 1000 := by unfold dMany; omega
  have hm2 : 2 * ((flat rows).length : Int) ≤ dMany rows := by unfold dMany; omega
  obtain ⟨L1, L2, L3⟩ := dWays_len rows ts
  have key := flp_ex (ok := fun S' => true) (f := fun x env S => opt (npSet S (.nm 6) x env) (f := ⟨fun env' => evSs (rnOf Pr (run Pr 39)) Pr.below [.asg (.nm (.nm 11)) (.comp false [14] (.call 14 false [(.var 4), (.var 6), (.var 14)] [0, 1, 2]) (.nm 14) .val [(.tup [(.lit (.str "straight")), (.lit (.str "left")), (.lit (.str "right"))])] []), .ite (.not (.call 17 false [(.bi .tuple false [(.var 11)]), (.bi .tuple false [(.comp false [14] (.idx (.var 14) (.var 6)) (.nm 14) .val [(.var 5)] [])])] [0, 1])) [.ret (.lit (.bl false))] [], .asg (.nm (.nm 12)) (.bin .sub false (.bin .add false (.idx (.var 11) (.lit (.int 1))) (.lit (.int 1))) (.bin .mul false (.lit (.int 2)) (.bin .mod false (.idx (.var 11) (.lit (.int 1))) (.lit (.int 2))))), .ite (.and [(.cmp (.var 6) .lt (.bin .mul false (.lit (.int 2)) (.bi .sum false [(.comp false [16] (.bi .len false [(.var 16)]) (.nm 16) .val [(.var 3)] [])]))), (.cmp (.callk 14 false 0 3 [] [(.lit (.str "right")), (.var 12), (.var 4)] [2, 1, 0]) .ne (.bin .sub false (.bin .add false (.var 6) (.lit (.int 1))) (.bin .mul false (.lit (.int 2)) (.bin .mod false (.var 6) (.lit (.int 2))))))]) [.ret (.lit (.bl false))] []] env' S⟩)) (e := fun p : Int => D.int p) (xs := irange 0 (dMany rows)) (σ := Unit)
    (fun _ => [j]) (fun _ _ => ()) (fun pre _ env => ∃ o6 o11 o12, env = [some s, some (.obj 0), o2, some (.tup (em tI rows)), some (.tup [.tup (em tI rows), .tup (em .int ts)]), some (.tup [.lst (em .int (dWays rows ts).1), .lst (em .int (dWays rows ts).2.1), .lst (em .int (dWays rows ts).2.2)]), o6, o7, o8, some tb, some (.int (dMany rows)), o11, o12, none, none, none, none]) () [some s, some (.obj 0), o2, some (.tup (em tI rows)), some (.tup [.tup (em tI rows), .tup (em .int ts)]), some (.tup [.lst (em .int (dWays rows ts).1), .lst (em .int (dWays rows ts).2.1), .lst (em .int (dWays rows ts).2.2)]), o6', o7, o8, some tb, some (.int (dMany rows)), i11, i12, none, none, none, none] ⟨_, _, _, rfl⟩ fun pre d env _ hp hI => ?_
  · obtain ⟨env', hloop, o6, o11, o12, rfl⟩ := key
    refine ⟨o6, o11, o12, ?_⟩
    rw [evS_for]
    simp -implicitDefEqProofs (disch := first | assumption | (simp; done) | omega | (simp; omega)) [permute, permG]
    exact hloop
  · obtain ⟨o6, o11, o12, rfl⟩ := hI
    have hd := mem_irange.mp (hp.subset (show d ∈ pre ++ [d] by simp))
    have at1 : atI (dWays rows ts).1 d = some (((dWays rows ts).1[d.toNat]?).getD 0) := by
      rw [atI_some hd.1 (by omega)]
      have : d.toNat < (dWays rows ts).1.length := by omega
      simp [this]
    have at2 : atI (dWays rows ts).2.1 d = some (((dWays rows ts).2.1[d.toNat]?).getD 0) := by
      rw [atI_some hd.1 (by omega)]
      have : d.toNat < (dWays rows ts).2.1.length := by omega
      simp [this]
    have at3 : atI (dWays rows ts).2.2 d = some (((dWays rows ts).2.2[d.toNat]?).getD 0) := by
      rw [atI_some hd.1 (by omega)]
      have : d.toNat < (dWays rows ts).2.2.length := by omega
      simp [this]
    have cs := fun S => c_after_s (k := 32) (S := S) hD hd.1 hd.2
    have cl := fun S => c_after_l (k := 32) (S := S) hD hd.1 hd.2
    have cr' := fun S => c_after_r (k := 32) (S := S) hD hd.1 hd.2
    have hsm : ∀ a b c S, callD (run Pr 39) 17 false [.tup [.int a, .int b, .int c], .tup [.int a, .int b, .int c]] S = .ret (.bl true) S := fun a b c S => same_ints (k := 35) (S := S) (ns := [a, b, c]) (by simp)
    have hback : d < 2 * ((flat rows).length : Int) → ∀ S, callD (run Pr 39) 14 false [.tup [.tup (em tI rows), .tup (em .int ts)], .int (fl (((dWays rows ts).2.1[d.toNat]?).getD 0)), .str "right"] S = .ret (.int (fl d)) S := fun hd2 S => by
      obtain ⟨l, e1, e2, e3, e4⟩ := back_right (ts := ts) hr hL hrot hnl hm2 (d := d.toNat) (by omega)
      have e1' : (dWays rows ts).2.1[d.toNat]? = some l := e1
      have e4' : (dWays rows ts).2.2[(fl l).toNat]? = some (fl (d.toNat : Int)) := e4
      rw [e1', Option.getD_some, c_after_r (k := 32) hD e2 (by omega), e4', Option.getD_some, show ((d.toNat : Nat) : Int) = d by omega]
    refine ⟨[some s, some (.obj 0), o2, some (.tup (em tI rows)), some (.tup [.tup (em tI rows), .tup (em .int ts)]), some (.tup [.lst (em .int (dWays rows ts).1), .lst (em .int (dWays rows ts).2.1), .lst (em .int (dWays rows ts).2.2)]), some (.int d), o7, o8, some tb, some (.int (dMany rows)), some (.lst [.int (((dWays rows ts).1[d.toNat]?).getD 0), .int (((dWays rows ts).2.1[d.toNat]?).getD 0), .int (((dWays rows ts).2.2[d.toNat]?).getD 0)]), some (.int (fl (((dWays rows ts).2.1[d.toNat]?).getD 0))), none, none, none, none], ?_, rfl, _, _, _, rfl⟩
    have hfu : ∀ v : Int, v + 1 - 2 * (v % 2) = fl v := fun _ => rfl
    generalize ((dWays rows ts).1[d.toNat]?).getD 0 = u1 at *
    generalize ((dWays rows ts).2.1[d.toNat]?).getD 0 = u2 at *
    generalize ((dWays rows ts).2.2[d.toNat]?).getD 0 = u3 at *
    by_cases hd2 : d < 2 * ((flat rows).length : Int)
    · have hb := hback hd2
      simp -implicitDefEqProofs (disch := first | assumption | (simp; done) | omega | (simp; omega)) [permute, permG, at1, at2, at3, cs, cl, cr', hsm, hfu, hb, sum_lensI, hd2]
    · simp -implicitDefEqProofs (disch := first | assumption | (simp; done) | omega | (simp; omega)) [permute, permG, at1, at2, at3, cs, cl, cr', hsm, hfu, sum_lensI, hd2]
theorem law_turn {P : Ic.Flow → Store → Prop} {X : Exc → Store → Prop} {s : List Int} {j : D} {bb b : Nat} {o2 o3 o4 o5 o6 o7 o8 o9 o10 o11 o12 : Option D} (hj : Jugs bb j) (hb : b + 40 ≤ bb)
    (hP : ∀ o2 o3 o4 o5 o6 o7 o8 o9 o10 o11 o12 j', Jugs b j' → P (.nx [some (.scr s), some (.obj 0), o2, o3, o4, o5, o6, o7, o8, o9, o10, o11, o12, none, none, none, none]) [j']) :
    (evSs (rnOf Pr (run Pr 39)) Pr.below [.asg (.nm (.nm 3)) (.call 18 false [(.var 1), (.lit (.int 4)), (.lit (.int 3))] [0, 1, 2]), .asg (.nm (.nm 4)) (.tup [(.var 3), (.call 19 false [(.var 1), (.bin .fdiv false (.bi .sum false [(.comp false [16] (.bi .len false [(.var 16)]) (.nm 16) .val [(.var 3)] [])]) (.lit (.int 2)))] [0, 1])]), .asg (.tup [.nm (.nm 9), .nm (.nm 10)]) (.call 21 false [(.var 4)] [0]), .ite (.cmp (.comp false [13] (.var 13) (.nm 13) .range1 [(.bi .len false [(.var 9)])] [(.not (.call 17 false [(.callk 13 false 0 2 [] [(.var 13), (.var 4)] [1, 0]), (.bi .tuple false [(.idx (.var 9) (.var 13))])] [0, 1]))]) .ne (.lst false [])) [.ret (.lit (.bl false))] [], .asg (.nm (.nm 5)) (.call 22 false [(.var 4)] [0]), .for (.nm 6) .range1 [(.var 10)] [.asg (.nm (.nm 11)) (.comp false [14] (.call 14 false [(.var 4), (.var 6), (.var 14)] [0, 1, 2]) (.nm 14) .val [(.tup [(.lit (.str "straight")), (.lit (.str "left")), (.lit (.str "right"))])] []), .ite (.not (.call 17 false [(.bi .tuple false [(.var 11)]), (.bi .tuple false [(.comp false [14] (.idx (.var 14) (.var 6)) (.nm 14) .val [(.var 5)] [])])] [0, 1])) [.ret (.lit (.bl false))] [], .asg (.nm (.nm 12)) (.bin .sub false (.bin .add false (.idx (.var 11) (.lit (.int 1))) (.lit (.int 1))) (.bin .mul false (.lit (.int 2)) (.bin .mod false (.idx (.var 11) (.lit (.int 1))) (.lit (.int 2))))), .ite (.and [(.cmp (.var 6) .lt (.bin .mul false (.lit (.int 2)) (.bi .sum false [(.comp false [16] (.bi .len false [(.var 16)]) (.nm 16) .val [(.var 3)] [])]))), (.cmp (.callk 14 false 0 3 [] [(.lit (.str "right")), (.var 12), (.var 4)] [2, 1, 0]) .ne (.bin .sub false (.bin .add false (.var 6) (.lit (.int 1))) (.bin .mul false (.lit (.int 2)) (.bin .mod false (.var 6) (.lit (.int 2))))))]) [.ret (.lit (.bl false))] []], .asg (.nm (.nm 7)) (.idx (.lst false [(.lit .non), (.tup []), (.slc false (.var 4) none (some (.lit (.int 1)))), (.bi .list false [(.var 4)])]) (.call 16 false [(.var 1), (.lit (.int 4))] [0, 1])), .asg (.nm (.nm 8)) (.bin .add false (.comp false [15] (.call 23 false [(.var 15), (.var 7), (.lit .non), (.lit .non)] [0, 1, 2, 3]) (.nm 15) .range1 [(.lit (.int 2))] []) (.lst false [(.call 23 false [(.lit (.int 0)), (.var 4), (.idx (.lst false [(.neg (.lit (.int 1))), (.bi .len false [(.var 9)]), (.lit (.bl true)), (.lit .non)]) (.call 16 false [(.var 1), (.lit (.int 4))] [0, 1])), (.lit .non)] [0, 1, 2, 3])])), .asg (.nm (.nm 8)) (.bin .add false (.var 8) (.lst false [(.call 23 false [(.lit (.int 1)), (.var 4), (.idx (.lst false [(.neg (.lit (.int 1))), (.var 10), (.lit (.bl true)), (.lit .non)]) (.call 16 false [(.var 1), (.lit (.int 4))] [0, 1])), (.lit (.int 0))] [0, 1, 2, 3]), (.call 23 false [(.lit (.int 1)), (.var 4), (.lit (.int 0)), (.idx (.lst false [(.lit (.str "Left")), (.lit (.str "")), (.lit .non), (.lit (.int 0)), (.tup [(.lit (.str "left"))])]) (.call 16 false [(.var 1), (.lit (.int 5))] [0, 1]))] [0, 1, 2, 3])])), .ite (.cmp (.var 8) .ne (.lst false [(.lit (.str "drawing")), (.lit (.str "drawing")), (.lit (.str "crossing")), (.lit (.str "dart")), (.lit (.str "way"))])) [.ret (.lit (.bl false))] []] [some (.scr s), some (.obj 0), o2, o3, o4, o5, o6, o7, o8, o9, o10, o11, o12, none, none, none, none] [j]).Al P X := by
  simp -implicitDefEqProofs (disch := first | assumption | (simp; done) | omega | (simp; omega)) [permute, permG, -evS_for]
  simp only [Al_bnd, Al_stb, Al_nox]
  refine jlawrows_all (b := bb - 13) (by omega) (by omega) (by omega) (by omega) hj (by omega) fun rows many j1 hr hm hn1 hn3 hj1 => ?_
  have hl := hr.len
  have h00 := hr.1
  have hlf : (flat rows).length ≤ 8 := by omega
  have hs1 : rows.length ≤ 4 := by omega
  have e2 : ((flat rows).length : Int) / 2 = many := by omega
  simp -implicitDefEqProofs (disch := first | assumption | (simp; done) | omega | (simp; omega)) [permute, permG, -evS_for, sum_lensI, e2]
  simp only [Al_bnd, Al_stb, Al_nox]
  refine jlawturns_all (b := bb - 17) (by omega) (by omega) hj1 (by omega) fun ts j2 hlt hts hj2 => ?_
  have hD : DrwP rows ts many := ⟨hr, by omega, hn1, by omega, hlt, hts⟩
  have ha := fun S => c_law_arms (k := 37) (S := S) hD
  have hw := fun S => c_law_ways (k := 36) (S := S) hD
  have hfr := List.length_filter_le (fun r : List Int => decide (r = [])) rows
  have hm0 : 0 < dMany rows ∧ dMany rows ≤ 1000 := by
    have : ((flat rows).length : Nat) = 0 → 0 < (rows.filter fun r => decide (r = [])).length := fun h0 => by
      cases rows with
      | nil => simp at hn1
      | cons r rows =>
        have : r = [] := by
          simp [flat] at h0
          exact h0.1
        simp [this]
    unfold dMany
    omega
  have hat : ∀ c ∈ irange 0 (ts.length : Int), atI (dArms rows ts) c = some (armR (flat rows) (bef (nxt rows)) (tu ts c) c) := fun c hc => by
    have hc := mem_irange.mp hc
    rw [atI_some hc.1 (by rw [dArms_len]; omega)]
    unfold dArms arms
    have e : ((c.toNat : Nat) : Int) = c := by omega
    have hcn : c.toNat < ts.length := by omega
    simp [tu, hcn, e]
  have hca : ∀ c ∈ irange 0 (ts.length : Int), ∀ S, callD (run Pr 39) 13 false [.tup [.tup (em tI rows), .tup (em .int ts)], .int c] S = .ret (.tup (em .int (armR (flat rows) (bef (nxt rows)) (tu ts c) c))) S := fun c hc S => by
    have hc := mem_irange.mp hc
    exact c_arms (k := 32) hD hc.1 (by omega)
  have hsm : ∀ c, ∀ S, callD (run Pr 39) 17 false [.tup (em .int (armR (flat rows) (bef (nxt rows)) (tu ts c) c)), .tup (em .int (armR (flat rows) (bef (nxt rows)) (tu ts c) c))] S = .ret (.bl true) S := fun c S => same_ints (k := 35) (by simp)
  have hfm : (irange 0 (ts.length : Int)).filterMap (fun _ => (none : Option D)) = [] := by
    rw [List.filterMap_eq_nil_iff]
    intro a _
    rfl
  obtain ⟨p6, p11, p12, e5⟩ := darts_loop (s := .scr s) (j := j2) (tb := .lst (em (fun r => D.lst (em .int r)) (dArms rows ts))) (o2 := o2) (o6' := o6) (o7 := o7) (o8 := o8) (i11 := o11) (i12 := o12) hD
  have hdl := dArms_len (rows := rows) (ts := ts)
  have hdl2 : ts.length ≤ 12 := by omega
  simp -implicitDefEqProofs (disch := first | assumption | (simp; done) | omega | (simp; omega)) [permute, permG, -evS_for, ha, hw, hat, hca, hsm, hfm, e5, hdl]
  simp only [Al_bnd, Al_stb, Al_nox]
  refine take_all (b := bb - 18) (hj2.le (by omega)) (by omega) (by omega) (by simp) fun v j3 hv0 hv1 hj3 => ?_
  obtain ⟨d, hdat, hd, hdn, hdf, hjd⟩ : ∃ d, atI [D.non, D.tup [], D.tup [D.tup (em tI rows)], D.lst [D.tup (em tI rows), D.tup (em D.int ts)]] v = some d ∧ d.ok 13 = true ∧ d.nodes ≤ 1000 ∧ (∀ a us, d = .tup [a, .tup us] → ∀ e ∈ us, e.flat = true) ∧ jd d = false := by
    have : v = 0 ∨ v = 1 ∨ v = 2 ∨ v = 3 := by omega
    rcases this with rfl | rfl | rfl | rfl <;> refine ⟨_, rfl, by simp, ?_, by simp, rfl⟩
    all_goals simp [D.nodes, nodess, nodess_rows]
    all_goals omega
  have hdp := ok_pu _ _ hd
  have hwb : ∀ w ∈ irange 0 2, ∀ S, callD (run Pr 39) 23 false [.int w, d, .non, .non] S = .ret (.str "drawing") S := fun w hw S => word_bad (k := 31) hd hdn hdf hjd (by
    have := mem_irange.mp hw
    omega)
  have hf2 : (irange 0 2).filterMap (fun _ => some (D.str "drawing")) = [.str "drawing", .str "drawing"] := rfl
  simp -implicitDefEqProofs (disch := first | assumption | (simp; done) | omega | (simp; omega)) [permute, permG, -evS_for, hdat, hwb, hf2]
  simp only [Al_bnd, Al_stb, Al_nox]
  refine take_all (b := bb - 19) (hj3.le (by omega)) (by omega) (by omega) (by simp) fun v2 j4 hv2 hv3 hj4 => ?_
  obtain ⟨x, hxat, hxp, hxt, hxw⟩ : ∃ x, atI [D.int (-1), D.int (ts.length : Int), D.bl true, D.non] v2 = some x ∧ x.pu = true ∧ (isTy .int x).isSome = true ∧ withinD 0 ((ts.length : Int) - 1) x = false := by
    have : v2 = 0 ∨ v2 = 1 ∨ v2 = 2 ∨ v2 = 3 := by omega
    rcases this with rfl | rfl | rfl | rfl <;> refine ⟨_, rfl, by simp, by simp, ?_⟩
    all_goals simp
    all_goals omega
  have hwc := fun S => word_crossing (k := 31) (S := S) hD hxp hxt hxw
  simp -implicitDefEqProofs (disch := first | assumption | (simp; done) | omega | (simp; omega)) [permute, permG, -evS_for, hxat, hwc, hdl]
  simp only [Al_bnd, Al_stb, Al_nox]
  refine take_all (b := bb - 20) (hj4.le (by omega)) (by omega) (by omega) (by simp) fun v3 j5 hv4 hv5 hj5 => ?_
  obtain ⟨y, hyat, hyp, hyt, hyw⟩ : ∃ x, atI [D.int (-1), D.int (dMany rows), D.bl true, D.non] v3 = some x ∧ x.pu = true ∧ (isTy .int x).isSome = true ∧ withinD 0 (dMany rows - 1) x = false := by
    have : v3 = 0 ∨ v3 = 1 ∨ v3 = 2 ∨ v3 = 3 := by omega
    rcases this with rfl | rfl | rfl | rfl <;> refine ⟨_, rfl, by simp, by simp, ?_⟩
    all_goals simp
    all_goals omega
  have hwd := fun S => word_dart (k := 31) (S := S) hD hyp hyt hyw
  simp -implicitDefEqProofs (disch := first | assumption | (simp; done) | omega | (simp; omega)) [permute, permG, -evS_for, hyat, hwd]
  simp only [Al_bnd, Al_stb, Al_nox]
  refine take_all (b := bb - 21) (hj5.le (by omega)) (by omega) (by omega) (by simp) fun v4 j6 hv6 hv7 hj6 => ?_
  obtain ⟨z, hzat, hzp, hzv, hzw⟩ : ∃ x, atI [D.str "Left", D.str "", D.non, D.int 0, D.tup [D.str "left"]] v4 = some x ∧ x.pu = true ∧ (∀ S, view S x = x) ∧ noWay x := by
    have : v4 = 0 ∨ v4 = 1 ∨ v4 = 2 ∨ v4 = 3 ∨ v4 = 4 := by omega
    rcases this with rfl | rfl | rfl | rfl | rfl
    · exact ⟨_, rfl, by simp, fun _ => rfl, .inr ⟨rfl, by decide +kernel⟩⟩
    · exact ⟨_, rfl, by simp, fun _ => rfl, .inr ⟨rfl, by decide +kernel⟩⟩
    · exact ⟨_, rfl, by simp, fun _ => rfl, .inl rfl⟩
    · exact ⟨_, rfl, by simp, fun _ => rfl, .inl rfl⟩
    · exact ⟨_, rfl, by simp, fun _ => rfl, .inl rfl⟩
  have hww := fun S => word_way (k := 31) (S := S) hD hzp hzv hzw hm0.1
  simp -implicitDefEqProofs (disch := first | assumption | (simp; done) | omega | (simp; omega)) [permute, permG, -evS_for, hzat, hww]
  exact hP _ _ _ _ _ _ _ _ _ _ _ _ (hj6.le (by omega))
theorem plain (ns : List Int) (hn : ns.length ≤ 63) : (run Pr 40 lawIx [.scr ns] []).All (fun d _ => d = .bl true) fun _ _ => False := by
  have e : lawIx = 24 := rfl
  rw [e, ← T.Al_iff, run_eq rfl rfl rfl]
  simp -implicitDefEqProofs (disch := first | assumption | (simp; done) | omega | (simp; omega)) [permute, permG, b_24]
  simp only [Al_bnd, Al_stb, Al_nox]
  obtain ⟨I, hI⟩ : ∃ I : List Int → Slots → Store → Prop, ∀ pre env S, I pre env S ↔ ∃ j' bb' o2 o3 o4 o5 o6 o7 o8 o9 o10 o11 o12, S = [j'] ∧ Jugs bb' j' ∧ 1000 ≤ bb' + 40 * pre.length ∧ env = [some (.scr ns), some (.obj 0), o2, o3, o4, o5, o6, o7, o8, o9, o10, o11, o12, none, none, none, none] := ⟨_, fun _ _ _ => Iff.rfl⟩
  refine flp_all I (fun pre a env S hp h => ?_) (fun env S h => ?_) ((hI _ _ _).mpr ⟨jug ns 0 0, 1000, _, _, _, _, _, _, _, _, _, _, _, rfl, ⟨ns, 0, 0, rfl, by omega, by omega, by omega⟩, by simp, rfl⟩)
  · obtain ⟨j', bb', o2, o3, o4, o5, o6, o7, o8, o9, o10, o11, o12, rfl, hj', hb', rfl⟩ := (hI _ _ _).mp h
    have hl3 := hp.length_le
    simp at hl3
    rw [npSet_nm, opt_some]
    refine law_turn (b := bb' - 40) hj' (by omega) fun o2 o3 o4 o5 o6 o7 o8 o9 o10 o11 o12 j2 hj2 => ⟨rfl, (hI _ _ _).mpr ⟨j2, bb' - 40, o2, o3, o4, o5, o6, o7, o8, o9, o10, o11, o12, rfl, hj2, by simp; omega, rfl⟩⟩
  · obtain ⟨j', bb', o2, o3, o4, o5, o6, o7, o8, o9, o10, o11, o12, rfl, hj', hb', rfl⟩ := (hI _ _ _).mp h
    simp -implicitDefEqProofs (disch := first | assumption | (simp; done) | omega | (simp; omega)) [permute, permG]
end

end Law

set_option maxHeartbeats 0
open PySem PySem.W PySem.Calls PyProof.Rows
theorem PySem.Challenge.cw_icetracks_k14_arms_and_darts_holds : PySem.Challenge.rw_icetracks_k14_arms_and_darts.Holds := by
  w_on; o_law
  refine HandSHeadRun.head_any (r := OpenLaw.row PySem.Challenge.rw_icetracks_k14_arms_and_darts) (q := view (OpenLaw.row PySem.Challenge.rw_icetracks_k14_arms_and_darts).prog [39]) (H := Law.hk) (ob := Law.ob) (M := 4000) (loose := Law.loose) (d := HandSHeadRun.topDef (OpenLaw.row PySem.Challenge.rw_icetracks_k14_arms_and_darts).prog 39) (kwd := []) Law.ob_eq
    (by kernel_rfl) (fun s => by kernel_rfl) Law.runs (by kernel_rfl) (by kernel_rfl) (by kernel_rfl) (by rfl) (by first | assumption | decide +kernel) (by decide +kernel) ⟨rfl, rfl, rfl, rfl, rfl, by decide +kernel⟩ ?hw ?hc
  case hw => w_witness2
  case hc =>
    refine Ic.walk_ofW (l := PySem.Challenge.rw_icetracks_k14_arms_and_darts) (n := 63) (k := 80) (x := "script") (CX := fun w => L2.CX (PySem.Challenge.rw_icetracks_k14_arms_and_darts).prog w) rfl (by decide) (by kernel_rfl) ⟨rfl, by decide, by decide⟩ ?F (fun _ _ _ _ _ z => Ic.cx_false z)
    intro w mg fa h Y G hmg0
    obtain ⟨K, KX, c⟩ := Y
    have hmg : mg ("law" : PySem.Str) = some (.ref fa) := by
      have e : (HandSHeadRun.topDef (OpenLaw.row PySem.Challenge.rw_icetracks_k14_arms_and_darts).prog 39).name = ("law" : PySem.Str) := by kernel_rfl
      rw [← e]
      exact hmg0
    obtain ⟨fd, sp, hb, hsp, hF⟩ := Law.facts Law.plain KX G hmg ⟨c.t.d, c.more⟩
    exact ⟨K, fd, sp, KX, hb, hsp, fun base _ _ => hF _ w base⟩
