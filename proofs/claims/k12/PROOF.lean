import PyProof.Rows.All
import Wide.All
import OpenK.AllK
import Wide.FinOn
import HandS.ForMost
import HandS.IsInst
import HandS.Defaults
import HandS.Wide
import HandS.TupAny
import HandS.TupLen
import HandS.Deep
import HandS.Style
import HandS.DictComp
import HandS.MakeKw
import HandS.Zip
import HandS.Zip0
import PyProof.EqAt
import PyProof.EqKinds
import PyProof.TupleCall
import PyProof.InstEq
import KE.KOpsOwn
import KE.KCallOwn
import HandS.More
import HandS.Records
import HandS.OwnEq
import HandS.Property
import HandS.SlotsOwn
import HandS.Star
import HandS.ListItems
import HandS.Conv
import HandS.GenCall
import HandS.GenList
import HandS.GenYield
import PyProof.ListMulRoad
import PyProof.FactsAll.tuple_2
import HandS.TupMul
import HandS.ClsMeth
import KE.KStateDown
import Lean
import HandS.Base
import HandS.Call
import HandS.Ends
import HandS.Words
import HandS.WordsExc
import HandS.Head0
import HandS.Head1
import HandS.Head2
import HandS.HeadEnd
import HandS.HeadHook1
import HandS.HeadHook2
import HandS.HeadNt
import PySem.Challenge.RW_keepapart_k12_whole_desks
/-! KMini: a small semantics of our own (values, heap, combinators), plain Lean, kernel-evaluable. -/
set_option linter.all false
namespace KA

/-- a value: tuples are trees; lists, dicts, instances stand in the heap; flst: a list that nobody writes (the script) -/
inductive MV where
  | non | bl (b : Bool) | int (i : Int) | str (s : List Nat) | ref (n : Nat) | tup (xs : List MV) | flst (xs : List MV)
  deriving Inhabited

/-- an object: a list; a dict (tk: its keys are tuples; lk: locked while it is walked); an instance of the class c -/
inductive MO where
  | lst (xs : List MV)
  | dct (tk lk : Bool) (kvs : List (MV × MV))
  | ins (c : Nat) (fs : List (Nat × MV))
  deriving Inhabited

/-! ### the heap: a tree by the address's binary figures -/
inductive Tr where
  | nil
  | node (o : Option MO) (l r : Tr)

def Tr.get : Tr → Nat → Option MO
  | .nil, _ => none
  | .node o l r, n => match n with
    | 0 => o
    | k + 1 => match k % 2 with
      | 0 => l.get (k / 2)
      | _ => r.get (k / 2)

def Tr.setF : Nat → Tr → Nat → MO → Tr
  | 0, t, _, _ => t
  | f + 1, t, n, x =>
    match t with
    | .nil => match n with
      | 0 => .node (some x) .nil .nil
      | k + 1 => match k % 2 with
        | 0 => .node none (Tr.setF f .nil (k / 2) x) .nil
        | _ => .node none .nil (Tr.setF f .nil (k / 2) x)
    | .node o l r => match n with
      | 0 => .node (some x) l r
      | k + 1 => match k % 2 with
        | 0 => .node o (Tr.setF f l (k / 2) x) r
        | _ => .node o l (Tr.setF f r (k / 2) x)

theorem Tr.get_set : ∀ (f : Nat) (t : Tr) (n m : Nat) (x : MO), n < f → (Tr.setF f t n x).get m = if m = n then some x else t.get m := by
  intro f
  induction f with
  | zero => intro t n m x h; omega
  | succ f ih =>
    intro t n m x h
    cases n with
    | zero => cases t <;> cases m <;> simp [Tr.setF, Tr.get] <;> split <;> simp [Tr.get]
    | succ k =>
      have hk : k / 2 < f := by omega
      have nl : ∀ q : Nat, Tr.nil.get q = none := fun _ => rfl
      rcases Nat.mod_two_eq_zero_or_one k with e | e
      · cases t with
        | nil =>
          cases m with
          | zero => simp [Tr.setF, e, Tr.get]
          | succ j =>
            rcases Nat.mod_two_eq_zero_or_one j with e' | e'
            · have c : (j / 2 = k / 2) = (j = k) := by apply propext; omega
              simp [Tr.setF, e, e', Tr.get, ih _ _ _ _ hk, c]
            · have c : ¬ j = k := by omega
              simp [Tr.setF, e, e', Tr.get, c]
        | node o l r =>
          cases m with
          | zero => simp [Tr.setF, e, Tr.get]
          | succ j =>
            rcases Nat.mod_two_eq_zero_or_one j with e' | e'
            · have c : (j / 2 = k / 2) = (j = k) := by apply propext; omega
              simp [Tr.setF, e, e', Tr.get, ih _ _ _ _ hk, c]
            · have c : ¬ j = k := by omega
              simp [Tr.setF, e, e', Tr.get, c]
      · cases t with
        | nil =>
          cases m with
          | zero => simp [Tr.setF, e, Tr.get]
          | succ j =>
            rcases Nat.mod_two_eq_zero_or_one j with e' | e'
            · have c : ¬ j = k := by omega
              simp [Tr.setF, e, e', Tr.get, c]
            · have c : (j / 2 = k / 2) = (j = k) := by apply propext; omega
              simp [Tr.setF, e, e', Tr.get, ih _ _ _ _ hk, c]
        | node o l r =>
          cases m with
          | zero => simp [Tr.setF, e, Tr.get]
          | succ j =>
            rcases Nat.mod_two_eq_zero_or_one j with e' | e'
            · have c : ¬ j = k := by omega
              simp [Tr.setF, e, e', Tr.get, c]
            · have c : (j / 2 = k / 2) = (j = k) := by apply propext; omega
              simp [Tr.setF, e, e', Tr.get, ih _ _ _ _ hk, c]

structure MH where
  n : Nat
  t : Tr

namespace MH
def empty : MH := ⟨0, .nil⟩
def get (h : MH) (a : Nat) : Option MO := match Nat.blt a h.n with
  | true => h.t.get a
  | false => none
def push (h : MH) (o : MO) : MH := ⟨h.n + 1, h.t.setF (h.n + 1) h.n o⟩
def set (h : MH) (a : Nat) (o : MO) : MH := ⟨h.n, h.t.setF (a + 1) a o⟩
theorem get_lt {h : MH} {a : Nat} {o : MO} (e : h.get a = some o) : a < h.n := by
  unfold get at e
  split at e
  · rename_i q
    exact Nat.le_of_ble_eq_true q
  · cases e
theorem get_eq (h : MH) (a : Nat) : h.get a = if a < h.n then h.t.get a else none := by
  unfold get
  by_cases c : a < h.n
  · rw [if_pos c, show Nat.blt a h.n = true from Nat.ble_eq_true_of_le c]
  · rw [if_neg c, show Nat.blt a h.n = false from by
      cases q : Nat.blt a h.n with
      | false => rfl
      | true => exact absurd (Nat.le_of_ble_eq_true q) c]
theorem get_push (h : MH) (o : MO) (a : Nat) : (h.push o).get a = if a = h.n then some o else h.get a := by
  rw [get_eq, get_eq]
  unfold push
  dsimp only
  rw [Tr.get_set _ _ _ _ _ (Nat.lt_succ_self _)]
  by_cases c : a = h.n
  · simp [c]
  · rw [if_neg c, if_neg c]
    by_cases d : a < h.n
    · rw [if_pos d, if_pos (by omega)]
    · rw [if_neg d, if_neg (by omega)]
theorem get_set (h : MH) (a b : Nat) (o : MO) : (h.set a o).get b = if b = a then (if a < h.n then some o else none) else h.get b := by
  rw [get_eq, get_eq]
  unfold set
  dsimp only
  rw [Tr.get_set _ _ _ _ _ (Nat.lt_succ_self _)]
  by_cases c : b = a
  · subst c; simp
  · simp [c]
theorem push_same (h : MH) (o : MO) : (h.push o).get h.n = some o := by rw [get_push, if_pos rfl]
theorem push_of {h : MH} {o u : MO} {a : Nat} (e : h.get a = some u) : (h.push o).get a = some u := by
  rw [get_push, if_neg (Nat.ne_of_lt (get_lt e))]; exact e
theorem set_same {h : MH} {o u : MO} {a : Nat} (e : h.get a = some u) : (h.set a o).get a = some o := by
  rw [get_set, if_pos rfl, if_pos (get_lt e)]
theorem set_ne {h : MH} {o : MO} {a b : Nat} (e : b ≠ a) : (h.set a o).get b = h.get b := by
  rw [get_set, if_neg e]
@[simp] theorem n_push (h : MH) (o : MO) : (h.push o).n = h.n + 1 := rfl
@[simp] theorem n_set (h : MH) (a : Nat) (o : MO) : (h.set a o).n = h.n := rfl
end MH

/-! ### results -/
inductive Res (α : Type) where
  | ok (a : α) (h : MH)
  | exc (c : Nat) (p : Option MV) (h : MH)
  | bad
@[inline] def Res.bind {α β : Type} (r : Res α) (k : α → MH → Res β) : Res β := match r with
  | .ok a h => k a h
  | .exc c p h => .exc c p h
  | .bad => .bad

abbrev Sl := List (Option MV)
/-- an expression, a test, an argument list -/
abbrev EM := Sl → MH → Res MV
abbrev TM := Sl → MH → Res Bool
abbrev AM := Sl → MH → Res (List MV)
/-- a def -/
abbrev FM := List MV → MH → Res MV
/-- how a statement ends -/
inductive Out where
  | nx (σ : Sl) (h : MH)
  | rt (v : MV) (h : MH)
  | bk (σ : Sl) (h : MH)
  | ct (σ : Sl) (h : MH)
  | exc (c : Nat) (p : Option MV) (σ : Sl) (h : MH)
  | bad
abbrev SM := Sl → MH → Out
@[inline] def Res.out {α : Type} (r : Res α) (σ : Sl) (k : α → MH → Out) : Out := match r with
  | .ok a h => k a h
  | .exc c p h => .exc c p σ h
  | .bad => .bad
/-- a target -/
abbrev GM := MV → Sl → MH → Out

/-! ### expressions -/
def eV (i : Nat) : EM := fun σ h => match σ[i]? with
  | some (some v) => .ok v h
  | _ => .bad
def eC (v : MV) : EM := fun _ h => .ok v h
def e1 (g : MV → MH → Res MV) (a : EM) : EM := fun σ h => (a σ h).bind g
def e2 (g : MV → MV → MH → Res MV) (a b : EM) : EM := fun σ h => (a σ h).bind fun v h1 => (b σ h1).bind fun w h2 => g v w h2
def aNil : AM := fun _ h => .ok [] h
def aCons (a : EM) (r : AM) : AM := fun σ h => (a σ h).bind fun v h1 => (r σ h1).bind fun vs h2 => .ok (v :: vs) h2
def eA (g : FM) (a : AM) : EM := fun σ h => (a σ h).bind g
def eIf (c : TM) (a b : EM) : EM := fun σ h => (c σ h).bind fun k h1 => match k with
  | true => a σ h1
  | false => b σ h1
/-- a test off a value -/
def qB (v : MV) (h : MH) : Res Bool := match v with
  | .bl b => .ok b h
  | _ => .bad
def cB (a : EM) : TM := fun σ h => (a σ h).bind qB
def cNot (t : TM) : TM := fun σ h => (t σ h).bind fun k h1 => .ok (!k) h1
def cAnd (t u : TM) : TM := fun σ h => (t σ h).bind fun k h1 => match k with
  | true => u σ h1
  | false => .ok false h1
def cOr (t u : TM) : TM := fun σ h => (t σ h).bind fun k h1 => match k with
  | true => .ok true h1
  | false => u σ h1
/-- and, or as values, over bools -/
def eAnd (a b : EM) : EM := fun σ h => (a σ h).bind fun v h1 => match v with
  | .bl true => b σ h1
  | .bl false => .ok (.bl false) h1
  | _ => .bad
def eOr (a b : EM) : EM := fun σ h => (a σ h).bind fun v h1 => match v with
  | .bl true => .ok (.bl true) h1
  | .bl false => b σ h1
  | _ => .bad
def eNot (a : EM) : EM := fun σ h => (a σ h).bind fun v h1 => match v with
  | .bl k => .ok (.bl (!k)) h1
  | _ => .bad
/-- a < b < c -/
def eChain (g g' : MV → MV → MH → Res MV) (a b c : EM) : EM := fun σ h => (a σ h).bind fun x h1 => (b σ h1).bind fun y h2 => (g x y h2).bind fun z h3 => match z with
  | .bl true => (c σ h3).bind fun w h4 => g' y w h4
  | .bl false => .ok (.bl false) h3
  | _ => .bad
/-- an int within 62 bits -/
def rg62 (i : Int) : Bool := Nat.blt i.natAbs 4611686018427387904
/-- no more than the line -/
def lim {α : Type} (n : Nat) (r : Res α) : Res α := match Nat.ble n 16777216 with
  | true => r
  | false => .bad
theorem lim_ok {α : Type} {n : Nat} {r : Res α} (h : n ≤ 16777216) : lim n r = r := by
  unfold lim
  rw [show Nat.ble n 16777216 = true from Nat.ble_eq_true_of_le h]
theorem lim_cases {α : Type} (n : Nat) (r : Res α) : (n ≤ 16777216 ∧ lim n r = r) ∨ lim n r = .bad := by
  unfold lim
  cases q : Nat.ble n 16777216 with
  | true => exact .inl ⟨Nat.le_of_ble_eq_true q, rfl⟩
  | false => exact .inr rfl
/-- a tuple, a list -/
def qTup : FM := fun vs h => lim vs.length (.ok (.tup vs) h)
def qLst : FM := fun vs h => lim vs.length (.ok (.ref h.n) (h.push (.lst vs)))
/-- a field of an instance of the class c -/
def fget (f : Nat) : List (Nat × MV) → Option MV
  | [] => none
  | (g, v) :: r => match Nat.beq f g with
    | true => some v
    | false => fget f r
def fput (f : Nat) (v : MV) : List (Nat × MV) → List (Nat × MV)
  | [] => [(f, v)]
  | (g, w) :: r => match Nat.beq g f with
    | true => (g, v) :: r
    | false => (g, w) :: fput f v r
def qFld (c f : Nat) : MV → MH → Res MV := fun v h => match v with
  | .ref n => (match h.get n with
    | some (.ins d fs) => (match Nat.beq d c with
      | true => (match fget f fs with
        | some w => .ok w h
        | none => .bad)
      | false => .bad)
    | _ => .bad)
  | _ => .bad
/-- a method of an instance of the class c; a new instance -/
def isIns (c : Nat) (h : MH) : MV → Bool
  | .ref n => (match h.get n with
    | some (.ins d _) => Nat.beq d c
    | _ => false)
  | _ => false
def eMeth (c : Nat) (g : FM) (o : EM) (a : AM) : EM := fun σ h => (o σ h).bind fun x h1 => match isIns c h1 x with
  | true => (a σ h1).bind fun vs h2 => g (x :: vs) h2
  | false => .bad
def eNew (c : Nat) (g : FM) (a : AM) : EM := fun σ h => (a σ h).bind fun vs h1 => (g (.ref h1.n :: vs) (h1.push (.ins c []))).bind fun v h2 => match v with
  | .non => .ok (.ref h1.n) h2
  | _ => .bad

/-! ### operators on values -/
def qAdd : MV → MV → MH → Res MV := fun v w h => match v, w with
  | .int i, .int j => .ok (.int (i + j)) h
  | .str a, .str b => lim (a.length + b.length) (.ok (.str (a ++ b)) h)
  | .tup xs, .tup ys => lim (xs.length + ys.length) (.ok (.tup (xs ++ ys)) h)
  | .ref a, .ref b => (match h.get a, h.get b with
    | some (.lst xs), some (.lst ys) => lim (xs.length + ys.length) (.ok (.ref h.n) (h.push (.lst (xs ++ ys))))
    | _, _ => .bad)
  | _, _ => .bad
/-- a product: one factor of at most 64 bits, or both below 2 ^ 9000 -/
def small64 (i : Int) : Bool := Nat.blt i.natAbs 18446744073709551616
def small9 (i : Int) : Bool := Nat.blt (Nat.log2 i.natAbs) 9000
def qMul : MV → MV → MH → Res MV := fun v w h => match v, w with
  | .int i, .int j => (match small64 i || small64 j || (small9 i && small9 j) with
    | true => .ok (.int (i * j)) h
    | false => .bad)
  | .ref a, .int k => (match h.get a with
    | some (.lst xs) => (match decide (0 ≤ k) && rg62 k with
      | true => lim (xs.length * k.toNat) (.ok (.ref h.n) (h.push (.lst (List.replicate k.toNat xs).flatten)))
      | false => .bad)
    | _ => .bad)
  | _, _ => .bad
/-- floor division, by a positive number below 2 ^ 9000 -/
def qDiv : MV → MV → MH → Res MV := fun v w h => match v, w with
  | .int i, .int j => (match decide (0 < j) && small9 j with
    | true => .ok (.int (i / j)) h
    | false => .bad)
  | _, _ => .bad
/-- data: no instance, no dict; its texts plain -/
def sOk (s : List Nat) : Bool := s.all fun c => Nat.blt c 1114112
def seqOf (h : MH) : MV → Option (List MV)
  | .flst xs => some xs
  | .ref n => (match h.get n with
    | some (.lst xs) => some xs
    | _ => none)
  | _ => none
def dataB : Nat → MH → MV → Bool
  | 0, _, _ => false
  | f + 1, h, v => match v with
    | .non => true
    | .bl _ => true
    | .int _ => true
    | .str s => sOk s
    | .tup xs => xs.all (dataB f h)
    | .flst xs => xs.all (dataB f h)
    | .ref n => (match h.get n with
      | some (.lst xs) => xs.all (dataB f h)
      | _ => false)
def beqN : List Nat → List Nat → Bool
  | [], [] => true
  | a :: r, b :: s => (match Nat.beq a b with
    | true => beqN r s
    | false => false)
  | _, _ => false
def all2 (f : MV → MV → Bool) : List MV → List MV → Bool
  | [], [] => true
  | x :: xs, y :: ys => (match f x y with
    | true => all2 f xs ys
    | false => false)
  | _, _ => false
def b2n (b : Bool) : Int := match b with
  | true => 1
  | false => 0
def eqB : Nat → MH → MV → MV → Bool
  | 0, _, _, _ => false
  | f + 1, h, v, w => match v, w with
    | .non, .non => true
    | .bl a, .bl b => a == b
    | .bl a, .int j => decide (b2n a = j)
    | .int i, .bl b => decide (i = b2n b)
    | .int i, .int j => decide (i = j)
    | .str a, .str b => beqN a b
    | .tup xs, .tup ys => all2 (eqB f h) xs ys
    | _, _ => (match seqOf h v, seqOf h w with
      | some xs, some ys => all2 (eqB f h) xs ys
      | _, _ => false)
/-- == of data -/
def qEq : MV → MV → MH → Res MV := fun v w h => match dataB 9 h v && dataB 9 h w with
  | true => .ok (.bl (eqB 9 h v w)) h
  | false => .bad
def qNe : MV → MV → MH → Res MV := fun v w h => match dataB 9 h v && dataB 9 h w with
  | true => .ok (.bl (!eqB 9 h v w)) h
  | false => .bad
/-- in a list of data -/
def qInL : MV → MV → MH → Res MV := fun v w h => match seqOf h w with
  | some ys => (match dataB 9 h v && ys.all (dataB 9 h) with
    | true => .ok (.bl (ys.any fun y => eqB 9 h y v)) h
    | false => .bad)
  | none => .bad
/-- in a tuple of flat things -/
def flatM : MV → Bool
  | .non => true
  | .bl _ => true
  | .int _ => true
  | .str _ => true
  | _ => false
def qInT (neg : Bool) : MV → MV → MH → Res MV := fun v w h => match w with
  | .tup ys => (match flatM v && ys.all flatM with
    | true => .ok (.bl (match neg with
      | false => ys.any fun y => eqB 1 h y v
      | true => !ys.any fun y => eqB 1 h y v)) h
    | false => .bad)
  | _ => .bad
/-- a sign in a text -/
def qInS : MV → MV → MH → Res MV := fun v w h => match v, w with
  | .str [c], .str s => .ok (.bl (s.any fun d => Nat.beq d c)) h
  | _, _ => .bad
/-- is None, is not None -/
def qIsN : MV → MV → MH → Res MV := fun v w h => match w with
  | .non => (match v with
    | .non => .ok (.bl true) h
    | _ => .ok (.bl false) h)
  | _ => .bad
def qNotN : MV → MV → MH → Res MV := fun v w h => match w with
  | .non => (match v with
    | .non => .ok (.bl false) h
    | _ => .ok (.bl true) h)
  | _ => .bad
def qNeg : MV → MH → Res MV := fun v h => match v with
  | .int i => .ok (.int (-i)) h
  | _ => .bad
/-- xs[i] -/
def ixM (n : Nat) (i : Int) : Option Nat := match decide (0 ≤ i) with
  | true => (match Nat.blt i.toNat n with
    | true => some i.toNat
    | false => none)
  | false => (match decide (-(n : Int) ≤ i) with
    | true => some (i + n).toNat
    | false => none)
def atM (xs : List MV) (i : Int) : Option MV := match ixM xs.length i with
  | some j => xs[j]?
  | none => none
def qIx : MV → MV → MH → Res MV := fun v w h => match w with
  | .int i => (match v with
    | .tup xs => (match atM xs i with
      | some x => .ok x h
      | none => .bad)
    | v => (match seqOf h v with
      | some xs => (match atM xs i with
        | some x => .ok x h
        | none => .bad)
      | none => .bad))
  | _ => .bad
/-- slices -/
def sIxM (n d : Nat) : Option Int → Nat
  | none => d
  | some v => match decide (v < 0) with
    | true => (v + (n : Int)).toNat
    | false => Nat.min v.toNat n
def cutM (xs : List MV) (lo hi : Option Int) : List MV := (xs.drop (sIxM xs.length 0 lo)).take (sIxM xs.length xs.length hi - sIxM xs.length 0 lo)
def eSl (a : EM) (lo hi : Option EM) : EM := fun σ h => (a σ h).bind fun v h1 =>
  (match lo with
    | none => Res.ok none h1
    | some e => (e σ h1).bind fun x h2 => match x with
      | .int i => Res.ok (some i) h2
      | _ => .bad).bind fun l h2 =>
  (match hi with
    | none => Res.ok none h2
    | some e => (e σ h2).bind fun x h3 => match x with
      | .int i => Res.ok (some i) h3
      | _ => .bad).bind fun u h3 => match v with
    | .tup xs => .ok (.tup (cutM xs l u)) h3
    | v => (match seqOf h3 v with
      | some xs => .ok (.ref h3.n) (h3.push (.lst (cutM xs l u)))
      | none => .bad)
/-- xs[::-1] -/
def qRev : MV → MH → Res MV := fun v h => match seqOf h v with
  | some xs => .ok (.ref h.n) (h.push (.lst xs.reverse))
  | none => .bad
/-! ### built-ins -/
/-- one argument, two -/
def f1 (g : MV → MH → Res MV) : FM := fun vs h => match vs with
  | [v] => g v h
  | _ => .bad
def f2 (g : MV → MV → MH → Res MV) : FM := fun vs h => match vs with
  | [v, w] => g v w h
  | _ => .bad
def qLen1 : MV → MH → Res MV := fun v h => match v with
  | .str s => lim s.length (.ok (.int s.length) h)
  | .tup xs => .ok (.int xs.length) h
  | .flst xs => .ok (.int xs.length) h
  | .ref n => (match h.get n with
    | some (.lst xs) => .ok (.int xs.length) h
    | some (.dct _ lk kvs) => (match lk with
      | false => .ok (.int kvs.length) h
      | true => .bad)
    | _ => .bad)
  | _ => .bad
def qLen : FM := f1 qLen1
def qAbs1 : MV → MH → Res MV := fun v h => match v with
  | .int i => .ok (.int (match decide (i < 0) with
    | true => -i
    | false => i)) h
  | _ => .bad
def qAbs : FM := f1 qAbs1
def qMax2' : MV → MV → MH → Res MV := fun v w h => match v, w with
  | .int i, .int j => .ok (.int (match decide (i < j) with
    | true => j
    | false => i)) h
  | _, _ => .bad
def qMax2 : FM := f2 qMax2'
def qMin2' : MV → MV → MH → Res MV := fun v w h => match v, w with
  | .int i, .int j => .ok (.int (match decide (j < i) with
    | true => j
    | false => i)) h
  | _, _ => .bad
def qMin2 : FM := f2 qMin2'
def ints? : List MV → Option (List Int)
  | [] => some []
  | .int i :: r => (match ints? r with
    | some is => some (i :: is)
    | none => none)
  | _ => none
def bls? : List MV → Option (List Bool)
  | [] => some []
  | .bl i :: r => (match bls? r with
    | some is => some (i :: is)
    | none => none)
  | _ => none
def seq1 (h : MH) (vs : List MV) : Option (List MV) := match vs with
  | [v] => seqOf h v
  | _ => none
def qInts (g : List Int → Option Int) : FM := fun vs h => match seq1 h vs with
  | some xs => (match ints? xs with
    | some is => (match g is with
      | some r => .ok (.int r) h
      | none => .bad)
    | none => .bad)
  | none => .bad
def sumI (is : List Int) : Option Int := some is.sum
def maxI : List Int → Option Int
  | [] => none
  | i :: r => some (r.foldl (fun a b => match decide (a < b) with
    | true => b
    | false => a) i)
def minI : List Int → Option Int
  | [] => none
  | i :: r => some (r.foldl (fun a b => match decide (b < a) with
    | true => b
    | false => a) i)
def qBls (g : List Bool → Bool) : FM := fun vs h => match seq1 h vs with
  | some xs => (match bls? xs with
    | some is => .ok (.bl (g is)) h
    | none => .bad)
  | none => .bad
def allB (bs : List Bool) : Bool := bs.all id
def anyB (bs : List Bool) : Bool := bs.any id
/-- list(x), tuple(x) -/
def qListOf1 : MV → MH → Res MV := fun v h => match v with
  | .tup xs => .ok (.ref h.n) (h.push (.lst xs))
  | .flst xs => .ok (.ref h.n) (h.push (.lst xs))
  | .ref n => (match h.get n with
    | some (.lst xs) => .ok (.ref h.n) (h.push (.lst xs))
    | some (.dct tk _ kvs) => (match tk with
      | false => .ok (.ref h.n) (h.push (.lst (kvs.map (·.1))))
      | true => .bad)
    | _ => .bad)
  | _ => .bad
def qListOf : FM := f1 qListOf1
def qTupOf1 : MV → MH → Res MV := fun v h => match v with
  | .tup xs => .ok (.tup xs) h
  | .flst xs => .ok (.tup xs) h
  | .ref n => (match h.get n with
    | some (.lst xs) => .ok (.tup xs) h
    | _ => .bad)
  | _ => .bad
def qTupOf : FM := f1 qTupOf1
/-- the kind of a value: 0 None, 1 bool, 2 int, 3 str, 4 list, 5 tuple, 6 dict, 10 + c an instance of c -/
def kindOf (h : MH) : MV → Option Nat
  | .non => some 0
  | .bl _ => some 1
  | .int _ => some 2
  | .str _ => some 3
  | .tup _ => some 5
  | .flst _ => some 4
  | .ref n => match h.get n with
    | some (.lst _) => some 4
    | some (.dct tk lk _) => (match tk && lk with
      | true => none
      | false => some 6)
    | some (.ins c _) => some (c + 10)
    | none => none
/-- is the kind j one of k (a bool is an int) -/
def isA (j k : Nat) : Bool := Nat.beq j k || (Nat.beq j 1 && Nat.beq k 2)
/-- isinstance(x, T); T by its kind; kinds below nc -/
def qIsi (nc k : Nat) : MV → MH → Res MV := fun v h => match kindOf h v with
  | some j => (match Nat.blt j nc with
    | true => .ok (.bl (isA j k)) h
    | false => .bad)
  | none => .bad
/-! ### methods of lists -/
def qAppend : MV → FM := fun v => f1 fun x h => match v with
  | .ref n => (match h.get n with
    | some (.lst xs) => lim (xs.length + 1) (.ok .non (h.set n (.lst (xs ++ [x]))))
    | _ => .bad)
  | _ => .bad
def qPop0 : MV → FM := fun v vs h => match v with
  | .ref n => (match h.get n with
    | some (.lst xs) => (match xs[xs.length - 1]? with
      | some y => (match vs with
        | [] => .ok y (h.set n (.lst xs.dropLast))
        | _ => .bad)
      | none => .bad)
    | _ => .bad)
  | _ => .bad
def qPopAt : MV → FM := fun v => f1 fun x h => match x with
  | .int i => (match v with
    | .ref n => (match h.get n with
      | some (.lst xs) => (match decide (0 ≤ i) && rg62 i with
        | true => (match xs[i.toNat]? with
          | some y => .ok y (h.set n (.lst (xs.eraseIdx i.toNat)))
          | none => .bad)
        | false => .bad)
      | _ => .bad)
    | _ => .bad)
  | _ => .bad
/-- o.m(..), o a list -/
def eBmL (g : MV → FM) (o : EM) (a : AM) : EM := fun σ h => (o σ h).bind fun v h1 => match seqOf h1 v with
  | some _ => (a σ h1).bind fun vs h2 => g v vs h2
  | none => .bad
/-- xs.index(x), data -/
def indexM (f : MV → Bool) : List MV → Nat → Option Nat
  | [], _ => none
  | y :: r, i => match f y with
    | true => some i
    | false => indexM f r (i + 1)
def qIndex : MV → FM := fun v => f1 fun x h => match seqOf h v with
  | some ys => (match dataB 9 h x && ys.all (dataB 9 h) with
    | true => (match indexM (fun y => eqB 9 h y x) ys 0 with
      | some j => .ok (.int j) h
      | none => .bad)
    | false => .bad)
  | none => .bad
def qSub : MV → MV → MH → Res MV := fun v w h => match v, w with
  | .int i, .int j => .ok (.int (i - j)) h
  | _, _ => .bad
def qMod : MV → MV → MH → Res MV := fun v w h => match v, w with
  | .int i, .int j => (match decide (0 < j) with
    | true => .ok (.int (i % j)) h
    | false => .bad)
  | _, _ => .bad
def qLt : MV → MV → MH → Res MV := fun v w h => match v, w with
  | .int i, .int j => .ok (.bl (decide (i < j))) h
  | _, _ => .bad
def qLe : MV → MV → MH → Res MV := fun v w h => match v, w with
  | .int i, .int j => .ok (.bl (decide (i ≤ j))) h
  | _, _ => .bad
def qGt : MV → MV → MH → Res MV := fun v w h => match v, w with
  | .int i, .int j => .ok (.bl (decide (j < i))) h
  | _, _ => .bad
def qGe : MV → MV → MH → Res MV := fun v w h => match v, w with
  | .int i, .int j => .ok (.bl (decide (j ≤ i))) h
  | _, _ => .bad

def qPow : MV → MV → MH → Res MV := fun v w h => match v, w with
  | .int i, .int j => (match (decide (0 ≤ j) && decide (j ≤ 1000000)) && small64 i with
    | true => .ok (.int (i ^ j.toNat)) h
    | false => .bad)
  | _, _ => .bad
/-- C(.., k = v, ..): f puts the arguments in order -/
def eNewK (c : Nat) (g : FM) (f : List MV → List MV → List MV) (a k : AM) : EM := fun σ h => (a σ h).bind fun vs h1 => (k σ h1).bind fun zs h2 => (g (f (.ref h2.n :: vs) zs) (h2.push (.ins c []))).bind fun v h3 => match v with
  | .non => .ok (.ref h2.n) h3
  | _ => .bad
/-! ### statements -/
def jNil : SM := fun σ h => .nx σ h
def jSeq (s t : SM) : SM := fun σ h => match s σ h with
  | .nx σ1 h1 => t σ1 h1
  | o => o
def jDrop (a : EM) : SM := fun σ h => (a σ h).out σ fun _ h1 => .nx σ h1
def jRet (a : EM) : SM := fun σ h => (a σ h).out σ fun v h1 => .rt v h1
def jRetN : SM := fun _ h => .rt .non h
def jIf (c : TM) (s t : SM) : SM := fun σ h => (c σ h).out σ fun k h1 => match k with
  | true => s σ h1
  | false => t σ h1
def jBad : SM := fun _ _ => .bad
/-- what names take: one, or a tuple's items -/
inductive Pt where
  | nm (i : Nat)
  | nil
  | cons (p q : Pt)
mutual
def asg : Pt → MV → Sl → Option Sl
  | .nm i, v, σ => some (σ.set i (some v))
  | .nil, v, σ => match v with
    | .tup [] => some σ
    | _ => none
  | .cons p q, v, σ => match v with
    | .tup (x :: xs) => (match asg p x σ with
      | some σ1 => asgs q xs σ1
      | none => none)
    | _ => none
def asgs : Pt → List MV → Sl → Option Sl
  | .nm _, _, _ => none
  | .nil, xs, σ => match xs with
    | [] => some σ
    | _ => none
  | .cons p q, xs, σ => match xs with
    | x :: r => (match asg p x σ with
      | some σ1 => asgs q r σ1
      | none => none)
    | [] => none
end
def Pt.slots : Pt → List Nat
  | .nm i => [i]
  | .nil => []
  | .cons p q => p.slots ++ q.slots
def Pt.len : Pt → Nat
  | .nm _ => 0
  | .nil => 0
  | .cons _ q => q.len + 1
def jAsg (a : EM) (p : Pt) : SM := fun σ h => (a σ h).out σ fun v h1 => match asg p v σ with
  | some σ1 => .nx σ1 h1
  | none => .bad
/-- o.f = e: e first -/
def jFld (c f : Nat) (a v : EM) : SM := fun σ h => (v σ h).out σ fun y h1 => (a σ h1).out σ fun x h2 => match x with
  | .ref n => (match h2.get n with
    | some (.ins d fs) => (match Nat.beq d c with
      | true => (match Nat.blt fs.length 100 with
        | true => .nx σ (h2.set n (.ins d (fput f y fs)))
        | false => .bad)
      | false => .bad)
    | _ => .bad)
  | _ => .bad
/-! ### dicts -/
/-- a key: an int, a text (tk = false), a tuple of such (tk = true) -/
def keyA : MV → Bool
  | .int _ => true
  | .str _ => true
  | _ => false
def keyOk (tk : Bool) (v : MV) : Bool := match tk with
  | false => keyA v
  | true => (match v with
    | .tup xs => xs.all keyA
    | _ => false)
def keyB1 : MV → MV → Bool
  | .int i, .int j => decide (i = j)
  | .str a, .str b => beqN a b
  | _, _ => false
def keyB : MV → MV → Bool
  | .int i, .int j => decide (i = j)
  | .str a, .str b => beqN a b
  | .tup xs, .tup ys => all2 keyB1 xs ys
  | _, _ => false
def dget (k : MV) : List (MV × MV) → Option MV
  | [] => none
  | (j, v) :: r => (match keyB j k with
    | true => some v
    | false => dget k r)
def dput (k v : MV) (kvs : List (MV × MV)) : List (MV × MV) := match kvs.any fun p => keyB p.1 k with
  | true => kvs.map fun p => match keyB p.1 k with
    | true => (p.1, v)
    | false => p
  | false => kvs ++ [(k, v)]
def eDNew (tk : Bool) : EM := fun _ h => .ok (.ref h.n) (h.push (.dct tk false []))
/-- k in d, k not in d, d[k] -/
def dOf (h : MH) : MV → Option (Bool × List (MV × MV))
  | .ref n => (match h.get n with
    | some (.dct tk _ kvs) => some (tk, kvs)
    | _ => none)
  | _ => none
def qDin (neg : Bool) : MV → MV → MH → Res MV := fun k d h => match dOf h d with
  | some (tk, kvs) => (match keyOk tk k with
    | true => .ok (.bl (match neg with
      | false => (dget k kvs).isSome
      | true => !(dget k kvs).isSome)) h
    | false => .bad)
  | none => .bad
def qDget : MV → MV → MH → Res MV := fun d k h => match dOf h d with
  | some (tk, kvs) => (match keyOk tk k with
    | true => (match dget k kvs with
      | some v => .ok v h
      | none => .bad)
    | false => .bad)
  | none => .bad
/-- d[k] = e: e, d, k -/
def jDput (d k e : EM) : SM := fun σ h => (e σ h).out σ fun v h1 => (d σ h1).out σ fun x h2 => (k σ h2).out σ fun y h3 => match x with
  | .ref n => (match h3.get n with
    | some (.dct tk lk kvs) => (match lk with
      | true => .bad
      | false => (match keyOk tk y && Nat.blt kvs.length 16777216 with
        | true => .nx σ (h3.set n (.dct tk false (dput y v kvs)))
        | false => .bad))
    | _ => .bad)
  | _ => .bad
/-- d is locked through the statement (unless it is already): what is walked isn't written -/
def unlockH (n : Nat) (h : MH) : Option MH := match h.get n with
  | some (.dct tk lk kvs) => (match lk with
    | true => some (h.set n (.dct tk false kvs))
    | false => none)
  | _ => none
def unlockO (n : Nat) (o : Out) : Out := match o with
  | .nx σ h => (match unlockH n h with
    | some h1 => .nx σ h1
    | none => .bad)
  | .rt v h => (match unlockH n h with
    | some h1 => .rt v h1
    | none => .bad)
  | .bk σ h => (match unlockH n h with
    | some h1 => .bk σ h1
    | none => .bad)
  | .ct σ h => (match unlockH n h with
    | some h1 => .ct σ h1
    | none => .bad)
  | .exc _ _ _ _ => .bad
  | .bad => .bad
def jLock (p : EM) (s : SM) : SM := fun σ h => match p σ h with
  | .ok v _ => (match v with
    | .ref n => (match h.get n with
      | some (.dct tk lk kvs) => (match lk with
        | true => s σ h
        | false => unlockO n (s σ (h.set n (.dct tk true kvs))))
      | _ => .bad)
    | _ => .bad)
  | _ => .bad
def unlockR (n : Nat) (o : Res MV) : Res MV := match o with
  | .ok v h => (match unlockH n h with
    | some h1 => .ok v h1
    | none => .bad)
  | .exc _ _ _ => .bad
  | .bad => .bad
def eLock (p : EM) (e : EM) : EM := fun σ h => match p σ h with
  | .ok v _ => (match v with
    | .ref n => (match h.get n with
      | some (.dct tk lk kvs) => (match lk with
        | true => e σ h
        | false => unlockR n (e σ (h.set n (.dct tk true kvs))))
      | _ => .bad)
    | _ => .bad)
  | _ => .bad
/-- a, b = x, y: stored from the right, no tuple -/
def jPar (i j : Nat) (a b : EM) : SM := fun σ h => (a σ h).out σ fun v h1 => (b σ h1).out σ fun w h2 => .nx ((σ.set i (some v)).set j (some w)) h2
def jPass : SM := jNil
def jBreak : SM := fun σ h => .bk σ h
def jCont : SM := fun σ h => .ct σ h
/-- xs[i] = e: e first -/
def jSetL (a i e : EM) : SM := fun σ h => (e σ h).out σ fun y h1 => (a σ h1).out σ fun x h2 => (i σ h2).out σ fun k h3 => match x, k with
  | .ref n, .int k => (match h3.get n with
    | some (.lst xs) => (match ixM xs.length k with
      | some j => .nx σ (h3.set n (.lst (xs.set j y)))
      | none => .bad)
    | _ => .bad)
  | _, _ => .bad
/-- while, with so many turns at most -/
def whileL (c : TM) (b : SM) : Nat → SM
  | 0, _, _ => .bad
  | k + 1, σ, h => (c σ h).out σ fun q h1 => match q with
    | true => (match b σ h1 with
      | .nx σ2 h2 => whileL c b k σ2 h2
      | .ct σ2 h2 => whileL c b k σ2 h2
      | .bk σ2 h2 => .nx σ2 h2
      | o => o)
    | false => .nx σ h1
def jWhile (k : Nat) (c : TM) (b : SM) : SM := whileL c b k
/-- a walk: n turns, what comes at each, whether its source stands at the end -/
structure Wk where
  n : Nat
  at_ : Nat → MH → Option MV
  fin : MH → Bool
abbrev WM := Sl → MH → Res Wk
def forL (w : Wk) (p : Pt) (b : SM) : Nat → Nat → Sl → MH → Out
  | 0, _, σ, h => (match w.fin h with
    | true => .nx σ h
    | false => .bad)
  | r + 1, i, σ, h => (match w.at_ i h with
    | none => .bad
    | some v => (match asg p v σ with
      | none => .bad
      | some σ1 => (match b σ1 h with
        | .nx σ2 h2 => forL w p b r (i + 1) σ2 h2
        | .ct σ2 h2 => forL w p b r (i + 1) σ2 h2
        | .bk σ2 h2 => .nx σ2 h2
        | o => o)))
def jFor (w : WM) (p : Pt) (b : SM) : SM := fun σ h => (w σ h).out σ fun k h1 => forL k p b k.n 0 σ h1
/-- a list that stands at a, unchanged through the walk in length -/
def wkL (a n : Nat) : Wk := ⟨n, fun i h => match h.get a with
  | some (.lst xs) => xs[i]?
  | _ => none, fun h => match h.get a with
  | some (.lst xs) => Nat.ble xs.length n
  | _ => false⟩
def wkT (xs : List MV) : Wk := ⟨xs.length, fun i _ => xs[i]?, fun _ => true⟩
def wkR (lo : Int) (n : Nat) : Wk := ⟨n, fun i _ => some (.int (lo + i)), fun _ => true⟩
/-- what a for walks: a list, a tuple, range(n), range(a, b) -/
def wSeq (a : EM) : WM := fun σ h => (a σ h).bind fun v h1 => match v with
  | .ref n => (match h1.get n with
    | some (.lst xs) => .ok (wkL n xs.length) h1
    | _ => .bad)
  | _ => .bad
def wFst (a : EM) : WM := fun σ h => (a σ h).bind fun v h1 => match v with
  | .flst xs => .ok (wkT xs) h1
  | _ => .bad
def wTup (a : EM) : WM := fun σ h => (a σ h).bind fun v h1 => match v with
  | .tup xs => .ok (wkT xs) h1
  | _ => .bad
/-- a dict that is locked, walked by keys (0), values (1), items (2) -/
def entM (k : Nat) (p : MV × MV) : MV := match k with
  | 0 => p.1
  | 1 => p.2
  | _ => .tup [p.1, p.2]
def wkD (k a n : Nat) : Wk := ⟨n, fun i h => match h.get a with
  | some (.dct _ lk kvs) => (match lk with
    | true => (match kvs[i]? with
      | some p => some (entM k p)
      | none => none)
    | false => none)
  | _ => none, fun h => match h.get a with
  | some (.dct _ lk kvs) => lk && Nat.ble kvs.length n
  | _ => false⟩
def wDct (k : Nat) (a : EM) : WM := fun σ h => (a σ h).bind fun v h1 => match v with
  | .ref n => (match h1.get n with
    | some (.dct tk lk kvs) => (match lk && !tk with
      | true => .ok (wkD k n kvs.length) h1
      | false => .bad)
    | _ => .bad)
  | _ => .bad
/-- enumerate(list) -/
def wkE (w : Wk) : Wk := ⟨w.n, fun i h => match w.at_ i h with
  | some v => some (.tup [.int (i : Nat), v])
  | none => none, w.fin⟩
def wEnum (a : EM) : WM := fun σ h => (a σ h).bind fun v h1 => match v with
  | .ref n => (match h1.get n with
    | some (.lst xs) => .ok (wkE (wkL n xs.length)) h1
    | _ => .bad)
  | _ => .bad
/-- range(a, b, c), c > 0 -/
def wkC (lo c : Int) (n : Nat) : Wk := ⟨n, fun i _ => some (.int (lo + (i : Nat) * c)), fun _ => true⟩
/-- a range's step: how many -/
def stepN (i j c : Int) : Nat := match decide (i < j) with
  | true => ((j - i - 1) / c + 1).toNat
  | false => 0
def wRng3 (a b c : EM) : WM := fun σ h => (a σ h).bind fun v h1 => (b σ h1).bind fun w h2 => (c σ h2).bind fun u h3 => match v, w, u with
  | .int i, .int j, .int k => (match (rg62 i && rg62 j) && (decide (0 < k) && decide (k < 1073741824)) with
    | true => .ok (wkC i k (stepN i j k)) h3
    | false => .bad)
  | _, _, _ => .bad
/-- a text's signs -/
def wkS (s : List Nat) : Wk := ⟨s.length, fun i _ => match s[i]? with
  | some c => some (.str [c])
  | none => none, fun _ => true⟩
def wStr (a : EM) : WM := fun σ h => (a σ h).bind fun v h1 => match v with
  | .str s => .ok (wkS s) h1
  | _ => .bad
/-- zip of two tuples, of two lists -/
def wkZT (xs ys : List MV) : Wk := ⟨Nat.min xs.length ys.length, fun i _ => match xs[i]?, ys[i]? with
  | some x, some y => some (.tup [x, y])
  | _, _ => none, fun _ => true⟩
def lenL (h : MH) (v : MV) : Nat := match seqOf h v with
  | some xs => xs.length
  | none => 0
def wkZL (v w : MV) (n : Nat) : Wk := ⟨n, fun i h => match seqOf h v, seqOf h w with
  | some xs, some ys => (match xs[i]?, ys[i]? with
    | some x, some y => some (.tup [x, y])
    | _, _ => none)
  | _, _ => none, fun h => match seqOf h v, seqOf h w with
  | some xs, some ys => Nat.ble xs.length n || Nat.ble ys.length n
  | _, _ => false⟩
def wZip (a b : EM) : WM := fun σ h => (a σ h).bind fun v h1 => (b σ h1).bind fun w h2 => match v, w with
  | .tup xs, .tup ys => .ok (wkZT xs ys) h2
  | _, _ => (match seqOf h2 v, seqOf h2 w with
    | some xs, some ys => .ok (wkZL v w (Nat.min xs.length ys.length)) h2
    | _, _ => .bad)
/-- an int that a range takes -/
def rgOk (i : Int) : Bool := rg62 i
def wRng1 (a : EM) : WM := fun σ h => (a σ h).bind fun v h1 => match v with
  | .int j => (match rgOk j with
    | true => .ok (wkR 0 j.toNat) h1
    | false => .bad)
  | _ => .bad
def wRng2 (a b : EM) : WM := fun σ h => (a σ h).bind fun v h1 => (b σ h1).bind fun w h2 => match v, w with
  | .int i, .int j => (match rgOk i && rgOk j with
    | true => .ok (wkR i (j - i).toNat) h2
    | false => .bad)
  | _, _ => .bad
/-- [e for p in w if t]; vs: the block's own slots -/
def wipeM (σ : Sl) : List Nat → Sl
  | [] => σ
  | v :: vs => (wipeM σ vs).set v none
def accL {A : Type} (w : Wk) (p : Pt) (t : TM) (b : Sl → A → MH → Res A) (σ : Sl) : Nat → Nat → A → MH → Res A
  | 0, _, acc, h => (match w.fin h with
    | true => .ok acc h
    | false => .bad)
  | r + 1, i, acc, h => (match w.at_ i h with
    | none => .bad
    | some v => (match asg p v σ with
      | none => .bad
      | some σ1 => (t σ1 h).bind fun k h1 => match k with
        | true => (b σ1 acc h1).bind fun acc h2 => accL w p t b σ r (i + 1) acc h2
        | false => accL w p t b σ r (i + 1) acc h1))
def cYes : TM := fun _ h => .ok true h
/-- one item more, told with how many there are -/
def bE (e : EM) : Sl → Nat × List MV → MH → Res (Nat × List MV) := fun σ acc h => (e σ h).bind fun y h1 => lim (acc.1 + 1) (.ok (acc.1 + 1, y :: acc.2) h1)
def kLst (acc : Nat × List MV) (h : MH) : Res MV := .ok (.ref h.n) (h.push (.lst acc.2.reverse))
def eLc (w : WM) (p : Pt) (t : TM) (e : EM) (vs : List Nat) : EM := fun σ h => (w σ h).bind fun k h1 => (accL k p t (bE e) (wipeM σ vs) k.n 0 (0, []) h1).bind kLst
/-- a second for behind the first -/
def b2 (w : WM) (p : Pt) (t : TM) (e : EM) (vs : List Nat) : Sl → Nat × List MV → MH → Res (Nat × List MV) := fun σ acc h => (w σ h).bind fun k h1 => accL k p t (bE e) (wipeM σ vs) k.n 0 acc h1
def eLc2 (w : WM) (p : Pt) (t : TM) (w1 : WM) (p1 : Pt) (t1 : TM) (e : EM) (vs vs1 : List Nat) : EM := fun σ h => (w σ h).bind fun k h1 => (accL k p t (b2 w1 p1 t1 e vs1) (wipeM σ vs) k.n 0 (0, []) h1).bind kLst
/-- {k: v for p in w if t} -/
def bD (a b : EM) : Sl → Nat × List (MV × MV) → MH → Res (Nat × List (MV × MV)) := fun σ acc h => (a σ h).bind fun y h1 => (b σ h1).bind fun z h2 => match keyA y with
  | true => lim (acc.1 + 1) (.ok (acc.1 + 1, dput y z acc.2) h2)
  | false => .bad
def kDct (acc : Nat × List (MV × MV)) (h : MH) : Res MV := .ok (.ref h.n) (h.push (.dct false false acc.2))
def eDc (w : WM) (p : Pt) (t : TM) (a b : EM) (vs : List Nat) : EM := fun σ h => (w σ h).bind fun k h1 => (accL k p t (bD a b) (wipeM σ vs) k.n 0 (0, []) h1).bind kDct
/-- a def's body: N slots, the arguments first -/
def fn (N : Nat) (b : SM) : FM := fun vs h => match b (vs.map some ++ List.replicate (N - vs.length) none) h with
  | .nx _ h1 => .ok .non h1
  | .rt v h1 => .ok v h1
  | .exc c p _ h1 => .exc c p h1
  | _ => .bad
end KA

set_option linter.all false
/-! KMini2: more combinators. -/
namespace KA
/-- is True, is False; neg: is not -/
def qIsB (neg : Bool) : MV → MV → MH → Res MV := fun v w h => match v, w with
  | .bl a, .bl b => .ok (.bl (match neg with
    | false => decide (a = b)
    | true => !decide (a = b))) h
  | _, _ => .bad
/-- enumerate(tuple) -/
def wEnumT (a : EM) : WM := fun σ h => (a σ h).bind fun v h1 => match v with
  | .tup xs => .ok (wkE (wkT xs)) h1
  | _ => .bad
/-- a, b, c = x, y, z: stored from the right, no tuple -/
def jPar3 (i j l : Nat) (a b c : EM) : SM := fun σ h => (a σ h).out σ fun v h1 => (b σ h1).out σ fun w h2 => (c σ h2).out σ fun u h3 => .nx (((σ.set i (some v)).set j (some w)).set l (some u)) h3
/-- what zip draws from: a list or a tuple (0), a locked dict's keys (1), values (2), items (3) -/
def srcM (k : Nat) (v : MV) (h : MH) : Option Wk := match k with
  | 0 => (match v with
    | .tup xs => some (wkT xs)
    | .flst xs => some (wkT xs)
    | .ref n => (match h.get n with
      | some (.lst xs) => some (wkL n xs.length)
      | _ => none)
    | _ => none)
  | k + 1 => (match v with
    | .ref n => (match h.get n with
      | some (.dct tk lk kvs) => (match lk && !tk with
        | true => some (wkD k n kvs.length)
        | false => none)
      | _ => none)
    | _ => none)
def wkZ (a b : Wk) : Wk := ⟨Nat.min a.n b.n, fun i h => match a.at_ i h, b.at_ i h with
  | some x, some y => some (.tup [x, y])
  | _, _ => none, fun h => match Nat.ble a.n b.n with
  | true => a.fin h
  | false => (match a.at_ b.n h with
    | some _ => b.fin h
    | none => false)⟩
def wZipG (k j : Nat) (a b : EM) : WM := fun σ h => (a σ h).bind fun v h1 => match srcM k v h1 with
  | none => .bad
  | some _ => (b σ h1).bind fun w h2 => match srcM k v h2, srcM j w h2 with
    | some p, some q => .ok (wkZ p q) h2
    | _, _ => .bad
end KA

set_option linter.all false
/-! KMini3: operations on instances of own classes. -/
namespace KA
def asB (v : MV) (h : MH) : Res MV := match v with
  | .bl b => .ok (.bl b) h
  | _ => .bad
def asNB (v : MV) (h : MH) : Res MV := match v with
  | .bl b => .ok (.bl (!b)) h
  | _ => .bad
/-- two instances of c: what the def g gives; its negation -/
def qOwB (c : Nat) (g : FM) : MV → MV → MH → Res MV := fun v w h => match isIns c h v && isIns c h w with
  | true => g [v, w] h
  | false => .bad
def qOwNe (c : Nat) (g : FM) : MV → MV → MH → Res MV := fun v w h => (qOwB c g v w h).bind asNB
/-- an instance of c and anything; and an int -/
def qOw2 (c : Nat) (g : FM) : MV → MV → MH → Res MV := fun v w h => match isIns c h v with
  | true => g [v, w] h
  | false => .bad
def qOwI (c : Nat) (g : FM) : MV → MV → MH → Res MV := fun v w h => match w with
  | .int _ => qOw2 c g v w h
  | _ => .bad
def qOwIn (neg : Bool) (c : Nat) (g : FM) : MV → MV → MH → Res MV := fun w v h => (qOw2 c g v w h).bind fun z h1 => match neg with
  | false => asB z h1
  | true => asNB z h1
/-- an instance of c: what the def gives -/
def qOw1 (c : Nat) (g : FM) : MV → MH → Res MV := fun v h => match isIns c h v with
  | true => g [v] h
  | false => .bad
def qOwLen (c : Nat) (g : FM) : FM := fun vs h => match vs with
  | [v] => (qOw1 c g v h).bind fun z h1 => match z with
    | .int i => (match decide (0 ≤ i) && decide (i < 9223372036854775808) with
      | true => .ok (.int i) h1
      | false => .bad)
    | _ => .bad
  | _ => .bad
def qOwBool (c : Nat) (g : FM) : FM := fun vs h => match vs with
  | [v] => (qOw1 c g v h).bind asB
  | _ => .bad
/-- an instance's truth, as a test -/
def cOw (c : Nat) (g : FM) (a : EM) : TM := fun σ h => (a σ h).bind fun v h1 => (qOw1 c g v h1).bind qB
/-! ### == of lists of tuples of flat things and instances of c -/
def elE (c : Nat) (g : FM) (v w : MV) (h : MH) : Res Bool := match flatM v && flatM w with
  | true => .ok (eqB 1 h v w) h
  | false => (match v, w with
    | .ref n, .ref j => (match isIns c h (.ref n) && isIns c h (.ref j) with
      | true => (match Nat.beq n j with
        | true => .ok true h
        | false => (g [.ref n, .ref j] h).bind qB)
      | false => .bad)
    | _, _ => .bad)
def seqE (c : Nat) (g : FM) : List MV → List MV → MH → Res Bool
  | [], [], h => .ok true h
  | x :: xs, y :: ys, h => (elE c g x y h).bind fun b h1 => match b with
    | true => seqE c g xs ys h1
    | false => .ok false h1
  | _, _, _ => .bad
def itE (c : Nat) (g : FM) (v w : MV) (h : MH) : Res Bool := match v, w with
  | .tup xs, .tup ys => (match Nat.beq xs.length ys.length with
    | true => seqE c g xs ys h
    | false => .bad)
  | _, _ => .bad
def twoL (n j N : Nat) (h : MH) : Option (List MV × List MV) := match h.get n, h.get j with
  | some (.lst xs), some (.lst ys) => (match Nat.beq xs.length N && Nat.beq ys.length N with
    | true => some (xs, ys)
    | false => none)
  | _, _ => none
def lstE (c : Nat) (g : FM) (n j N : Nat) : Nat → Nat → MH → Res Bool
  | 0, _, h => (match twoL n j N h with
    | some _ => .ok true h
    | none => .bad)
  | d + 1, i, h => (match twoL n j N h with
    | some (xs, ys) => (match xs[i]?, ys[i]? with
      | some x, some y => (itE c g x y h).bind fun b h1 => match b with
        | true => lstE c g n j N d (i + 1) h1
        | false => (match twoL n j N h1 with
          | some _ => .ok false h1
          | none => .bad)
      | _, _ => .bad)
    | none => .bad)
def qEqD (c : Nat) (g : FM) : MV → MV → MH → Res MV := fun v w h => match v, w with
  | .ref n, .ref j => (match h.get n with
    | some (.lst xs) => (lstE c g n j xs.length xs.length 0 h).bind fun b h1 => .ok (.bl b) h1
    | _ => .bad)
  | _, _ => .bad
/-- list(d.items()) -/
def qListItems : MV → MH → Res MV := fun v h => match v with
  | .ref n => (match h.get n with
    | some (.dct tk lk kvs) => (match tk || lk with
      | false => .ok (.ref h.n) (h.push (.lst (kvs.map fun p => .tup [p.1, p.2])))
      | true => .bad)
    | _ => .bad)
  | _ => .bad
/-- *a in a display: a tuple -/
def aStar (a : EM) (r : AM) : AM := fun σ h => (a σ h).bind fun v h1 => match v with
  | .tup xs => (r σ h1).bind fun ys h2 => .ok (xs ++ ys) h2
  | _ => .bad
/-- o(a, ..), o an instance of c -/
def eCallO (c : Nat) (g : FM) (o : EM) (a : AM) : EM := fun σ h => (o σ h).bind fun x h1 => match x with
  | .ref n => (a σ h1).bind fun vs h2 => (match isIns c h2 (.ref n) with
    | true => g (.ref n :: vs) h2
    | false => .bad)
  | _ => .bad
/-- list(range(n)) -/
def qListRg : MV → MH → Res MV := fun v h => match v with
  | .int n => (match decide (0 ≤ n) && decide (n ≤ 16777216) with
    | true => .ok (.ref h.n) (h.push (.lst ((List.range n.toNat).map fun i : Nat => .int (i : Int))))
    | false => .bad)
  | _ => .bad
/-- a new list of what the list at v holds -/
def copyL (v : MV) (h2 : MH) : Res MV := match v with
  | .ref n => (match h2.get n with
    | some (.lst xs) => lim xs.length (.ok (.ref h2.n) (h2.push (.lst xs)))
    | _ => .bad)
  | _ => .bad
/-- list(f(..)), f a generator def: what it hands out in the end stands in the list that g gives -/
def eGenL (g : FM) (a : AM) : EM := fun σ h => (a σ h).bind fun vs h1 => (g vs h1).bind copyL
/-- a tuple times an int -/
def qRepT : MV → MV → MH → Res MV := fun v w h => match v, w with
  | .tup xs, .int k => (match decide (k = 1) with
    | true => .ok (.tup xs) h
    | false => (match !xs.isEmpty && (decide (2 ≤ k) && (decide (k ≤ 1000) && Nat.ble xs.length 1000)) with
      | true => .ok (.tup (List.replicate k.toNat xs).flatten) h
      | false => .bad))
  | _, _ => .bad
/-- list(o.m()), m a generator method -/
def eGenM (c : Nat) (g : FM) (o : EM) : EM := fun σ h => (o σ h).bind fun x h1 => match isIns c h1 x with
  | true => (g [x] h1).bind copyL
  | false => .bad
/-- a generator def's body: statements, in the end a list -/
def gSeq (b : SM) (f : Sl → MH → Res MV) : Sl → MH → Res MV := fun σ h => match b σ h with
  | .nx σ1 h1 => f σ1 h1
  | _ => .bad
def fnG (N : Nat) (f : Sl → MH → Res MV) : FM := fun vs h => f (vs.map some ++ List.replicate (N - vs.length) none) h
/-- bool(a), a bool -/
def qBoolB1 : MV → MH → Res MV := fun v h => match v with
  | .bl b => .ok (.bl b) h
  | _ => .bad
def qBoolB : FM := f1 qBoolB1
end KA

set_option linter.all false
/-! KMini4: more of the mini semantics: a dict comprehension with two fors, a call of a class method. -/
namespace KA
/-- {k: v for p in w if t for q in u if r} -/
def b2D (w : WM) (p : Pt) (t : TM) (a b : EM) (vs : List Nat) : Sl → Nat × List (MV × MV) → MH → Res (Nat × List (MV × MV)) := fun σ acc h => (w σ h).bind fun k h1 => accL k p t (bD a b) (wipeM σ vs) k.n 0 acc h1
def eDc2 (w : WM) (p : Pt) (t : TM) (w1 : WM) (p1 : Pt) (t1 : TM) (a b : EM) (vs vs1 : List Nat) : EM := fun σ h => (w σ h).bind fun k h1 => (accL k p t (b2D w1 p1 t1 a b vs1) (wipeM σ vs) k.n 0 (0, []) h1).bind kDct
/-- a class method's body, one expression: its own class ahead is no value of ours -/
def fnC (n : Nat) (e : EM) : FM := fun ms h => e (none :: (ms.map some ++ List.replicate (n - ms.length) none)) h
end KA

set_option linter.all false
/-! KProg: the program, as mini functions (printed by gen.py). -/
namespace KA
def kfJob_2_start_cost (vs zs : List MV) : List MV := vs ++ ((zs.drop 0).take 1 ++ ((zs.drop 1).take 1))
def m_runs : FM := fn 2 ((jRet (e2 qLt (e2 qMod (e2 qSub (eV 1) (e1 (qFld 0 2) (eV 0))) (e1 (qFld 0 0) (eV 0))) (e1 (qFld 0 1) (eV 0)))))
def m_is_whole : FM := fn 1 ((jRet (eAnd (e1 (qIsi 12 2) (eV 0)) (eNot (e1 (qIsi 12 1) (eV 0))))))
def m_is_integer : FM := fn 3 ((jRet (eAnd (eA m_is_whole (aCons (eV 0) aNil)) (eChain qLe qLe (eV 1) (eV 0) (eV 2)))))
def m_Job___init__ : FM := fn 5 ((jSeq (jIf (cNot (cB (eA m_is_integer (aCons (eV 1) (aCons (eC (.int 1)) (aCons (eC (.int 12)) aNil)))))) jBad jNil)
    (jSeq (jIf (cNot (cB (eA m_is_integer (aCons (eV 2) (aCons (eC (.int 1)) (aCons (eV 1) aNil)))))) jBad jNil)
    (jSeq (jIf (cNot (cB (eA m_is_integer (aCons (eV 3) (aCons (eC (.int 0)) (aCons (e2 qSub (eV 1) (eC (.int 1))) aNil)))))) jBad jNil)
    (jSeq (jIf (cNot (cB (eA m_is_integer (aCons (eV 4) (aCons (eC (.int 1)) (aCons (eC (.int 9)) aNil)))))) jBad jNil)
    (jSeq (jFld 0 0 (eV 0) (eV 1))
    (jSeq (jFld 0 1 (eV 0) (eV 2))
    (jSeq (jFld 0 2 (eV 0) (eV 3))
    (jFld 0 3 (eV 0) (eV 4))))))))))
def m_moved : FM := fn 2 ((jSeq (jIf (cOr (cNot (cB (eA m_is_whole (aCons (eV 1) aNil)))) (cB (e2 qLt (eV 1) (eC (.int 0))))) jBad jNil)
    (jRet (eNewK 0 m_Job___init__ kfJob_2_start_cost (aCons (e1 (qFld 0 0) (eV 0)) (aCons (e1 (qFld 0 1) (eV 0)) aNil)) (aCons (e2 qMod (e2 qAdd (e1 (qFld 0 2) (eV 0)) (eV 1)) (e1 (qFld 0 0) (eV 0))) (aCons (e1 (qFld 0 3) (eV 0)) aNil))))))
def m_is_sound : FM := fn 7 ((jSeq (jAsg (eV 1) (.cons (.nm 2) (.cons (.nm 3) (.cons (.nm 4) (.cons (.nm 5) (.cons (.nm 6) .nil))))))
    (jRet (eAnd (eA m_runs (aCons (eA m_moved (aCons (e2 qDget (e1 (qFld 1 4) (eV 0)) (eV 2)) (aCons (eV 4) aNil))) (aCons (eV 6) aNil))) (eA m_runs (aCons (eA m_moved (aCons (e2 qDget (e1 (qFld 1 4) (eV 0)) (eV 3)) (aCons (eV 5) aNil))) (aCons (eV 6) aNil)))))))
def m_check_meeting : FM := fn 4 ((jSeq (jIf (cOr (cNot (cB (e1 (qIsi 12 5) (eV 1)))) (cOr (cB (e2 qNe (eA qLen (aCons (eV 1) aNil)) (eC (.int 5)))) (cNot (cB (eA (qBls allB) (aCons (eLc (wTup (eSl (eV 1) none (some (eC (.int 2))))) (.nm 2) cYes (e1 (qIsi 12 3) (eV 2)) [2]) aNil)))))) jBad jNil)
    (jSeq (jIf (cB (e2 qNe (eLock (e1 (qFld 1 4) (eV 0)) (eLc (wDct 0 (e1 (qFld 1 4) (eV 0))) (.nm 2) (cB (e2 (qInT false) (eV 2) (eSl (eV 1) none (some (eC (.int 2)))))) (eV 2) [2])) (eA qListOf (aCons (eSl (eV 1) none (some (eC (.int 2)))) aNil)))) jBad jNil)
    (jSeq (jFor (wZip (eSl (eV 1) none (some (eC (.int 2)))) (eSl (eV 1) (some (eC (.int 2))) (some (eC (.int 4))))) (.cons (.nm 2) (.cons (.nm 3) .nil)) (jIf (cNot (cB (eA m_is_integer (aCons (eV 3) (aCons (eC (.int 0)) (aCons (e2 qSub (e1 (qFld 0 0) (e2 qDget (e1 (qFld 1 4) (eV 0)) (eV 2))) (eC (.int 1))) aNil)))))) jBad jNil))
    (jIf (cOr (cNot (cB (eA m_is_whole (aCons (e2 qIx (eV 1) (eC (.int 4))) aNil)))) (cB (e2 qLt (e2 qIx (eV 1) (eC (.int 4))) (eC (.int 0))))) jBad jNil)))))
def m_check_timetable : FM := fn 1 ((jIf (cNot (cB (e1 (qIsi 12 11) (eV 0)))) jBad jNil))
def m_is_meeting : FM := fn 2 ((jSeq (jDrop (eA m_check_timetable (aCons (eV 0) aNil)))
    (jSeq (jDrop (eA m_check_meeting (aCons (eV 0) (aCons (eV 1) aNil))))
    (jRet (eA m_is_sound (aCons (eV 0) (aCons (eV 1) aNil)))))))
def m_parts_them : FM := fn 5 ((jSeq (jAsg (eV 2) (.cons (.nm 3) (.cons (.nm 4) .nil)))
    (jSeq (jIf (cOr (cB (e2 qLt (eV 3) (eC (.int 1)))) (cOr (cB (e2 qNe (e2 qMod (e1 (qFld 0 0) (eV 0)) (eV 3)) (eC (.int 0)))) (cB (e2 qNe (e2 qMod (e1 (qFld 0 0) (eV 1)) (eV 3)) (eC (.int 0)))))) (jRet (eC (.bl false))) jNil)
    (jSeq (jIf (cB (e2 qNe (eV 4) (e2 qMod (e2 qSub (e1 (qFld 0 2) (eV 1)) (e1 (qFld 0 2) (eV 0))) (eV 3)))) (jRet (eC (.bl false))) jNil)
    (jRet (eAnd (e2 qLe (e1 (qFld 0 1) (eV 0)) (eV 4)) (e2 qLe (e2 qAdd (eV 4) (e1 (qFld 0 1) (eV 1))) (eV 3))))))))
def m_check_two : FM := fn 3 ((jSeq (jDrop (eA m_check_timetable (aCons (eV 0) aNil)))
    (jSeq (jIf (cOr (cNot (cB (e1 (qIsi 12 3) (eV 1)))) (cOr (cNot (cB (e1 (qIsi 12 3) (eV 2)))) (cB (e2 qEq (eV 1) (eV 2))))) jBad jNil)
    (jIf (cOr (cB (e2 (qDin true) (eV 1) (e1 (qFld 1 4) (eV 0)))) (cB (e2 (qDin true) (eV 2) (e1 (qFld 1 4) (eV 0))))) jBad jNil))))
def m_is_reason : FM := fn 4 ((jSeq (jDrop (eA m_check_two (aCons (eV 0) (aCons (eV 1) (aCons (eV 2) aNil)))))
    (jRet (eA m_parts_them (aCons (e2 qDget (e1 (qFld 1 4) (eV 0)) (eV 1)) (aCons (e2 qDget (e1 (qFld 1 4) (eV 0)) (eV 2)) (aCons (eV 3) aNil)))))))
def m_common : FM := fn 2 ((jSeq (jWhile 1000 (cB (e2 qNe (eV 1) (eC (.int 0)))) (jPar 0 1 (eV 1) (e2 qMod (eV 0) (eV 1))))
    (jRet (eV 0))))
def m_gap_of : FM := fn 3 ((jSeq (jAsg (eA m_common (aCons (e1 (qFld 0 0) (eV 0)) (aCons (e1 (qFld 0 0) (eV 1)) aNil))) (.nm 2))
    (jRet (eA qTup (aCons (eV 2) (aCons (e2 qMod (e2 qSub (e1 (qFld 0 2) (eV 1)) (e1 (qFld 0 2) (eV 0))) (eV 2)) aNil))))))
def m_never_meet : FM := fn 4 ((jSeq (jAsg (eA m_gap_of (aCons (eV 0) (aCons (eV 1) aNil))) (.cons (.nm 2) (.cons (.nm 3) .nil)))
    (jRet (eAnd (e2 qLe (e1 (qFld 0 1) (eV 0)) (eV 3)) (e2 qLe (e2 qAdd (eV 3) (e1 (qFld 0 1) (eV 1))) (eV 2))))))
def m_are_apart : FM := fn 3 ((jSeq (jDrop (eA m_check_two (aCons (eV 0) (aCons (eV 1) (aCons (eV 2) aNil)))))
    (jRet (eA m_never_meet (aCons (e2 qDget (e1 (qFld 1 4) (eV 0)) (eV 1)) (aCons (e2 qDget (e1 (qFld 1 4) (eV 0)) (eV 2)) aNil))))))
def m_meeting_time : FM := fn 3 ((jSeq (jFor (wRng1 (e2 qDiv (e2 qMul (e1 (qFld 0 0) (eV 0)) (e1 (qFld 0 0) (eV 1))) (eA m_common (aCons (e1 (qFld 0 0) (eV 0)) (aCons (e1 (qFld 0 0) (eV 1)) aNil))))) (.nm 2) (jIf (cAnd (cB (eA m_runs (aCons (eV 0) (aCons (eV 2) aNil)))) (cB (eA m_runs (aCons (eV 1) (aCons (eV 2) aNil))))) (jRet (eV 2)) jNil))
    (jRet (eC .non))))
def m_first_meeting : FM := fn 3 ((jSeq (jDrop (eA m_check_two (aCons (eV 0) (aCons (eV 1) (aCons (eV 2) aNil)))))
    (jRet (eA m_meeting_time (aCons (e2 qDget (e1 (qFld 1 4) (eV 0)) (eV 1)) (aCons (e2 qDget (e1 (qFld 1 4) (eV 0)) (eV 2)) aNil))))))
def m_is_name : FM := fn 2 ((jRet (eAnd (e1 (qIsi 12 3) (eV 0)) (eAnd (eChain qLe qLe (eC (.int 1)) (eA qLen (aCons (eV 0) aNil)) (eC (.int 8))) (eA (qBls allB) (aCons (eLc (wStr (eV 0)) (.nm 1) cYes (e2 qInS (eV 1) (eC (.str [97, 98, 99, 100, 101, 102, 103, 104, 105, 106, 107, 108, 109, 110, 111, 112, 113, 114, 115, 116, 117, 118, 119, 120, 121, 122]))) [1]) aNil))))))
def m_Timetable___init__ : FM := fn 5 ((jSeq (jIf (cOr (cNot (cB (e1 (qIsi 12 6) (eV 1)))) (cNot (cB (eChain qLe qLe (eC (.int 1)) (eA qLen (aCons (eV 1) aNil)) (eC (.int 4)))))) jBad jNil)
    (jSeq (jLock (eV 1) (jFor (wDct 2 (eV 1)) (.cons (.nm 2) (.cons (.nm 3) .nil)) (jIf (cOr (cNot (cB (eA m_is_name (aCons (eV 2) aNil)))) (cNot (cB (e1 (qIsi 12 10) (eV 3))))) jBad jNil)))
    (jSeq (jAsg (eC (.int 1)) (.nm 4))
    (jSeq (jLock (eV 1) (jFor (wDct 1 (eV 1)) (.nm 3) (jAsg (e2 qMul (eV 4) (e1 (qFld 0 0) (eV 3))) (.nm 4))))
    (jSeq (jIf (cB (e2 qGt (eV 4) (eC (.int 2000)))) jBad jNil)
    (jFld 1 4 (eV 0) (eLock (eV 1) (eDc (wDct 2 (eV 1)) (.cons (.nm 2) (.cons (.nm 3) .nil)) cYes (eV 2) (eV 3) [2, 3])))))))))
def m_all_shifts : FM := fn 5 ((jSeq (jAsg (eA qLst (aCons (eA qTup aNil) aNil)) (.nm 1))
    (jSeq (jLock (e1 (qFld 1 4) (eV 0)) (jFor (wDct 1 (e1 (qFld 1 4) (eV 0))) (.nm 2) (jAsg (eLc2 (wSeq (eV 1)) (.nm 3) cYes (wRng1 (e1 (qFld 0 0) (eV 2))) (.nm 4) cYes (eA qTup (aStar (eV 3) (aCons (eV 4) aNil))) [3, 4] [4]) (.nm 1))))
    (jRet (eV 1)))))
def m_pairs_of : FM := fn 5 ((jSeq (jAsg (eA qListOf (aCons (e1 (qFld 1 4) (eV 0)) aNil)) (.nm 1))
    (jRet (eLc2 (wEnum (eV 1)) (.cons (.nm 2) (.cons (.nm 3) .nil)) cYes (wSeq (eSl (eV 1) (some (e2 qAdd (eV 2) (eC (.int 1)))) none)) (.nm 4) cYes (eA qTup (aCons (eV 3) (aCons (eV 4) aNil))) [2, 3, 4] [4]))))
def m_is_free : FM := fn 4 ((jSeq (jAsg (e1 (qFld 1 4) (eV 0)) (.nm 1))
    (jRet (eA (qBls allB) (aCons (eLc (wSeq (eA m_pairs_of (aCons (eV 0) aNil))) (.cons (.nm 2) (.cons (.nm 3) .nil)) cYes (eA m_never_meet (aCons (e2 qDget (eV 1) (eV 2)) (aCons (e2 qDget (eV 1) (eV 3)) aNil))) [2, 3]) aNil)))))
def m_after_shifts : FM := fn 5 ((jRet (eNew 1 m_Timetable___init__ (aCons (eLock (e1 (qFld 1 4) (eV 0)) (eDc (wZipG 3 0 (e1 (qFld 1 4) (eV 0)) (eV 1)) (.cons (.cons (.nm 2) (.cons (.nm 3) .nil)) (.cons (.nm 4) .nil)) cYes (eV 2) (eA m_moved (aCons (eV 3) (aCons (eV 4) aNil))) [2, 3, 4])) aNil))))
def m_free_shifts : FM := fn 2 ((jSeq (jDrop (eA m_check_timetable (aCons (eV 0) aNil)))
    (jRet (eLc (wSeq (eA m_all_shifts (aCons (eV 0) aNil))) (.nm 1) (cB (eA m_is_free (aCons (eA m_after_shifts (aCons (eV 0) (aCons (eV 1) aNil))) aNil))) (eV 1) [1]))))
def m_are_shifts : FM := fn 4 ((jSeq (jIf (cOr (cNot (cB (e1 (qIsi 12 5) (eV 1)))) (cB (e2 qNe (eA qLen (aCons (eV 1) aNil)) (eA qLen (aCons (e1 (qFld 1 4) (eV 0)) aNil))))) (jRet (eC (.bl false))) jNil)
    (jRet (eA (qBls allB) (aCons (eLock (e1 (qFld 1 4) (eV 0)) (eLc (wZipG 0 2 (eV 1) (e1 (qFld 1 4) (eV 0))) (.cons (.nm 2) (.cons (.nm 3) .nil)) cYes (eA m_is_integer (aCons (eV 2) (aCons (eC (.int 0)) (aCons (e2 qSub (e1 (qFld 0 0) (eV 3)) (eC (.int 1))) aNil)))) [2, 3])) aNil)))))
def m_check_shifts : FM := fn 2 ((jSeq (jDrop (eA m_check_timetable (aCons (eV 0) aNil)))
    (jIf (cNot (cB (eA m_are_shifts (aCons (eV 0) (aCons (eV 1) aNil))))) jBad jNil)))
def m_shifted : FM := fn 2 ((jSeq (jDrop (eA m_check_shifts (aCons (eV 0) (aCons (eV 1) aNil))))
    (jRet (eA m_after_shifts (aCons (eV 0) (aCons (eV 1) aNil))))))
def m_check_time : FM := fn 1 ((jIf (cOr (cNot (cB (eA m_is_whole (aCons (eV 0) aNil)))) (cB (e2 qLt (eV 0) (eC (.int 0))))) jBad jNil))
def m_Timetable___call__ : FM := fn 4 ((jSeq (jDrop (eA m_check_time (aCons (eV 1) aNil)))
    (jRet (eLock (e1 (qFld 1 4) (eV 0)) (eLc (wDct 2 (e1 (qFld 1 4) (eV 0))) (.cons (.nm 2) (.cons (.nm 3) .nil)) (cB (eA m_runs (aCons (eV 3) (aCons (eV 1) aNil)))) (eV 2) [2, 3])))))
def m_cost_of : FM := fn 4 ((jRet (eA (qInts sumI) (aCons (eLock (e1 (qFld 1 4) (eV 0)) (eLc (wZipG 0 2 (eV 1) (e1 (qFld 1 4) (eV 0))) (.cons (.nm 2) (.cons (.nm 3) .nil)) cYes (e2 qMul (eV 2) (e1 (qFld 0 3) (eV 3))) [2, 3])) aNil))))
def m_shift_cost : FM := fn 2 ((jSeq (jDrop (eA m_check_shifts (aCons (eV 0) (aCons (eV 1) aNil))))
    (jRet (eA m_cost_of (aCons (eV 0) (aCons (eV 1) aNil))))))
def m_Timetable_all_parts : FM := fn 1 ((jRet (e1 qListItems (e1 (qFld 1 4) (eV 0)))))
def m_Job_all_parts : FM := fn 1 ((jRet (eA qLst (aCons (e1 (qFld 0 0) (eV 0)) (aCons (e1 (qFld 0 1) (eV 0)) (aCons (e1 (qFld 0 2) (eV 0)) (aCons (e1 (qFld 0 3) (eV 0)) aNil)))))))
def m_Job___eq__ : FM := fn 2 ((jRet (eAnd (e1 (qIsi 12 10) (eV 1)) (e2 qEq (eMeth 0 m_Job_all_parts (eV 0) aNil) (eMeth 0 m_Job_all_parts (eV 1) aNil)))))
def m_Timetable___eq__ : FM := fn 2 ((jRet (eAnd (e1 (qIsi 12 11) (eV 1)) (e2 (qEqD 0 m_Job___eq__) (eMeth 1 m_Timetable_all_parts (eV 0) aNil) (eMeth 1 m_Timetable_all_parts (eV 1) aNil)))))
def m_Desk_shifted_by : FM := fn 7 ((jSeq (jAsg (eA qLst aNil) (.nm 3))
    (jSeq (jLock (e1 (qFld 1 4) (e1 (qFld 4 8) (eV 0))) (jFor (wZipG 3 0 (e1 (qFld 1 4) (e1 (qFld 4 8) (eV 0))) (e2 qIx (e1 (qFld 4 9) (eV 0)) (e1 qNeg (eC (.int 1))))) (.cons (.cons (.nm 4) (.cons (.nm 5) .nil)) (.cons (.nm 6) .nil)) (jDrop (eBmL qAppend (eV 3) (aCons (eIf (cB (e2 qEq (eV 4) (eV 1))) (e2 qMod (e2 qAdd (eV 6) (eV 2)) (e1 (qFld 0 0) (eV 5))) (eV 6)) aNil)))))
    (jRet (eA qTupOf (aCons (eV 3) aNil))))))
def m_Desk_cures : FM := fnG 5 ((gSeq (jAsg (eA qLst aNil) (.nm 1))
    (gSeq (jLock (e1 (qFld 1 4) (e1 (qFld 4 8) (eV 0))) (jFor (wDct 2 (e1 (qFld 1 4) (e1 (qFld 4 8) (eV 0)))) (.cons (.nm 2) (.cons (.nm 3) .nil)) (jFor (wRng2 (eC (.int 1)) (e1 (qFld 0 0) (eV 3))) (.nm 4) (jIf (cB (eA m_is_free (aCons (eA m_after_shifts (aCons (e1 (qFld 4 8) (eV 0)) (aCons (eMeth 4 m_Desk_shifted_by (eV 0) (aCons (eV 2) (aCons (eV 4) aNil))) aNil))) aNil))) (jDrop (eBmL qAppend (eV 1) (aCons (eA qTup (aCons (eV 2) (aCons (eV 4) aNil))) aNil))) jNil))))
    (eV 1))))
def m_check_name : FM := fn 2 ((jIf (cOr (cNot (cB (e1 (qIsi 12 3) (eV 1)))) (cB (e2 (qDin true) (eV 1) (e1 (qFld 1 4) (eV 0))))) jBad jNil))
def m_Desk___contains__ : FM := fn 2 ((jSeq (jDrop (eA m_check_name (aCons (e1 (qFld 4 8) (eV 0)) (aCons (eV 1) aNil))))
    (jRet (e2 qNe (e2 qIx (e2 qIx (e1 (qFld 4 9) (eV 0)) (e1 qNeg (eC (.int 1)))) (eBmL qIndex (eA qListOf (aCons (e1 (qFld 1 4) (e1 (qFld 4 8) (eV 0))) aNil)) (aCons (eV 1) aNil))) (eC (.int 0))))))
def m_Desk___getitem__ : FM := fn 2 ((jSeq (jDrop (eA m_check_name (aCons (e1 (qFld 4 8) (eV 0)) (aCons (eV 1) aNil))))
    (jRet (e2 qIx (e2 qIx (e1 (qFld 4 9) (eV 0)) (e1 qNeg (eC (.int 1)))) (eBmL qIndex (eA qListOf (aCons (e1 (qFld 1 4) (e1 (qFld 4 8) (eV 0))) aNil)) (aCons (eV 1) aNil))))))
def m_Desk___len__ : FM := fn 2 ((jRet (eA qLen (aCons (eLc (wTup (e2 qIx (e1 (qFld 4 9) (eV 0)) (e1 qNeg (eC (.int 1))))) (.nm 1) (cB (e2 qNe (eV 1) (eC (.int 0)))) (eV 1) [1]) aNil))))
def m_Desk___bool__ : FM := fn 1 ((jRet (eA qBoolB (aCons (eA m_is_free (aCons (eA m_after_shifts (aCons (e1 (qFld 4 8) (eV 0)) (aCons (e2 qIx (e1 (qFld 4 9) (eV 0)) (e1 qNeg (eC (.int 1)))) aNil))) aNil)) aNil))))
def m_Desk_table : FM := fn 1 ((jRet (eA m_after_shifts (aCons (e1 (qFld 4 8) (eV 0)) (aCons (e2 qIx (e1 (qFld 4 9) (eV 0)) (e1 qNeg (eC (.int 1)))) aNil)))))
def m_Desk_spent : FM := fn 1 ((jRet (eA m_cost_of (aCons (e1 (qFld 4 8) (eV 0)) (aCons (e2 qIx (e1 (qFld 4 9) (eV 0)) (e1 qNeg (eC (.int 1)))) aNil)))))
def m_Desk_now : FM := fn 1 ((jRet (e2 qIx (e1 (qFld 4 9) (eV 0)) (e1 qNeg (eC (.int 1))))))
def m_Desk_undo : FM := fn 1 ((jSeq (jIf (cB (e2 qEq (e1 (qFld 4 10) (eV 0)) (eA qLst aNil))) jBad jNil)
    (jSeq (jDrop (eBmL qPop0 (e1 (qFld 4 9) (eV 0)) aNil))
    (jRet (eBmL qPop0 (e1 (qFld 4 10) (eV 0)) aNil)))))
def m_Desk_move : FM := fn 3 ((jSeq (jDrop (eA m_check_name (aCons (e1 (qFld 4 8) (eV 0)) (aCons (eV 1) aNil))))
    (jSeq (jIf (cNot (cB (eA m_is_integer (aCons (eV 2) (aCons (eC (.int 1)) (aCons (e2 qSub (e1 (qFld 0 0) (e2 qDget (e1 (qFld 1 4) (e1 (qFld 4 8) (eV 0))) (eV 1))) (eC (.int 1))) aNil)))))) jBad jNil)
    (jSeq (jDrop (eBmL qAppend (e1 (qFld 4 9) (eV 0)) (aCons (eMeth 4 m_Desk_shifted_by (eV 0) (aCons (eV 1) (aCons (eV 2) aNil))) aNil)))
    (jSeq (jDrop (eBmL qAppend (e1 (qFld 4 10) (eV 0)) (aCons (eV 1) aNil)))
    (jRet (eA m_is_free (aCons (eA m_after_shifts (aCons (e1 (qFld 4 8) (eV 0)) (aCons (e2 qIx (e1 (qFld 4 9) (eV 0)) (e1 qNeg (eC (.int 1)))) aNil))) aNil))))))))
def m_Desk___init__ : FM := fn 2 ((jSeq (jDrop (eA m_check_timetable (aCons (eV 1) aNil)))
    (jSeq (jFld 4 8 (eV 0) (eV 1))
    (jSeq (jFld 4 9 (eV 0) (eA qLst (aCons (e2 qRepT (eA qTup (aCons (eC (.int 0)) aNil)) (eA qLen (aCons (e1 (qFld 1 4) (eV 1)) aNil))) aNil)))
    (jFld 4 10 (eV 0) (eA qLst aNil))))))
end KA

set_option Elab.async false
set_option autoImplicit false
set_option linter.all false
set_option maxRecDepth 100000
set_option maxHeartbeats 400000
/-! KSound: the mini semantics is what the model does: readings tM, one rule a construct. -/
namespace KA
open PySem PySem.Spec PyProof.Rows L2

/-! ### what stands where -/
structure GC where
  K : PySem.W.Frag
  cl : Nat → Addr
  fl : Nat → PySem.Str
  xc : Nat → Value

abbrev XW := Value → Option Addr → L2.St → Hp → Prop
/-- a list that nobody writes: known, or of the written part -/
def FrzL (K : PySem.W.Frag) (H : Hp) (a : Addr) (xs : List V) : Prop :=
  (∃ o, H a = some (.frz o (.lst xs))) ∨
    ∃ (o : Obj) (its : Array Value) (n : Nat), K.lookup a = some o ∧ o.cls = .type "list" ∧ o.dict = none ∧ o.data = .seq its n ∧ its.size ≤ sizeLine ∧ Vals xs its.toList
theorem FrzL.sq {K : PySem.W.Frag} {H : Hp} {a : Addr} {xs : List V} (h : FrzL K H a xs) : SqL K H a xs := by
  rcases h with ⟨o, h⟩ | h
  · exact .inl (.inr ⟨o, h⟩)
  · exact .inr h

mutual
def RV (G : GC) (m : List Addr) (H : Hp) : MV → V → Prop
  | .non, x => x = .non
  | .bl b, x => x = .bl b
  | .int i, x => x = .int i
  | .str s, x => x = .str ⟨s.toArray⟩
  | .ref n, x => ∃ a, m[n]? = some a ∧ x = .ref a
  | .tup ts, x => ∃ a xs, x = .ref a ∧ H a = some (.tup xs) ∧ RVs G m H ts xs
  | .flst ts, x => ∃ a xs, x = .ref a ∧ FrzL G.K H a xs ∧ RVs G m H ts xs
def RVs (G : GC) (m : List Addr) (H : Hp) : List MV → List V → Prop
  | [], xs => xs = []
  | t :: ts, xs => ∃ y ys, xs = y :: ys ∧ RV G m H t y ∧ RVs G m H ts ys
end

/-- later: addresses come beside, tuples and known objects stand -/
structure Le (G : GC) (m : List Addr) (H : Hp) (m' : List Addr) (H' : Hp) : Prop where
  pre : ∃ t, m' = m ++ t
  tup : ∀ b xs, H b = some (.tup xs) → H' b = some (.tup xs)
  frz : ∀ b o xs, H b = some (.frz o (.lst xs)) → H' b = some (.frz o (.lst xs))
/-- .. and: what is tracked and none of ours stands; what came was untracked -/
structure Ex (G : GC) (m : List Addr) (H : Hp) (m' : List Addr) (H' : Hp) : Prop extends Le G m H m' H' where
  frd : ∀ b o u, H b = some (.frz o u) → H' b = some (.frz o u)
  new : ∀ b, b ∈ m' → b ∉ m → H b = none
  out : ∀ b, b ∉ m → H b ≠ none → H' b = H b

section
variable {G : GC} {m m' m1 m2 : List Addr} {H H' H1 H2 : Hp}
theorem Le.refl : Le G m H m H := ⟨⟨[], by simp⟩, fun _ _ h => h, fun _ _ _ h => h⟩
theorem Le.trans (a : Le G m H m1 H1) (b : Le G m1 H1 m2 H2) : Le G m H m2 H2 := by
  obtain ⟨t, e⟩ := a.pre
  obtain ⟨t', e'⟩ := b.pre
  exact ⟨⟨t ++ t', by rw [e', e, List.append_assoc]⟩, fun c xs h => b.tup c xs (a.tup c xs h), fun c o xs h => b.frz c o xs (a.frz c o xs h)⟩
theorem Le.ix (a : Le G m H m' H') {n : Nat} {p : Addr} (h : m[n]? = some p) : m'[n]? = some p := by
  obtain ⟨t, e⟩ := a.pre
  rw [e, List.getElem?_append_left (List.getElem?_eq_some_iff.mp h).1]
  exact h
theorem Le.mem (a : Le G m H m' H') {p : Addr} (h : p ∈ m) : p ∈ m' := by
  obtain ⟨t, e⟩ := a.pre
  rw [e]; exact List.mem_append_left _ h
theorem Le.frzl (x : Le G m H m' H') {b : Addr} {xs : List V} (h : FrzL G.K H b xs) : FrzL G.K H' b xs := by
  rcases h with ⟨o, h⟩ | h
  · exact .inl ⟨o, x.frz _ _ _ h⟩
  · exact .inr h
theorem Ex.refl : Ex G m H m H := ⟨.refl, fun _ _ _ h => h, fun b h n => absurd h n, fun _ _ _ => rfl⟩
theorem Ex.trans (a : Ex G m H m1 H1) (b : Ex G m1 H1 m2 H2) : Ex G m H m2 H2 := by
  refine ⟨a.toLe.trans b.toLe, fun c o u h => b.frd c o u (a.frd c o u h), fun c h n => ?_, fun c n h => ?_⟩
  · by_cases q : c ∈ m1
    · exact a.new c q n
    · have e := b.new c h q
      cases z : H c with
      | none => rfl
      | some o =>
        have := a.out c n (by rw [z]; exact fun q => nomatch q)
        rw [e, z] at this; cases this
  · have e := a.out c n h
    have q : c ∉ m1 := fun q => h (a.new c q n)
    rw [b.out c q (by rw [e]; exact h), e]
mutual
theorem RV.mono (x : Le G m H m' H') : ∀ {v : MV} {u : V}, RV G m H v u → RV G m' H' v u
  | .non, u, h => by simpa only [RV] using h
  | .bl _, u, h => by simpa only [RV] using h
  | .int _, u, h => by simpa only [RV] using h
  | .str _, u, h => by simpa only [RV] using h
  | .ref n, u, h => by
    simp only [RV] at h ⊢
    obtain ⟨a, e, q⟩ := h
    exact ⟨a, x.ix e, q⟩
  | .tup ts, u, h => by
    simp only [RV] at h ⊢
    obtain ⟨a, xs, e, q, r⟩ := h
    exact ⟨a, xs, e, x.tup _ _ q, RVs.mono x r⟩
  | .flst ts, u, h => by
    simp only [RV] at h ⊢
    obtain ⟨a, xs, e, q, r⟩ := h
    exact ⟨a, xs, e, x.frzl q, RVs.mono x r⟩
theorem RVs.mono (x : Le G m H m' H') : ∀ {vs : List MV} {us : List V}, RVs G m H vs us → RVs G m' H' vs us
  | [], us, h => by simpa only [RVs] using h
  | v :: vs, us, h => by
    simp only [RVs] at h ⊢
    obtain ⟨y, ys, e, r, q⟩ := h
    exact ⟨y, ys, e, RV.mono x r, RVs.mono x q⟩
end
theorem RVs.nil : RVs G m H [] [] := by simp [RVs]
theorem RVs.cons {v : MV} {vs : List MV} {u : V} {us : List V} (r : RV G m H v u) (q : RVs G m H vs us) : RVs G m H (v :: vs) (u :: us) := by
  simp only [RVs]; exact ⟨u, us, rfl, r, q⟩
theorem RVs.nil_inv {us : List V} (h : RVs G m H [] us) : us = [] := by simpa only [RVs] using h
theorem RVs.cons_inv {v : MV} {vs : List MV} {us : List V} (h : RVs G m H (v :: vs) us) : ∃ y ys, us = y :: ys ∧ RV G m H v y ∧ RVs G m H vs ys := by simpa only [RVs] using h
theorem RVs.length : ∀ {vs : List MV} {us : List V}, RVs G m H vs us → us.length = vs.length
  | [], us, h => by rw [h.nil_inv]; rfl
  | v :: vs, us, h => by
    obtain ⟨y, ys, rfl, _, q⟩ := h.cons_inv
    simp [RVs.length q]
theorem RVs.get : ∀ {vs : List MV} {us : List V} {i : Nat} {v : MV}, RVs G m H vs us → vs[i]? = some v → ∃ u, us[i]? = some u ∧ RV G m H v u
  | [], _, _, _, _, e => by simp at e
  | w :: vs, us, 0, v, h, e => by
    obtain ⟨y, ys, rfl, r, _⟩ := h.cons_inv
    have e' : w = v := Option.some.inj e
    subst e'
    exact ⟨y, rfl, r⟩
  | w :: vs, us, i + 1, v, h, e => by
    obtain ⟨y, ys, rfl, _, q⟩ := h.cons_inv
    obtain ⟨u, e', r⟩ := RVs.get (i := i) (v := v) q (by simpa using e)
    exact ⟨u, by simpa using e', r⟩
theorem RVs.append : ∀ {vs ws : List MV} {us ts : List V}, RVs G m H vs us → RVs G m H ws ts → RVs G m H (vs ++ ws) (us ++ ts)
  | [], _, us, _, h, q => by rw [h.nil_inv]; exact q
  | v :: vs, ws, us, ts, h, q => by
    obtain ⟨y, ys, rfl, r, q'⟩ := h.cons_inv
    exact .cons r (RVs.append q' q)
theorem RVs.take : ∀ (n : Nat) {vs : List MV} {us : List V}, RVs G m H vs us → RVs G m H (vs.take n) (us.take n)
  | 0, _, _, _ => by simpa using RVs.nil
  | n + 1, [], us, h => by rw [h.nil_inv]; simpa using RVs.nil
  | n + 1, v :: vs, us, h => by
    obtain ⟨y, ys, rfl, r, q'⟩ := h.cons_inv
    exact .cons r (RVs.take n q')
theorem RVs.drop : ∀ (n : Nat) {vs : List MV} {us : List V}, RVs G m H vs us → RVs G m H (vs.drop n) (us.drop n)
  | 0, _, _, h => by simpa using h
  | n + 1, [], us, h => by rw [h.nil_inv]; simpa using RVs.nil
  | n + 1, v :: vs, us, h => by
    obtain ⟨y, ys, rfl, r, q'⟩ := h.cons_inv
    simpa using RVs.drop n q'
theorem RVs.set : ∀ {vs : List MV} {us : List V} (i : Nat) {v : MV} {u : V}, RVs G m H vs us → RV G m H v u → RVs G m H (vs.set i v) (us.set i u)
  | [], us, _, _, _, h, _ => by rw [h.nil_inv]; simpa using RVs.nil
  | w :: vs, us, 0, v, u, h, r => by
    obtain ⟨y, ys, rfl, _, q'⟩ := h.cons_inv
    exact .cons r q'
  | w :: vs, us, i + 1, v, u, h, r => by
    obtain ⟨y, ys, rfl, r', q'⟩ := h.cons_inv
    exact .cons r' (RVs.set i q' r)
theorem RVs.reverse : ∀ {vs : List MV} {us : List V}, RVs G m H vs us → RVs G m H vs.reverse us.reverse
  | [], us, h => by rw [h.nil_inv]; simpa using RVs.nil
  | v :: vs, us, h => by
    obtain ⟨y, ys, rfl, r, q'⟩ := h.cons_inv
    rw [List.reverse_cons, List.reverse_cons]
    exact (RVs.reverse q').append (.cons r .nil)

/-! ### slots -/
structure RS (G : GC) (m : List Addr) (H : Hp) (σm : Sl) (σ : L2.St) : Prop where
  len : σm.length = σ.length
  at_ : ∀ (i : Nat) (v : MV), σm[i]? = some (some v) → ∃ x, σ[i]? = some (some x) ∧ RV G m H v x
theorem RS.mono {σm : Sl} {σ : L2.St} (r : RS G m H σm σ) (x : Le G m H m' H') : RS G m' H' σm σ :=
  ⟨r.len, fun i v e => let ⟨u, q, s⟩ := r.at_ i v e; ⟨u, q, s.mono x⟩⟩
theorem RS.set {σm : Sl} {σ : L2.St} (r : RS G m H σm σ) (i : Nat) {v : MV} {x : V} (q : RV G m H v x) : RS G m H (σm.set i (some v)) (σ.set i (some x)) := by
  refine ⟨by simp [r.len], fun j w e => ?_⟩
  by_cases c : i = j
  · subst c
    by_cases d : i < σm.length
    · rw [List.getElem?_set_self d] at e
      have e' : v = w := by simpa using e
      subst e'
      exact ⟨x, List.getElem?_set_self (by rw [← r.len]; exact d), q⟩
    · rw [List.getElem?_eq_none_iff.mpr (by simpa using d)] at e
      cases e
  · rw [List.getElem?_set_ne c] at e
    rw [List.getElem?_set_ne c]
    exact r.at_ j w e
theorem RS.wipe {σm : Sl} {σ : L2.St} (r : RS G m H σm σ) (i : Nat) : RS G m H (σm.set i none) (σ.set i none) := by
  refine ⟨by simp [r.len], fun j w e => ?_⟩
  by_cases c : i = j
  · subst c
    by_cases d : i < σm.length
    · rw [List.getElem?_set_self d] at e
      cases e
    · rw [List.getElem?_eq_none_iff.mpr (by simpa using d)] at e
      cases e
  · rw [List.getElem?_set_ne c] at e
    rw [List.getElem?_set_ne c]
    exact r.at_ j w e
theorem RS.start {vs : List MV} {us : List V} (r : RVs G m H vs us) (N : List PySem.Str) (n : Nat) (hn : N.length = n) : RS G m H (vs.map some ++ List.replicate (n - vs.length) none) (L2.start N us) := by
  unfold L2.start
  refine ⟨by simp [r.length, hn], fun i v e => ?_⟩
  by_cases c : i < vs.length
  · rw [List.getElem?_append_left (by simpa using c), List.getElem?_map] at e
    obtain ⟨w, e1, e2⟩ := Option.map_eq_some_iff.mp e
    have e3 : w = v := by simpa using e2
    subst e3
    obtain ⟨u, q, s⟩ := r.get e1
    refine ⟨u, ?_, s⟩
    rw [List.getElem?_append_left (by simpa [r.length] using c), List.getElem?_map, q]
    rfl
  · rw [List.getElem?_append_right (by simpa using c)] at e
    rw [List.getElem?_replicate] at e
    split at e <;> simp at e

/-! ### the heap -/
def KR : MV → Key → Prop
  | .int i, k => k = .inl i
  | .str s, k => k = .inr ⟨s.toArray⟩
  | _, _ => False
def KRT : MV → List Key → Prop
  | .tup ts, ks => Paired KR ts ks
  | _, _ => False
def DctR (G : GC) (m : List Addr) (H : Hp) (tk : Bool) (kvs : List (MV × MV)) (w : HO) : Prop := match tk with
  | false => ∃ ps : List (Key × V), w = .dK ps ∧ Paired (fun p q => KR p.1 q.1 ∧ RV G m H p.2 q.2) kvs ps
  | true => ∃ ps : List (List Key × V), w = .dT ps ∧ Paired (fun p q => KRT p.1 q.1 ∧ RV G m H p.2 q.2) kvs ps
/-- a dict, locked or not -/
def LkR (lk : Bool) (u : Option HO) (w : HO) : Prop := match lk with
  | false => u = some w
  | true => ∃ ob, u = some (.frz ob w)
def ObjR (G : GC) (m : List Addr) (H : Hp) : MO → Option HO → Prop
  | .lst xs, u => ∃ ys, u = some (.lst ys) ∧ RVs G m H xs ys
  | .dct tk lk kvs, u => ∃ w, DctR G m H tk kvs w ∧ LkR lk u w
  | .ins c fs, u => ∃ dx gs, u = some (.ins (G.cl c) dx gs) ∧ Paired (fun (p : Nat × MV) (q : PySem.Str × V) => q.1 = G.fl p.1 ∧ RV G m H p.2 q.2) fs gs
theorem DctR.mono {tk : Bool} {kvs : List (MV × MV)} {w : HO} (r : DctR G m H tk kvs w) (x : Le G m H m' H') : DctR G m' H' tk kvs w := by
  cases tk with
  | false =>
    obtain ⟨ps, e, q⟩ := r
    exact ⟨ps, e, Paired.mapP q fun _ _ z => ⟨z.1, z.2.mono x⟩⟩
  | true =>
    obtain ⟨ps, e, q⟩ := r
    exact ⟨ps, e, Paired.mapP q fun _ _ z => ⟨z.1, z.2.mono x⟩⟩
theorem ObjR.mono {o : MO} {u : Option HO} (r : ObjR G m H o u) (x : Le G m H m' H') : ObjR G m' H' o u := by
  cases o with
  | lst xs => obtain ⟨ys, e, q⟩ := r; exact ⟨ys, e, q.mono x⟩
  | dct tk lk kvs => obtain ⟨w, q, e⟩ := r; exact ⟨w, q.mono x, e⟩
  | ins c fs => obtain ⟨dx, gs, e, q⟩ := r; exact ⟨dx, gs, e, Paired.mapP q fun _ _ z => ⟨z.1, z.2.mono x⟩⟩
structure Sim (G : GC) (m : List Addr) (h : MH) (H : Hp) : Prop where
  len : m.length = h.n
  nd : m.Nodup
  at_ : ∀ i o, h.get i = some o → ∃ a, m[i]? = some a ∧ ObjR G m H o (H a)
  trk : ∀ a ∈ m, H a ≠ none
/-- neither a tuple nor a known object; neither a tuple nor a known list -/
def Plain : Option HO → Prop
  | some (.tup _) => False
  | some (.frz _ _) => False
  | _ => True
def PlainL : Option HO → Prop
  | some (.tup _) => False
  | some (.frz _ (.lst _)) => False
  | _ => True
theorem Plain.l {u : Option HO} (h : Plain u) : PlainL u := by
  cases u with
  | none => trivial
  | some o => cases o <;> first | trivial | exact h.elim
/-- the abstract heap changes at p alone, where no tuple stands -/
theorem Le.upd (p : Addr) (o : HO) (hp : PlainL (H p)) : Le G m H m (L2.upd H p o) := by
  refine ⟨⟨[], by simp⟩, fun b xs q => ?_, fun b ob u q => ?_⟩
  · have ne : b ≠ p := by
      rintro rfl
      rw [q] at hp; exact hp
    rw [upd_ne ne]; exact q
  · have ne : b ≠ p := by
      rintro rfl
      rw [q] at hp; exact hp
    rw [upd_ne ne]; exact q
theorem Ex.upd (p : Addr) (o : HO) (hp : Plain (H p)) (hm : p ∈ m ∨ H p = none) : Ex G m H m (L2.upd H p o) := by
  refine ⟨.upd p o hp.l, fun b ob u q => ?_, fun b h n => absurd h n, fun b n h => ?_⟩
  · have ne : b ≠ p := by
      rintro rfl
      rw [q] at hp; exact hp
    rw [upd_ne ne]; exact q
  · have ne : b ≠ p := by
      rintro rfl
      rcases hm with hm | hm
      · exact n hm
      · exact h hm
    rw [upd_ne ne]
theorem Ex.app (x : Ex G m H m' H') {p : Addr} (hp : H p = none) : Ex G m H (m' ++ [p]) H' := by
  obtain ⟨u, e⟩ := x.pre
  refine ⟨⟨⟨u ++ [p], by rw [e, List.append_assoc]⟩, x.tup, x.frz⟩, x.frd, fun b h n => ?_, x.out⟩
  rcases List.mem_append.mp h with h | h
  · exact x.new b h n
  · have : b = p := by simpa using h
    rw [this]; exact hp
theorem plain_none {H : Hp} {p : Addr} (h : H p = none) : Plain (H p) := by rw [h]; trivial
/-- an object that is none of ours is laid -/
theorem Sim.fresh {h : MH} (S : Sim G m h H) {p : Addr} (hp : H p = none) (o : HO) : Sim G m h (upd H p o) := by
  refine ⟨S.len, S.nd, fun i u e => ?_, fun a ha => ?_⟩
  · obtain ⟨a, ea, r⟩ := S.at_ i u e
    have ne : a ≠ p := fun q => S.trk a (List.mem_of_getElem? ea) (by rw [q]; exact hp)
    exact ⟨a, ea, by rw [upd_ne ne]; exact r.mono (Le.upd p o (plain_none hp).l)⟩
  · have ne : a ≠ p := fun q => S.trk a ha (by rw [q]; exact hp)
    rw [upd_ne ne]; exact S.trk a ha
/-- a new object of ours -/
theorem Sim.push {h : MH} (S : Sim G m h H) {p : Addr} (hp : H p = none) {u : MO} {o : HO} (r : ObjR G (m ++ [p]) (upd H p o) u (some o)) : Sim G (m ++ [p]) (h.push u) (upd H p o) := by
  have x : Ex G m H (m ++ [p]) (upd H p o) := (Ex.upd p o (plain_none hp) (.inr hp)).app hp
  have np : ∀ a, a ∈ m → a ≠ p := fun a ha q => S.trk a ha (by rw [q]; exact hp)
  refine ⟨by simp [S.len], ?_, fun i v e => ?_, fun a ha => ?_⟩
  · rw [List.nodup_append]
    exact ⟨S.nd, by simp, fun a ha b hb => by have := np a ha; simp at hb; rw [hb]; exact this⟩
  · rw [MH.get_push] at e
    split at e
    · rename_i c
      have e' : u = v := Option.some.inj e
      subst e'
      refine ⟨p, ?_, by rw [upd_same]; exact r⟩
      rw [c, ← S.len]
      simp
    · obtain ⟨a, ea, q⟩ := S.at_ i v e
      refine ⟨a, x.ix ea, ?_⟩
      rw [upd_ne (np a (List.mem_of_getElem? ea))]
      exact q.mono x.toLe
  · by_cases c : a = p
    · rw [c, upd_same]; exact fun q => nomatch q
    · rw [upd_ne c]
      rcases List.mem_append.mp ha with z | z
      · exact S.trk a z
      · exact absurd (by simpa using z) c
/-- an object that stands already becomes one of ours -/
theorem Sim.adopt {h : MH} (S : Sim G m h H) {p : Addr} (np : p ∉ m) {u : MO} (r : ObjR G (m ++ [p]) H u (H p)) (hn : H p ≠ none) : Sim G (m ++ [p]) (h.push u) H := by
  have x : Le G m H (m ++ [p]) H := ⟨⟨[p], rfl⟩, fun _ _ h => h, fun _ _ _ h => h⟩
  refine ⟨by simp [S.len], ?_, fun i v e => ?_, fun a ha => ?_⟩
  · rw [List.nodup_append]
    exact ⟨S.nd, by simp, fun a ha b hb => by simp at hb; rw [hb]; exact fun q => np (q ▸ ha)⟩
  · rw [MH.get_push] at e
    split at e
    · rename_i c
      have e' : u = v := Option.some.inj e
      subst e'
      refine ⟨p, ?_, r⟩
      rw [c, ← S.len]
      simp
    · obtain ⟨a, ea, q⟩ := S.at_ i v e
      exact ⟨a, x.ix ea, q.mono x⟩
  · rcases List.mem_append.mp ha with z | z
    · exact S.trk a z
    · have : a = p := by simpa using z
      rw [this]; exact hn
theorem nodup_get {l : List Addr} (h : l.Nodup) {i j : Nat} {a : Addr} (e1 : l[i]? = some a) (e2 : l[j]? = some a) : i = j := by
  obtain ⟨h1, q1⟩ := List.getElem?_eq_some_iff.mp e1
  obtain ⟨h2, q2⟩ := List.getElem?_eq_some_iff.mp e2
  exact (List.getElem_inj h).mp (q1.trans q2.symm)
/-- an object of ours is changed -/
theorem Sim.write {h : MH} (S : Sim G m h H) {i : Nat} {p : Addr} (hi : m[i]? = some p) (hp : PlainL (H p)) {u : MO} {o : HO} (r : ObjR G m (upd H p o) u (some o)) : Sim G m (h.set i u) (upd H p o) := by
  have x : Le G m H m (upd H p o) := .upd p o hp
  refine ⟨S.len, S.nd, fun j v e => ?_, fun a ha => ?_⟩
  · rw [MH.get_set] at e
    split at e
    · rename_i c
      subst c
      split at e
      · have e' : u = v := Option.some.inj e
        subst e'
        exact ⟨p, hi, by rw [upd_same]; exact r⟩
      · cases e
    · rename_i c
      obtain ⟨a, ea, q⟩ := S.at_ j v e
      have ne : a ≠ p := fun z => c (nodup_get S.nd (z ▸ ea) hi)
      exact ⟨a, ea, by rw [upd_ne ne]; exact q.mono x⟩
  · by_cases c : a = p
    · rw [c, upd_same]; exact fun q => nomatch q
    · rw [upd_ne c]; exact S.trk a ha
end

/-! ### readings -/
/-- what a result leads to -/
def RP {α β : Type} (G : GC) (W : XW) (Rel : List Addr → Hp → α → β → Prop) (m : List Addr) (H : Hp) (σ : L2.St) (r : Res α) (Q : β → Hp → Prop) : Prop := match r with
  | .ok v h' => ∀ m' H' x, Ex G m H m' H' → Sim G m' h' H' → Rel m' H' v x → Q x H'
  | .exc c p h' => ∀ m' H' d, Ex G m H m' H' → Sim G m' h' H' → (match p with
    | none => True
    | some v => ∃ (a : Addr) (f : PySem.Str) (x : V), d = some a ∧ H' a = some (.xd [(f, x)]) ∧ RV G m' H' v x) → W (G.xc c) d σ H'
  | .bad => False
section
variable {α β γ δ : Type} {G : GC} {W : XW} {Rel : List Addr → Hp → α → β → Prop} {Rel' : List Addr → Hp → γ → δ → Prop} {m m' m1 : List Addr} {H H' H1 : Hp} {σ : L2.St} {r : Res α}
theorem RP.later {Q : β → Hp → Prop} (p : RP G W Rel m H σ r Q) (x : Ex G m H m1 H1) : RP G W Rel m1 H1 σ r Q := by
  cases r with
  | ok v h => exact fun m' H' y e s q => p m' H' y (x.trans e) s q
  | exc c v h => exact fun m' H' d e s q => p m' H' d (x.trans e) s q
  | bad => exact p
theorem RP.imp {Q Q' : β → Hp → Prop} (p : RP G W Rel m H σ r Q) (k : ∀ y H', Q y H' → Q' y H') : RP G W Rel m H σ r Q' := by
  cases r with
  | ok v h => exact fun m' H' y e s q => k y H' (p m' H' y e s q)
  | exc c v h => exact p
  | bad => exact p
theorem RP.bind {k : α → MH → Res γ} {Q : δ → Hp → Prop} (p : RP G W Rel' m H σ (r.bind k) Q) :
    RP G W Rel m H σ r (fun y H1 => ∃ m1 h1 v, Ex G m H m1 H1 ∧ Sim G m1 h1 H1 ∧ Rel m1 H1 v y ∧ RP G W Rel' m1 H1 σ (k v h1) Q) := by
  cases r with
  | ok v h => exact fun m' H' y e s q => ⟨m', h, v, e, s, q, RP.later p e⟩
  | exc c v h => exact p
  | bad => exact p
end

def tMR {α β : Type} (G : GC) (W : XW) (Rel : List Addr → Hp → α → β → Prop) (f : Sl → MH → Res α) : L2.St → Hp → (β → Hp → Prop) → Prop := fun σ H Q =>
  ∃ m h σm, Sim G m h H ∧ RS G m H σm σ ∧ RP G W Rel m H σ (f σm h) Q
abbrev tM (G : GC) (W : XW) (f : EM) : TE := tMR G W (RV G) f
abbrev tMT (G : GC) (W : XW) (f : TM) : TT := tMR G W (fun _ _ (a b : Bool) => b = a) f
abbrev tMA (G : GC) (W : XW) (f : AM) : TA := tMR G W (RVs G) f

theorem _root_.L2.PE.wk {X : Cx} {e : Expr} {t t' : TE} (h : PE X e t) (k : ∀ σ H Q, t' σ H Q → t σ H Q) : PE X e t' := ⟨fun pins s σ H Q I q => h.run pins s σ H Q I (k σ H Q q)⟩
theorem _root_.L2.PT.wk {X : Cx} {e : Expr} {t t' : TT} (h : PT X e t) (k : ∀ σ H Q, t' σ H Q → t σ H Q) : PT X e t' := ⟨fun pins s σ H Q I q => h.run pins s σ H Q I (k σ H Q q)⟩
theorem _root_.L2.PW.wk {X : Cx} {e : Expr} {t t' : TT} (h : PW X e t) (k : ∀ σ H Q, t' σ H Q → t σ H Q) : PW X e t' := ⟨fun wh pins s σ H Q I q => h.run wh pins s σ H Q I (k σ H Q q)⟩
theorem _root_.L2.PA.wk {X : Cx} {e : List Expr} {t t' : TA} (h : PA X e t) (k : ∀ σ H Q, t' σ H Q → t σ H Q) : PA X e t' := ⟨fun p pins s σ H Q I q => h.run p pins s σ H Q I (k σ H Q q)⟩
theorem _root_.L2.PS.wk {X : Cx} {e : Stmt} {t t' : TS} (h : PS X e t) (k : ∀ D σ H, t' D σ H → t D σ H) : PS X e t' := ⟨fun pins s σ H D I q => h.run pins s σ H D I (k D σ H q)⟩
theorem _root_.L2.PSs.wk {X : Cx} {e : List Stmt} {t t' : TS} (h : PSs X e t) (k : ∀ D σ H, t' D σ H → t D σ H) : PSs X e t' := ⟨fun pins s σ H D I q => h.run pins s σ H D I (k D σ H q)⟩

section
variable {α β γ δ : Type} {G : GC} {W : XW} {Rel : List Addr → Hp → α → β → Prop} {Rel' : List Addr → Hp → γ → δ → Prop} {σ : L2.St} {H : Hp}
/-- one part, then the rest -/
theorem tMR.bind {f : Sl → MH → Res α} {k : Sl → α → MH → Res γ} {Q : δ → Hp → Prop} (h : tMR G W Rel' (fun σ h => (f σ h).bind (k σ)) σ H Q) :
    tMR G W Rel f σ H (fun y H1 => ∃ m1 h1 v σm, Sim G m1 h1 H1 ∧ RS G m1 H1 σm σ ∧ Rel m1 H1 v y ∧ RP G W Rel' m1 H1 σ (k σm v h1) Q) := by
  obtain ⟨m, h, σm, S, R, p⟩ := h
  refine ⟨m, h, σm, S, R, (RP.bind (Rel := Rel) p).imp fun y H' => ?_⟩
  rintro ⟨m1, h1, v, x, S1, r1, p1⟩
  exact ⟨m1, h1, v, σm, S1, R.mono x.toLe, r1, p1⟩
theorem tMR.imp {f : Sl → MH → Res α} {Q Q' : β → Hp → Prop} (h : tMR G W Rel f σ H Q) (k : ∀ y H', Q y H' → Q' y H') : tMR G W Rel f σ H Q' := by
  obtain ⟨m, h, σm, S, R, p⟩ := h
  exact ⟨m, h, σm, S, R, p.imp k⟩
/-- a value at once -/
theorem RP.now {m : List Addr} {h : MH} {v : α} {y : β} {Q : β → Hp → Prop} (p : RP G W Rel m H σ (.ok v h) Q) (S : Sim G m h H) (r : Rel m H v y) : Q y H := p m H y .refl S r
end

/-! ### expressions -/
section
variable {X : Cx} {G : GC} {W : XW} {pos : Pos} {a b c : Expr} {fa fb fc : EM}
theorem m_var (i : Nat) {x : PySem.Str} (hN : X.N[i]? = some x := by rfl) (hv : Vis X.env.scope x := by first | exact Or.inl rfl | exact Or.inr (Or.inl rfl) | exact Or.inr (Or.inr rfl))
    (hd : (x == ("__debug__" : PySem.Str)) = false := by decide) (hcd : (x == ("__classdict__" : PySem.Str)) = false := by decide) : PE X (.Name x pos) (tM G W (eV i)) := by
  refine (pv i hN hv hd hcd).wk fun σ H Q ⟨m, h, σm, S, R, p⟩ => ?_
  unfold eV at p
  cases e : σm[i]? with
  | none => rw [e] at p; exact p.elim
  | some o =>
    cases o with
    | none => rw [e] at p; exact p.elim
    | some v =>
      rw [e] at p
      obtain ⟨x, q, r⟩ := R.at_ i v e
      exact ⟨x, q, RP.now p S r⟩
theorem m_int {i : Int} {j : Nat} : PE X (.Constant (.int i) j pos) (tM G W (eC (.int i))) :=
  pe_int.wk fun σ H Q ⟨m, h, σm, S, R, p⟩ => RP.now (y := V.int i) p S (by simp [RV])
theorem m_bl {i : Bool} {j : Nat} : PE X (.Constant (.bool i) j pos) (tM G W (eC (.bl i))) :=
  pe_bl.wk fun σ H Q ⟨m, h, σm, S, R, p⟩ => RP.now (y := V.bl i) p S (by simp [RV])
theorem m_non {j : Nat} : PE X (.Constant .none j pos) (tM G W (eC .non)) :=
  pe_non.wk fun σ H Q ⟨m, h, σm, S, R, p⟩ => RP.now (y := V.non) p S (by simp [RV])
theorem m_str {x : PySem.Str} {j : Nat} (s : List Nat) (hs : x = ⟨s.toArray⟩ := by decide +kernel) : PE X (.Constant (.str x) j pos) (tM G W (eC (.str s))) :=
  pe_str.wk fun σ H Q ⟨m, h, σm, S, R, p⟩ => RP.now (y := V.str x) p S (by simp [RV, hs])
/-- a module's constant -/
theorem m_glob {x : PySem.Str} {v : V} {u : Value} {w : MV} (hg : Gl X x) (hm : X.mg x = some u) (r : RelV v u) (hw : ∀ m H, RV G m H w v) (hd : (x == ("__debug__" : PySem.Str)) = false := by decide) : PE X (.Name x pos) (tM G W (eC w)) :=
  (pe_glob hg hm r hd).wk fun σ H Q ⟨m, h, σm, S, R, p⟩ => RP.now (y := v) p S (hw m H)

/-- what an operator's rule asks, from what the mini operator gives -/
def Op2 (G : GC) (r : R2) (g : MV → MV → MH → Res MV) : Prop :=
  ∀ (W : XW) (m : List Addr) (h : MH) (H : Hp) (σ : L2.St) (v w : MV) (x y : V) (Q : VK), Sim G m h H → RV G m H v x → RV G m H w y → RP G W (RV G) m H σ (g v w h) Q → r x y H Q
theorem tOp_of {r : R2} {g : MV → MV → MH → Res MV} (hr : Op2 G r g) {σ : L2.St} {H : Hp} {Q : VK} (h : tM G W (e2 g fa fb) σ H Q) : tOp r (tM G W fa) (tM G W fb) σ H Q := by
  refine (tMR.bind (Rel := RV G) (k := fun σ v h1 => (fb σ h1).bind fun w h2 => g v w h2) h).imp fun x H1 ⟨m1, h1, v, σm, S1, R1, r1, p1⟩ => ?_
  refine ⟨m1, h1, σm, S1, R1, (RP.bind (Rel := RV G) p1).imp fun y H2 ⟨m2, h2, w, x2, S2, r2, p2⟩ => ?_⟩
  exact hr W m2 h2 H2 σ v w x y Q S2 (r1.mono x2.toLe) r2 p2
theorem m_op {op : Operator} {r : R2} {g : MV → MV → MH → Res MV} (ho : OpR X (binaryOp op) r) (hr : Op2 G r g) (ha : PE X a (tM G W fa)) (hb : PE X b (tM G W fb)) : PE X (.BinOp a op b pos) (tM G W (e2 g fa fb)) :=
  (pe_op ho ha hb).wk fun _ _ _ h => tOp_of hr h
theorem m_cmp {op : CmpOp} {r : R2} {g : MV → MV → MH → Res MV} (ho : OpR X (compareOp op) r) (hr : Op2 G r g) (ha : PE X a (tM G W fa)) (hb : PE X b (tM G W fb)) (hm : behindInMarks op b = false := by first | exact nomark _ | rfl) : PE X (.Compare a [op] [b] pos) (tM G W (e2 g fa fb)) :=
  (pe_cmpR ho ha hb hm).wk fun _ _ _ h => tOp_of hr h
/-- two ints -/
theorem op2_int {C : Int → Int → Prop} {gi : Int → Int → V} {g : MV → MV → MH → Res MV} (k : ∀ v w h, (∃ i j u, v = .int i ∧ w = .int j ∧ g v w h = .ok u h ∧ C i j ∧ ∀ m H, RV G m H u (gi i j)) ∨ g v w h = .bad) : Op2 G (rI C gi) g := by
  intro W m h H σ v w x y Q S r1 r2 p
  rcases k v w h with ⟨i, j, u, rfl, rfl, e, c, q⟩ | e
  · rw [e] at p
    simp only [RV] at r1 r2
    exact ⟨i, j, r1, r2, c, RP.now p S (q m H)⟩
  · rw [e] at p; exact p.elim
theorem op2_int0 {gi : Int → Int → V} {g : MV → MV → MH → Res MV} (k : ∀ v w h, (∃ i j u, v = .int i ∧ w = .int j ∧ g v w h = .ok u h ∧ ∀ m H, RV G m H u (gi i j)) ∨ g v w h = .bad) : Op2 G (rI0 gi) g := by
  intro W m h H σ v w x y Q S r1 r2 p
  rcases k v w h with ⟨i, j, u, rfl, rfl, e, q⟩ | e
  · rw [e] at p
    simp only [RV] at r1 r2
    exact ⟨i, j, r1, r2, RP.now p S (q m H)⟩
  · rw [e] at p; exact p.elim
theorem o_sub : Op2 G (rI0 fun i j => .int (i - j)) qSub := op2_int0 (by intro v w h; cases v <;> cases w <;> first | exact .inr rfl | exact .inl ⟨_, _, _, rfl, rfl, rfl, fun m H => by simp [RV]⟩)
theorem o_lt : Op2 G (rI0 fun i j => .bl (decide (i < j))) qLt := op2_int0 (by intro v w h; cases v <;> cases w <;> first | exact .inr rfl | exact .inl ⟨_, _, _, rfl, rfl, rfl, fun m H => by simp [RV]⟩)
theorem o_le : Op2 G (rI0 fun i j => .bl (decide (i ≤ j))) qLe := op2_int0 (by intro v w h; cases v <;> cases w <;> first | exact .inr rfl | exact .inl ⟨_, _, _, rfl, rfl, rfl, fun m H => by simp [RV]⟩)
theorem o_gt : Op2 G (rI0 fun i j => .bl (decide (j < i))) qGt := op2_int0 (by intro v w h; cases v <;> cases w <;> first | exact .inr rfl | exact .inl ⟨_, _, _, rfl, rfl, rfl, fun m H => by simp [RV]⟩)
theorem o_ge : Op2 G (rI0 fun i j => .bl (decide (j ≤ i))) qGe := op2_int0 (by intro v w h; cases v <;> cases w <;> first | exact .inr rfl | exact .inl ⟨_, _, _, rfl, rfl, rfl, fun m H => by simp [RV]⟩)
end
end KA

set_option Elab.async false
set_option autoImplicit false
set_option linter.all false
set_option maxRecDepth 100000
set_option maxHeartbeats 400000
/-! KRules: tests, arguments, statements, loops, comprehensions, fields, calls. -/
namespace KA
open PySem PySem.Spec PyProof.Rows L2
/-- no exception -/
abbrev W0 : XW := fun _ _ _ _ => False

section
variable {X : Cx} {G : GC} {W : XW} {e : Expr} {fa fb fc : EM} {tc td : TM} {am : AM}
/-! ### tests -/
theorem cB_of {σ : L2.St} {H : Hp} {Q : Bool → Hp → Prop} (h : tMT G W (cB fa) σ H Q) : tM G W fa σ H fun x H1 => ∃ c, x = .bl c ∧ Q c H1 := by
  refine (tMR.bind (Rel := RV G) (k := fun _ v h1 => qB v h1) h).imp fun x H1 ⟨m1, h1, v, σm, S1, R1, r1, p1⟩ => ?_
  unfold qB at p1
  cases v with
  | bl k =>
    simp only [RV] at r1
    exact ⟨k, r1, RP.now (y := k) p1 S1 rfl⟩
  | _ => exact p1.elim
theorem kt_val (h : PT X e (L2.tB (tM G W fa))) : PT X e (tMT G W (cB fa)) := h.wk fun _ _ _ q => cB_of q
theorem kt_op {r : R2} {g : MV → MV → MH → Res MV} (hr : Op2 G r g) (h : PT X e (tTest (tOp r (tM G W fa) (tM G W fb)))) : PT X e (tMT G W (cB (e2 g fa fb))) :=
  h.wk fun σ H Q q => by
    have q2 := cB_of q
    exact tOp_of (Q := fun x H' => ∃ k, x = .bl k ∧ Q k H') hr q2
theorem kt_not (h : PT X e (L2.tNot (tMT G W tc))) : PT X e (tMT G W (cNot tc)) := h.wk fun σ H Q q => by
  refine (tMR.bind (Rel := fun _ _ (a b : Bool) => b = a) (k := fun _ (k : Bool) h1 => .ok (!k) h1) q).imp fun x H1 ⟨m1, h1, v, σm, S1, R1, r1, p1⟩ => ?_
  subst r1
  exact RP.now (y := !x) p1 S1 rfl
theorem kw_and (h : PW X e (L2.tAnd (tMT G W tc) (tMT G W td))) : PW X e (tMT G W (cAnd tc td)) := h.wk fun σ H Q q => by
  refine (tMR.bind (Rel := fun _ _ (a b : Bool) => b = a) (k := fun σ (k : Bool) h1 => match k with | true => td σ h1 | false => .ok false h1) q).imp fun x H1 ⟨m1, h1, v, σm, S1, R1, r1, p1⟩ => ?_
  subst r1
  cases x with
  | true => exact iteT ⟨m1, h1, σm, S1, R1, p1⟩
  | false => exact iteF (RP.now (y := false) p1 S1 rfl)
theorem kw_or (h : PW X e (L2.tOr (tMT G W tc) (tMT G W td))) : PW X e (tMT G W (cOr tc td)) := h.wk fun σ H Q q => by
  refine (tMR.bind (Rel := fun _ _ (a b : Bool) => b = a) (k := fun σ (k : Bool) h1 => match k with | true => .ok true h1 | false => td σ h1) q).imp fun x H1 ⟨m1, h1, v, σm, S1, R1, r1, p1⟩ => ?_
  subst r1
  cases x with
  | true => exact iteT (RP.now (y := true) p1 S1 rfl)
  | false => exact iteF ⟨m1, h1, σm, S1, R1, p1⟩
theorem k_and (h : PE X e (L2.tAndV (tM G W fa) (tM G W fb))) : PE X e (tM G W (eAnd fa fb)) := h.wk fun σ H Q q => by
  refine (tMR.bind (Rel := RV G) (k := fun σ v h1 => match v with | .bl true => fb σ h1 | .bl false => .ok (.bl false) h1 | _ => .bad) q).imp fun x H1 ⟨m1, h1, v, σm, S1, R1, r1, p1⟩ => ?_
  cases v with
  | bl k =>
    simp only [RV] at r1
    refine ⟨k, r1, ?_⟩
    cases k with
    | true => exact iteT ⟨m1, h1, σm, S1, R1, p1⟩
    | false => exact iteF (RP.now (y := V.bl false) p1 S1 (by simp [RV]))
  | _ => exact p1.elim
theorem k_or (h : PE X e (L2.tOrV (tM G W fa) (tM G W fb))) : PE X e (tM G W (eOr fa fb)) := h.wk fun σ H Q q => by
  refine (tMR.bind (Rel := RV G) (k := fun σ v h1 => match v with | .bl true => .ok (.bl true) h1 | .bl false => fb σ h1 | _ => .bad) q).imp fun x H1 ⟨m1, h1, v, σm, S1, R1, r1, p1⟩ => ?_
  cases v with
  | bl k =>
    simp only [RV] at r1
    refine ⟨k, r1, ?_⟩
    cases k with
    | true => exact iteT (RP.now (y := V.bl true) p1 S1 (by simp [RV]))
    | false => exact iteF ⟨m1, h1, σm, S1, R1, p1⟩
  | _ => exact p1.elim
theorem k_not (h : PE X e (L2.tNotV (tM G W fa))) : PE X e (tM G W (eNot fa)) := h.wk fun σ H Q q => by
  refine (tMR.bind (Rel := RV G) (k := fun _ v h1 => match v with | MV.bl k => Res.ok (MV.bl (!k)) h1 | _ => .bad) q).imp fun x H1 ⟨m1, h1, v, σm, S1, R1, r1, p1⟩ => ?_
  cases v with
  | bl k =>
    simp only [RV] at r1
    exact ⟨k, r1, RP.now (y := V.bl (!k)) p1 S1 (by simp [RV])⟩
  | _ => exact p1.elim
theorem k_if (h : PE X e (L2.tIf (tMT G W tc) (tM G W fa) (tM G W fb))) : PE X e (tM G W (eIf tc fa fb)) := h.wk fun σ H Q q => by
  refine (tMR.bind (Rel := fun _ _ (a b : Bool) => b = a) (k := fun σ (k : Bool) h1 => match k with | true => fa σ h1 | false => fb σ h1) q).imp fun x H1 ⟨m1, h1, v, σm, S1, R1, r1, p1⟩ => ?_
  subst r1
  cases x with
  | true => exact iteT ⟨m1, h1, σm, S1, R1, p1⟩
  | false => exact iteF ⟨m1, h1, σm, S1, R1, p1⟩
theorem chain_of {r r' : R2} {g g' : MV → MV → MH → Res MV} (hr : Op2 G r g) (hr' : Op2 G r' g') {σ : L2.St} {H : Hp} {Q : VK} (q : tM G W (eChain g g' fa fb fc) σ H Q) : tChain r r' (tM G W fa) (tM G W fb) (tM G W fc) σ H Q := by
  refine (tMR.bind (Rel := RV G) (k := fun σ x h1 => (fb σ h1).bind fun y h2 => (g x y h2).bind fun z h3 => match z with | .bl true => (fc σ h3).bind fun w h4 => g' y w h4 | .bl false => .ok (.bl false) h3 | _ => .bad) q).imp fun x H1 ⟨m1, h1, v, σm, S1, R1, r1, p1⟩ => ?_
  refine ⟨m1, h1, σm, S1, R1, (RP.bind (Rel := RV G) p1).imp fun y H2 ⟨m2, h2, w, x2, S2, r2, p2⟩ => ?_⟩
  have R2' := R1.mono x2.toLe
  refine hr W m2 h2 H2 σ v w x y _ S2 (r1.mono x2.toLe) r2 ((RP.bind (Rel := RV G) p2).imp fun z H3 ⟨m3, h3, u, x3, S3, r3, p3⟩ => ?_)
  have R3 := R2'.mono x3.toLe
  cases u with
  | bl k =>
    simp only [RV] at r3
    refine ⟨k, r3, ?_⟩
    cases k with
    | true =>
      refine iteT ⟨m3, h3, σm, S3, R3, (RP.bind (Rel := RV G) p3).imp fun t H4 ⟨m4, h4, u4, x4, S4, r4, p4⟩ => ?_⟩
      exact hr' W m4 h4 H4 σ w u4 y t Q S4 ((r2.mono x3.toLe).mono x4.toLe) r4 p4
    | false => exact iteF (RP.now (y := V.bl false) p3 S3 (by simp [RV]))
  | _ => exact p3.elim
theorem k_chain {r r' : R2} {g g' : MV → MV → MH → Res MV} (hr : Op2 G r g) (hr' : Op2 G r' g') (h : PE X e (tChain r r' (tM G W fa) (tM G W fb) (tM G W fc))) : PE X e (tM G W (eChain g g' fa fb fc)) :=
  h.wk fun _ _ _ q => chain_of hr hr' q
theorem kt_chain {r r' : R2} {g g' : MV → MV → MH → Res MV} (hr : Op2 G r g) (hr' : Op2 G r' g') (h : PT X e (tTest (tChain r r' (tM G W fa) (tM G W fb) (tM G W fc)))) : PT X e (tMT G W (cB (eChain g g' fa fb fc))) :=
  h.wk fun σ H Q q => chain_of (Q := fun x H' => ∃ k, x = .bl k ∧ Q k H') hr hr' (cB_of q)

/-! ### arguments, displays -/
theorem ka_nil : PA X [] (tMA G W aNil) := pa_nil.wk fun σ H Q ⟨m, h, σm, S, R, p⟩ => RP.now p S .nil
theorem ka_cons {es : List Expr} (h : PA X es (L2.tCons (tM G W fa) (tMA G W am))) : PA X es (tMA G W (aCons fa am)) := h.wk fun σ H Q q => by
  refine (tMR.bind (Rel := RV G) (k := fun σ v h1 => (am σ h1).bind fun vs h2 => .ok (v :: vs) h2) q).imp fun x H1 ⟨m1, h1, v, σm, S1, R1, r1, p1⟩ => ?_
  refine ⟨m1, h1, σm, S1, R1, (RP.bind (Rel := RVs G) p1).imp fun ys H2 ⟨m2, h2, w, x2, S2, r2, p2⟩ => ?_⟩
  exact RP.now p2 S2 (.cons (r1.mono x2.toLe) r2)
/-- a built thing over its arguments -/
theorem eA_of {g : FM} {σ : L2.St} {H : Hp} {Q : VK} (q : tM G W (eA g am) σ H Q) : tMA G W am σ H fun xs H1 => ∃ m h vs, Sim G m h H1 ∧ RVs G m H1 vs xs ∧ RP G W (RV G) m H1 σ (g vs h) Q :=
  (tMR.bind (Rel := RVs G) (k := fun _ vs h1 => g vs h1) q).imp fun _ _ ⟨m1, h1, v, _, S1, _, r1, p1⟩ => ⟨m1, h1, v, S1, r1, p1⟩
theorem k_tup (h : PE X e (L2.tTup (tMA G W am))) : PE X e (tM G W (eA qTup am)) := h.wk fun σ H Q q => (eA_of q).imp fun xs H1 ⟨m, h, vs, S, r, p⟩ => by
  rcases lim_cases vs.length (Res.ok (MV.tup vs) h) with ⟨z, e1⟩ | e1
  · unfold qTup at p
    rw [e1] at p
    refine ⟨by rw [r.length]; rw [sizeLine_eq]; exact z, fun a ha => ?_⟩
    have x : Ex G m H1 m (upd H1 a (.tup xs)) := .upd a _ (plain_none ha) (.inr ha)
    exact p m _ (.ref a) x (S.fresh ha _) (by simp only [RV]; exact ⟨a, xs, rfl, upd_same, r.mono x.toLe⟩)
  · unfold qTup at p
    rw [e1] at p
    exact p.elim
/-- a new list -/
theorem RP.newLst {m : List Addr} {h : MH} {H : Hp} {σ : L2.St} {vs : List MV} {xs : List V} {Q : VK} (p : RP G W (RV G) m H σ (.ok (.ref h.n) (h.push (.lst vs))) Q) (S : Sim G m h H) (r : RVs G m H vs xs) {a : Addr} (ha : H a = none) : Q (.ref a) (upd H a (.lst xs)) := by
  have x : Ex G m H (m ++ [a]) (upd H a (.lst xs)) := (Ex.upd a _ (plain_none ha) (.inr ha)).app ha
  refine p _ _ (.ref a) x (S.push ha ⟨xs, rfl, r.mono x.toLe⟩) ?_
  simp only [RV]
  exact ⟨a, by rw [← S.len]; simp, rfl⟩
theorem k_lst (h : PE X e (L2.tLst (tMA G W am))) : PE X e (tM G W (eA qLst am)) := h.wk fun σ H Q q => (eA_of q).imp fun xs H1 ⟨m, h, vs, S, r, p⟩ => by
  unfold qLst at p
  rcases lim_cases vs.length (Res.ok (MV.ref h.n) (h.push (.lst vs))) with ⟨z, e1⟩ | e1
  · rw [e1] at p
    exact ⟨by rw [r.length]; rw [sizeLine_eq]; exact z, fun a ha => p.newLst S r ha⟩
  · rw [e1] at p
    exact p.elim

/-! ### fields -/
theorem fget_of {inj : ∀ i j, G.fl i = G.fl j → i = j} {m : List Addr} {H : Hp} {f : Nat} {w : MV} : ∀ {fs : List (Nat × MV)} {gs : List (PySem.Str × V)}, Paired (fun (p : Nat × MV) (q : PySem.Str × V) => q.1 = G.fl p.1 ∧ RV G m H p.2 q.2) fs gs → fget f fs = some w →
    ∃ u, gs.lookup (G.fl f) = some u ∧ RV G m H w u
  | [], _, .nil, h => by cases h
  | (g, v) :: fs, (n, u) :: gs, .cons r t, h => by
    obtain ⟨e, rv⟩ := r
    have e' : n = G.fl g := e
    unfold fget at h
    cases q : Nat.beq f g with
    | true =>
      rw [q] at h
      have hv : v = w := Option.some.inj h
      subst hv
      have fg : f = g := Nat.eq_of_beq_eq_true q
      refine ⟨u, ?_, rv⟩
      rw [List.lookup_cons, e', fg]
      simp
    | false =>
      rw [q] at h
      obtain ⟨u', e1, r1⟩ := fget_of (inj := inj) t h
      refine ⟨u', ?_, r1⟩
      have ne : (G.fl f == n) = false := by
        rw [e']
        apply beq_eq_false_iff_ne.mpr
        intro z
        have := inj _ _ z
        rw [this, Nat.beq_refl] at q
        cases q
      rw [List.lookup_cons, ne]
      exact e1
theorem fput_of {inj : ∀ i j, G.fl i = G.fl j → i = j} {m : List Addr} {H : Hp} {f : Nat} {w : MV} {u : V} (rw' : RV G m H w u) : ∀ {fs : List (Nat × MV)} {gs : List (PySem.Str × V)}, Paired (fun (p : Nat × MV) (q : PySem.Str × V) => q.1 = G.fl p.1 ∧ RV G m H p.2 q.2) fs gs →
    Paired (fun (p : Nat × MV) (q : PySem.Str × V) => q.1 = G.fl p.1 ∧ RV G m H p.2 q.2) (fput f w fs) (putF (G.fl f) u gs)
  | [], _, .nil => .cons ⟨rfl, rw'⟩ .nil
  | (g, v) :: fs, (n, y) :: gs, .cons r t => by
    obtain ⟨e, rv⟩ := r
    have e' : n = G.fl g := e
    subst e'
    unfold fput
    cases q : Nat.beq g f with
    | true =>
      have fg : g = f := Nat.eq_of_beq_eq_true q
      subst fg
      show Paired _ ((g, w) :: fs) (if G.fl g = G.fl g then (G.fl g, u) :: gs else _)
      rw [if_pos rfl]
      exact .cons ⟨rfl, rw'⟩ t
    | false =>
      have ne : ¬ G.fl g = G.fl f := fun z => by
        have := inj _ _ z
        rw [this, Nat.beq_refl] at q
        cases q
      show Paired _ ((g, v) :: fput f w fs) (if G.fl g = G.fl f then _ else (G.fl g, y) :: putF (G.fl f) u gs)
      rw [if_neg ne]
      exact .cons ⟨rfl, rv⟩ (fput_of (inj := inj) rw' t)
/-- what the mini heap says of an instance -/
theorem Sim.ins {m : List Addr} {h : MH} {H : Hp} (S : Sim G m h H) {n c : Nat} {fs : List (Nat × MV)} {y : V} (e : h.get n = some (.ins c fs)) (r : RV G m H (.ref n) y) :
    ∃ a dx gs, m[n]? = some a ∧ y = .ref a ∧ H a = some (.ins (G.cl c) dx gs) ∧ Paired (fun (p : Nat × MV) (q : PySem.Str × V) => q.1 = G.fl p.1 ∧ RV G m H p.2 q.2) fs gs := by
  obtain ⟨a, ea, dx, gs, eh, q⟩ := S.at_ n _ e
  simp only [RV] at r
  obtain ⟨b, eb, rfl⟩ := r
  rw [ea] at eb
  cases eb
  exact ⟨a, dx, gs, ea, rfl, eh, q⟩
theorem Sim.lst {m : List Addr} {h : MH} {H : Hp} (S : Sim G m h H) {n : Nat} {xs : List MV} {y : V} (e : h.get n = some (.lst xs)) (r : RV G m H (.ref n) y) :
    ∃ a ys, m[n]? = some a ∧ y = .ref a ∧ H a = some (.lst ys) ∧ RVs G m H xs ys := by
  obtain ⟨a, ea, ys, eh, q⟩ := S.at_ n _ e
  simp only [RV] at r
  obtain ⟨b, eb, rfl⟩ := r
  rw [ea] at eb
  cases eb
  exact ⟨a, ys, ea, rfl, eh, q⟩
theorem fld_of {inj : ∀ i j, G.fl i = G.fl j → i = j} {K : PySem.W.Frag} {c f : Nat} (hc : Cls K (G.cl c)) (hn : NoAttr K (G.cl c) (G.fl f)) {σ : L2.St} {H : Hp} {Q : VK} (q : tM G W (e1 (qFld c f) fa) σ H Q) : L2.tFld K (tM G W fa) (G.fl f) σ H Q := by
  refine (tMR.bind (Rel := RV G) (k := fun _ v h1 => qFld c f v h1) q).imp fun x H1 ⟨m1, h1, v, σm, S1, R1, r1, p1⟩ => ?_
  unfold qFld at p1
  cases v with
  | ref n =>
    dsimp only at p1
    cases e : h1.get n with
    | none => rw [e] at p1; exact p1.elim
    | some o =>
      rw [e] at p1
      cases o with
      | ins d fs =>
        dsimp only at p1
        cases e2 : Nat.beq d c with
        | false => rw [e2] at p1; exact p1.elim
        | true =>
          rw [e2] at p1
          have ed : d = c := Nat.eq_of_beq_eq_true e2
          subst ed
          dsimp only at p1
          cases e3 : fget f fs with
          | none => rw [e3] at p1; exact p1.elim
          | some w =>
            rw [e3] at p1
            obtain ⟨a, dx, gs, ea, rfl, eh, pr⟩ := S1.ins e r1
            obtain ⟨u, eu, ru⟩ := fget_of (inj := inj) pr e3
            exact ⟨a, G.cl d, dx, gs, u, rfl, eh, hc, hn, eu, RP.now p1 S1 ru⟩
      | lst _ => exact p1.elim
      | dct _ _ _ => exact p1.elim
  | _ => exact p1.elim
theorem k_fld {inj : ∀ i j, G.fl i = G.fl j → i = j} {K : PySem.W.Frag} {c f : Nat} (hc : Cls K (G.cl c)) (hn : NoAttr K (G.cl c) (G.fl f)) (h : PE X e (L2.tFld K (tM G W fa) (G.fl f))) : PE X e (tM G W (e1 (qFld c f) fa)) := h.wk fun _ _ _ q => fld_of (inj := inj) hc hn q
end

/-! ### calls -/
/-- what a def promises: it hands back what the mini def does -/
def spM (G : GC) (n : Nat) (g : FM) : Sp := fun vs H Q _ => vs.length = n ∧ ∃ m h ms, Sim G m h H ∧ RVs G m H ms vs ∧ RP G W0 (RV G) m H [] (g ms h) Q
section
variable {X : Cx} {G : GC} {e : Expr} {fa : EM} {am : AM}
/-- the reading of a call, where nothing is raised -/
theorem RP.w0 {α β : Type} {Rel : List Addr → Hp → α → β → Prop} {m : List Addr} {H : Hp} {σ σ' : L2.St} {r : Res α} {Q : β → Hp → Prop} (p : RP G W0 Rel m H σ r Q) : RP G W0 Rel m H σ' r Q := by
  cases r with
  | ok v h => exact p
  | exc c v h => exact fun m' H' d e s q => p m' H' d e s q
  | bad => exact p
theorem k_call {g : FM} {n : Nat} (hl : ∀ σ h vs h', am σ h = .ok vs h' → vs.length = n) (h : PE X e (L2.tCall (spM G n g) [] E0 (tMA G W0 am))) : PE X e (tM G W0 (eA g am)) := h.wk fun σ H Q q => by
  obtain ⟨m, h, σm, S, R, p⟩ := q
  refine ⟨m, h, σm, S, R, ?_⟩
  have p2 : RP G W0 (RV G) m H σ ((am σm h).bind g) Q := p
  cases ea : am σm h with
  | bad => rw [ea] at p2; exact p2.elim
  | exc c v h' => rw [ea] at p2; exact p2
  | ok vs h' =>
    rw [ea] at p2
    intro m' H' xs x S' r
    refine ⟨?_, m', h', vs, S', by simpa using r, (RP.later p2 x).w0⟩
    simp [r.length, hl _ _ _ _ ea]
theorem k_make {c : Nat} {g : FM} {n : Nat} (hl : ∀ σ h vs h', am σ h = .ok vs h' → vs.length + 1 = n) (h : PE X e (L2.tMake (G.cl c) (spM G n g) [] E0 (tMA G W0 am))) : PE X e (tM G W0 (eNew c g am)) := h.wk fun σ H Q q => by
  obtain ⟨m, h, σm, S, R, p⟩ := q
  refine ⟨m, h, σm, S, R, ?_⟩
  have p2 : RP G W0 (RV G) m H σ ((am σm h).bind fun vs h1 => (g (.ref h1.n :: vs) (h1.push (.ins c []))).bind fun v h2 => match v with | .non => .ok (.ref h1.n) h2 | _ => .bad) Q := p
  cases ea : am σm h with
  | bad => rw [ea] at p2; exact p2.elim
  | exc c v h' => rw [ea] at p2; exact p2
  | ok vs h' =>
    rw [ea] at p2
    intro m' H' xs x S' r y dx hy hdx ne
    have S1 := S'.fresh hdx (.own y)
    have hy1 : upd H' dx (.own y) y = none := by rw [upd_ne (Ne.symm ne)]; exact hy
    have x1 : Ex G m' H' m' (upd H' dx (.own y)) := .upd dx _ (plain_none hdx) (.inr hdx)
    have x2 : Ex G m' (upd H' dx (.own y)) (m' ++ [y]) (upd (upd H' dx (.own y)) y (.ins (G.cl c) dx [])) := (Ex.upd y _ (plain_none hy1) (.inr hy1)).app hy1
    have S2 : Sim G (m' ++ [y]) (h'.push (.ins c [])) (upd (upd H' dx (.own y)) y (.ins (G.cl c) dx [])) := S1.push hy1 ⟨dx, [], rfl, .nil⟩
    have x3 := (x.trans x1).trans x2
    have ry : RV G (m' ++ [y]) (upd (upd H' dx (.own y)) y (.ins (G.cl c) dx [])) (.ref h'.n) (.ref y) := by
      simp only [RV]
      exact ⟨y, by rw [← S'.len]; simp, rfl⟩
    refine ⟨by simp [r.length, hl _ _ _ _ ea], _, _, .ref h'.n :: vs, S2, .cons ry (by simpa using r.mono (x1.trans x2).toLe), ?_⟩
    have p3 := RP.later p2 x3
    refine (RP.w0 (σ' := []) (RP.bind (Rel := RV G) p3)).imp fun z H3 ⟨m3, h3, w, x4, S3, r3, p4⟩ => ?_
    cases w with
    | non =>
      simp only [RV] at r3
      exact ⟨r3, RP.now p4 S3 (ry.mono x4.toLe)⟩
    | _ => exact p4.elim
theorem k_meth {c : Nat} {mn : PySem.Str} {g : FM} {n : Nat} (hm : ∀ i, G.fl i ≠ mn) (hl : ∀ σ h vs h', am σ h = .ok vs h' → vs.length + 1 = n) (h : PE X e (L2.tMeth (G.cl c) mn (spM G n g) [] E0 (tM G W0 fa) (tMA G W0 am))) : PE X e (tM G W0 (eMeth c g fa am)) := h.wk fun σ H Q q => by
  refine (tMR.bind (Rel := RV G) (k := fun σ x h1 => match isIns c h1 x with | true => (am σ h1).bind fun vs h2 => g (x :: vs) h2 | false => .bad) q).imp fun x H1 ⟨m1, h1, v, σm, S1, R1, r1, p1⟩ => ?_
  have nolook : ∀ {fs : List (Nat × MV)} {gs : List (PySem.Str × V)}, Paired (fun (p : Nat × MV) (q : PySem.Str × V) => q.1 = G.fl p.1 ∧ RV G m1 H1 p.2 q.2) fs gs → gs.lookup mn = none := by
    intro fs gs pr
    induction pr with
    | nil => rfl
    | @cons p q fs' gs' r t ih =>
      obtain ⟨n', u⟩ := q
      have e' : n' = G.fl p.1 := r.1
      have ne : (mn == n') = false := by
        rw [e']; exact beq_eq_false_iff_ne.mpr (fun z => hm _ z.symm)
      rw [List.lookup_cons, ne]
      exact ih
  cases ei : isIns c h1 v with
  | false => rw [ei] at p1; exact p1.elim
  | true =>
    rw [ei] at p1
    cases v with
    | ref k =>
      unfold isIns at ei
      dsimp only at ei
      cases e : h1.get k with
      | none => rw [e] at ei; cases ei
      | some o =>
        rw [e] at ei
        cases o with
        | ins d fs =>
          have ed : d = c := Nat.eq_of_beq_eq_true ei
          subst ed
          obtain ⟨a, dx, gs, ea, rfl, eh, pr⟩ := S1.ins e r1
          refine ⟨a, dx, gs, rfl, eh, nolook pr, m1, h1, σm, S1, R1, ?_⟩
          dsimp only at p1
          cases eb : am σm h1 with
          | bad => rw [eb] at p1; exact p1.elim
          | exc c v h' => rw [eb] at p1; exact p1
          | ok vs h2 =>
            rw [eb] at p1
            intro m2 H2 xs x2 S2 r2
            exact ⟨by simp [r2.length, hl _ _ _ _ eb], m2, h2, .ref k :: vs, S2, .cons (r1.mono x2.toLe) (by simpa using r2), (RP.later p1 x2).w0⟩
        | lst _ => cases ei
        | dct _ _ _ => cases ei
    | _ => cases ei
end
theorem len_nil : ∀ (σ : Sl) (h : MH) (vs : List MV) (h' : MH), aNil σ h = .ok vs h' → vs.length = 0 := fun σ h vs h' e => by
  unfold aNil at e; cases e; rfl
theorem len_cons {fa : EM} {am : AM} {n : Nat} (hl : ∀ (σ : Sl) (h : MH) (vs : List MV) (h' : MH), am σ h = .ok vs h' → vs.length = n) : ∀ (σ : Sl) (h : MH) (vs : List MV) (h' : MH), aCons fa am σ h = .ok vs h' → vs.length = n + 1 := fun σ h vs h' e => by
  unfold aCons Res.bind at e
  cases e1 : fa σ h with
  | bad => rw [e1] at e; cases e
  | exc c p q => rw [e1] at e; cases e
  | ok v h1 =>
    rw [e1] at e
    dsimp only at e
    cases e2 : am σ h1 with
    | bad => rw [e2] at e; cases e
    | exc c p q => rw [e2] at e; cases e
    | ok ws h2 =>
      rw [e2] at e
      cases e
      simp [hl _ _ _ _ e2]
end KA

set_option Elab.async false
set_option autoImplicit false
set_option linter.all false
set_option maxRecDepth 100000
set_option maxHeartbeats 400000
/-! KStmt: statements, targets, loops, comprehensions, a def's body. -/
namespace KA
open PySem PySem.Spec PyProof.Rows L2

/-- what a statement's end leads to -/
def OP (G : GC) (W : XW) (D : Ends) (m : List Addr) (H : Hp) (o : Out) : Prop := match o with
  | .nx σm h' => ∀ m' H' σ, Ex G m H m' H' → Sim G m' h' H' → RS G m' H' σm σ → D.nx σ H'
  | .rt v h' => ∀ m' H' x, Ex G m H m' H' → Sim G m' h' H' → RV G m' H' v x → D.rt x H'
  | .bk σm h' => ∀ m' H' σ, Ex G m H m' H' → Sim G m' h' H' → RS G m' H' σm σ → D.bk σ H'
  | .ct σm h' => ∀ m' H' σ, Ex G m H m' H' → Sim G m' h' H' → RS G m' H' σm σ → D.ct σ H'
  | .exc c p σm h' => ∀ m' H' σ d, Ex G m H m' H' → Sim G m' h' H' → RS G m' H' σm σ → (match p with
    | none => True
    | some v => ∃ (a : Addr) (f : PySem.Str) (x : V), d = some a ∧ H' a = some (.xd [(f, x)]) ∧ RV G m' H' v x) → W (G.xc c) d σ H'
  | .bad => False
def tMS (G : GC) (W : XW) (f : SM) : TS := fun D σ H => ∃ m h σm, Sim G m h H ∧ RS G m H σm σ ∧ OP G W D m H (f σm h)
section
variable {G : GC} {W : XW} {D : Ends} {m m1 : List Addr} {H H1 : Hp} {o : Out}
theorem OP.later (p : OP G W D m H o) (x : Ex G m H m1 H1) : OP G W D m1 H1 o := by
  cases o with
  | nx σ h => exact fun m' H' s e => p m' H' s (x.trans e)
  | rt v h => exact fun m' H' s e => p m' H' s (x.trans e)
  | bk σ h => exact fun m' H' s e => p m' H' s (x.trans e)
  | ct σ h => exact fun m' H' s e => p m' H' s (x.trans e)
  | exc c v σ h => exact fun m' H' s d e => p m' H' s d (x.trans e)
  | bad => exact p
/-- an expression's result goes on -/
theorem OP.out {α β : Type} {Rel : List Addr → Hp → α → β → Prop} {r : Res α} {σm : Sl} {σ : L2.St} {k : α → MH → Out} (R : RS G m H σm σ) (p : OP G W D m H (r.out σm k)) :
    RP G W Rel m H σ r (fun y H1 => ∃ m1 h1 v, Ex G m H m1 H1 ∧ Sim G m1 h1 H1 ∧ Rel m1 H1 v y ∧ OP G W D m1 H1 (k v h1)) := by
  cases r with
  | ok v h => exact fun m' H' y e s q => ⟨m', h, v, e, s, q, OP.later p e⟩
  | exc c v h => exact fun m' H' d e s q => p m' H' σ d e s (R.mono e.toLe) q
  | bad => exact p
theorem tMS.out {α β : Type} {Rel : List Addr → Hp → α → β → Prop} {f : Sl → MH → Res α} {k : Sl → α → MH → Out} {σ : L2.St} (q : tMS G W (fun σ h => (f σ h).out σ (k σ)) D σ H) :
    tMR G W Rel f σ H (fun y H1 => ∃ m1 h1 v σm, Sim G m1 h1 H1 ∧ RS G m1 H1 σm σ ∧ Rel m1 H1 v y ∧ OP G W D m1 H1 (k σm v h1)) := by
  obtain ⟨m, h, σm, S, R, p⟩ := q
  refine ⟨m, h, σm, S, R, (OP.out (Rel := Rel) R p).imp ?_⟩
  rintro y H1 ⟨m1, h1, v, x, S1, r1, p1⟩
  exact ⟨m1, h1, v, σm, S1, R.mono x.toLe, r1, p1⟩
theorem OP.nx_now {σm : Sl} {h : MH} {σ : L2.St} (p : OP G W D m H (.nx σm h)) (S : Sim G m h H) (R : RS G m H σm σ) : D.nx σ H := p m H σ .refl S R
end

section
variable {X : Cx} {G : GC} {W : XW} {st : Stmt} {sts : List Stmt} {e : Expr} {fa fb : EM} {tc : TM} {sa sb : SM}
theorem js_nil : PSs X [] (tMS G W jNil) := pss_nil.wk fun D σ H ⟨m, h, σm, S, R, p⟩ => OP.nx_now p S R
theorem js_cons (h1 : PS X st (tMS G W sa)) (h2 : PSs X sts (tMS G W sb)) : PSs X (st :: sts) (tMS G W (jSeq sa sb)) := (pss_cons h1 h2).wk fun D σ H ⟨m, h, σm, S, R, p⟩ => by
  refine ⟨m, h, σm, S, R, ?_⟩
  unfold jSeq at p
  cases e : sa σm h with
  | nx σ1 h1 =>
    rw [e] at p
    exact fun m' H' s x S' R' => ⟨m', h1, σ1, S', R', OP.later p x⟩
  | rt v h1 => rw [e] at p; exact p
  | bk σ1 h1 => rw [e] at p; exact p
  | ct σ1 h1 => rw [e] at p; exact p
  | exc c v σ1 h1 => rw [e] at p; exact p
  | bad => rw [e] at p; exact p
theorem js_one (h1 : PS X st (tMS G W sa)) : PSs X [st] (tMS G W sa) := pss_one h1
theorem js_pass {pos : Pos} : PS X (.Pass pos) (tMS G W jPass) := ps_pass.wk fun D σ H ⟨m, h, σm, S, R, p⟩ => OP.nx_now p S R
theorem js_break {pos : Pos} : PS X (.Break pos) (tMS G W jBreak) := ps_break.wk fun D σ H ⟨m, h, σm, S, R, p⟩ => p m H σ .refl S R
theorem js_cont {pos : Pos} : PS X (.Continue pos) (tMS G W jCont) := ps_continue.wk fun D σ H ⟨m, h, σm, S, R, p⟩ => p m H σ .refl S R
theorem js_bad : PS X st (tMS G W jBad) := ps_never.wk fun D σ H ⟨m, h, σm, S, R, p⟩ => p
theorem jss_bad : PSs X sts (tMS G W jBad) := pss_never.wk fun D σ H ⟨m, h, σm, S, R, p⟩ => p
theorem js_expr (h : PS X st (L2.tDrop (tM G W fa))) : PS X st (tMS G W (jDrop fa)) := h.wk fun D σ H q =>
  (tMS.out (Rel := RV G) (k := fun σ _ h1 => .nx σ h1) q).imp fun x H1 ⟨m1, h1, v, σm, S1, R1, r1, p1⟩ => OP.nx_now p1 S1 R1
theorem js_ret (h : PS X st (L2.tRet (tM G W fa))) : PS X st (tMS G W (jRet fa)) := h.wk fun D σ H q =>
  (tMS.out (Rel := RV G) (k := fun _ v h1 => .rt v h1) q).imp fun x H1 ⟨m1, h1, v, σm, S1, R1, r1, p1⟩ => p1 m1 H1 x .refl S1 r1
theorem js_retN (h : PS X st L2.tRetN) : PS X st (tMS G W jRetN) := h.wk fun D σ H ⟨m, h, σm, S, R, p⟩ => p m H .non .refl S (by simp [RV])
theorem js_if (h : PS X st (L2.tIfS (tMT G W tc) (tMS G W sa) (tMS G W sb))) : PS X st (tMS G W (jIf tc sa sb)) := h.wk fun D σ H q =>
  (tMS.out (Rel := fun _ _ (a b : Bool) => b = a) (k := fun σ k h1 => match k with | true => sa σ h1 | false => sb σ h1) q).imp fun x H1 ⟨m1, h1, v, σm, S1, R1, r1, p1⟩ => by
    subst r1
    cases x with
    | true => exact iteT ⟨m1, h1, σm, S1, R1, p1⟩
    | false => exact iteF ⟨m1, h1, σm, S1, R1, p1⟩

/-! ### targets -/
def gP (G : GC) (p : Pt) : TG := fun v σ H Q => ∃ m h mv σm σm', Sim G m h H ∧ RS G m H σm σ ∧ RV G m H mv v ∧ asg p mv σm = some σm' ∧
  ∀ σ', RS G m H σm' σ' → (∀ vs : List Nat, (∀ i ∈ p.slots, i ∈ vs) → wipe σ' vs = wipe σ vs) → Q σ' H
def gPs (G : GC) (p : Pt) : TGs := fun vs σ H Q => ∃ m h mvs σm σm', Sim G m h H ∧ RS G m H σm σ ∧ RVs G m H mvs vs ∧ asgs p mvs σm = some σm' ∧
  ∀ σ', RS G m H σm' σ' → (∀ vs : List Nat, (∀ i ∈ p.slots, i ∈ vs) → wipe σ' vs = wipe σ vs) → Q σ' H
theorem wipe_set {σ : L2.St} {i : Nat} {u : Option V} : ∀ {vs : List Nat}, i ∈ vs → wipe (σ.set i u) vs = wipe σ vs
  | [], h => by cases h
  | v :: vs, h => by
    show (wipe (σ.set i u) vs).set v none = (wipe σ vs).set v none
    by_cases c : i ∈ vs
    · rw [wipe_set c]
    · have e : i = v := by
        rcases List.mem_cons.mp h with q | q
        · exact q
        · exact absurd q c
      subst e
      have k : ∀ (ws : List Nat) (s : L2.St), i ∉ ws → wipe (s.set i u) ws = (wipe s ws).set i u := by
        intro ws
        induction ws with
        | nil => intro s _; rfl
        | cons w ws ih =>
          intro s hn
          have h1 : i ≠ w := fun q => hn (by simp [q])
          have h2 : i ∉ ws := fun q => hn (by simp [q])
          show (wipe (s.set i u) ws).set w none = ((wipe s ws).set w none).set i u
          rw [ih s h2, List.set_comm _ _ h1]
      rw [k vs σ c, List.set_set]
theorem PG_wk {X : Cx} {tg : Expr} {t t' : TG} (h : PG X tg t) (k : ∀ v σ H Q, t' v σ H Q → t v σ H Q) : PG X tg t' := ⟨fun pins s σ H v u Q I r q => h.run pins s σ H v u Q I r (k v σ H Q q)⟩
theorem PGs_wk {X : Cx} {tg : List Expr} {t t' : TGs} (h : PGs X tg t) (k : ∀ v σ H Q, t' v σ H Q → t v σ H Q) : PGs X tg t' := ⟨fun pins s σ H v u Q I r q => h.run pins s σ H v u Q I r (k v σ H Q q)⟩
theorem kg_name {tg : Expr} {i : Nat} (h : PG X tg (L2.gName i)) : PG X tg (gP G (.nm i)) := PG_wk h fun v σ H Q ⟨m, h, mv, σm, σm', S, R, r, e, k⟩ => by
  unfold asg at e
  cases e
  exact k _ (R.set i r) fun vs hv => wipe_set (hv i (by simp [Pt.slots]))
theorem kgs_nil (h : PGs X [] L2.gNil) : PGs X [] (gPs G .nil) := PGs_wk h fun v σ H Q ⟨m, h, mv, σm, σm', S, R, r, e, k⟩ => by
  unfold asgs at e
  cases mv with
  | nil =>
    cases e
    exact ⟨r.nil_inv, k σ R fun _ _ => rfl⟩
  | cons _ _ => cases e
theorem kgs_cons {tgs : List Expr} {p q : Pt} (h : PGs X tgs (L2.gCons (gP G p) (gPs G q))) : PGs X tgs (gPs G (.cons p q)) := PGs_wk h fun v σ H Q ⟨m, h, mv, σm, σm', S, R, r, e, k⟩ => by
  unfold asgs at e
  cases mv with
  | nil => cases e
  | cons x xs =>
    dsimp only at e
    obtain ⟨y, ys, rfl, r1, r2⟩ := r.cons_inv
    cases e1 : asg p x σm with
    | none => rw [e1] at e; cases e
    | some σ1 =>
      rw [e1] at e
      refine ⟨y, ys, rfl, m, h, x, σm, σ1, S, R, r1, e1, fun σ' R' w' => ?_⟩
      exact ⟨m, h, xs, σ1, σm', S, R', r2, e, fun σ'' R'' w'' => k σ'' R'' fun vs hv => (w'' vs fun i hi => hv i (List.mem_append_right _ hi)).trans (w' vs fun i hi => hv i (List.mem_append_left _ hi))⟩
theorem asg_tup {p : Pt} {mv : MV} {σ σ' : Sl} (hp : ∀ i, p ≠ .nm i) (e : asg p mv σ = some σ') : ∃ ts, mv = .tup ts ∧ ts.length = p.len ∧ asgs p ts σ = some σ' := by
  have len : ∀ (q : Pt) (ts : List MV) (s s' : Sl), asgs q ts s = some s' → ts.length = q.len := by
    intro q
    induction q with
    | nm i => intro ts s s' h; cases ts <;> simp [asgs] at h
    | nil => intro ts s s' h; cases ts <;> simp [asgs] at h; rfl
    | cons p q _ ih =>
      intro ts s s' h
      cases ts with
      | nil => simp [asgs] at h
      | cons x xs =>
        simp only [asgs] at h
        cases e1 : asg p x s with
        | none => rw [e1] at h; cases h
        | some s1 => rw [e1] at h; simp [Pt.len, ih _ _ _ h]
  cases p with
  | nm i => exact absurd rfl (hp i)
  | nil =>
    unfold asg at e
    cases mv with
    | tup ts =>
      cases ts with
      | nil => exact ⟨[], rfl, rfl, by simpa [asgs] using e⟩
      | cons _ _ => cases e
    | _ => cases e
  | cons p q =>
    unfold asg at e
    cases mv with
    | tup ts =>
      cases ts with
      | nil => cases e
      | cons x xs => exact ⟨x :: xs, rfl, len (.cons p q) (x :: xs) σ σ' (by simpa [asgs] using e), by simpa [asgs] using e⟩
    | _ => cases e
theorem kg_tup {tg : Expr} {p : Pt} {K : PySem.W.Frag} (hp : ∀ i, p ≠ .nm i) (h : PG X tg (L2.gTup K p.len (gPs G p))) : PG X tg (gP G p) := PG_wk h fun v σ H Q ⟨m, h, mv, σm, σm', S, R, r, e, k⟩ => by
  obtain ⟨ts, rfl, hl, e2⟩ := asg_tup hp e
  simp only [RV] at r
  obtain ⟨a, xs, rfl, q, rs⟩ := r
  exact ⟨a, xs, rfl, SqT.of q, rs.length.trans hl, m, h, ts, σm, σm', S, R, rs, e2, k⟩
theorem js_set {i : Nat} (h : PS X st (L2.tAsg (tM G W fa) (L2.gName i))) : PS X st (tMS G W (jAsg fa (.nm i))) := h.wk fun D σ H q =>
  (tMS.out (Rel := RV G) (k := fun σ v h1 => match asg (.nm i) v σ with | some σ1 => .nx σ1 h1 | none => .bad) q).imp fun x H1 ⟨m1, h1, v, σm, S1, R1, r1, p1⟩ => OP.nx_now p1 S1 (R1.set i r1)
theorem js_asg {p : Pt} (h : PS X st (L2.tAsg (tM G W fa) (gP G p))) : PS X st (tMS G W (jAsg fa p)) := h.wk fun D σ H q =>
  (tMS.out (Rel := RV G) (k := fun σ v h1 => match asg p v σ with | some σ1 => .nx σ1 h1 | none => .bad) q).imp fun x H1 ⟨m1, h1, v, σm, S1, R1, r1, p1⟩ => by
    cases e : asg p v σm with
    | none => rw [e] at p1; exact p1.elim
    | some σ1 =>
      rw [e] at p1
      exact ⟨m1, h1, v, σm, σ1, S1, R1, r1, e, fun σ' R' _ => OP.nx_now p1 S1 R'⟩
theorem js_par {i j : Nat} (h : PS X st (L2.tPar i j (L2.tCons (tM G W fa) (L2.tCons (tM G W fb) L2.tNil)))) : PS X st (tMS G W (jPar i j fa fb)) := h.wk fun D σ H q => by
  refine (tMS.out (Rel := RV G) (k := fun σ v h1 => (fb σ h1).out σ fun w h2 => .nx ((σ.set i (some v)).set j (some w)) h2) q).imp fun x H1 ⟨m1, h1, v, σm, S1, R1, r1, p1⟩ => ?_
  refine ⟨m1, h1, σm, S1, R1, (OP.out (Rel := RV G) R1 p1).imp fun y H2 ⟨m2, h2, w, x2, S2, r2, p2⟩ => ?_⟩
  exact ⟨x, y, rfl, OP.nx_now p2 S2 (((R1.mono x2.toLe).set i (r1.mono x2.toLe)).set j r2)⟩
theorem js_fld {inj : ∀ i j, G.fl i = G.fl j → i = j} {K : PySem.W.Frag} {c f : Nat} (hc : Cls K (G.cl c)) (hn : NoAttr K (G.cl c) (G.fl f)) (h : PS X st (L2.sFld K (tM G W fa) (tM G W fb) (G.fl f))) : PS X st (tMS G W (jFld c f fa fb)) := h.wk fun D σ H q => by
  refine (tMS.out (Rel := RV G) (k := fun σ y h1 => (fa σ h1).out σ fun x h2 => match x with
  | .ref n => (match h2.get n with
    | some (.ins d fs) => (match Nat.beq d c with
      | true => (match Nat.blt fs.length 100 with
        | true => .nx σ (h2.set n (.ins d (fput f y fs)))
        | false => .bad)
      | false => .bad)
    | _ => .bad)
  | _ => .bad) q).imp fun y H1 ⟨m1, h1, v, σm, S1, R1, r1, p1⟩ => ?_
  refine ⟨m1, h1, σm, S1, R1, (OP.out (Rel := RV G) R1 p1).imp fun x H2 ⟨m2, h2, w, x2, S2, r2, p2⟩ => ?_⟩
  cases w with
  | ref n =>
    dsimp only at p2
    cases e : h2.get n with
    | none => rw [e] at p2; exact p2.elim
    | some o =>
      rw [e] at p2
      cases o with
      | ins d fs =>
        dsimp only at p2
        cases ed : Nat.beq d c with
        | false => rw [ed] at p2; exact p2.elim
        | true =>
          rw [ed] at p2
          have ed' : d = c := Nat.eq_of_beq_eq_true ed
          subst ed'
          dsimp only at p2
          cases el : Nat.blt fs.length 100 with
          | false => rw [el] at p2; exact p2.elim
          | true =>
            rw [el] at p2
            obtain ⟨a, dx, gs, ea, rfl, eh, pr⟩ := S2.ins e r2
            have hl : fs.length < 100 := Nat.le_of_ble_eq_true el
            have hl2 : gs.length = fs.length := pr.length.symm
            refine ⟨a, G.cl d, dx, gs, rfl, eh, hc, hn, by omega, ?_⟩
            have pl : Plain (H2 a) := by rw [eh]; trivial
            have x3 : Ex G m2 H2 m2 (upd H2 a (.ins (G.cl d) dx (putF (G.fl f) y gs))) := .upd a _ pl (.inl (List.mem_of_getElem? ea))
            have pr2 : Paired (fun (p : Nat × MV) (q : PySem.Str × V) => q.1 = G.fl p.1 ∧ RV G m2 H2 p.2 q.2) (fput f v fs) (putF (G.fl f) y gs) := fput_of (inj := inj) (r1.mono x2.toLe) pr
            exact p2 m2 _ σ x3 (S2.write ea pl.l ⟨dx, _, rfl, Paired.mapP pr2 fun _ _ z => ⟨z.1, z.2.mono x3.toLe⟩⟩) ((R1.mono x2.toLe).mono x3.toLe)
      | lst _ => exact p2.elim
      | dct _ _ _ => exact p2.elim
  | _ => exact p2.elim

/-! ### loops -/
theorem js_while (k : Nat) (h : PS X st (L2.tWhile (tMT G W tc) (tMS G W sb))) : PS X st (tMS G W (jWhile k tc sb)) := h.wk fun D σ H ⟨m, h, σm, S, R, p⟩ => by
  refine ⟨fun n σ H => ∃ m h σm, Sim G m h H ∧ RS G m H σm σ ∧ OP G W D m H (whileL tc sb n σm h), ⟨k, m, h, σm, S, R, p⟩, ?_⟩
  rintro n σ1 H1 ⟨m1, h1, σ1m, S1, R1, p1⟩
  cases n with
  | zero => exact p1.elim
  | succ n =>
    refine ⟨m1, h1, σ1m, S1, R1, (OP.out (Rel := fun _ _ (a b : Bool) => b = a) R1 p1).imp fun b H2 ⟨m2, h2, v, x2, S2, r2, p2⟩ => ?_⟩
    subst r2
    have R2' := R1.mono x2.toLe
    cases b with
    | false => exact iteF (OP.nx_now p2 S2 R2')
    | true =>
      refine iteT ⟨fun σ' H' => ∃ m h σm, Sim G m h H' ∧ RS G m H' σm σ' ∧ OP G W D m H' (whileL tc sb n σm h), fun σ' H' q => ⟨n, Nat.lt_succ_self n, q⟩, m2, h2, σ1m, S2, R2', ?_⟩
      dsimp only at p2
      cases e : sb σ1m h2 with
      | nx σ3 h3 => rw [e] at p2; exact fun m' H' s x S' R' => ⟨m', h3, σ3, S', R', OP.later p2 x⟩
      | ct σ3 h3 => rw [e] at p2; exact fun m' H' s x S' R' => ⟨m', h3, σ3, S', R', OP.later p2 x⟩
      | bk σ3 h3 => rw [e] at p2; exact p2
      | rt v h3 => rw [e] at p2; exact p2
      | exc c v σ3 h3 => rw [e] at p2; exact p2
      | bad => rw [e] at p2; exact p2
/-- a walk and its iterator -/
structure Ef (G : GC) (m : List Addr) (H : Hp) (m' : List Addr) (H' : Hp) : Prop where
  toLe : Le G m H m' H'
  frd : ∀ b o u, H b = some (.frz o u) → H' b = some (.frz o u)
theorem Ex.ef {G : GC} {m m' : List Addr} {H H' : Hp} (x : Ex G m H m' H') : Ef G m H m' H' := ⟨x.toLe, x.frd⟩
theorem Ef.refl {G : GC} {m : List Addr} {H : Hp} : Ef G m H m H := Ex.refl.ef
theorem Ef.trans {G : GC} {m m1 m2 : List Addr} {H H1 H2 : Hp} (a : Ef G m H m1 H1) (b : Ef G m1 H1 m2 H2) : Ef G m H m2 H2 := ⟨a.toLe.trans b.toLe, fun c o u q => b.frd c o u (a.frd c o u q)⟩
structure WkR (G : GC) (m0 : List Addr) (H0 : Hp) (w : Wk) (J : It) : Prop where
  item : ∀ m h H i v, Ef G m0 H0 m H → Sim G m h H → i < w.n → w.at_ i h = some v → J.go i H ∧ ∀ x H', J.yld i H x H' → Ex G m H m H' ∧ Sim G m h H' ∧ RV G m H' v x
  fin : ∀ m h H, Ef G m0 H0 m H → Sim G m h H → w.fin h = true → J.stop w.n H
def tMI (G : GC) (W : XW) (w : WM) : TI := tMR G W (WkR G) w
theorem js_for {w : WM} {p : Pt} (h : PS X st (L2.tFor (tMI G W w) (gP G p) (tMS G W sb))) : PS X st (tMS G W (jFor w p sb)) := h.wk fun D σ H q => by
  refine (tMS.out (Rel := WkR G) (k := fun σ k h1 => forL k p sb k.n 0 σ h1) q).imp fun J H1 ⟨m1, h1, k, σm, S1, R1, r1, p1⟩ => ?_
  refine ⟨fun i n σ H => ∃ m h σm, Ex G m1 H1 m H ∧ Sim G m h H ∧ RS G m H σm σ ∧ i + n = k.n ∧ OP G W D m H (forL k p sb n i σm h), ⟨k.n, m1, h1, σm, .refl, S1, R1, Nat.zero_add _, p1⟩, ?_⟩
  rintro i n σ2 H2 ⟨m2, h2, σ2m, x2, S2, R2, hn, p2⟩
  cases n with
  | zero =>
    left
    unfold forL at p2
    cases e : k.fin h2 with
    | false => rw [e] at p2; exact p2.elim
    | true =>
      rw [e] at p2
      have hi : i = k.n := by omega
      subst hi
      exact ⟨r1.fin m2 h2 H2 x2.ef S2 e, OP.nx_now p2 S2 R2⟩
  | succ n =>
    right
    unfold forL at p2
    cases e : k.at_ i h2 with
    | none => rw [e] at p2; exact p2.elim
    | some v =>
      rw [e] at p2
      dsimp only at p2
      obtain ⟨go, yld⟩ := r1.item m2 h2 H2 i v x2.ef S2 (by omega) e
      refine ⟨go, fun σ' H' => ∃ m h σm, Ex G m1 H1 m H' ∧ Sim G m h H' ∧ RS G m H' σm σ' ∧ (i + 1) + n = k.n ∧ OP G W D m H' (forL k p sb n (i + 1) σm h), fun σ' H' q => ⟨n, Nat.lt_succ_self n, q⟩, fun x H' y => ?_⟩
      obtain ⟨x3, S3, r3⟩ := yld x H' y
      cases ea : asg p v σ2m with
      | none => rw [ea] at p2; exact p2.elim
      | some σ3 =>
        rw [ea] at p2
        refine ⟨m2, h2, v, σ2m, σ3, S3, R2.mono x3.toLe, r3, ea, fun σ' R' _ => ⟨m2, h2, σ3, S3, R', ?_⟩⟩
        dsimp only at p2
        have x23 := x2.trans x3
        cases eb : sb σ3 h2 with
        | nx σ4 h4 => rw [eb] at p2; exact fun m' H'' s x S' R' => ⟨m', h4, σ4, x23.trans x, S', R', by omega, OP.later p2 (x3.trans x)⟩
        | ct σ4 h4 => rw [eb] at p2; exact fun m' H'' s x S' R' => ⟨m', h4, σ4, x23.trans x, S', R', by omega, OP.later p2 (x3.trans x)⟩
        | bk σ4 h4 => rw [eb] at p2; exact fun m' H'' s x S' R' => p2 m' H'' s (x3.trans x) S' R'
        | rt v h4 => rw [eb] at p2; exact fun m' H'' s x S' R' => p2 m' H'' s (x3.trans x) S' R'
        | exc c v σ4 h4 => rw [eb] at p2; exact fun m' H'' s d x S' R' => p2 m' H'' s d (x3.trans x) S' R'
        | bad => rw [eb] at p2; exact p2
end

/-! ### what is walked -/
theorem PI_wk {X : Cx} {tg e : Expr} {t t' : TI} (h : PI X tg e t) (k : ∀ σ H R, t' σ H R → t σ H R) : PI X tg e t' := ⟨fun pins s σ H R I q => h.run pins s σ H R I (k σ H R q)⟩
section
variable {X : Cx} {G : GC} {W : XW} {tg e : Expr} {fa fb : EM}
theorem wkR_L {m : List Addr} {H : Hp} {n k : Nat} {a : Addr} (ea : m[n]? = some a) : WkR G m H (wkL n k) (Itl G.K a) where
  item := fun m1 h1 H1 i v x S hi e => by
    unfold wkL at e
    dsimp only at e
    cases eg : h1.get n with
    | none => rw [eg] at e; cases e
    | some o =>
      rw [eg] at e
      cases o with
      | lst xs =>
        obtain ⟨b, ys, eb, _, eh, r⟩ := S.lst eg (show RV G m1 H1 (.ref n) (.ref a) by simp only [RV]; exact ⟨a, x.toLe.ix ea, rfl⟩)
        have hb : b = a := Option.some.inj (eb.symm.trans (x.toLe.ix ea))
        subst hb
        obtain ⟨y, ey, ry⟩ := r.get e
        refine ⟨⟨ys, y, SqL.of eh, ey⟩, fun z H' q => ?_⟩
        obtain ⟨rfl, q⟩ := q
        have hz := q ys (SqL.of eh)
        rw [ey] at hz
        cases hz
        exact ⟨.refl, S, ry⟩
      | ins _ _ => cases e
      | dct _ _ _ => cases e
  fin := fun m1 h1 H1 x S e => by
    unfold wkL at e
    dsimp only at e
    cases eg : h1.get n with
    | none => rw [eg] at e; cases e
    | some o =>
      rw [eg] at e
      cases o with
      | lst xs =>
        obtain ⟨b, ys, eb, _, eh, r⟩ := S.lst eg (show RV G m1 H1 (.ref n) (.ref a) by simp only [RV]; exact ⟨a, x.toLe.ix ea, rfl⟩)
        have hb : b = a := Option.some.inj (eb.symm.trans (x.toLe.ix ea))
        subst hb
        exact ⟨ys, SqL.of eh, by rw [r.length]; exact Nat.le_of_ble_eq_true e⟩
      | ins _ _ => cases e
      | dct _ _ _ => cases e
theorem ki_seq {K : PySem.W.Frag} (hK : K = G.K) (h : PI X tg e (L2.iList K (tM G W fa))) : PI X tg e (tMI G W (wSeq fa)) := PI_wk h fun σ H R q => by
  subst hK
  refine (tMR.bind (Rel := RV G) (k := fun _ v h1 => match v with
  | .ref n => (match h1.get n with
    | some (.lst xs) => .ok (wkL n xs.length) h1
    | _ => .bad)
  | _ => .bad) q).imp fun x H1 ⟨m1, h1, v, σm, S1, R1, r1, p1⟩ => ?_
  cases v with
  | ref n =>
    dsimp only at p1
    cases eg : h1.get n with
    | none => rw [eg] at p1; exact p1.elim
    | some o =>
      rw [eg] at p1
      cases o with
      | lst xs =>
        obtain ⟨a, ys, ea, rfl, eh, r⟩ := S1.lst eg r1
        exact ⟨a, rfl, ⟨ys, SqL.of eh⟩, RP.now p1 S1 (wkR_L ea)⟩
      | ins _ _ => exact p1.elim
      | dct _ _ _ => exact p1.elim
  | _ => exact p1.elim
theorem ki_fst {K : PySem.W.Frag} (hK : K = G.K) (h : PI X tg e (L2.iList K (tM G W fa))) : PI X tg e (tMI G W (wFst fa)) := PI_wk h fun σ H R q => by
  subst hK
  refine (tMR.bind (Rel := RV G) (k := fun _ v h1 => match v with
  | .flst xs => .ok (wkT xs) h1
  | _ => .bad) q).imp fun x H1 ⟨m1, h1, v, σm, S1, R1, r1, p1⟩ => ?_
  cases v with
  | flst xs =>
    simp only [RV] at r1
    obtain ⟨a, ys, rfl, fz, r⟩ := r1
    refine ⟨a, rfl, ⟨ys, fz.sq⟩, RP.now p1 S1 ⟨fun m2 h2 H2 i v x S hi e => ?_, fun m2 h2 H2 x S e => ?_⟩⟩
    · obtain ⟨y, ey, ry⟩ := r.get e
      refine ⟨⟨ys, y, (x.toLe.frzl fz).sq, ey⟩, fun z H' q => ?_⟩
      obtain ⟨rfl, q⟩ := q
      have hz := q ys (x.toLe.frzl fz).sq
      rw [ey] at hz
      cases hz
      exact ⟨.refl, S, ry.mono x.toLe⟩
    · exact ⟨ys, (x.toLe.frzl fz).sq, Nat.le_of_eq r.length⟩
  | _ => exact p1.elim
theorem ki_tup {K : PySem.W.Frag} (hK : K = G.K) (h : PI X tg e (L2.iTup K (tM G W fa))) : PI X tg e (tMI G W (wTup fa)) := PI_wk h fun σ H R q => by
  subst hK
  refine (tMR.bind (Rel := RV G) (k := fun _ v h1 => match v with
  | .tup xs => .ok (wkT xs) h1
  | _ => .bad) q).imp fun x H1 ⟨m1, h1, v, σm, S1, R1, r1, p1⟩ => ?_
  cases v with
  | tup xs =>
    simp only [RV] at r1
    obtain ⟨a, ys, rfl, fz, r⟩ := r1
    refine ⟨a, rfl, ⟨ys, SqT.of fz⟩, RP.now p1 S1 ⟨fun m2 h2 H2 i v x S hi e => ?_, fun m2 h2 H2 x S e => ?_⟩⟩
    · obtain ⟨y, ey, ry⟩ := r.get e
      refine ⟨⟨ys, y, SqT.of (x.toLe.tup _ _ fz), ey⟩, fun z H' q => ?_⟩
      obtain ⟨rfl, q⟩ := q
      have hz := q ys (SqT.of (x.toLe.tup _ _ fz))
      rw [ey] at hz
      cases hz
      exact ⟨.refl, S, ry.mono x.toLe⟩
    · exact ⟨ys, SqT.of (x.toLe.tup _ _ fz), Nat.le_of_eq r.length⟩
  | _ => exact p1.elim
theorem wkR_R {m : List Addr} {H : Hp} {lo : Int} {n : Nat} : WkR G m H (wkR lo n) (Itr lo n) where
  item := fun m1 h1 H1 i v x S hi e => by
    refine ⟨hi, fun z H' q => ?_⟩
    obtain ⟨rfl, rfl⟩ := q
    cases e
    exact ⟨.refl, S, by simp [RV]⟩
  fin := fun m1 h1 H1 x S e => Nat.le_refl _
theorem rgOk_iff {i : Int} (h : rgOk i = true) : -(2 ^ 62) ≤ i ∧ i < 2 ^ 62 := by
  have : i.natAbs < 4611686018427387904 := Nat.le_of_ble_eq_true h
  omega
theorem ki_rng1 (h : PI X tg e (L2.iRng1 (L2.tCons (tM G W fa) L2.tNil))) : PI X tg e (tMI G W (wRng1 fa)) := PI_wk h fun σ H R q => by
  refine (tMR.bind (Rel := RV G) (k := fun _ v h1 => match v with
  | .int j => (match rgOk j with
    | true => .ok (wkR 0 j.toNat) h1
    | false => .bad)
  | _ => .bad) q).imp fun x H1 ⟨m1, h1, v, σm, S1, R1, r1, p1⟩ => ?_
  cases v with
  | int j =>
    simp only [RV] at r1
    subst r1
    dsimp only at p1
    cases e : rgOk j with
    | false => rw [e] at p1; exact p1.elim
    | true =>
      rw [e] at p1
      obtain ⟨h1, h2⟩ := rgOk_iff e
      exact ⟨j, rfl, h1, h2, RP.now p1 S1 wkR_R⟩
  | _ => exact p1.elim
theorem ki_rng2 (h : PI X tg e (L2.iRng2 (L2.tCons (tM G W fa) (L2.tCons (tM G W fb) L2.tNil)))) : PI X tg e (tMI G W (wRng2 fa fb)) := PI_wk h fun σ H R q => by
  refine (tMR.bind (Rel := RV G) (k := fun σ v h1 => (fb σ h1).bind fun w h2 => match v, w with
  | .int i, .int j => (match rgOk i && rgOk j with
    | true => .ok (wkR i (j - i).toNat) h2
    | false => .bad)
  | _, _ => .bad) q).imp fun x H1 ⟨m1, h1, v, σm, S1, R1, r1, p1⟩ => ?_
  refine ⟨m1, h1, σm, S1, R1, (RP.bind (Rel := RV G) p1).imp fun y H2 ⟨m2, h2, w, x2, S2, r2, p2⟩ => ?_⟩
  cases v with
  | int i =>
    cases w with
    | int j =>
      simp only [RV] at r1 r2
      subst r1 r2
      dsimp only at p2
      cases e : rgOk i && rgOk j with
      | false => rw [e] at p2; exact p2.elim
      | true =>
        rw [e] at p2
        obtain ⟨e1, e2⟩ := Bool.and_eq_true_iff.mp e
        obtain ⟨a1, a2⟩ := rgOk_iff e1
        obtain ⟨b1, b2⟩ := rgOk_iff e2
        exact ⟨i, j, rfl, ⟨a1, a2, b1, b2⟩, RP.now p2 S2 wkR_R⟩
    | _ => exact p2.elim
  | _ => exact p2.elim
end

end KA

set_option Elab.async false
set_option autoImplicit false
set_option linter.all false
set_option maxRecDepth 100000
set_option maxHeartbeats 400000
/-! KFn: a def keeps the promise of its mini def. -/
namespace KA
open PySem PySem.Spec PyProof.Rows L2
theorem fn_ok {P : Program} {w : World} {K : PySem.W.Frag} {mg : PySem.Str → Option Value} {base : Heap} {x qual : PySem.Str} {params : Arguments} {body : List Stmt} {scope : Scope} {dvs : List V} {kws : List (PySem.Str × V)} {f : Addr} {fd : FuncData} {N ps : List PySem.Str} {k n np : Nat} {G : GC} {b : SM}
    (F : FunD K x qual params body scope dvs kws f fd) (S : FnScope N ps scope) (hn : N.length = n := by rfl) (hp : ps.length = np := by rfl)
    (hb : ∀ (cdv : Value) (A : Around) (outer : List Env) (s : Shared) (H : Hp) (E : XK), Room k (A.deeper (envOfC qual scope s.heap.objs.size f cdv)) → PSs (cxOf CX0 P w K mg base N qual scope f cdv A outer s H E).nox body (tMS G W0 b)) :
    FnOk P w K mg base CX0 (k + 1) f fd ps (spM G np (fn n b)) := by
  refine F.ok S (fun vs H Q E h => hp ▸ h.1) (fun cdv A outer s H vs Q E hr h => ⟨_, PSs.nox (hb cdv A outer s H E hr), ?_⟩)
  obtain ⟨hl, m, h, ms, Sm, r, p⟩ := h
  refine ⟨m, h, ms.map some ++ List.replicate (n - ms.length) none, Sm, RS.start r N n hn, ?_⟩
  unfold fn at p
  cases e : b (ms.map some ++ List.replicate (n - ms.length) none) h with
  | nx σ1 h1 => rw [e] at p; exact fun m' H' s x S' _ => p m' H' .non x S' (by simp [RV])
  | rt v h1 => rw [e] at p; exact p
  | bk σ1 h1 => rw [e] at p; exact p.elim
  | ct σ1 h1 => rw [e] at p; exact p.elim
  | exc c v σ1 h1 =>
    rw [e] at p
    exact fun m' H' s d x S' R' q => p m' H' d x S' q
  | bad => rw [e] at p; exact p.elim
end KA

set_option Elab.async false
set_option autoImplicit false
set_option linter.all false
set_option maxRecDepth 100000
set_option maxHeartbeats 400000
/-! KOps: operators, built-ins, methods by values. -/
namespace KA
open PySem PySem.Spec PyProof.Rows L2
section
variable {X : Cx} {G : GC} {W : XW} {e : Expr} {fa fb : EM} {am : AM}

/-! ### arithmetic -/
theorem Op2.or {r r' : R2} {g : MV → MV → MH → Res MV} (h : ∀ (W : XW) (m : List Addr) (h : MH) (H : Hp) (σ : L2.St) (v w : MV) (x y : V) (Q : VK), Sim G m h H → RV G m H v x → RV G m H w y → RP G W (RV G) m H σ (g v w h) Q → r x y H Q ∨ r' x y H Q) : Op2 G (fun x y H Q => r x y H Q ∨ r' x y H Q) g := h
theorem RP.newTup {m : List Addr} {h : MH} {H : Hp} {σ : L2.St} {vs : List MV} {xs : List V} {Q : VK} (p : RP G W (RV G) m H σ (.ok (.tup vs) h) Q) (S : Sim G m h H) (r : RVs G m H vs xs) {a : Addr} (ha : H a = none) : Q (.ref a) (upd H a (.tup xs)) := by
  have x : Ex G m H m (upd H a (.tup xs)) := .upd a _ (plain_none ha) (.inr ha)
  exact p m _ (.ref a) x (S.fresh ha _) (by simp only [RV]; exact ⟨a, xs, rfl, upd_same, r.mono x.toLe⟩)
theorem str_app (a b : List Nat) : (⟨a.toArray⟩ : PySem.Str) ++ ⟨b.toArray⟩ = ⟨(a ++ b).toArray⟩ := by
  show PySem.Str.mk (a.toArray ++ b.toArray) = _
  simp
theorem str_len (a : List Nat) : (⟨a.toArray⟩ : PySem.Str).length = a.length := by
  show a.toArray.size = a.length
  simp
abbrev rAddM (K : PySem.W.Frag) : R2 := fun x y H Q => (rI0 (fun i j => .int (i + j)) x y H Q ∨ (∃ i j, x = .str i ∧ y = .str j ∧ i.length + j.length ≤ sizeLine ∧ Q (.str (i ++ j)) H)) ∨ (rCat x y H Q ∨ rCatA K x y H Q)
theorem op_addM : OpR X (binaryOp .Add) (rAddM X.K) := (op_add.or op_add_str).or (op_cat.or op_catA)
theorem o_add {K : PySem.W.Frag} : Op2 G (rAddM K) qAdd := by
  intro W m h H σ v w x y Q S r1 r2 p
  cases v with
  | int i =>
    cases w with
    | int j =>
      simp only [RV] at r1 r2
      exact .inl (.inl ⟨i, j, r1, r2, RP.now p S (by simp [RV])⟩)
    | _ => exact p.elim
  | str a =>
    cases w with
    | str b =>
      simp only [RV] at r1 r2
      unfold qAdd at p
      dsimp only at p
      rcases lim_cases (a.length + b.length) (Res.ok (MV.str (a ++ b)) h) with ⟨z, e1⟩ | e1
      · rw [e1] at p
        refine .inl (.inr ⟨_, _, r1, r2, by rw [str_len, str_len, sizeLine_eq]; exact z, RP.now p S (by simp only [RV]; rw [str_app])⟩)
      · rw [e1] at p; exact p.elim
    | _ => exact p.elim
  | tup xs =>
    cases w with
    | tup ys =>
      unfold qAdd at p
      dsimp only at p
      rcases lim_cases (xs.length + ys.length) (Res.ok (MV.tup (xs ++ ys)) h) with ⟨z, e1⟩ | e1
      · rw [e1] at p
        simp only [RV] at r1 r2
        obtain ⟨a, us, rfl, ha, ra⟩ := r1
        obtain ⟨b, ts, rfl, hb, rb⟩ := r2
        refine .inr (.inr ⟨a, b, us, ts, rfl, rfl, SqT.of ha, SqT.of hb, by rw [ra.length, rb.length, sizeLine_eq]; exact z, fun q => ?_, fun q q2 => ?_, fun _ _ c hc => RP.newTup p S (ra.append rb) hc⟩)
        · subst q
          have : xs = [] := by have := ra.length; simpa using this.symm
          subst this
          exact RP.now p S (by simp only [RV, List.nil_append]; exact ⟨b, ts, rfl, hb, rb⟩)
        · subst q2
          have : ys = [] := by have := rb.length; simpa using this.symm
          subst this
          exact RP.now p S (by simp only [RV, List.append_nil]; exact ⟨a, us, rfl, ha, ra⟩)
      · rw [e1] at p; exact p.elim
    | _ => exact p.elim
  | ref a =>
    cases w with
    | ref b =>
      unfold qAdd at p
      dsimp only at p
      cases ea : h.get a with
      | none => rw [ea] at p; exact p.elim
      | some oa =>
        cases eb : h.get b with
        | none => rw [ea, eb] at p; cases oa <;> exact p.elim
        | some ob =>
          rw [ea, eb] at p
          cases oa with
          | lst xs =>
            cases ob with
            | lst ys =>
              dsimp only at p
              rcases lim_cases (xs.length + ys.length) (Res.ok (MV.ref h.n) (h.push (.lst (xs ++ ys)))) with ⟨z, e1⟩ | e1
              · rw [e1] at p
                obtain ⟨c, us, _, rfl, hc, ra⟩ := S.lst ea r1
                obtain ⟨d, ts, _, rfl, hd, rb⟩ := S.lst eb r2
                exact .inr (.inl ⟨c, d, us, ts, rfl, rfl, hc, hd, by rw [ra.length, rb.length, sizeLine_eq]; exact z, fun l hl => p.newLst S (ra.append rb) hl⟩)
              · rw [e1] at p; exact p.elim
            | _ => exact p.elim
          | _ => exact p.elim
    | _ => exact p.elim
  | _ => exact p.elim
theorem small64_iff {i : Int} (h : small64 i = true) : -(2 ^ 64) < i ∧ i < 2 ^ 64 := by
  have : i.natAbs < 18446744073709551616 := Nat.le_of_ble_eq_true h
  omega
theorem small9_iff {i : Int} (h : small9 i = true) : i.natAbs.log2 < 9000 := Nat.le_of_ble_eq_true h
abbrev rMulM : R2 := fun x y H Q => (rI CMul (fun i j => .int (i * j)) x y H Q ∨ rI CMulW (fun i j => .int (i * j)) x y H Q) ∨ rRep x y H Q
theorem op_mulM : OpR X (binaryOp .Mult) rMulM := (op_mul.or op_mulW).or op_rep
theorem rvs_rep {m : List Addr} {H : Hp} {xs : List MV} {us : List V} (r : RVs G m H xs us) : ∀ k : Nat, RVs G m H (List.replicate k xs).flatten (List.replicate k us).flatten
  | 0 => RVs.nil
  | k + 1 => by
    rw [List.replicate_succ, List.replicate_succ, List.flatten_cons, List.flatten_cons]
    exact r.append (rvs_rep r k)
theorem o_mul : Op2 G rMulM qMul := by
  intro W m h H σ v w x y Q S r1 r2 p
  cases v with
  | int i =>
    cases w with
    | int j =>
      simp only [RV] at r1 r2
      unfold qMul at p
      dsimp only at p
      cases ec : (small64 i || small64 j || (small9 i && small9 j)) with
      | false => rw [ec] at p; exact p.elim
      | true =>
        rw [ec] at p
        rcases Bool.or_eq_true_iff.mp ec with e1 | e1
        · rcases Bool.or_eq_true_iff.mp e1 with e1 | e1
          · exact .inl (.inl ⟨i, j, r1, r2, .inl (small64_iff e1), RP.now p S (by simp [RV])⟩)
          · exact .inl (.inl ⟨i, j, r1, r2, .inr (small64_iff e1), RP.now p S (by simp [RV])⟩)
        · obtain ⟨a1, a2⟩ := Bool.and_eq_true_iff.mp e1
          have b1 := small9_iff a1
          have b2 := small9_iff a2
          exact .inl (.inr ⟨i, j, r1, r2, by unfold CMulW; omega, RP.now p S (by simp [RV])⟩)
    | _ => exact p.elim
  | ref a =>
    cases w with
    | int k =>
      unfold qMul at p
      dsimp only at p
      cases ea : h.get a with
      | none => rw [ea] at p; exact p.elim
      | some oa =>
        rw [ea] at p
        cases oa with
        | lst xs =>
          dsimp only at p
          cases ec : (decide (0 ≤ k) && rg62 k) with
          | false => rw [ec] at p; exact p.elim
          | true =>
            rw [ec] at p
            dsimp only at p
            rcases lim_cases (xs.length * k.toNat) (Res.ok (MV.ref h.n) (h.push (.lst (List.replicate k.toNat xs).flatten))) with ⟨z, e1⟩ | e1
            · rw [e1] at p
              obtain ⟨c, us, _, rfl, hc, ra⟩ := S.lst ea r1
              simp only [RV] at r2
              obtain ⟨a1, a2⟩ := Bool.and_eq_true_iff.mp ec
              have b1 := of_decide_eq_true a1
              have b2 := rgOk_iff (i := k) a2
              exact .inr ⟨c, k, us, rfl, r2, hc, by omega, by omega, by rw [ra.length, sizeLine_eq]; exact z, fun l hl => p.newLst S (rvs_rep ra _) hl⟩
            · rw [e1] at p; exact p.elim
        | _ => exact p.elim
    | _ => exact p.elim
  | _ => exact p.elim
theorem o_div : Op2 G (rI CDivW fun i j => .int (i / j)) qDiv := op2_int fun v w h => by
  cases v <;> cases w <;> try exact .inr rfl
  rename_i i j
  unfold qDiv
  dsimp only
  cases ec : (decide (0 < j) && small9 j) with
  | false => exact .inr rfl
  | true =>
    obtain ⟨a1, a2⟩ := Bool.and_eq_true_iff.mp ec
    exact .inl ⟨i, j, _, rfl, rfl, rfl, ⟨of_decide_eq_true a1, small9_iff a2⟩, fun m H => by simp [RV]⟩
theorem o_mod : Op2 G (rI (fun _ j => 0 < j) fun i j => .int (i % j)) qMod := op2_int fun v w h => by
  cases v <;> cases w <;> try exact .inr rfl
  rename_i i j
  unfold qMod
  dsimp only
  cases ec : decide (0 < j) with
  | false => exact .inr rfl
  | true => exact .inl ⟨i, j, _, rfl, rfl, rfl, of_decide_eq_true ec, fun m H => by simp [RV]⟩
theorem k_neg (h : PE X e (L2.tUn (rU fun i => .int (-i)) (tM G W fa))) : PE X e (tM G W (e1 qNeg fa)) := h.wk fun σ H Q q => by
  refine (tMR.bind (Rel := RV G) (k := fun _ v h1 => qNeg v h1) q).imp fun x H1 ⟨m1, h1, v, σm, S1, R1, r1, p1⟩ => ?_
  cases v with
  | int i =>
    simp only [RV] at r1
    exact ⟨i, r1, RP.now p1 S1 (by simp [RV])⟩
  | _ => exact p1.elim
end
theorem k_op {X : Cx} {G : GC} {W : XW} {e : Expr} {fa fb : EM} {r : R2} {g : MV → MV → MH → Res MV} (hr : Op2 G r g) (h : PE X e (tOp r (tM G W fa) (tM G W fb))) : PE X e (tM G W (e2 g fa fb)) := h.wk fun _ _ _ q => tOp_of hr q

/-! ### data -/
section
variable {X : Cx} {G : GC} {W : XW} {m : List Addr} {h : MH} {H : Hp}
def toD : Nat → MH → MV → PyData
  | 0, _, _ => .none
  | f + 1, h, v => match v with
    | .non => .none
    | .bl b => .bool b
    | .int i => .int i
    | .str s => .str ⟨s.toArray⟩
    | .tup xs => .tuple (xs.map (toD f h))
    | .flst xs => .list (xs.map (toD f h))
    | .ref n => match h.get n with
      | some (.lst xs) => .list (xs.map (toD f h))
      | _ => .none
theorem datas_ok {f : Nat} (ih : ∀ (v : MV) (x : V), dataB f h v = true → RV G m H v x → Dp G.K H x (toD f h v) ∧ PyData.canLay0 (toD f h v) = true ∧ PyData.depth (toD f h v) ≤ f) :
    ∀ (xs : List MV) (us : List V), xs.all (dataB f h) = true → RVs G m H xs us → DpAll G.K H us (xs.map (toD f h)) ∧ PyData.canLayAll0 (xs.map (toD f h)) = true ∧ PyData.depthAll (xs.map (toD f h)) ≤ f
  | [], us, _, r => by
    rw [r.nil_inv]
    exact ⟨.nil, by simp [PyData.canLayAll0], by simp [PyData.depthAll]⟩
  | x :: xs, us, hd, r => by
    obtain ⟨y, ys, rfl, r1, r2⟩ := r.cons_inv
    rw [List.all_cons, Bool.and_eq_true] at hd
    obtain ⟨a1, a2, a3⟩ := ih x y hd.1 r1
    obtain ⟨b1, b2, b3⟩ := datas_ok ih xs ys hd.2 r2
    refine ⟨.cons a1 b1, ?_, ?_⟩
    · simp [PyData.canLayAll0, a2, b2]
    · simp only [List.map_cons, PyData.depthAll]
      omega
theorem sOk_iff {s : List Nat} (e : sOk s = true) : PyData.strOk ⟨s.toArray⟩ = true := by
  unfold sOk at e
  unfold PyData.strOk
  simp only [List.all_eq_true] at e
  simp only [Array.all_eq_true', List.mem_toArray, decide_eq_true_eq]
  exact fun c hc => Nat.le_of_ble_eq_true (e c hc)
theorem data_ok (S : Sim G m h H) : ∀ (f : Nat) (v : MV) (x : V), dataB f h v = true → RV G m H v x → Dp G.K H x (toD f h v) ∧ PyData.canLay0 (toD f h v) = true ∧ PyData.depth (toD f h v) ≤ f
  | 0, v, x, e, r => by simp [dataB] at e
  | f + 1, v, x, e, r => by
    have ih := data_ok S f
    cases v with
    | non => simp only [RV] at r; subst r; exact ⟨.non, by simp [toD, PyData.canLay0], by simp [toD, PyData.depth]⟩
    | bl b => simp only [RV] at r; subst r; exact ⟨.bl b, by simp [toD, PyData.canLay0], by simp [toD, PyData.depth]⟩
    | int i => simp only [RV] at r; subst r; exact ⟨.int i, by simp [toD, PyData.canLay0], by simp [toD, PyData.depth]⟩
    | str s =>
      simp only [RV] at r; subst r
      refine ⟨.str _, ?_, by simp [toD, PyData.depth]⟩
      show PyData.strOk _ = true
      exact sOk_iff e
    | tup xs =>
      simp only [RV] at r
      obtain ⟨a, us, rfl, ha, rs⟩ := r
      obtain ⟨b1, b2, b3⟩ := datas_ok ih xs us (by simpa [dataB] using e) rs
      exact ⟨.tup (SqT.of ha) b1, by simpa [toD, PyData.canLay0] using b2, by simp only [toD, PyData.depth]; omega⟩
    | flst xs =>
      simp only [RV] at r
      obtain ⟨a, us, rfl, ha, rs⟩ := r
      obtain ⟨b1, b2, b3⟩ := datas_ok ih xs us (by simpa [dataB] using e) rs
      exact ⟨.lst ha.sq b1, by simpa [toD, PyData.canLay0] using b2, by simp only [toD, PyData.depth]; omega⟩
    | ref n =>
      unfold dataB at e
      dsimp only at e
      cases eg : h.get n with
      | none => rw [eg] at e; cases e
      | some o =>
        rw [eg] at e
        cases o with
        | lst xs =>
          obtain ⟨a, us, _, rfl, ha, rs⟩ := S.lst eg r
          obtain ⟨b1, b2, b3⟩ := datas_ok ih xs us e rs
          have et : toD (f + 1) h (.ref n) = .list (xs.map (toD f h)) := by simp only [toD]; rw [eg]
          rw [et]
          exact ⟨.lst (SqL.of ha) b1, by simpa [PyData.canLay0] using b2, by simp only [PyData.depth]; omega⟩
        | _ => cases e
theorem beqN_iff : ∀ {a b : List Nat}, beqN a b = decide (a = b)
  | [], [] => rfl
  | [], _ :: _ => by simp [beqN]
  | _ :: _, [] => by simp [beqN]
  | x :: a, y :: b => by
    unfold beqN
    cases e : Nat.beq x y with
    | true =>
      have : x = y := Nat.eq_of_beq_eq_true e
      subst this
      simp [beqN_iff (a := a) (b := b)]
    | false =>
      have : x ≠ y := fun q => by rw [q, Nat.beq_refl] at e; cases e
      simp [this]
theorem all2_ok {f : Nat} (ih : ∀ v w : MV, dataB f h v = true → dataB f h w = true → PyData.eqv (toD f h v) (toD f h w) = eqB f h v w) :
    ∀ xs ys : List MV, xs.all (dataB f h) = true → ys.all (dataB f h) = true → PyData.eqvAll (xs.map (toD f h)) (ys.map (toD f h)) = all2 (eqB f h) xs ys
  | [], [], _, _ => by simp [PyData.eqvAll, all2]
  | [], _ :: _, _, _ => by simp [PyData.eqvAll, all2]
  | _ :: _, [], _, _ => by simp [PyData.eqvAll, all2]
  | x :: xs, y :: ys, e1, e2 => by
    rw [List.all_cons, Bool.and_eq_true] at e1 e2
    simp only [List.map_cons, PyData.eqvAll, all2]
    rw [ih x y e1.1 e2.1, all2_ok ih xs ys e1.2 e2.2]
    cases eqB f h x y <;> simp
theorem eq_ok : ∀ (f : Nat) (v w : MV), dataB f h v = true → dataB f h w = true → PyData.eqv (toD f h v) (toD f h w) = eqB f h v w
  | 0, v, w, e, _ => by simp [dataB] at e
  | f + 1, v, w, ev, ew => by
    have ih := all2_ok (f := f) (h := h) (eq_ok f)
    have gl : ∀ n : Nat, dataB (f + 1) h (.ref n) = true → ∃ xs, h.get n = some (.lst xs) ∧ xs.all (dataB f h) = true ∧ toD (f + 1) h (.ref n) = .list (xs.map (toD f h)) ∧ seqOf h (.ref n) = some xs := fun n e => by
      unfold dataB at e
      dsimp only at e
      cases eg : h.get n with
      | none => rw [eg] at e; cases e
      | some o =>
        rw [eg] at e
        cases o with
        | lst xs => exact ⟨xs, rfl, e, by simp only [toD]; rw [eg], by simp only [seqOf]; rw [eg]⟩
        | _ => cases e
    have gf : ∀ xs : List MV, dataB (f + 1) h (.flst xs) = true → xs.all (dataB f h) = true := fun xs e => by simpa [dataB] using e
    have gt : ∀ xs : List MV, dataB (f + 1) h (.tup xs) = true → xs.all (dataB f h) = true := fun xs e => by simpa [dataB] using e
    cases v with
    | non =>
      cases w with
      | ref n => obtain ⟨xs, e1, e2, e3, e4⟩ := gl n ew; rw [e3]; simp [toD, PyData.eqv, eqB, seqOf]
      | _ => simp [toD, PyData.eqv, eqB, seqOf]
    | bl b =>
      cases w with
      | ref n => obtain ⟨xs, e1, e2, e3, e4⟩ := gl n ew; rw [e3]; simp [toD, PyData.eqv, eqB, seqOf]
      | int j => cases b <;> simp [toD, PyData.eqv, eqB, seqOf, b2n] <;> rfl
      | bl c => simp [toD, PyData.eqv, eqB]
      | _ => simp [toD, PyData.eqv, eqB, seqOf]
    | int i =>
      cases w with
      | ref n => obtain ⟨xs, e1, e2, e3, e4⟩ := gl n ew; rw [e3]; simp [toD, PyData.eqv, eqB, seqOf]
      | bl c => cases c <;> simp [toD, PyData.eqv, eqB, seqOf, b2n] <;> rfl
      | int j => simp [toD, PyData.eqv, eqB]; rfl
      | _ => simp [toD, PyData.eqv, eqB, seqOf]
    | str s =>
      cases w with
      | ref n => obtain ⟨xs, e1, e2, e3, e4⟩ := gl n ew; rw [e3]; simp [toD, PyData.eqv, eqB, seqOf]
      | str t =>
        simp only [toD, PyData.eqv, eqB, beqN_iff]
        rw [Bool.eq_iff_iff]
        simp
      | _ => simp [toD, PyData.eqv, eqB, seqOf]
    | tup xs =>
      cases w with
      | ref n => obtain ⟨ys, e1, e2, e3, e4⟩ := gl n ew; rw [e3]; simp [toD, PyData.eqv, eqB, seqOf]
      | tup ys => simp only [toD, PyData.eqv, eqB]; exact ih xs ys (gt _ ev) (gt _ ew)
      | _ => simp [toD, PyData.eqv, eqB, seqOf]
    | flst xs =>
      cases w with
      | ref n =>
        obtain ⟨ys, e1, e2, e3, e4⟩ := gl n ew
        rw [e3]; simp only [toD, PyData.eqv, eqB]; rw [e4]; simp only [seqOf]
        exact ih xs ys (gf _ ev) e2
      | flst ys => simp only [toD, PyData.eqv, eqB, seqOf]; exact ih xs ys (gf _ ev) (gf _ ew)
      | _ => simp [toD, PyData.eqv, eqB, seqOf]
    | ref k =>
      obtain ⟨xs, d1, d2, d3, d4⟩ := gl k ev
      cases w with
      | ref n =>
        obtain ⟨ys, e1, e2, e3, e4⟩ := gl n ew
        rw [d3, e3]; simp only [PyData.eqv, eqB]; rw [e4, d4]
        exact ih xs ys d2 e2
      | flst ys => rw [d3]; simp only [toD, PyData.eqv, eqB]; rw [d4]; simp only [seqOf]; exact ih xs ys d2 (gf _ ew)
      | _ => rw [d3]; simp [toD, PyData.eqv, eqB, seqOf]
theorem shaped_ok {d : PyData} (h1 : PyData.canLay0 d = true) (h2 : PyData.depth d ≤ 20) : SeqAt.shaped d = true := by
  unfold SeqAt.shaped
  rw [h1, Bool.true_and]
  exact decide_eq_true (by omega)
theorem o_eq : Op2 G (rEqD G.K) qEq := by
  intro W m h H σ v w x y Q S r1 r2 p
  unfold qEq at p
  cases e : dataB 9 h v && dataB 9 h w with
  | false => rw [e] at p; exact p.elim
  | true =>
    rw [e] at p
    obtain ⟨a1, a2⟩ := Bool.and_eq_true_iff.mp e
    obtain ⟨b1, b2, b3⟩ := data_ok S 9 v x a1 r1
    obtain ⟨c1, c2, c3⟩ := data_ok S 9 w y a2 r2
    exact ⟨_, _, b1, c1, shaped_ok b2 (by omega), shaped_ok c2 (by omega), RP.now p S (by simp only [RV]; rw [eq_ok 9 v w a1 a2])⟩
theorem o_ne : Op2 G (rNeD G.K) qNe := by
  intro W m h H σ v w x y Q S r1 r2 p
  unfold qNe at p
  cases e : dataB 9 h v && dataB 9 h w with
  | false => rw [e] at p; exact p.elim
  | true =>
    rw [e] at p
    obtain ⟨a1, a2⟩ := Bool.and_eq_true_iff.mp e
    obtain ⟨b1, b2, b3⟩ := data_ok S 9 v x a1 r1
    obtain ⟨c1, c2, c3⟩ := data_ok S 9 w y a2 r2
    exact ⟨_, _, b1, c1, shaped_ok b2 (by omega), shaped_ok c2 (by omega), RP.now p S (by simp only [RV]; rw [eq_ok 9 v w a1 a2])⟩
/-- a list of data -/
theorem seq_data (S : Sim G m h H) {v : MV} {x : V} {ys : List MV} (es : seqOf h v = some ys) (r : RV G m H v x) (hd : ys.all (dataB 9 h) = true) :
    ∃ a, x = .ref a ∧ Dp G.K H x (.list (ys.map (toD 9 h))) ∧ SeqAt.shaped (.list (ys.map (toD 9 h))) = true := by
  have fin : ∀ (a : Addr) (us : List V), SqL G.K H a us → RVs G m H ys us → Dp G.K H (.ref a) (.list (ys.map (toD 9 h))) ∧ SeqAt.shaped (.list (ys.map (toD 9 h))) = true := fun a us q rs => by
    obtain ⟨b1, b2, b3⟩ := datas_ok (data_ok S 9) ys us hd rs
    refine ⟨.lst q b1, shaped_ok (by simpa [PyData.canLay0] using b2) ?_⟩
    simp only [PyData.depth]; omega
  cases v with
  | flst xs =>
    cases es
    simp only [RV] at r
    obtain ⟨a, us, rfl, ha, rs⟩ := r
    exact ⟨a, rfl, fin a us ha.sq rs⟩
  | ref n =>
    unfold seqOf at es
    dsimp only at es
    cases eg : h.get n with
    | none => rw [eg] at es; cases es
    | some o =>
      rw [eg] at es
      cases o with
      | lst xs =>
        cases es
        obtain ⟨a, us, _, rfl, ha, rs⟩ := S.lst eg r
        exact ⟨a, rfl, fin a us (SqL.of ha) rs⟩
      | _ => cases es
  | _ => cases es
theorem any_eq {v : MV} (hv : dataB 9 h v = true) : ∀ ys : List MV, ys.all (dataB 9 h) = true → ((ys.map (toD 9 h)).any fun z => PyData.eqv z (toD 9 h v)) = ys.any fun y => eqB 9 h y v
  | [], _ => rfl
  | y :: ys, e => by
    rw [List.all_cons, Bool.and_eq_true] at e
    rw [List.map_cons, List.any_cons, List.any_cons, any_eq hv ys e.2, eq_ok 9 y v e.1 hv]
theorem o_inL : Op2 G (rInD G.K) qInL := by
  intro W m h H σ v w x y Q S r1 r2 p
  unfold qInL at p
  cases es : seqOf h w with
  | none => rw [es] at p; exact p.elim
  | some ys =>
    rw [es] at p
    dsimp only at p
    cases e : dataB 9 h v && ys.all (dataB 9 h) with
    | false => rw [e] at p; exact p.elim
    | true =>
      rw [e] at p
      obtain ⟨a1, a2⟩ := Bool.and_eq_true_iff.mp e
      obtain ⟨b1, b2, b3⟩ := data_ok S 9 v x a1 r1
      obtain ⟨a, rfl, d1, d2⟩ := seq_data S es r2 a2
      exact ⟨_, _, b1, d1, shaped_ok b2 (by omega), d2, RP.now p S (by simp only [RV]; rw [any_eq a1 ys a2])⟩
theorem o_inS : Op2 G (fun x y H Q => ∃ (c : Nat) (z : PySem.Str), x = .str ⟨#[c]⟩ ∧ y = .str z ∧ Q (.bl (decide (c ∈ z.cps.toList))) H) qInS := by
  intro W m h H σ v w x y Q S r1 r2 p
  cases v with
  | str a =>
    cases a with
    | nil => exact p.elim
    | cons c r =>
      cases r with
      | cons _ _ => exact p.elim
      | nil =>
        cases w with
        | str s =>
          simp only [RV] at r1 r2
          refine ⟨c, _, r1, r2, RP.now p S ?_⟩
          simp only [RV]
          congr 1
          rw [Bool.eq_iff_iff]
          simp only [decide_eq_true_eq, List.any_eq_true]
          constructor
          · intro q; exact ⟨c, q, Nat.beq_refl c⟩
          · rintro ⟨d, q, e⟩
            have : d = c := Nat.eq_of_beq_eq_true e
            subst this; exact q
        | _ => exact p.elim
  | _ => exact p.elim
theorem o_isN : Op2 G (fun x y H Q => y = .non ∧ Q (.bl (decide (x = .non))) H) qIsN := by
  intro W m h H σ v w x y Q S r1 r2 p
  cases w with
  | non =>
    simp only [RV] at r2
    suffices p2 : RP G W (RV G) m H σ (Res.ok (MV.bl (decide (x = V.non))) h) Q from ⟨r2, RP.now p2 S (by simp [RV])⟩
    cases v with
    | non => simp only [RV] at r1; subst r1; exact p
    | bl _ => simp only [RV] at r1; subst r1; exact p
    | int _ => simp only [RV] at r1; subst r1; exact p
    | str _ => simp only [RV] at r1; subst r1; exact p
    | ref _ => simp only [RV] at r1; obtain ⟨_, _, rfl⟩ := r1; exact p
    | tup _ => simp only [RV] at r1; obtain ⟨_, _, rfl, _⟩ := r1; exact p
    | flst _ => simp only [RV] at r1; obtain ⟨_, _, rfl, _⟩ := r1; exact p
  | _ => exact p.elim
theorem o_notN : Op2 G (fun x y H Q => y = .non ∧ Q (.bl (!decide (x = .non))) H) qNotN := by
  intro W m h H σ v w x y Q S r1 r2 p
  cases w with
  | non =>
    simp only [RV] at r2
    suffices p2 : RP G W (RV G) m H σ (Res.ok (MV.bl (!decide (x = V.non))) h) Q from ⟨r2, RP.now p2 S (by simp [RV])⟩
    cases v with
    | non => simp only [RV] at r1; subst r1; exact p
    | bl _ => simp only [RV] at r1; subst r1; exact p
    | int _ => simp only [RV] at r1; subst r1; exact p
    | str _ => simp only [RV] at r1; subst r1; exact p
    | ref _ => simp only [RV] at r1; obtain ⟨_, _, rfl⟩ := r1; exact p
    | tup _ => simp only [RV] at r1; obtain ⟨_, _, rfl, _⟩ := r1; exact p
    | flst _ => simp only [RV] at r1; obtain ⟨_, _, rfl, _⟩ := r1; exact p
  | _ => exact p.elim
end
end KA

set_option Elab.async false
set_option autoImplicit false
set_option linter.all false
set_option maxRecDepth 100000
set_option maxHeartbeats 400000
/-! KBlt: subscripts, slices, built-ins, methods of lists. -/
namespace KA
open PySem PySem.Spec PyProof.Rows L2
section
variable {X : Cx} {G : GC} {W : XW} {e : Expr} {fa fb : EM} {am : AM}
/-! ### subscripts -/
theorem ixM_eq (n : Nat) (i : Int) : ixM n i = ixN n i := by
  unfold ixM ixN
  by_cases h : 0 ≤ i
  · rw [decide_eq_true h, if_pos h]
    dsimp only
    by_cases c : i < n
    · rw [if_pos c, show Nat.blt i.toNat n = true from Nat.ble_eq_true_of_le (by omega)]
    · rw [if_neg c]
      cases q : Nat.blt i.toNat n with
      | false => rfl
      | true =>
        have : i.toNat < n := Nat.le_of_ble_eq_true q
        omega
  · rw [decide_eq_false h, if_neg h]
    dsimp only
    by_cases c : -(n : Int) ≤ i
    · rw [if_pos c, decide_eq_true c]
    · rw [if_neg c, decide_eq_false c]
theorem atM_of {m : List Addr} {H : Hp} {xs : List MV} {us : List V} {i : Int} {v : MV} (r : RVs G m H xs us) (e : atM xs i = some v) : ∃ u, atI us i = some u ∧ RV G m H v u := by
  unfold atM at e
  rw [ixM_eq] at e
  unfold atI
  rw [r.length]
  cases q : ixN xs.length i with
  | none => rw [q] at e; cases e
  | some j =>
    rw [q] at e
    obtain ⟨u, e1, e2⟩ := r.get e
    exact ⟨u, e1, e2⟩
/-- the list that a value is -/
theorem seq_sq {m : List Addr} {h : MH} {H : Hp} (S : Sim G m h H) {v : MV} {x : V} {ys : List MV} (es : seqOf h v = some ys) (r : RV G m H v x) :
    ∃ a us, x = .ref a ∧ SqL G.K H a us ∧ RVs G m H ys us := by
  cases v with
  | flst xs =>
    cases es
    simp only [RV] at r
    obtain ⟨a, us, rfl, ha, rs⟩ := r
    exact ⟨a, us, rfl, ha.sq, rs⟩
  | ref n =>
    unfold seqOf at es
    dsimp only at es
    cases eg : h.get n with
    | none => rw [eg] at es; cases es
    | some o =>
      rw [eg] at es
      cases o with
      | lst xs =>
        cases es
        obtain ⟨a, us, _, rfl, ha, rs⟩ := S.lst eg r
        exact ⟨a, us, rfl, SqL.of ha, rs⟩
      | _ => cases es
  | _ => cases es
abbrev rIxM (K : PySem.W.Frag) : R2 := fun x y H Q => rIxL K x y H Q ∨ rIxT K x y H Q
theorem ix_M : IxR X (rIxM X.K) := by
  intro value slice pins s σ H x y v u Q I rx ry h hs
  rcases h with h | h
  · exact ix_list value slice pins s σ H x y v u Q I rx ry h hs
  · exact ix_tup value slice pins s σ H x y v u Q I rx ry h hs
theorem o_ix : Op2 G (rIxM G.K) qIx := by
  intro W m h H σ v w x y Q S r1 r2 p
  unfold qIx at p
  cases w with
  | int i =>
    simp only [RV] at r2
    subst r2
    have byseq : ∀ xs, seqOf h v = some xs → RP G W (RV G) m H σ (match atM xs i with | some x => Res.ok x h | none => Res.bad) Q → rIxM G.K x (.int i) H Q := fun xs es p => by
      obtain ⟨a, us, rfl, sq, rs⟩ := seq_sq S es r1
      cases ea : atM xs i with
      | none => rw [ea] at p; exact False.elim p
      | some z =>
        rw [ea] at p
        obtain ⟨u, e1, e2⟩ := atM_of rs ea
        exact .inl ⟨a, us, i, u, rfl, rfl, sq, e1, RP.now p S e2⟩
    cases v with
    | tup xs =>
      dsimp only at p
      simp only [RV] at r1
      obtain ⟨a, us, rfl, ha, rs⟩ := r1
      cases ea : atM xs i with
      | none => rw [ea] at p; exact False.elim p
      | some z =>
        rw [ea] at p
        obtain ⟨u, e1, e2⟩ := atM_of rs ea
        exact .inr ⟨a, us, i, u, rfl, rfl, SqT.of ha, e1, RP.now p S e2⟩
    | flst xs => exact byseq xs rfl p
    | ref n =>
      dsimp only at p
      cases es : seqOf h (.ref n) with
      | none => rw [es] at p; exact False.elim p
      | some xs => rw [es] at p; exact byseq xs es p
    | _ => exact False.elim p
  | _ => exact False.elim p

/-! ### slices -/
theorem sIxM_eq (n d : Nat) (o : Option Int) : sIxM n d o = HT.sIx n d o := by
  cases o with
  | none => rfl
  | some v =>
    unfold sIxM HT.sIx
    dsimp only
    by_cases h : v < 0
    · rw [decide_eq_true h, if_pos h]
    · rw [decide_eq_false h, if_neg h]
theorem cut_of {m : List Addr} {H : Hp} {xs : List MV} {us : List V} (r : RVs G m H xs us) (lo hi : Option Int) : RVs G m H (cutM xs lo hi) (cutV us lo hi) := by
  unfold cutM cutV
  rw [sIxM_eq, sIxM_eq, r.length]
  exact (r.drop _).take _
def tPartM (G : GC) (W : XW) (o : Option EM) : TO := match o with
  | none => tNoPart
  | some f => tPart (tM G W f)
abbrev rSlM (K : PySem.W.Frag) : V → Option Int → Option Int → Hp → VK → Prop := fun x lo hi H Q => rSlL K x lo hi H Q ∨ rSlA K x lo hi H Q
theorem sl_M : SlR X (rSlM X.K) := sl_list.or sl_tupA
theorem part_of {α : Type} {o : Option EM} {σ : L2.St} {m : List Addr} {h : MH} {H : Hp} {σm : Sl} {k : Option Int → MH → Res α} {β : Type} {Rel : List Addr → Hp → α → β → Prop} {Q : β → Hp → Prop} (S : Sim G m h H) (R : RS G m H σm σ)
    (p : RP G W Rel m H σ ((match o with
      | none => Res.ok none h
      | some e => (e σm h).bind fun x h2 => match x with
        | .int i => Res.ok (some i) h2
        | _ => .bad).bind k) Q) :
    tPartM G W o σ H fun l H1 => ∃ m1 h1, Ex G m H m1 H1 ∧ Sim G m1 h1 H1 ∧ RP G W Rel m1 H1 σ (k l h1) Q := by
  cases o with
  | none => exact ⟨m, h, .refl, S, p⟩
  | some f =>
    have p2 : RP G W Rel m H σ ((f σm h).bind fun x h2 => (match x with
        | .int i => Res.ok (some i) h2
        | _ => .bad).bind k) Q := by
      cases ef : f σm h with
      | ok x h2 => dsimp only at p; rw [ef] at p; exact p
      | exc c v h2 => dsimp only at p; rw [ef] at p; exact p
      | bad => dsimp only at p; rw [ef] at p; exact p
    refine ⟨m, h, σm, S, R, (RP.bind (Rel := RV G) p2).imp fun x H1 ⟨m1, h1, v, x1, S1, r1, p1⟩ => ?_⟩
    cases v with
    | int i =>
      simp only [RV] at r1
      exact ⟨i, r1, m1, h1, x1, S1, p1⟩
    | _ => exact False.elim p1
theorem k_sl {lo hi : Option EM} {K : PySem.W.Frag} (hK : K = G.K) (h : PE X e (L2.tSl (rSlM K) (tM G W fa) (tPartM G W lo) (tPartM G W hi))) : PE X e (tM G W (eSl fa lo hi)) := h.wk fun σ H Q q => by
  subst hK
  refine (tMR.bind (Rel := RV G) (f := fa) (k := fun σ v h1 => (match lo with
    | none => Res.ok none h1
    | some e => (e σ h1).bind fun x h2 => match x with
      | .int i => Res.ok (some i) h2
      | _ => .bad).bind fun l h2 =>
  (match hi with
    | none => Res.ok none h2
    | some e => (e σ h2).bind fun x h3 => match x with
      | .int i => Res.ok (some i) h3
      | _ => .bad).bind fun u h3 => match v with
    | MV.tup xs => Res.ok (MV.tup (cutM xs l u)) h3
    | v => (match seqOf h3 v with
      | some xs => Res.ok (MV.ref h3.n) (h3.push (.lst (cutM xs l u)))
      | none => .bad)) q).imp fun x H1 ⟨m1, h1, v, σm, S1, R1, r1, p1⟩ => ?_
  have q2 := part_of S1 R1 p1
  have mono : ∀ {o : Option EM} {σ : L2.St} {H : Hp} {Q Q' : Option Int → Hp → Prop}, tPartM G W o σ H Q → (∀ l H, Q l H → Q' l H) → tPartM G W o σ H Q' := fun {o σ H Q Q'} q k => by
    cases o with
    | none => exact k _ _ q
    | some f => exact tMR.imp q fun x H ⟨i, e, q⟩ => ⟨i, e, k _ _ q⟩
  refine mono q2 fun l H2 ⟨m2, h2, x2, S2, p2⟩ => ?_
  have q3 := part_of S2 (R1.mono x2.toLe) p2
  refine mono q3 fun u H3 ⟨m3, h3, x3, S3, p3⟩ => ?_
  have r3 := (r1.mono x2.toLe).mono x3.toLe
  have byseq : ∀ xs, seqOf h3 v = some xs → RP G W (RV G) m3 H3 σ (.ok (.ref h3.n) (h3.push (.lst (cutM xs l u)))) Q → rSlM G.K x l u H3 Q := fun xs es p => by
    obtain ⟨a, us, rfl, sq, rs⟩ := seq_sq S3 es r3
    exact .inl ⟨a, us, rfl, sq, fun p' hp' => RP.newLst p S3 (cut_of rs l u) hp'⟩
  cases v with
  | tup xs =>
    simp only [RV] at r3
    obtain ⟨a, us, rfl, ha, rs⟩ := r3
    refine .inr ⟨a, us, rfl, SqT.of ha, fun hw => ?_, fun _ p' hp' => RP.newTup p3 S3 (cut_of rs l u) hp'⟩
    refine RP.now p3 S3 ?_
    have ec : cutM xs l u = xs := by
      unfold cutM
      rw [sIxM_eq, sIxM_eq, ← rs.length, hw.1, hw.2, List.drop_zero, Nat.sub_zero, rs.length, List.take_length]
    rw [ec]
    simp only [RV]
    exact ⟨a, us, rfl, ha, rs⟩
  | flst xs => exact byseq xs rfl p3
  | ref n =>
    dsimp only at p3
    cases es : seqOf h3 (.ref n) with
    | none => rw [es] at p3; exact False.elim p3
    | some xs => rw [es] at p3; exact byseq xs es p3
  | _ => exact False.elim p3
theorem k_rev {K : PySem.W.Frag} (hK : K = G.K) (h : PE X e (L2.tRevL K (tM G W fa))) : PE X e (tM G W (e1 qRev fa)) := h.wk fun σ H Q q => by
  subst hK
  refine (tMR.bind (Rel := RV G) (k := fun _ v h1 => qRev v h1) q).imp fun x H1 ⟨m1, h1, v, σm, S1, R1, r1, p1⟩ => ?_
  unfold qRev at p1
  cases es : seqOf h1 v with
  | none => rw [es] at p1; exact False.elim p1
  | some xs =>
    rw [es] at p1
    obtain ⟨a, us, rfl, sq, rs⟩ := seq_sq S1 es r1
    exact ⟨a, us, rfl, sq, fun p' hp' => RP.newLst p1 S1 rs.reverse hp'⟩

/-! ### built-ins -/
def CallG (G : GC) (r : List V → Hp → VK → Prop) (g : FM) : Prop :=
  ∀ (W : XW) (m : List Addr) (h : MH) (H : Hp) (σ : L2.St) (vs : List MV) (xs : List V) (Q : VK), Sim G m h H → RVs G m H vs xs → RP G W (RV G) m H σ (g vs h) Q → r xs H Q
theorem k_cb {r : List V → Hp → VK → Prop} {g : FM} (hr : CallG G r g) (h : PE X e (tCB r (tMA G W am))) : PE X e (tM G W (eA g am)) := h.wk fun σ H Q q =>
  (eA_of q).imp fun xs H1 ⟨m, h, vs, S, r, p⟩ => hr W m h H1 σ vs xs Q S r p
theorem one_inv {m : List Addr} {H : Hp} {v : MV} {xs : List V} (r : RVs G m H [v] xs) : ∃ x, xs = [x] ∧ RV G m H v x := by
  obtain ⟨y, ys, rfl, r1, r2⟩ := r.cons_inv
  rw [r2.nil_inv]
  exact ⟨y, rfl, r1⟩
theorem two_inv {m : List Addr} {H : Hp} {v w : MV} {xs : List V} (r : RVs G m H [v, w] xs) : ∃ x y, xs = [x, y] ∧ RV G m H v x ∧ RV G m H w y := by
  obtain ⟨y, ys, rfl, r1, r2⟩ := r.cons_inv
  obtain ⟨z, rfl, r3⟩ := one_inv r2
  exact ⟨y, z, rfl, r1, r3⟩
theorem call1 {r : List V → Hp → VK → Prop} {g : MV → MH → Res MV} (k : ∀ (W : XW) (m : List Addr) (h : MH) (H : Hp) (σ : L2.St) (v : MV) (x : V) (Q : VK), Sim G m h H → RV G m H v x → RP G W (RV G) m H σ (g v h) Q → r [x] H Q) : CallG G r (f1 g) := by
  intro W m h H σ vs xs Q S rr p
  cases vs with
  | nil => exact False.elim p
  | cons v rest =>
    cases rest with
    | cons _ _ => exact False.elim p
    | nil =>
      obtain ⟨x, rfl, r1⟩ := one_inv rr
      exact k W m h H σ v x Q S r1 p
theorem call2 {r : List V → Hp → VK → Prop} {g : MV → MV → MH → Res MV} (k : ∀ (W : XW) (m : List Addr) (h : MH) (H : Hp) (σ : L2.St) (v w : MV) (x y : V) (Q : VK), Sim G m h H → RV G m H v x → RV G m H w y → RP G W (RV G) m H σ (g v w h) Q → r [x, y] H Q) : CallG G r (f2 g) := by
  intro W m h H σ vs xs Q S rr p
  cases vs with
  | nil => exact False.elim p
  | cons v rest =>
    cases rest with
    | nil => exact False.elim p
    | cons w rest =>
      cases rest with
      | cons _ _ => exact False.elim p
      | nil =>
        obtain ⟨x, y, rfl, r1, r2⟩ := two_inv rr
        exact k W m h H σ v w x y Q S r1 r2 p
abbrev rLenM (K : PySem.W.Frag) : List V → Hp → VK → Prop := fun xs H Q => (∃ x n, xs = [x] ∧ LenV K x H n ∧ Q (.int n) H) ∨ ((∃ a kvs, xs = [V.ref a] ∧ H a = some (.dK kvs) ∧ Q (.int kvs.length) H) ∨ rLenT xs H Q)
theorem call_lenM : CallR X (.builtin "len") (rLenM X.K) := call_len.or (call_lenD.or call_len_dT)
theorem Sim.dct {m : List Addr} {h : MH} {H : Hp} (S : Sim G m h H) {n : Nat} {tk lk : Bool} {kvs : List (MV × MV)} {y : V} (e : h.get n = some (.dct tk lk kvs)) (r : RV G m H (.ref n) y) :
    ∃ a w, m[n]? = some a ∧ y = .ref a ∧ DctR G m H tk kvs w ∧ LkR lk (H a) w := by
  obtain ⟨a, ea, w, q, eh⟩ := S.at_ n _ e
  simp only [RV] at r
  obtain ⟨b, eb, rfl⟩ := r
  rw [ea] at eb
  cases eb
  exact ⟨a, w, ea, rfl, q, eh⟩
theorem c_len : CallG G (rLenM G.K) qLen := call1 fun W m h H σ v x Q S r1 p => by
  unfold qLen1 at p
  cases v with
  | str s =>
    simp only [RV] at r1
    subst r1
    dsimp only at p
    rcases lim_cases s.length (Res.ok (MV.int s.length) h) with ⟨z, e1⟩ | e1
    · rw [e1] at p
      exact .inl ⟨_, s.length, rfl, ⟨by rw [str_len, sizeLine_eq]; exact z, (str_len s).symm⟩, RP.now p S (by simp [RV])⟩
    · rw [e1] at p; exact False.elim p
  | tup ts =>
    simp only [RV] at r1
    obtain ⟨a, us, rfl, ha, rs⟩ := r1
    exact .inl ⟨_, ts.length, rfl, .inr ⟨us, SqT.of ha, rs.length.symm⟩, RP.now p S (by simp [RV])⟩
  | flst ts =>
    simp only [RV] at r1
    obtain ⟨a, us, rfl, ha, rs⟩ := r1
    exact .inl ⟨_, ts.length, rfl, .inl ⟨us, ha.sq, rs.length.symm⟩, RP.now p S (by simp [RV])⟩
  | ref n =>
    dsimp only at p
    cases eg : h.get n with
    | none => rw [eg] at p; exact False.elim p
    | some o =>
      rw [eg] at p
      cases o with
      | lst ts =>
        obtain ⟨a, us, _, rfl, ha, rs⟩ := S.lst eg r1
        exact .inl ⟨_, ts.length, rfl, .inl ⟨us, SqL.of ha, rs.length.symm⟩, RP.now p S (by simp [RV])⟩
      | dct tk lk kvs =>
        cases lk with
        | true => exact False.elim p
        | false =>
          obtain ⟨a, w, _, rfl, dr, eh⟩ := S.dct eg r1
          cases tk with
          | false =>
            obtain ⟨ps, rfl, pr⟩ := dr
            exact .inr (.inl ⟨a, ps, rfl, eh, RP.now p S (by simp only [RV]; rw [pr.length])⟩)
          | true =>
            obtain ⟨ps, rfl, pr⟩ := dr
            exact .inr (.inr ⟨a, ps, rfl, eh, RP.now p S (by simp only [RV]; rw [pr.length])⟩)
      | ins _ _ => exact False.elim p
  | non => exact False.elim p
  | bl _ => exact False.elim p
  | int _ => exact False.elim p
theorem c_abs : CallG G (fun xs H Q => ∃ i, xs = [.int i] ∧ Q (.int (if i < 0 then -i else i)) H) qAbs := call1 fun W m h H σ v x Q S r1 p => by
  unfold qAbs1 at p
  cases v with
  | int i =>
    simp only [RV] at r1
    subst r1
    refine ⟨i, rfl, RP.now p S ?_⟩
    simp only [RV]
    by_cases c : i < 0
    · rw [if_pos c, decide_eq_true c]
    · rw [if_neg c, decide_eq_false c]
  | _ => exact False.elim p
theorem c_max2 : CallG G (fun xs H Q => ∃ i j, xs = [.int i, .int j] ∧ Q (.int (if j > i then j else i)) H) qMax2 := call2 fun W m h H σ v w x y Q S r1 r2 p => by
  unfold qMax2' at p
  cases v with
  | int i =>
    cases w with
    | int j =>
      simp only [RV] at r1 r2
      subst r1 r2
      refine ⟨i, j, rfl, RP.now p S ?_⟩
      simp only [RV]
      by_cases c : i < j
      · rw [if_pos c, decide_eq_true c]
      · rw [if_neg c, decide_eq_false c]
    | _ => exact False.elim p
  | _ => exact False.elim p
theorem c_min2 : CallG G (fun xs H Q => ∃ i j, xs = [.int i, .int j] ∧ Q (.int (if j < i then j else i)) H) qMin2 := call2 fun W m h H σ v w x y Q S r1 r2 p => by
  unfold qMin2' at p
  cases v with
  | int i =>
    cases w with
    | int j =>
      simp only [RV] at r1 r2
      subst r1 r2
      refine ⟨i, j, rfl, RP.now p S ?_⟩
      simp only [RV]
      by_cases c : j < i
      · rw [if_pos c, decide_eq_true c]
      · rw [if_neg c, decide_eq_false c]
    | _ => exact False.elim p
  | _ => exact False.elim p
theorem ints_of {m : List Addr} {H : Hp} : ∀ {xs : List MV} {us : List V} {is : List Int}, RVs G m H xs us → ints? xs = some is → us = is.map V.int
  | [], us, is, r, e => by cases e; exact r.nil_inv
  | x :: xs, us, is, r, e => by
    obtain ⟨y, ys, rfl, r1, r2⟩ := r.cons_inv
    cases x with
    | int i =>
      unfold ints? at e
      cases q : ints? xs with
      | none => rw [q] at e; cases e
      | some js =>
        rw [q] at e
        cases e
        simp only [RV] at r1
        rw [r1, ints_of r2 q]
        rfl
    | _ => cases e
theorem bls_of {m : List Addr} {H : Hp} : ∀ {xs : List MV} {us : List V} {is : List Bool}, RVs G m H xs us → bls? xs = some is → us = is.map V.bl
  | [], us, is, r, e => by cases e; exact r.nil_inv
  | x :: xs, us, is, r, e => by
    obtain ⟨y, ys, rfl, r1, r2⟩ := r.cons_inv
    cases x with
    | bl i =>
      unfold bls? at e
      cases q : bls? xs with
      | none => rw [q] at e; cases e
      | some js =>
        rw [q] at e
        cases e
        simp only [RV] at r1
        rw [r1, bls_of r2 q]
        rfl
    | _ => cases e
theorem seq1_of {m : List Addr} {h : MH} {H : Hp} (S : Sim G m h H) {vs ys : List MV} {xs : List V} (r : RVs G m H vs xs) (e : seq1 h vs = some ys) : ∃ a us, xs = [.ref a] ∧ SqL G.K H a us ∧ RVs G m H ys us := by
  cases vs with
  | nil => cases e
  | cons v rest =>
    cases rest with
    | cons _ _ => cases e
    | nil =>
      obtain ⟨x, rfl, r1⟩ := one_inv r
      obtain ⟨a, us, rfl, q, rs⟩ := seq_sq S e r1
      exact ⟨a, us, rfl, q, rs⟩
theorem qInts_of {g : List Int → Option Int} {m : List Addr} {h : MH} {H : Hp} {σ : L2.St} {vs : List MV} {xs : List V} {Q : VK} (S : Sim G m h H) (r : RVs G m H vs xs) (p : RP G W (RV G) m H σ (qInts g vs h) Q) :
    ∃ a is k, xs = [.ref a] ∧ SqL G.K H a (is.map V.int) ∧ g is = some k ∧ Q (.int k) H := by
  unfold qInts at p
  cases e1 : seq1 h vs with
  | none => rw [e1] at p; exact False.elim p
  | some ys =>
    rw [e1] at p
    dsimp only at p
    cases e2 : ints? ys with
    | none => rw [e2] at p; exact False.elim p
    | some is =>
      rw [e2] at p
      dsimp only at p
      cases e3 : g is with
      | none => rw [e3] at p; exact False.elim p
      | some k =>
        rw [e3] at p
        obtain ⟨a, us, rfl, q, rs⟩ := seq1_of S r e1
        rw [ints_of rs e2] at q
        exact ⟨a, is, k, rfl, q, e3, RP.now p S (by simp [RV])⟩
theorem c_sum : CallG G (rSum G.K) (qInts sumI) := fun W m h H σ vs xs Q S r p => by
  obtain ⟨a, is, k, rfl, q, e, z⟩ := qInts_of S r p
  cases e
  exact ⟨a, is, rfl, q, z⟩
theorem max_fold : ∀ (r : List Int) (i : Int), let k := r.foldl (fun a b => match decide (a < b) with | true => b | false => a) i; (k = i ∨ k ∈ r) ∧ i ≤ k ∧ ∀ y ∈ r, y ≤ k
  | [], i => ⟨.inl rfl, Int.le_refl _, fun y h => by cases h⟩
  | b :: r, i => by
    dsimp only [List.foldl_cons]
    by_cases c : i < b
    · rw [decide_eq_true c]
      obtain ⟨h1, h2, h3⟩ := max_fold r b
      dsimp only at h1 h2 h3 ⊢
      refine ⟨.inr ?_, by omega, fun y hy => ?_⟩
      · rcases h1 with h1 | h1
        · rw [h1]; exact List.mem_cons_self
        · exact List.mem_cons_of_mem _ h1
      · rcases List.mem_cons.mp hy with rfl | hy
        · exact h2
        · exact h3 y hy
    · rw [decide_eq_false c]
      obtain ⟨h1, h2, h3⟩ := max_fold r i
      dsimp only at h1 h2 h3 ⊢
      refine ⟨?_, h2, fun y hy => ?_⟩
      · rcases h1 with h1 | h1
        · exact .inl h1
        · exact .inr (List.mem_cons_of_mem _ h1)
      · rcases List.mem_cons.mp hy with rfl | hy
        · omega
        · exact h3 y hy
theorem min_fold : ∀ (r : List Int) (i : Int), let k := r.foldl (fun a b => match decide (b < a) with | true => b | false => a) i; (k = i ∨ k ∈ r) ∧ k ≤ i ∧ ∀ y ∈ r, k ≤ y
  | [], i => ⟨.inl rfl, Int.le_refl _, fun y h => by cases h⟩
  | b :: r, i => by
    dsimp only [List.foldl_cons]
    by_cases c : b < i
    · rw [decide_eq_true c]
      obtain ⟨h1, h2, h3⟩ := min_fold r b
      dsimp only at h1 h2 h3 ⊢
      refine ⟨.inr ?_, by omega, fun y hy => ?_⟩
      · rcases h1 with h1 | h1
        · rw [h1]; exact List.mem_cons_self
        · exact List.mem_cons_of_mem _ h1
      · rcases List.mem_cons.mp hy with rfl | hy
        · exact h2
        · exact h3 y hy
    · rw [decide_eq_false c]
      obtain ⟨h1, h2, h3⟩ := min_fold r i
      dsimp only at h1 h2 h3 ⊢
      refine ⟨?_, h2, fun y hy => ?_⟩
      · rcases h1 with h1 | h1
        · exact .inl h1
        · exact .inr (List.mem_cons_of_mem _ h1)
      · rcases List.mem_cons.mp hy with rfl | hy
        · omega
        · exact h3 y hy
theorem c_max : CallG G (rMax G.K) (qInts maxI) := fun W m h H σ vs xs Q S r p => by
  obtain ⟨a, is, k, rfl, q, e, z⟩ := qInts_of S r p
  cases is with
  | nil => cases e
  | cons i r' =>
    obtain ⟨h1, h2, h3⟩ := max_fold r' i
    cases e
    refine ⟨a, i :: r', rfl, q, by simp, fun n hn hx => ?_⟩
    have e0 : n = i ∨ n ∈ r' := List.mem_cons.mp hn
    have e1 := e0.elim (fun q => q ▸ h2) (fun q => h3 n q)
    have e2 := hx _ (h1.elim (fun q => List.mem_cons.mpr (.inl q)) fun q => List.mem_cons_of_mem _ q)
    have e3 := Int.le_antisymm e1 e2
    rw [e3]; exact z
theorem c_min : CallG G (rMin G.K) (qInts minI) := fun W m h H σ vs xs Q S r p => by
  obtain ⟨a, is, k, rfl, q, e, z⟩ := qInts_of S r p
  cases is with
  | nil => cases e
  | cons i r' =>
    obtain ⟨h1, h2, h3⟩ := min_fold r' i
    cases e
    refine ⟨a, i :: r', rfl, q, by simp, fun n hn hx => ?_⟩
    have e0 : n = i ∨ n ∈ r' := List.mem_cons.mp hn
    have e1 := e0.elim (fun q => q ▸ h2) (fun q => h3 n q)
    have e2 := hx _ (h1.elim (fun q => List.mem_cons.mpr (.inl q)) fun q => List.mem_cons_of_mem _ q)
    have e3 := Int.le_antisymm e2 e1
    rw [e3]; exact z
theorem qBls_of {g : List Bool → Bool} {m : List Addr} {h : MH} {H : Hp} {σ : L2.St} {vs : List MV} {xs : List V} {Q : VK} (S : Sim G m h H) (r : RVs G m H vs xs) (p : RP G W (RV G) m H σ (qBls g vs h) Q) :
    ∃ a is, xs = [.ref a] ∧ SqL G.K H a (is.map V.bl) ∧ Q (.bl (g is)) H := by
  unfold qBls at p
  cases e1 : seq1 h vs with
  | none => rw [e1] at p; exact False.elim p
  | some ys =>
    rw [e1] at p
    dsimp only at p
    cases e2 : bls? ys with
    | none => rw [e2] at p; exact False.elim p
    | some is =>
      rw [e2] at p
      obtain ⟨a, us, rfl, q, rs⟩ := seq1_of S r e1
      rw [bls_of rs e2] at q
      exact ⟨a, is, rfl, q, RP.now p S (by simp [RV])⟩
theorem c_all : CallG G (rAll G.K) (qBls allB) := fun W m h H σ vs xs Q S r p => qBls_of S r p
theorem c_any : CallG G (rAny G.K) (qBls anyB) := fun W m h H σ vs xs Q S r p => qBls_of S r p
abbrev rListM (K : PySem.W.Frag) : List V → Hp → VK → Prop := fun xs H Q => (∃ p ys, xs = [.ref p] ∧ (SqL K H p ys ∨ SqT K H p ys) ∧ ∀ l, H l = none → Q (.ref l) (upd H l (.lst ys))) ∨ (∃ (a : Addr) (kvs : List (Key × V)), xs = [.ref a] ∧ Rd H a (.dK kvs) ∧ ∀ p, H p = none → Q (.ref p) (upd H p (.lst (kvs.map fun kv => kV kv.1))))
theorem kr_rv {m : List Addr} {H : Hp} {v : MV} {k : Key} (r : KR v k) : RV G m H v (kV k) := by
  cases v with
  | int i => have e : k = .inl i := r; subst e; simp [RV, kV]
  | str s => have e : k = .inr ⟨s.toArray⟩ := r; subst e; simp [RV, kV]
  | _ => exact r.elim
theorem keys_rvs {m : List Addr} {H : Hp} {kvs : List (MV × MV)} {ps : List (Key × V)} (pr : Paired (fun p q => KR p.1 q.1 ∧ RV G m H p.2 q.2) kvs ps) : RVs G m H (kvs.map (·.1)) (ps.map fun kv => kV kv.1) := by
  induction pr with
  | nil => exact .nil
  | cons r t ih => exact .cons (kr_rv r.1) ih
theorem c_list : CallG G (rListM G.K) qListOf := call1 fun W m h H σ v x Q S r1 p => by
  unfold qListOf1 at p
  cases v with
  | tup ts =>
    simp only [RV] at r1
    obtain ⟨a, us, rfl, ha, rs⟩ := r1
    exact .inl ⟨a, us, rfl, .inr (SqT.of ha), fun l hl => RP.newLst p S rs hl⟩
  | flst ts =>
    simp only [RV] at r1
    obtain ⟨a, us, rfl, ha, rs⟩ := r1
    exact .inl ⟨a, us, rfl, .inl ha.sq, fun l hl => RP.newLst p S rs hl⟩
  | ref n =>
    dsimp only at p
    cases eg : h.get n with
    | none => rw [eg] at p; exact False.elim p
    | some o =>
      rw [eg] at p
      cases o with
      | lst ts =>
        obtain ⟨a, us, _, rfl, ha, rs⟩ := S.lst eg r1
        exact .inl ⟨a, us, rfl, .inl (SqL.of ha), fun l hl => RP.newLst p S rs hl⟩
      | dct tk lk kvs =>
        cases tk with
        | true => exact False.elim p
        | false =>
          obtain ⟨a, w, _, rfl, ⟨ps, rfl, pr⟩, eh⟩ := S.dct eg r1
          refine .inr ⟨a, ps, rfl, ?_, fun l hl => RP.newLst p S (keys_rvs pr) hl⟩
          cases lk with
          | false => exact .inl eh
          | true => exact .inr eh
      | ins _ _ => exact False.elim p
  | non => exact False.elim p
  | bl _ => exact False.elim p
  | int _ => exact False.elim p
  | str _ => exact False.elim p
theorem c_tuple : CallG G (fun xs H Q => ∃ p ys, xs = [.ref p] ∧ ((SqL G.K H p ys ∧ ∀ l, H l = none → Q (.ref l) (upd H l (.tup ys))) ∨ (SqT G.K H p ys ∧ Q (.ref p) H))) qTupOf := call1 fun W m h H σ v x Q S r1 p => by
  unfold qTupOf1 at p
  cases v with
  | tup ts =>
    simp only [RV] at r1
    obtain ⟨a, us, rfl, ha, rs⟩ := r1
    exact ⟨a, us, rfl, .inr ⟨SqT.of ha, RP.now p S (by simp only [RV]; exact ⟨a, us, rfl, ha, rs⟩)⟩⟩
  | flst ts =>
    simp only [RV] at r1
    obtain ⟨a, us, rfl, ha, rs⟩ := r1
    exact ⟨a, us, rfl, .inl ⟨ha.sq, fun l hl => RP.newTup p S rs hl⟩⟩
  | ref n =>
    dsimp only at p
    cases eg : h.get n with
    | none => rw [eg] at p; exact False.elim p
    | some o =>
      rw [eg] at p
      cases o with
      | lst ts =>
        obtain ⟨a, us, _, rfl, ha, rs⟩ := S.lst eg r1
        exact ⟨a, us, rfl, .inl ⟨SqL.of ha, fun l hl => RP.newTup p S rs hl⟩⟩
      | dct _ _ _ => exact False.elim p
      | ins _ _ => exact False.elim p
  | non => exact False.elim p
  | bl _ => exact False.elim p
  | int _ => exact False.elim p
  | str _ => exact False.elim p

/-! ### methods of lists -/
theorem tyL {K : PySem.W.Frag} {a : Addr} {us : List V} {H : Hp} (h : SqL K H a us) : tyV K "list" (.ref a) H := .inl ⟨rfl, us, h⟩
/-- o.m(e): the receiver is a list -/
def BmG (G : GC) (r : V → List V → Hp → VK → Prop) (g : MV → FM) : Prop :=
  ∀ (W : XW) (m : List Addr) (h : MH) (H : Hp) (σ : L2.St) (v : MV) (x : V) (vs : List MV) (xs : List V) (Q : VK), Sim G m h H → RV G m H v x → RVs G m H vs xs → RP G W (RV G) m H σ (g v vs h) Q → r x xs H Q
/-- eBm where the receiver must be a list ahead of the arguments -/
theorem k_bm {r : V → List V → Hp → VK → Prop} {g : MV → FM} {K : PySem.W.Frag} (hK : K = G.K) (hr : BmG G r g) (h : PE X e (L2.tBM K "list" r (tM G W fa) (tMA G W am))) : PE X e (tM G W (eBmL g fa am)) := h.wk fun σ H Q q => by
  subst hK
  refine (tMR.bind (Rel := RV G) (k := fun σ v h1 => match seqOf h1 v with | some _ => (am σ h1).bind fun vs h2 => g v vs h2 | none => .bad) q).imp fun x H1 ⟨m1, h1, v, σm, S1, R1, r1, p1⟩ => ?_
  cases es : seqOf h1 v with
  | none => rw [es] at p1; exact False.elim p1
  | some ys =>
    rw [es] at p1
    obtain ⟨a, us, rfl, sq, rs⟩ := seq_sq S1 es r1
    refine ⟨tyL sq, m1, h1, σm, S1, R1, (RP.bind (Rel := RVs G) p1).imp fun xs H2 ⟨m2, h2, vs, x2, S2, r2, p2⟩ => ?_⟩
    exact hr W m2 h2 H2 σ v _ vs xs Q S2 (r1.mono x2.toLe) r2 p2
theorem k_bm0 {r : V → List V → Hp → VK → Prop} {g : MV → FM} {K : PySem.W.Frag} (hK : K = G.K) (hr : BmG G r g) (h : PE X e (L2.tBM0 K "list" r (tM G W fa))) : PE X e (tM G W (eBmL g fa aNil)) := h.wk fun σ H Q q => by
  subst hK
  refine (tMR.bind (Rel := RV G) (k := fun σ v h1 => match seqOf h1 v with | some _ => (aNil σ h1).bind fun vs h2 => g v vs h2 | none => .bad) q).imp fun x H1 ⟨m1, h1, v, σm, S1, R1, r1, p1⟩ => ?_
  cases es : seqOf h1 v with
  | none => rw [es] at p1; exact False.elim p1
  | some ys =>
    rw [es] at p1
    obtain ⟨a, us, rfl, sq, rs⟩ := seq_sq S1 es r1
    exact ⟨tyL sq, hr W m1 h1 H1 σ v _ [] [] Q S1 r1 .nil p1⟩
theorem write_lst {m : List Addr} {h : MH} {H : Hp} {σ : L2.St} {n : Nat} {a : Addr} {us : List V} {ys : List MV} {ts : List V} {v : MV} {x : V} {Q : VK} (S : Sim G m h H) (ea : m[n]? = some a) (ha : H a = some (.lst us)) (r : RVs G m H ys ts) (rv : RV G m H v x)
    (p : RP G W (RV G) m H σ (.ok v (h.set n (.lst ys))) Q) : Q x (upd H a (.lst ts)) := by
  have pl : Plain (H a) := by rw [ha]; trivial
  have x1 : Ex G m H m (upd H a (.lst ts)) := .upd a _ pl (.inl (List.mem_of_getElem? ea))
  exact p m _ x x1 (S.write ea pl.l ⟨ts, rfl, r.mono x1.toLe⟩) (rv.mono x1.toLe)
/-- one argument -/
theorem bm1 {r : V → List V → Hp → VK → Prop} {g : MV → MV → MH → Res MV} (k : ∀ (W : XW) (m : List Addr) (h : MH) (H : Hp) (σ : L2.St) (v w : MV) (x y : V) (Q : VK), Sim G m h H → RV G m H v x → RV G m H w y → RP G W (RV G) m H σ (g v w h) Q → r x [y] H Q) : BmG G r (fun v => f1 (g v)) := by
  intro W m h H σ v x vs xs Q S r1 rr p
  cases vs with
  | nil => exact False.elim p
  | cons w rest =>
    cases rest with
    | cons _ _ => exact False.elim p
    | nil =>
      obtain ⟨y, rfl, r2⟩ := one_inv rr
      exact k W m h H σ v w x y Q S r1 r2 p
theorem b_append : BmG G rAppend qAppend := bm1 fun W m h H σ v y x u Q S r1 ru p => by
  cases v with
  | ref n =>
    dsimp only at p
    cases eg : h.get n with
    | none => rw [eg] at p; exact False.elim p
    | some o =>
      rw [eg] at p
      cases o with
      | lst ys =>
        dsimp only at p
        rcases lim_cases (ys.length + 1) (Res.ok MV.non (h.set n (.lst (ys ++ [y])))) with ⟨z, e1⟩ | e1
        · rw [e1] at p
          obtain ⟨a, us, ea, rfl, ha, rs⟩ := S.lst eg r1
          exact ⟨a, us, u, rfl, rfl, ha, by rw [rs.length, sizeLine_eq]; omega, write_lst (x := V.non) S ea ha (rs.append (.cons ru .nil)) (by simp [RV]) p⟩
        · rw [e1] at p; exact False.elim p
      | _ => exact False.elim p
  | _ => exact False.elim p
theorem rvs_eraseIdx {m : List Addr} {H : Hp} : ∀ {xs : List MV} {us : List V} (i : Nat), RVs G m H xs us → RVs G m H (xs.eraseIdx i) (us.eraseIdx i)
  | [], us, i, r => by rw [r.nil_inv]; simpa using RVs.nil
  | x :: xs, us, 0, r => by obtain ⟨y, ys, rfl, _, r2⟩ := r.cons_inv; simpa using r2
  | x :: xs, us, i + 1, r => by
    obtain ⟨y, ys, rfl, r1, r2⟩ := r.cons_inv
    rw [List.eraseIdx_cons_succ, List.eraseIdx_cons_succ]
    exact .cons r1 (rvs_eraseIdx i r2)
theorem rvs_dropLast {m : List Addr} {H : Hp} {xs : List MV} {us : List V} (r : RVs G m H xs us) : RVs G m H xs.dropLast us.dropLast := by
  rw [List.dropLast_eq_take, List.dropLast_eq_take, r.length]
  exact r.take _
theorem b_pop0 : BmG G rPop qPop0 := by
  intro W m h H σ v x vs xs Q S r1 r2 p
  unfold qPop0 at p
  cases v with
  | ref n =>
    dsimp only at p
    cases eg : h.get n with
    | none => rw [eg] at p; exact False.elim p
    | some o =>
      rw [eg] at p
      cases o with
      | lst ys =>
        dsimp only at p
        cases el : ys[ys.length - 1]? with
        | none => rw [el] at p; exact False.elim p
        | some y =>
          rw [el] at p
          cases vs with
          | cons _ _ => exact False.elim p
          | nil =>
            obtain ⟨a, us, ea, rfl, ha, rs⟩ := S.lst eg r1
            obtain ⟨u, eu, ru⟩ := rs.get el
            exact ⟨a, us, u, rfl, r2.nil_inv, ha, by rw [rs.length]; exact eu, write_lst S ea ha (rvs_dropLast rs) ru p⟩
      | _ => exact False.elim p
  | _ => exact False.elim p
theorem b_popAt : BmG G rPopAt qPopAt := bm1 fun W m h H σ v w x z Q S r1 rz p => by
  cases w with
  | int i =>
    cases v with
    | ref n =>
      dsimp only at p
      cases eg : h.get n with
      | none => rw [eg] at p; exact False.elim p
      | some o =>
        rw [eg] at p
        cases o with
        | lst ys =>
          dsimp only at p
          cases ec : (decide (0 ≤ i) && rg62 i) with
          | false => rw [ec] at p; exact False.elim p
          | true =>
            rw [ec] at p
            dsimp only at p
            cases el : ys[i.toNat]? with
            | none => rw [el] at p; exact False.elim p
            | some y =>
              rw [el] at p
              obtain ⟨a1, a2⟩ := Bool.and_eq_true_iff.mp ec
              have b1 := of_decide_eq_true a1
              have b2 := rgOk_iff (i := i) a2
              obtain ⟨a, us, ea, rfl, ha, rs⟩ := S.lst eg r1
              obtain ⟨u, eu, ru⟩ := rs.get el
              simp only [RV] at rz
              subst rz
              have hlt : i.toNat < us.length := (List.getElem?_eq_some_iff.mp eu).1
              refine ⟨a, us, i, i.toNat, u, rfl, rfl, ha, by omega, by omega, ?_, eu, write_lst S ea ha (rvs_eraseIdx _ rs) ru p⟩
              exact (ixN_seq (n := us.length) (i := i) (j := i.toNat) (by unfold ixN; rw [if_pos b1, if_pos (by omega)])).1
        | _ => exact False.elim p
    | _ => exact False.elim p
  | _ => exact False.elim p
theorem index_of {f : MV → Bool} : ∀ {ys : List MV} {i j : Nat}, indexM f ys i = some j → ∃ k y, j = i + k ∧ ys[k]? = some y ∧ f y = true ∧ ∀ m z, m < k → ys[m]? = some z → f z = false
  | [], i, j, e => by cases e
  | y :: ys, i, j, e => by
    unfold indexM at e
    cases q : f y with
    | true =>
      rw [q] at e
      cases e
      exact ⟨0, y, rfl, rfl, q, fun m z h => by omega⟩
    | false =>
      rw [q] at e
      obtain ⟨k, z, rfl, e1, e2, e3⟩ := index_of e
      refine ⟨k + 1, z, by omega, e1, e2, fun m u hm eu => ?_⟩
      cases m with
      | zero => have : y = u := by simpa using eu
                subst this; exact q
      | succ m => exact e3 m u (by omega) (by simpa using eu)
theorem b_index : BmG G (rIndexD G.K) qIndex := bm1 fun W m h H σ v y x u Q S r1 ru p => by
  cases es : seqOf h v with
  | none => rw [es] at p; exact False.elim p
  | some ys =>
    rw [es] at p
    dsimp only at p
    cases ed : (dataB 9 h y && ys.all (dataB 9 h)) with
    | false => rw [ed] at p; exact False.elim p
    | true =>
      rw [ed] at p
      dsimp only at p
      cases ei : indexM (fun z => eqB 9 h z y) ys 0 with
      | none => rw [ei] at p; exact False.elim p
      | some j =>
        rw [ei] at p
        obtain ⟨a1, a2⟩ := Bool.and_eq_true_iff.mp ed
        obtain ⟨b1, b2, b3⟩ := data_ok S 9 y u a1 ru
        obtain ⟨a, rfl, d1, d2⟩ := seq_data S es r1 a2
        obtain ⟨k, z, ej, e1, e2, e3⟩ := index_of ei
        have ejk : j = k := by omega
        subst ejk
        have dz : ∀ {n : Nat} {t : MV}, ys[n]? = some t → dataB 9 h t = true := fun et => (List.all_eq_true.mp a2) _ (List.mem_of_getElem? et)
        refine ⟨a, u, _, _, j, toD 9 h z, rfl, rfl, d1, b1, d2, shaped_ok b2 (by omega), by rw [List.getElem?_map, e1]; rfl, (eq_ok 9 z y (dz e1) a1).trans e2, fun n z' hn hz' => ?_, RP.now p S (by simp [RV])⟩
        rw [List.getElem?_map] at hz'
        obtain ⟨t, et, rfl⟩ := Option.map_eq_some_iff.mp hz'
        exact (eq_ok 9 t y (dz et) a1).trans (e3 n t hn et)
end
end KA

set_option Elab.async false
set_option autoImplicit false
set_option linter.all false
set_option maxRecDepth 100000
set_option maxHeartbeats 400000
/-! KDct: dicts, locks, walks of dicts, isinstance. -/
namespace KA
open PySem PySem.Spec PyProof.Rows L2
section
variable {X : Cx} {G : GC} {W : XW} {e : Expr} {st : Stmt} {fa fb fc : EM} {am : AM} {sa : SM}
variable {m : List Addr} {h : MH} {H : Hp}
/-! ### keys -/
theorem keyA_kr {v : MV} (e : keyA v = true) : ∃ k, KR v k := by
  cases v with
  | int i => exact ⟨.inl i, rfl⟩
  | str s => exact ⟨.inr ⟨s.toArray⟩, rfl⟩
  | _ => cases e
theorem kr_rv' {v : MV} {k : Key} {x : V} (r : KR v k) (q : RV G m H v x) : x = kV k := by
  cases v with
  | int i => have e : k = .inl i := r; subst e; simp only [RV] at q; exact q
  | str s => have e : k = .inr ⟨s.toArray⟩ := r; subst e; simp only [RV] at q; exact q
  | _ => exact r.elim
theorem keyB1_eq {v w : MV} {k j : Key} (r : KR v k) (q : KR w j) : keyB1 v w = decide (k = j) := by
  cases v with
  | int i =>
    have e : k = .inl i := r; subst e
    cases w with
    | int i' =>
      have e : j = .inl i' := q; subst e
      show decide (i = i') = _
      rw [decide_eq_decide]; exact ⟨fun z => by rw [z], fun z => Sum.inl.inj z⟩
    | str s =>
      have e : j = .inr ⟨s.toArray⟩ := q; subst e
      exact (decide_eq_false (fun z => nomatch z)).symm
    | _ => exact q.elim
  | str s =>
    have e : k = .inr ⟨s.toArray⟩ := r; subst e
    cases w with
    | int i' =>
      have e : j = .inl i' := q; subst e
      exact (decide_eq_false (fun z => nomatch z)).symm
    | str s' =>
      have e : j = .inr ⟨s'.toArray⟩ := q; subst e
      show beqN s s' = _
      rw [beqN_iff, decide_eq_decide]
      exact ⟨fun z => by rw [z], fun z => by
        have := Sum.inr.inj z
        have e2 : s.toArray = s'.toArray := PySem.Str.mk.inj this
        simpa using e2⟩
    | _ => exact q.elim
  | _ => exact r.elim
theorem keyB_eq {v w : MV} {k j : Key} (r : KR v k) (q : KR w j) : keyB v w = decide (k = j) := by
  have e := keyB1_eq r q
  cases v with
  | int i => cases w with
    | tup _ => exact q.elim
    | _ => exact e
  | str s => cases w with
    | tup _ => exact q.elim
    | _ => exact e
  | _ => exact r.elim
theorem keysB_eq : ∀ {xs ys : List MV} {ks js : List Key}, Paired KR xs ks → Paired KR ys js → all2 keyB1 xs ys = decide (ks = js)
  | _, _, _, _, .nil, .nil => rfl
  | _, _, _, _, .nil, .cons _ _ => by simp [all2]
  | _, _, _, _, .cons _ _, .nil => by simp [all2]
  | _, _, k :: ks, j :: js, .cons r t, .cons r' t' => by
    unfold all2
    rw [keyB1_eq r r']
    by_cases c : k = j
    · subst c
      rw [decide_eq_true rfl]
      dsimp only
      rw [keysB_eq t t', decide_eq_decide]
      exact ⟨fun z => by rw [z], fun z => (List.cons.inj z).2⟩
    · rw [decide_eq_false c]
      dsimp only
      exact (decide_eq_false fun z => c (List.cons.inj z).1).symm
theorem keyBT_eq {v w : MV} {k j : List Key} (r : KRT v k) (q : KRT w j) : keyB v w = decide (k = j) := by
  cases v with
  | tup xs => cases w with
    | tup ys => exact keysB_eq r q
    | _ => exact q.elim
  | _ => exact r.elim
theorem keyT_kr : ∀ {xs : List MV}, xs.all keyA = true → ∃ ks, Paired KR xs ks
  | [], _ => ⟨[], .nil⟩
  | x :: xs, e => by
    rw [List.all_cons, Bool.and_eq_true] at e
    obtain ⟨k, r⟩ := keyA_kr e.1
    obtain ⟨ks, rs⟩ := keyT_kr e.2
    exact ⟨k :: ks, .cons r rs⟩
theorem krs_rv : ∀ {xs : List MV} {ks : List Key} {us : List V}, Paired KR xs ks → RVs G m H xs us → us = ks.map kV
  | _, _, us, .nil, r => r.nil_inv
  | _, _, us, .cons r t, q => by
    obtain ⟨y, ys, rfl, r1, r2⟩ := q.cons_inv
    rw [kr_rv' r r1, krs_rv t r2]
    rfl
theorem krt_rv {v : MV} {k : List Key} {x : V} (r : KRT v k) (q : RV G m H v x) : ∃ b, x = .ref b ∧ H b = some (.tup (k.map kV)) := by
  cases v with
  | tup xs =>
    simp only [RV] at q
    obtain ⟨a, us, rfl, ha, rs⟩ := q
    rw [krs_rv r rs] at ha
    exact ⟨a, rfl, ha⟩
  | _ => exact r.elim
section
variable {κ : Type} [DecidableEq κ] {R : MV → κ → Prop}
theorem dget_of (hB : ∀ {v w : MV} {k j : κ}, R v k → R w j → keyB v w = decide (k = j)) {y : MV} {k : κ} (ry : R y k) : ∀ {kvs : List (MV × MV)} {ps : List (κ × V)}, Paired (fun p q => R p.1 q.1 ∧ RV G m H p.2 q.2) kvs ps →
    (∀ v, dget y kvs = some v → ∃ x, valV ps k = some x ∧ RV G m H v x) ∧ (dget y kvs = none → valV ps k = none)
  | _, _, .nil => ⟨fun v e => (nomatch e), fun _ => rfl⟩
  | (j, v) :: kvs, (i, x) :: ps, .cons r t => by
    obtain ⟨h1, h2⟩ := dget_of hB ry t
    obtain ⟨r1, r2⟩ := r
    have e := hB r1 ry
    dsimp only at e
    by_cases c : i = k
    · rw [decide_eq_true c] at e
      refine ⟨fun v' q => ?_, fun q => ?_⟩
      · unfold dget at q
        rw [e] at q
        have : v = v' := Option.some.inj q
        subst this
        exact ⟨x, valV_pos c, r2⟩
      · unfold dget at q
        rw [e] at q
        cases q
    · rw [decide_eq_false c] at e
      refine ⟨fun v' q => ?_, fun q => ?_⟩
      · unfold dget at q
        rw [e] at q
        obtain ⟨x', a, b⟩ := h1 v' q
        exact ⟨x', by rw [valV_neg c]; exact a, b⟩
      · unfold dget at q
        rw [e] at q
        rw [valV_neg c]; exact h2 q
theorem dput_of (hB : ∀ {v w : MV} {k j : κ}, R v k → R w j → keyB v w = decide (k = j)) {y v : MV} {k : κ} {x : V} (ry : R y k) (rv : RV G m H v x) {kvs : List (MV × MV)} {ps : List (κ × V)} (pr : Paired (fun p q => R p.1 q.1 ∧ RV G m H p.2 q.2) kvs ps) :
    Paired (fun p q => R p.1 q.1 ∧ RV G m H p.2 q.2) (dput y v kvs) (putK ps k x) := by
  have ea : (kvs.any fun p => keyB p.1 y) = ps.any fun kv => decide (kv.1 = k) := by
    induction pr with
    | nil => rfl
    | @cons p q kvs ps r t ih => rw [List.any_cons, List.any_cons, ih, hB r.1 ry]
  unfold dput putK
  rw [ea]
  cases q : ps.any fun kv => decide (kv.1 = k) with
  | true =>
    rw [if_pos rfl]
    dsimp only
    clear ea q
    induction pr with
    | nil => exact .nil
    | @cons p q kvs ps r t ih =>
      rw [List.map_cons, List.map_cons]
      refine .cons ?_ ih
      rw [hB r.1 ry]
      by_cases c : q.1 = k
      · rw [decide_eq_true c, if_pos c]; exact ⟨r.1, rv⟩
      · rw [decide_eq_false c, if_neg c]; exact r
  | false =>
    rw [if_neg Bool.false_ne_true]
    dsimp only
    clear ea q
    induction pr with
    | nil => exact .cons ⟨ry, rv⟩ .nil
    | @cons p q kvs ps r t ih => exact .cons r ih
end
theorem dOf_of (S : Sim G m h H) {d : MV} {x : V} {tk : Bool} {kvs : List (MV × MV)} (e : dOf h d = some (tk, kvs)) (r : RV G m H d x) : ∃ a w, x = .ref a ∧ DctR G m H tk kvs w ∧ Rd H a w := by
  cases d with
  | ref n =>
    unfold dOf at e
    dsimp only at e
    cases eg : h.get n with
    | none => rw [eg] at e; cases e
    | some o =>
      rw [eg] at e
      cases o with
      | dct tk' lk kvs' =>
        cases e
        obtain ⟨a, w, _, rfl, dr, eh⟩ := S.dct eg r
        refine ⟨a, w, rfl, dr, ?_⟩
        cases lk with
        | false => exact .inl eh
        | true => exact .inr eh
      | _ => cases e
  | _ => cases e
/-- what a look gives -/
theorem look_of (S : Sim G m h H) {d y : MV} {a : Addr} {w : HO} {x : V} {tk : Bool} {kvs : List (MV × MV)} (dr : DctR G m H tk kvs w) (rd : Rd H a w) (ek : keyOk tk y = true) (r : RV G m H y x) :
    ∃ o, DGet H a x o ∧ (∀ v, dget y kvs = some v → ∃ u, o = some u ∧ RV G m H v u) ∧ (dget y kvs = none → o = none) := by
  cases tk with
  | false =>
    obtain ⟨ps, rfl, pr⟩ := dr
    obtain ⟨k, rk⟩ := keyA_kr ek
    obtain ⟨h1, h2⟩ := dget_of keyB_eq rk pr
    exact ⟨valV ps k, .inl ⟨ps, k, rd, kr_rv' rk r, rfl⟩, h1, h2⟩
  | true =>
    obtain ⟨ps, rfl, pr⟩ := dr
    cases y with
    | tup xs =>
      obtain ⟨ks, rk⟩ := keyT_kr ek
      obtain ⟨h1, h2⟩ := dget_of (R := KRT) keyBT_eq (y := .tup xs) rk pr
      obtain ⟨b, rfl, hb⟩ := krt_rv (v := .tup xs) rk r
      exact ⟨valV ps ks, .inr ⟨ps, ks, b, rd, rfl, hb, rfl⟩, h1, h2⟩
    | _ => cases ek
theorem k_dget (h : PE X e (L2.tDGet (tM G W fa) (tM G W fb))) : PE X e (tM G W (e2 qDget fa fb)) := h.wk fun σ H Q q => by
  refine (tMR.bind (Rel := RV G) (k := fun σ v h1 => (fb σ h1).bind fun w h2 => qDget v w h2) q).imp fun x H1 ⟨m1, h1, v, σm, S1, R1, r1, p1⟩ => ?_
  refine ⟨m1, h1, σm, S1, R1, (RP.bind (Rel := RV G) p1).imp fun y H2 ⟨m2, h2, w, x2, S2, r2, p2⟩ => ?_⟩
  unfold qDget at p2
  cases ed : dOf h2 v with
  | none => rw [ed] at p2; exact False.elim p2
  | some tkv =>
    obtain ⟨tk, kvs⟩ := tkv
    rw [ed] at p2
    dsimp only at p2
    cases ek : keyOk tk w with
    | false => rw [ek] at p2; exact False.elim p2
    | true =>
      rw [ek] at p2
      dsimp only at p2
      obtain ⟨a, u, rfl, dr, rd⟩ := dOf_of S2 ed (r1.mono x2.toLe)
      obtain ⟨o, g, h1', h2'⟩ := look_of (d := v) S2 dr rd ek r2
      cases eg : dget w kvs with
      | none => rw [eg] at p2; exact False.elim p2
      | some z =>
        rw [eg] at p2
        obtain ⟨t, rfl, rt⟩ := h1' z eg
        exact ⟨a, t, rfl, g, RP.now p2 S2 rt⟩
/-- k in d: a test or a value, over PC -/
theorem din_of {σ : L2.St} {H : Hp} {Q : VK} (neg : Bool) (q : tM G W (e2 (qDin neg) fa fb) σ H Q) :
    tM G W fa σ H fun y H1 => tM G W fb σ H1 fun x H2 => ∃ a o, x = .ref a ∧ DGet H2 a y o ∧ Q (.bl (match neg with | false => o.isSome | true => !o.isSome)) H2 := by
  refine (tMR.bind (Rel := RV G) (k := fun σ v h1 => (fb σ h1).bind fun w h2 => qDin neg v w h2) q).imp fun x H1 ⟨m1, h1, v, σm, S1, R1, r1, p1⟩ => ?_
  refine ⟨m1, h1, σm, S1, R1, (RP.bind (Rel := RV G) p1).imp fun y H2 ⟨m2, h2, w, x2, S2, r2, p2⟩ => ?_⟩
  unfold qDin at p2
  cases ed : dOf h2 w with
  | none => rw [ed] at p2; exact False.elim p2
  | some tkv =>
    obtain ⟨tk, kvs⟩ := tkv
    rw [ed] at p2
    dsimp only at p2
    cases ek : keyOk tk v with
    | false => rw [ek] at p2; exact False.elim p2
    | true =>
      rw [ek] at p2
      dsimp only at p2
      obtain ⟨a, u, rfl, dr, rd⟩ := dOf_of S2 ed r2
      obtain ⟨o, g, h1', h2'⟩ := look_of (d := w) S2 dr rd ek (r1.mono x2.toLe)
      have es : (dget v kvs).isSome = o.isSome := by
        cases eg : dget v kvs with
        | none => rw [h2' eg]; rfl
        | some z => obtain ⟨t, rfl, _⟩ := h1' z eg; rfl
      rw [es] at p2
      exact ⟨a, o, rfl, g, RP.now p2 S2 (by cases neg <;> simp [RV])⟩
theorem k_din (h : PE X e (tDIn (tM G W fa) (tM G W fb))) : PE X e (tM G W (e2 (qDin false) fa fb)) := h.wk fun _ _ _ q => din_of false q
theorem k_dnotin (h : PE X e (tDNotIn (tM G W fa) (tM G W fb))) : PE X e (tM G W (e2 (qDin true) fa fb)) := h.wk fun _ _ _ q => din_of true q
theorem kt_din (h : PT X e (L2.tB (tDIn (tM G W fa) (tM G W fb)))) : PT X e (tMT G W (cB (e2 (qDin false) fa fb))) := h.wk fun σ H Q q => din_of (Q := fun x H' => ∃ c, x = .bl c ∧ Q c H') false (cB_of q)
theorem kt_dnotin (h : PT X e (L2.tB (tDNotIn (tM G W fa) (tM G W fb)))) : PT X e (tMT G W (cB (e2 (qDin true) fa fb))) := h.wk fun σ H Q q => din_of (Q := fun x H' => ∃ c, x = .bl c ∧ Q c H') true (cB_of q)
theorem k_dnew (h : PE X e L2.tDNewK) : PE X e (tM G W (eDNew false)) := h.wk fun σ H Q ⟨m, h, σm, S, R, p⟩ a ha => by
  have x : Ex G m H (m ++ [a]) (upd H a (.dK [])) := (Ex.upd a _ (plain_none ha) (.inr ha)).app ha
  refine p _ _ (.ref a) x (S.push ha ⟨.dK [], ⟨[], rfl, .nil⟩, rfl⟩) ?_
  simp only [RV]
  exact ⟨a, by rw [← S.len]; simp, rfl⟩
theorem k_dnewT (h : PE X e L2.tDNewT) : PE X e (tM G W (eDNew true)) := h.wk fun σ H Q ⟨m, h, σm, S, R, p⟩ a ha => by
  have x : Ex G m H (m ++ [a]) (upd H a (.dT [])) := (Ex.upd a _ (plain_none ha) (.inr ha)).app ha
  refine p _ _ (.ref a) x (S.push ha ⟨.dT [], ⟨[], rfl, .nil⟩, rfl⟩) ?_
  simp only [RV]
  exact ⟨a, by rw [← S.len]; simp, rfl⟩
theorem js_dput (h : PS X st (sDPut (tM G W fa) (tM G W fb) (tM G W fc))) : PS X st (tMS G W (jDput fa fb fc)) := h.wk fun D σ H q => by
  refine (tMS.out (Rel := RV G) (k := fun σ v h1 => (fa σ h1).out σ fun x h2 => (fb σ h2).out σ fun y h3 => match x with
  | .ref n => (match h3.get n with
    | some (.dct tk lk kvs) => (match lk with
      | true => .bad
      | false => (match keyOk tk y && Nat.blt kvs.length 16777216 with
        | true => .nx σ (h3.set n (.dct tk false (dput y v kvs)))
        | false => .bad))
    | _ => .bad)
  | _ => .bad) q).imp fun v' H1 ⟨m1, h1, v, σm, S1, R1, r1, p1⟩ => ?_
  refine ⟨m1, h1, σm, S1, R1, (OP.out (Rel := RV G) R1 p1).imp fun x H2 ⟨m2, h2, xm, x2, S2, r2, p2⟩ => ?_⟩
  have R2' := R1.mono x2.toLe
  refine ⟨m2, h2, σm, S2, R2', (OP.out (Rel := RV G) R2' p2).imp fun y H3 ⟨m3, h3, ym, x3, S3, r3, p3⟩ => ?_⟩
  cases xm with
  | ref n =>
    dsimp only at p3
    cases eg : h3.get n with
    | none => rw [eg] at p3; exact False.elim p3
    | some o =>
      rw [eg] at p3
      cases o with
      | dct tk lk kvs =>
        dsimp only at p3
        cases lk with
        | true => exact False.elim p3
        | false =>
          dsimp only at p3
          cases ec : (keyOk tk ym && Nat.blt kvs.length 16777216) with
          | false => rw [ec] at p3; exact False.elim p3
          | true =>
            rw [ec] at p3
            obtain ⟨ek, el⟩ := Bool.and_eq_true_iff.mp ec
            have hl : kvs.length < 16777216 := Nat.le_of_ble_eq_true el
            obtain ⟨a, w, ea, rfl, dr, eh⟩ := S3.dct eg (r2.mono x3.toLe)
            have eh' : H3 a = some w := eh
            have rv3 := (r1.mono x2.toLe).mono x3.toLe
            have fin : ∀ (w' : HO), DctR G m3 H3 tk (dput ym v kvs) w' → Plain (H3 a) → D.nx σ (upd H3 a w') := fun w' dr' pl => by
              have x4 : Ex G m3 H3 m3 (upd H3 a w') := .upd a _ pl (.inl (List.mem_of_getElem? ea))
              exact p3 m3 _ σ x4 (S3.write ea pl.l ⟨w', dr'.mono x4.toLe, rfl⟩) ((R2'.mono x3.toLe).mono x4.toLe)
            cases tk with
            | false =>
              obtain ⟨ps, rfl, pr⟩ := dr
              obtain ⟨k, rk⟩ := keyA_kr ek
              have yk := kr_rv' rk r3
              subst yk
              refine ⟨a, _, rfl, DPut.k eh' (by rw [← pr.length, sizeLine_eq]; exact hl), fin _ ⟨_, rfl, dput_of keyB_eq rk rv3 pr⟩ (by rw [eh']; trivial)⟩
            | true =>
              obtain ⟨ps, rfl, pr⟩ := dr
              cases ym with
              | tup xs =>
                obtain ⟨ks, rk⟩ := keyT_kr ek
                obtain ⟨b, rfl, hb⟩ := krt_rv (v := .tup xs) rk r3
                refine ⟨a, _, rfl, DPut.t eh' hb (by rw [← pr.length, sizeLine_eq]; exact hl), fin _ ⟨_, rfl, dput_of (R := KRT) keyBT_eq (y := .tup xs) rk rv3 pr⟩ (by rw [eh']; trivial)⟩
              | _ => cases ek
      | _ => exact False.elim p3
  | _ => exact False.elim p3

/-! ### locks -/
theorem ps_lock2 {t : TS} (h : PS X st t) : PS X st (fun D σ H => t D σ H ∨ tLock t D σ H) := ⟨fun pins s σ H D I q => by
  rcases q with q | q
  · exact h.run pins s σ H D I q
  · exact (ps_lock h).run pins s σ H D I q⟩
theorem pe_lock2 {t : TE} (h : PE X e t) : PE X e (fun σ H Q => t σ H Q ∨ tLockE t σ H Q) := ⟨fun pins s σ H Q I q => by
  rcases q with q | q
  · exact h.run pins s σ H Q I q
  · exact (pe_lock h).run pins s σ H Q I q⟩
/-- the state behind the lock -/
theorem Sim.lock (S : Sim G m h H) {n : Nat} {a : Addr} {tk : Bool} {kvs : List (MV × MV)} {w : HO} (ea : m[n]? = some a) (dr : DctR G m H tk kvs w) (eh : H a = some w) (od : Obj) :
    Sim G m (h.set n (.dct tk true kvs)) (upd H a (.frz od w)) ∧ Ex G m H m (upd H a (.frz od w)) ∧ Mut (some w) := by
  have pl : Plain (H a) ∧ Mut (some w) := by
    rw [eh]
    cases tk with
    | false => obtain ⟨ps, rfl, _⟩ := dr; exact ⟨trivial, trivial⟩
    | true => obtain ⟨ps, rfl, _⟩ := dr; exact ⟨trivial, trivial⟩
  have x : Ex G m H m (upd H a (.frz od w)) := .upd a _ pl.1 (.inl (List.mem_of_getElem? ea))
  exact ⟨S.write ea pl.1.l ⟨w, dr.mono x.toLe, ⟨od, rfl⟩⟩, x, pl.2⟩
/-- .. and behind the unlocking -/
theorem Sim.unlock {m' : List Addr} {h' h2 : MH} {H' : Hp} {n : Nat} {a : Addr} {w : HO} {od : Obj} (S : Sim G m' h' H') (ea : m'[n]? = some a) (ef : H' a = some (.frz od w)) (e : unlockH n h' = some h2) :
    Sim G m' h2 (upd H' a w) ∧ Le G m' H' m' (upd H' a w) := by
  unfold unlockH at e
  cases eg : h'.get n with
  | none => rw [eg] at e; cases e
  | some o =>
    rw [eg] at e
    cases o with
    | dct tk lk kvs =>
      cases lk with
      | false => cases e
      | true =>
        cases e
        obtain ⟨b, eb, w', dr, eh⟩ := S.at_ n _ eg
        have hb : b = a := Option.some.inj (eb.symm.trans ea)
        subst hb
        obtain ⟨ob, eh⟩ := eh
        rw [ef] at eh
        cases eh
        have pl : PlainL (H' b) := by
          rw [ef]
          cases tk with
          | false => obtain ⟨ps, rfl, _⟩ := dr; trivial
          | true => obtain ⟨ps, rfl, _⟩ := dr; trivial
        have le : Le G m' H' m' (upd H' b w) := .upd b _ pl
        exact ⟨S.write ea pl ⟨w, dr.mono le, rfl⟩, le⟩
    | _ => cases e
theorem ex_unlock {m m' : List Addr} {H H' : Hp} {a : Addr} {w : HO} {od : Obj} (hm : a ∈ m) (mu : Mut (some w)) (eh : H a = some w) (x : Ex G m (upd H a (.frz od w)) m' H') (le : Le G m' H' m' (upd H' a w)) (x0 : Le G m H m (upd H a (.frz od w))) : Ex G m H m' (upd H' a w) := by
  refine ⟨(x0.trans x.toLe).trans le, fun b o u q => ?_, fun b hb nb => ?_, fun b nb hb => ?_⟩
  · have ne : b ≠ a := by
      rintro rfl
      rw [eh] at q
      cases q
      exact mu
    have q2 := x.frd b o u (by rw [upd_ne ne]; exact q)
    rw [upd_ne ne]; exact q2
  · have ne : b ≠ a := fun z => nb (z ▸ hm)
    have := x.new b hb nb
    rw [upd_ne ne] at this; exact this
  · have ne : b ≠ a := fun z => nb (z ▸ hm)
    have := x.out b nb (by rw [upd_ne ne]; exact hb)
    rw [upd_ne ne] at this
    rw [upd_ne ne]; exact this
theorem js_lock {fp : EM} (hp : ∀ (m : List Addr) (h : MH) (H : Hp) (σm : Sl) (σ : L2.St) (v : MV) (h' : MH), Sim G m h H → RS G m H σm σ → fp σm h = .ok v h' → ∃ x, RV G m H v x) (h : PS X st (tMS G W0 sa)) : PS X st (tMS G W0 (jLock fp sa)) := (ps_lock2 h).wk fun D σ H ⟨m, h, σm, S, R, p⟩ => by
  unfold jLock at p
  cases ep : fp σm h with
  | exc c v h' => rw [ep] at p; exact False.elim p
  | bad => rw [ep] at p; exact False.elim p
  | ok v h' =>
    rw [ep] at p
    dsimp only at p
    cases v with
    | ref n =>
      dsimp only at p
      cases eg : h.get n with
      | none => rw [eg] at p; exact False.elim p
      | some o =>
        rw [eg] at p
        cases o with
        | dct tk lk kvs =>
          dsimp only at p
          cases lk with
          | true => exact .inl ⟨m, h, σm, S, R, p⟩
          | false =>
            right
            obtain ⟨a, ea, w, dr, eh⟩ := S.at_ n _ eg
            have eh' : H a = some w := eh
            obtain ⟨_, _, mu⟩ := S.lock ea dr eh' default
            refine ⟨a, w, eh', mu, fun od => ?_⟩
            obtain ⟨S1, x1, _⟩ := S.lock ea dr eh' od
            refine ⟨m, _, σm, S1, R.mono x1.toLe, ?_⟩
            have hm : a ∈ m := List.mem_of_getElem? ea
            have frz0 : upd H a (.frz od w) a = some (.frz od w) := upd_same
            cases eo : sa σm (h.set n (.dct tk true kvs)) with
            | nx σ1 h1 =>
              dsimp only at p
              rw [eo] at p
              unfold unlockO at p
              dsimp only at p
              cases eu : unlockH n h1 with
              | none => rw [eu] at p; exact False.elim p
              | some h2 =>
                rw [eu] at p
                intro m' H' s x S' R'
                have ef := x.frd a od w frz0
                obtain ⟨S2, le⟩ := S'.unlock (x.toLe.ix ea) ef eu
                exact ⟨ef, p m' _ s (ex_unlock hm mu eh' x le x1.toLe) S2 (R'.mono le)⟩
            | rt v1 h1 =>
              dsimp only at p
              rw [eo] at p
              unfold unlockO at p
              dsimp only at p
              cases eu : unlockH n h1 with
              | none => rw [eu] at p; exact False.elim p
              | some h2 =>
                rw [eu] at p
                intro m' H' s x S' R'
                have ef := x.frd a od w frz0
                obtain ⟨S2, le⟩ := S'.unlock (x.toLe.ix ea) ef eu
                exact ⟨ef, p m' _ s (ex_unlock hm mu eh' x le x1.toLe) S2 (R'.mono le)⟩
            | bk σ1 h1 =>
              dsimp only at p
              rw [eo] at p
              unfold unlockO at p
              dsimp only at p
              cases eu : unlockH n h1 with
              | none => rw [eu] at p; exact False.elim p
              | some h2 =>
                rw [eu] at p
                intro m' H' s x S' R'
                have ef := x.frd a od w frz0
                obtain ⟨S2, le⟩ := S'.unlock (x.toLe.ix ea) ef eu
                exact ⟨ef, p m' _ s (ex_unlock hm mu eh' x le x1.toLe) S2 (R'.mono le)⟩
            | ct σ1 h1 =>
              dsimp only at p
              rw [eo] at p
              unfold unlockO at p
              dsimp only at p
              cases eu : unlockH n h1 with
              | none => rw [eu] at p; exact False.elim p
              | some h2 =>
                rw [eu] at p
                intro m' H' s x S' R'
                have ef := x.frd a od w frz0
                obtain ⟨S2, le⟩ := S'.unlock (x.toLe.ix ea) ef eu
                exact ⟨ef, p m' _ s (ex_unlock hm mu eh' x le x1.toLe) S2 (R'.mono le)⟩
            | exc c v σ1 h1 => dsimp only at p; rw [eo] at p; exact False.elim p
            | bad => dsimp only at p; rw [eo] at p; exact False.elim p
        | _ => exact False.elim p
    | _ => exact False.elim p
theorem ke_lock {fp : EM} (h : PE X e (tM G W0 fa)) : PE X e (tM G W0 (eLock fp fa)) := (pe_lock2 h).wk fun σ H Q ⟨m, h, σm, S, R, p⟩ => by
  unfold eLock at p
  cases ep : fp σm h with
  | exc c v h' => rw [ep] at p; exact False.elim p
  | bad => rw [ep] at p; exact False.elim p
  | ok v h' =>
    rw [ep] at p
    dsimp only at p
    cases v with
    | ref n =>
      dsimp only at p
      cases eg : h.get n with
      | none => rw [eg] at p; exact False.elim p
      | some o =>
        rw [eg] at p
        cases o with
        | dct tk lk kvs =>
          dsimp only at p
          cases lk with
          | true => exact .inl ⟨m, h, σm, S, R, p⟩
          | false =>
            right
            obtain ⟨a, ea, w, dr, eh⟩ := S.at_ n _ eg
            have eh' : H a = some w := eh
            obtain ⟨_, _, mu⟩ := S.lock ea dr eh' default
            refine ⟨a, w, eh', mu, fun od => ?_⟩
            obtain ⟨S1, x1, _⟩ := S.lock ea dr eh' od
            refine ⟨m, _, σm, S1, R.mono x1.toLe, ?_⟩
            have hm : a ∈ m := List.mem_of_getElem? ea
            have frz0 : upd H a (.frz od w) a = some (.frz od w) := upd_same
            cases eo : fa σm (h.set n (.dct tk true kvs)) with
            | ok v1 h1 =>
              dsimp only at p
              rw [eo] at p
              unfold unlockR at p
              dsimp only at p
              cases eu : unlockH n h1 with
              | none => rw [eu] at p; exact False.elim p
              | some h2 =>
                rw [eu] at p
                intro m' H' s x S' R'
                have ef := x.frd a od w frz0
                obtain ⟨S2, le⟩ := S'.unlock (x.toLe.ix ea) ef eu
                exact ⟨ef, p m' _ s (ex_unlock hm mu eh' x le x1.toLe) S2 (R'.mono le)⟩
            | exc c v h1 => dsimp only at p; rw [eo] at p; exact False.elim p
            | bad => dsimp only at p; rw [eo] at p; exact False.elim p
        | _ => exact False.elim p
    | _ => exact False.elim p
end
end KA

set_option Elab.async false
set_option autoImplicit false
set_option linter.all false
set_option maxRecDepth 100000
set_option maxHeartbeats 400000
/-! KComp: comprehensions. -/
namespace KA
open PySem PySem.Spec PyProof.Rows L2
theorem Res.bind_assoc {α β γ : Type} (r : Res α) (f : α → MH → Res β) (g : β → MH → Res γ) : (r.bind f).bind g = r.bind fun a h => (f a h).bind g := by cases r <;> rfl
theorem RS.wipes {G : GC} {m : List Addr} {H : Hp} {σm : Sl} {σ : L2.St} (R : RS G m H σm σ) : ∀ vs : List Nat, RS G m H (wipeM σm vs) (L2.wipe σ vs)
  | [] => R
  | v :: vs => (RS.wipes R vs).wipe v
theorem tYes_of {G : GC} {W : XW} {σ : L2.St} {H : Hp} {Q : Bool → Hp → Prop} (q : tMT G W cYes σ H Q) : L2.tYes σ H Q := by
  obtain ⟨m, h, σm, S, R, p⟩ := q
  exact RP.now (y := true) p S rfl
theorem pts_wk {X : Cx} {ifs : List Expr} {t t' : TT} (h : PTs X ifs t) (k : ∀ σ H Q, t' σ H Q → t σ H Q) : PTs X ifs t' := ⟨fun pins s σ H Q I q => h.run pins s σ H Q I (k σ H Q q)⟩
theorem kts_nil {X : Cx} {G : GC} {W : XW} : PTs X [] (tMT G W cYes) := pts_wk pts_nil fun _ _ _ q => tYes_of q
theorem RP.anyS {G : GC} {α β : Type} {Rel : List Addr → Hp → α → β → Prop} {m : List Addr} {H : Hp} {σ σ' : L2.St} {r : Res α} {Q : β → Hp → Prop} (p : RP G W0 Rel m H σ r Q) : RP G W0 Rel m H σ' r Q := by
  cases r with
  | ok v h => exact p
  | exc c v h => exact fun m' H' d e s q => p m' H' d e s q
  | bad => exact p
/-- one part from where it stands, the rest told of an earlier state -/
theorem RP.part {G : GC} {α β γ δ : Type} {Rel : List Addr → Hp → α → β → Prop} {Rel' : List Addr → Hp → γ → δ → Prop} {m1 m2 : List Addr} {H1 H2 : Hp} {σ σ' : L2.St} {r : Res α} {k : α → MH → Res γ} {Q : δ → Hp → Prop} (p : RP G W0 Rel' m1 H1 σ (r.bind k) Q) (x : Ex G m1 H1 m2 H2) :
    RP G W0 Rel m2 H2 σ' r (fun y H3 => ∃ m3 h3 v, Ex G m2 H2 m3 H3 ∧ Sim G m3 h3 H3 ∧ Rel m3 H3 v y ∧ RP G W0 Rel' m1 H1 σ (k v h3) Q) := by
  cases r with
  | ok v h => exact fun m' H' y e s q => ⟨m', h, v, e, s, q, p⟩
  | exc c v h => exact fun m' H' d e s q => p m' H' d (x.trans e) s q
  | bad => exact p
theorem Plain.le {G : GC} {m : List Addr} {H : Hp} {D : Addr} {w : HO} (e : H D = some w) (pl : Plain (some w)) (o : HO) : Ef G m H m (upd H D o) := by
  have pl' : Plain (H D) := by rw [e]; exact pl
  refine ⟨.upd D o pl'.l, fun b ob u q => ?_⟩
  have ne : b ≠ D := fun z => by
    rw [z, e] at q
    cases q
    exact pl
  rw [upd_ne ne]; exact q
/-- the new container at D: what is tracked stands, D is told beside -/
structure LI {A : Type} (G : GC) (CR : List Addr → Hp → A → HO → Prop) (m1 : List Addr) (H1 : Hp) (D : Addr) (acc : A) (h : MH) (m : List Addr) (H : Hp) : Prop where
  x : Ex G m1 H1 m H
  S : Sim G m h H
  nD : D ∉ m
  at_ : ∃ w, H D = some w ∧ CR m H acc w
structure CRok {A : Type} (G : GC) (CR : List Addr → Hp → A → HO → Prop) : Prop where
  mono : ∀ {m H m' H' a w}, CR m H a w → Le G m H m' H' → CR m' H' a w
  plain : ∀ {m H a w}, CR m H a w → Plain (some w)
section
variable {A : Type} {G : GC} {CR : List Addr → Hp → A → HO → Prop} {m1 m m' : List Addr} {H1 H H' : Hp} {D : Addr} {acc : A} {h h' : MH}
theorem LI.step (L : LI G CR m1 H1 D acc h m H) (ok : CRok G CR) (x : Ex G m H m' H') (S : Sim G m' h' H') : LI G CR m1 H1 D acc h' m' H' := by
  obtain ⟨w, e, r⟩ := L.at_
  have ne : H D ≠ none := by rw [e]; exact fun q => nomatch q
  exact ⟨L.x.trans x, S, fun q => ne (x.new D q L.nD), w, (x.out D L.nD ne).trans e, ok.mono r x.toLe⟩
theorem LI.put (L : LI G CR m1 H1 D acc h m H) (ok : CRok G CR) (hD : H1 D = none) {acc' : A} {w w' : HO} (e : H D = some w) (r' : CR m H acc' w') : LI G CR m1 H1 D acc' h m (upd H D w') ∧ Ef G m H m (upd H D w') := by
  obtain ⟨w0, e0, r0⟩ := L.at_
  have ew : w0 = w := Option.some.inj (e0.symm.trans e)
  subst ew
  have ef : Ef G m H m (upd H D w') := Plain.le e (ok.plain r0) w'
  have pl : PlainL (H D) := by rw [e]; exact Plain.l (ok.plain r0)
  refine ⟨⟨⟨(L.x.toLe.trans ef.toLe), fun b o u q => ef.frd b o u (L.x.frd b o u q), L.x.new, fun b n z => ?_⟩, ⟨L.S.len, L.S.nd, fun i u eu => ?_, fun a ha => ?_⟩, L.nD, w', upd_same, ok.mono r' ef.toLe⟩, ef⟩
  · have ne : b ≠ D := fun q => z (by rw [q]; exact hD)
    rw [upd_ne ne]; exact L.x.out b n z
  · obtain ⟨a, ea, r⟩ := L.S.at_ i u eu
    have ne : a ≠ D := fun q => L.nD (q ▸ List.mem_of_getElem? ea)
    exact ⟨a, ea, by rw [upd_ne ne]; exact r.mono ef.toLe⟩
  · have ne : a ≠ D := fun q => L.nD (q ▸ ha)
    rw [upd_ne ne]; exact L.S.trk a ha
theorem wipe_idem {σ : L2.St} {vs : List Nat} : wipe (wipe σ vs) vs = wipe σ vs := by
  have idem : ∀ (ws : List Nat) (s : L2.St), (∀ v ∈ ws, s[v]? = some none ∨ s[v]? = none) → wipe s ws = s := by
    intro ws
    induction ws with
    | nil => intro s _; rfl
    | cons w ws ih =>
      intro s hs
      show (wipe s ws).set w none = s
      rw [ih s fun v hv => hs v (List.mem_cons_of_mem _ hv)]
      rcases hs w (List.mem_cons_self ..) with q | q
      · apply List.ext_getElem?
        intro j
        by_cases c : w = j
        · subst c
          rw [List.getElem?_set_self (List.getElem?_eq_some_iff.mp q).1, q]
        · rw [List.getElem?_set_ne c]
      · rw [List.set_eq_of_length_le (List.getElem?_eq_none_iff.mp q)]
  refine idem vs _ fun v hv => ?_
  cases q : (wipe σ vs)[v]? with
  | none => exact .inr rfl
  | some u =>
    cases u with
    | none => exact .inl rfl
    | some z => exact absurd hv (wipe_some q).2
end
/-- the loop of a comprehension -/
theorem acc_loop {A : Type} {G : GC} {CR : List Addr → Hp → A → HO → Prop} (ok : CRok G CR) {m1 ms m0 : List Addr} {H1 Hs H0 : Hp} {D : Addr} (hD : H1 D = none) {k : Wk} {J : It} (r1 : WkR G ms Hs k J) {p : Pt} {t : TM} {b : Sl → A → MH → Res A} {σ σ0 : L2.St} {σm : Sl} {vs : List Nat} (hp : ∀ i ∈ p.slots, i ∈ vs)
    (R1 : RS G ms Hs σm σ) {K : A → MH → Res MV} {Q : VK} {acc0 : A} {h0 : MH} (L0 : LI G CR m1 H1 D acc0 h0 m0 H0) (e0 : Ef G ms Hs m0 H0) (p0 : RP G W0 (RV G) m1 H1 σ0 ((accL k p t b (wipeM σm vs) k.n 0 acc0 h0).bind K) Q)
    {B : L2.St → Hp → (Hp → Prop) → Prop} (hB : ∀ (σ2 : L2.St) (m : List Addr) (h : MH) (H : Hp) (acc : A) (σ3 : Sl) (Kc : A → MH → Res MV) (Nx : Hp → Prop), LI G CR m1 H1 D acc h m H → RS G m H σ3 σ2 → RP G W0 (RV G) m1 H1 σ0 ((b σ3 acc h).bind Kc) Q →
      (∀ m' h' H' acc', LI G CR m1 H1 D acc' h' m' H' → Ef G m H m' H' → RP G W0 (RV G) m1 H1 σ0 (Kc acc' h') Q → Nx H') → B σ2 H Nx)
    {Qe : Hp → Prop} (hQ : ∀ m h H acc, LI G CR m1 H1 D acc h m H → Ef G ms Hs m H → RP G W0 (RV G) m1 H1 σ0 (K acc h) Q → Qe H) :
    ∃ W : Nat → Nat → Hp → Prop, (∃ n, W 0 n H0) ∧ ∀ i n H, W i n H → (J.stop i H ∧ Qe H) ∨ (J.go i H ∧ ∃ Nx : Hp → Prop, (∀ H', Nx H' → ∃ n', n' < n ∧ W (i + 1) n' H') ∧ ∀ x H', J.yld i H x H' → gP G p x (wipe σ vs) H' fun σ2 H2 => wipe σ2 vs = wipe σ vs ∧ tMT G W0 t σ2 H2 fun c H3 => if c = true then B σ2 H3 Nx else Nx H3) := by
  refine ⟨fun i n H => ∃ m h acc, LI G CR m1 H1 D acc h m H ∧ Ef G ms Hs m H ∧ i + n = k.n ∧ RP G W0 (RV G) m1 H1 σ0 ((accL k p t b (wipeM σm vs) n i acc h).bind K) Q, ⟨k.n, m0, h0, acc0, L0, e0, Nat.zero_add _, p0⟩, ?_⟩
  rintro i n H2 ⟨m2, h2, acc, L2, e2, hn, p2⟩
  cases n with
  | zero =>
    left
    unfold accL at p2
    cases ef : k.fin h2 with
    | false => rw [ef] at p2; exact False.elim p2
    | true =>
      rw [ef] at p2
      have hi : i = k.n := by omega
      subst hi
      exact ⟨r1.fin m2 h2 H2 e2 L2.S ef, hQ m2 h2 H2 acc L2 e2 p2⟩
  | succ n =>
    right
    unfold accL at p2
    cases ea : k.at_ i h2 with
    | none => rw [ea] at p2; exact False.elim p2
    | some v =>
      rw [ea] at p2
      dsimp only at p2
      obtain ⟨go, yld⟩ := r1.item m2 h2 H2 i v e2 L2.S (by omega) ea
      refine ⟨go, fun H => ∃ m h acc, LI G CR m1 H1 D acc h m H ∧ Ef G ms Hs m H ∧ (i + 1) + n = k.n ∧ RP G W0 (RV G) m1 H1 σ0 ((accL k p t b (wipeM σm vs) n (i + 1) acc h).bind K) Q, fun H' q => ⟨n, Nat.lt_succ_self n, q⟩, fun x H' y => ?_⟩
      obtain ⟨x3, S3, r3⟩ := yld x H' y
      cases eg : asg p v (wipeM σm vs) with
      | none => rw [eg] at p2; exact False.elim p2
      | some σ3 =>
        rw [eg] at p2
        dsimp only at p2
        have L3 := L2.step ok x3 S3
        have e3 := e2.trans x3.ef
        have R3 : RS G m2 H' (wipeM σm vs) (wipe σ vs) := (R1.mono e3.toLe).wipes vs
        refine ⟨m2, h2, v, wipeM σm vs, σ3, S3, R3, r3, eg, fun σ' R' wp => ⟨?_, ?_⟩⟩
        · rw [wp vs hp]; exact wipe_idem
        · rw [Res.bind_assoc] at p2
          refine ⟨m2, h2, σ3, S3, R', (RP.part (Rel := fun _ _ (a b : Bool) => b = a) p2 L3.x).imp fun c H4 ⟨m4, h4, c', x4, S4, r4, p4⟩ => ?_⟩
          subst r4
          have L4 := L3.step ok x4 S4
          cases c with
          | false => exact iteF ⟨m4, h4, acc, L4, e3.trans x4.ef, by omega, p4⟩
          | true =>
            dsimp only at p4
            rw [Res.bind_assoc] at p4
            exact iteT (hB σ' m4 h4 H4 acc σ3 _ _ L4 (R'.mono x4.toLe) p4 fun m5 h5 H5 acc5 L5 e5 p5 => ⟨m5, h5, acc5, L5, (e3.trans x4.ef).trans e5, by omega, p5⟩)
/-! ### lists -/
def LstC (G : GC) (m : List Addr) (H : Hp) (acc : Nat × List MV) (w : HO) : Prop := ∃ ys, w = .lst ys ∧ RVs G m H acc.2.reverse ys ∧ acc.2.length = acc.1
theorem lst_ok {G : GC} : CRok G (LstC G) := ⟨fun ⟨ys, e, r, l⟩ x => ⟨ys, e, r.mono x, l⟩, fun ⟨ys, e, _⟩ => by rw [e]; trivial⟩
section
variable {X : Cx} {G : GC} {e : Expr} {fe fk : EM} {tt tt1 : TM} {w w1 : WM} {p p1 : Pt}
theorem bE_of {m1 : List Addr} {H1 : Hp} {D : Addr} (hD : H1 D = none) {σ0 : L2.St} {Q : VK} (σ2 : L2.St) (m : List Addr) (h : MH) (H : Hp) (acc : Nat × List MV) (σ3 : Sl) (Kc : Nat × List MV → MH → Res MV) (Nx : Hp → Prop) (L : LI G (LstC G) m1 H1 D acc h m H) (R : RS G m H σ3 σ2) (p : RP G W0 (RV G) m1 H1 σ0 ((bE fe σ3 acc h).bind Kc) Q)
    (hN : ∀ m' h' H' acc', LI G (LstC G) m1 H1 D acc' h' m' H' → Ef G m H m' H' → RP G W0 (RV G) m1 H1 σ0 (Kc acc' h') Q → Nx H') : tM G W0 fe σ2 H fun y H4 => ∃ acc, H4 D = some (.lst acc) ∧ acc.length < sizeLine ∧ Nx (upd H4 D (.lst (acc ++ [y]))) := by
  unfold bE at p
  rw [Res.bind_assoc] at p
  refine ⟨m, h, σ3, L.S, R, (RP.part (Rel := RV G) p L.x).imp fun y H5 ⟨m5, h5, y', x5, S5, r5, p5⟩ => ?_⟩
  have L5 := L.step lst_ok x5 S5
  rcases lim_cases (acc.1 + 1) (Res.ok (acc.1 + 1, y' :: acc.2) h5) with ⟨hl, el⟩ | el
  · rw [el] at p5
    obtain ⟨w, ew, ys, rfl, ra, la⟩ := L5.at_
    have ll : ys.length = acc.1 := by rw [ra.length]; simp [la]
    have r' : LstC G m5 H5 (acc.1 + 1, y' :: acc.2) (.lst (ys ++ [y])) := ⟨_, rfl, by show RVs G m5 H5 (y' :: acc.2).reverse (ys ++ [y]); rw [List.reverse_cons]; exact ra.append (.cons r5 .nil), by simp [la]⟩
    obtain ⟨L6, e6⟩ := L5.put lst_ok hD ew r'
    exact ⟨ys, ew, by rw [ll, sizeLine_eq]; omega, hN m5 h5 _ _ L6 (x5.ef.trans e6) p5⟩
  · rw [el] at p5; exact False.elim p5
theorem kLst_of {m1 : List Addr} {H1 : Hp} {D : Addr} (hD : H1 D = none) {σ0 : L2.St} {Q : VK} (m : List Addr) (h : MH) (H : Hp) (acc : Nat × List MV) (L : LI G (LstC G) m1 H1 D acc h m H) (p : RP G W0 (RV G) m1 H1 σ0 (kLst acc h) Q) : Q (.ref D) H := by
  obtain ⟨w, ew, ys, rfl, ra, la⟩ := L.at_
  have x3 : Ex G m1 H1 (m ++ [D]) H := L.x.app hD
  refine p (m ++ [D]) H (.ref D) x3 (L.S.adopt L.nD (by rw [ew]; exact ⟨ys, rfl, ra.mono ⟨⟨[D], rfl⟩, fun _ _ h => h, fun _ _ _ h => h⟩⟩) (by rw [ew]; exact fun q => nomatch q)) ?_
  simp only [RV]
  exact ⟨D, by rw [← L.S.len]; simp, rfl⟩
theorem LI.new {A : Type} {CR : List Addr → Hp → A → HO → Prop} {m1 : List Addr} {h1 : MH} {H1 : Hp} {D : Addr} {acc : A} {w : HO} (S : Sim G m1 h1 H1) (hD : H1 D = none) (r : CR m1 (upd H1 D w) acc w) : LI G CR m1 H1 D acc h1 m1 (upd H1 D w) :=
  ⟨Ex.upd D w (plain_none hD) (.inr hD), S.fresh hD _, fun q => S.trk D q hD, w, upd_same, r⟩
theorem lc_imp {vs : List Nat} (hp : ∀ i ∈ p.slots, i ∈ vs) {σ : L2.St} {H : Hp} {Q : VK} (q : tM G W0 (eLc w p tt fe vs) σ H Q) : L2.tLc (tMI G W0 w) (gP G p) (tMT G W0 tt) (tM G W0 fe) vs σ H Q := by
  refine (tMR.bind (Rel := WkR G) (f := w) (k := fun σ k h1 => (accL k p tt (bE fe) (wipeM σ vs) k.n 0 (0, []) h1).bind kLst) q).imp fun J H1 ⟨m1, h1, k, σm, S1, R1, r1, p1⟩ => ?_
  intro D hD
  have L0 : LI G (LstC G) m1 H1 D (0, []) h1 m1 (upd H1 D (.lst [])) := LI.new S1 hD ⟨[], rfl, .nil, rfl⟩
  exact acc_loop lst_ok hD r1 hp R1 L0 L0.x.ef p1 (bE_of hD) fun m h H acc L _ p => kLst_of hD m h H acc L p
theorem k_lc {vs : List Nat} (hp : ∀ i ∈ p.slots, i ∈ vs) (h : PE X e (L2.tLc (tMI G W0 w) (gP G p) (tMT G W0 tt) (tM G W0 fe) vs)) : PE X e (tM G W0 (eLc w p tt fe vs)) := h.wk fun σ H Q q => lc_imp hp q
/-- x = [..]: the list is told within its block -/
theorem js_setLc {st : Stmt} {i : Nat} {vs : List Nat} (hp : ∀ i ∈ p.slots, i ∈ vs) (h : PS X st (L2.tAsg (L2.tLc (tMI G W0 w) (gP G p) (tMT G W0 tt) (tM G W0 fe) vs) (L2.gName i))) : PS X st (tMS G W0 (jAsg (eLc w p tt fe vs) (.nm i))) := h.wk fun D σ H q =>
  lc_imp hp ((tMS.out (Rel := RV G) (k := fun σ v h1 => match asg (.nm i) v σ with | some σ1 => .nx σ1 h1 | none => .bad) q).imp fun x H1 ⟨m1, h1, v, σm, S1, R1, r1, p1⟩ => OP.nx_now p1 S1 (R1.set i r1))
theorem lc2_imp {vs vs1 : List Nat} (hp : ∀ i ∈ p.slots, i ∈ vs) (hp1 : ∀ i ∈ p1.slots, i ∈ vs1) {σ : L2.St} {H : Hp} {Q : VK} (q : tM G W0 (eLc2 w p tt w1 p1 tt1 fe vs vs1) σ H Q) : L2.tLc2 (tMI G W0 w) (gP G p) (tMT G W0 tt) (tMI G W0 w1) (gP G p1) (tMT G W0 tt1) (tM G W0 fe) vs vs1 σ H Q := by
  refine (tMR.bind (Rel := WkR G) (f := w) (k := fun σ k h1 => (accL k p tt (b2 w1 p1 tt1 fe vs1) (wipeM σ vs) k.n 0 (0, []) h1).bind kLst) q).imp fun J H1 ⟨m1, h1, k, σm, S1, R1, r1, p1'⟩ => ?_
  intro D hD
  have L0 : LI G (LstC G) m1 H1 D (0, []) h1 m1 (upd H1 D (.lst [])) := LI.new S1 hD ⟨[], rfl, .nil, rfl⟩
  refine acc_loop lst_ok hD r1 hp R1 L0 L0.x.ef p1' (fun σ2 m h H acc σ3 Kc Nx L R p hN => ?_) fun m h H acc L _ p => kLst_of hD m h H acc L p
  unfold b2 at p
  rw [Res.bind_assoc] at p
  refine ⟨m, h, σ3, L.S, R, (RP.part (Rel := WkR G) p L.x).imp fun J1 H5 ⟨m5, h5, k1, x5, S5, r5, p5⟩ => ?_⟩
  have L5 := L.step lst_ok x5 S5
  exact acc_loop lst_ok hD r5 hp1 (R.mono x5.toLe) L5 .refl p5 (bE_of hD) fun m' h' H' acc' L' e' p' => hN m' h' H' acc' L' (x5.ef.trans e') p'
theorem k_lc2 {vs vs1 : List Nat} (hp : ∀ i ∈ p.slots, i ∈ vs) (hp1 : ∀ i ∈ p1.slots, i ∈ vs1) (h : PE X e (L2.tLc2 (tMI G W0 w) (gP G p) (tMT G W0 tt) (tMI G W0 w1) (gP G p1) (tMT G W0 tt1) (tM G W0 fe) vs vs1)) : PE X e (tM G W0 (eLc2 w p tt w1 p1 tt1 fe vs vs1)) := h.wk fun σ H Q q => lc2_imp hp hp1 q
theorem js_setLc2 {st : Stmt} {i : Nat} {vs vs1 : List Nat} (hp : ∀ i ∈ p.slots, i ∈ vs) (hp1 : ∀ i ∈ p1.slots, i ∈ vs1) (h : PS X st (L2.tAsg (L2.tLc2 (tMI G W0 w) (gP G p) (tMT G W0 tt) (tMI G W0 w1) (gP G p1) (tMT G W0 tt1) (tM G W0 fe) vs vs1) (L2.gName i))) : PS X st (tMS G W0 (jAsg (eLc2 w p tt w1 p1 tt1 fe vs vs1) (.nm i))) := h.wk fun D σ H q =>
  lc2_imp hp hp1 ((tMS.out (Rel := RV G) (k := fun σ v h1 => match asg (.nm i) v σ with | some σ1 => .nx σ1 h1 | none => .bad) q).imp fun x H1 ⟨m1, h1, v, σm, S1, R1, r1, p1⟩ => OP.nx_now p1 S1 (R1.set i r1))
theorem kts_one {t : TM} {c : Expr} (h : PT X c (tMT G W0 t)) : PTs X [c] (tMT G W0 t) := pts_one h
/-! ### dicts -/
def DctC (G : GC) (m : List Addr) (H : Hp) (acc : Nat × List (MV × MV)) (w : HO) : Prop := DctR G m H false acc.2 w ∧ acc.2.length ≤ acc.1
theorem dct_ok : CRok G (DctC G) := ⟨fun ⟨r, l⟩ x => ⟨r.mono x, l⟩, fun ⟨r, _⟩ => by obtain ⟨ps, e, _⟩ := r; rw [e]; trivial⟩
theorem dput_len (k v : MV) (kvs : List (MV × MV)) : (dput k v kvs).length ≤ kvs.length + 1 := by
  unfold dput
  cases kvs.any fun p => keyB p.1 k with
  | true => dsimp only; rw [List.length_map]; omega
  | false => simp
theorem k_dc {vs : List Nat} (hp : ∀ i ∈ p.slots, i ∈ vs) (h : PE X e (L2.tDc (tMI G W0 w) (gP G p) (tMT G W0 tt) (tM G W0 fk) (tM G W0 fe) vs)) : PE X e (tM G W0 (eDc w p tt fk fe vs)) := h.wk fun σ H Q q => by
  refine (tMR.bind (Rel := WkR G) (f := w) (k := fun σ k h1 => (accL k p tt (bD fk fe) (wipeM σ vs) k.n 0 (0, []) h1).bind kDct) q).imp fun J H1 ⟨m1, h1, k, σm, S1, R1, r1, p1⟩ => ?_
  intro D hD
  have L0 : LI G (DctC G) m1 H1 D (0, []) h1 m1 (upd H1 D (.dK [])) := LI.new S1 hD ⟨⟨[], rfl, .nil⟩, Nat.le_refl _⟩
  refine acc_loop dct_ok hD r1 hp R1 L0 L0.x.ef p1 (fun σ2 m h H acc σ3 Kc Nx L R p hN => ?_) fun m h H acc L _ p => ?_
  · unfold bD at p
    rw [Res.bind_assoc] at p
    refine ⟨m, h, σ3, L.S, R, (RP.part (Rel := RV G) p L.x).imp fun y H5 ⟨m5, h5, y', x5, S5, r5, p5⟩ => ?_⟩
    have L5 := L.step dct_ok x5 S5
    rw [Res.bind_assoc] at p5
    refine ⟨m5, h5, σ3, S5, R.mono x5.toLe, (RP.part (Rel := RV G) p5 L5.x).imp fun z H6 ⟨m6, h6, z', x6, S6, r6, p6⟩ => ?_⟩
    have L6 := L5.step dct_ok x6 S6
    cases ek : keyA y' with
    | false => rw [ek] at p6; exact False.elim p6
    | true =>
      rw [ek] at p6
      dsimp only at p6
      rcases lim_cases (acc.1 + 1) (Res.ok (acc.1 + 1, dput y' z' acc.2) h6) with ⟨hl, el⟩ | el
      · rw [el] at p6
        obtain ⟨w, ew, ⟨ps, rfl, pr⟩, la⟩ := L6.at_
        obtain ⟨kk, rk⟩ := keyA_kr ek
        have yk := kr_rv' rk r5
        subst yk
        have r' : DctC G m6 H6 (acc.1 + 1, dput y' z' acc.2) (.dK (putK ps kk z)) := ⟨⟨_, rfl, dput_of keyB_eq rk r6 pr⟩, by have := dput_len y' z' acc.2; show (dput y' z' acc.2).length ≤ acc.1 + 1; omega⟩
        obtain ⟨L7, e7⟩ := L6.put dct_ok hD ew r'
        exact ⟨ps, kk, rfl, ew, by rw [← pr.length, sizeLine_eq]; omega, hN m6 h6 _ _ L7 ((x5.ef.trans x6.ef).trans e7) p6⟩
      · rw [el] at p6; exact False.elim p6
  · obtain ⟨w, ew, r, la⟩ := L.at_
    have x3 : Ex G m1 H1 (m ++ [D]) H := L.x.app hD
    refine p (m ++ [D]) H (.ref D) x3 (L.S.adopt L.nD (by rw [ew]; exact ⟨w, r.mono ⟨⟨[D], rfl⟩, fun _ _ h => h, fun _ _ _ h => h⟩, rfl⟩) (by rw [ew]; exact fun q => nomatch q)) ?_
    simp only [RV]
    exact ⟨D, by rw [← L.S.len]; simp, rfl⟩
end
end KA

set_option Elab.async false
set_option autoImplicit false
set_option linter.all false
set_option maxRecDepth 100000
set_option maxHeartbeats 400000
/-! KWalk: more walks, isinstance, calls with keywords, **. -/
namespace KA
open PySem PySem.Spec PyProof.Rows L2
section
variable {X : Cx} {G : GC} {W : XW} {tg e : Expr} {fa fb fc : EM}
/-! ### range(a, b, c) -/
theorem rgC_of {i j k : Int} (h1 : rg62 i = true) (h2 : rg62 j = true) (h3 : 0 < k) (h4 : k < 1073741824) : RgC i j k (stepN i j k) := by
  obtain ⟨a1, a2⟩ := rgOk_iff (i := i) h1
  obtain ⟨b1, b2⟩ := rgOk_iff (i := j) h2
  have es : Builtin.Range.rangeSize i j k = (stepN i j k : Int) := by
    unfold Builtin.Range.rangeSize stepN
    rw [if_pos h3]
    by_cases c : i < j
    · rw [if_pos c, decide_eq_true c]
      have : 0 ≤ (j - i - 1) / k := Int.ediv_nonneg (by omega) (by omega)
      dsimp only
      omega
    · rw [if_neg c, decide_eq_false c]; rfl
  refine ⟨by omega, by omega, ?_, es⟩
  have hn : (stepN i j k : Int) ≤ 2 ^ 63 - 1 := by
    unfold stepN
    by_cases c : i < j
    · rw [decide_eq_true c]
      have h0 : 0 ≤ (j - i - 1) / k := Int.ediv_nonneg (by omega) (by omega)
      have h1 : (j - i - 1) / k ≤ j - i - 1 := Int.ediv_le_self _ (by omega)
      dsimp only
      omega
    · rw [decide_eq_false c]; dsimp only; omega
  unfold Builtin.Range.small
  rw [es]
  simp only [Builtin.Range.rangeFitsLong, Bool.and_eq_true, Bool.or_eq_true, decide_eq_true_eq, beq_iff_eq, show (k > 0) = True from propext ⟨fun _ => trivial, fun _ => h3⟩, if_true]
  omega
theorem wkR_C {m : List Addr} {H : Hp} {lo c : Int} {n : Nat} : WkR G m H (wkC lo c n) (Itc lo c n) where
  item := fun m1 h1 H1 i v x S hi e => by
    refine ⟨hi, fun z H' q => ?_⟩
    obtain ⟨rfl, rfl⟩ := q
    cases e
    exact ⟨.refl, S, by simp [RV]⟩
  fin := fun m1 h1 H1 x S e => Nat.le_refl _
theorem ki_rng3 (h : PI X tg e (L2.iRng3 (L2.tCons (tM G W fa) (L2.tCons (tM G W fb) (L2.tCons (tM G W fc) L2.tNil))))) : PI X tg e (tMI G W (wRng3 fa fb fc)) := PI_wk h fun σ H R q => by
  refine (tMR.bind (Rel := RV G) (k := fun σ v h1 => (fb σ h1).bind fun w h2 => (fc σ h2).bind fun u h3 => match v, w, u with
  | .int i, .int j, .int k => (match (rg62 i && rg62 j) && (decide (0 < k) && decide (k < 1073741824)) with
    | true => .ok (wkC i k (stepN i j k)) h3
    | false => .bad)
  | _, _, _ => .bad) q).imp fun x H1 ⟨m1, h1, v, σm, S1, R1, r1, p1⟩ => ?_
  refine ⟨m1, h1, σm, S1, R1, (RP.bind (Rel := RV G) p1).imp fun y H2 ⟨m2, h2, w, x2, S2, r2, p2⟩ => ?_⟩
  refine ⟨m2, h2, σm, S2, R1.mono x2.toLe, (RP.bind (Rel := RV G) p2).imp fun z H3 ⟨m3, h3, u, x3, S3, r3, p3⟩ => ?_⟩
  cases v with
  | int i =>
    cases w with
    | int j =>
      cases u with
      | int k =>
        simp only [RV] at r1 r2 r3
        subst r1 r2 r3
        dsimp only at p3
        cases e : (rg62 i && rg62 j) && (decide (0 < k) && decide (k < 1073741824)) with
        | false => rw [e] at p3; exact False.elim p3
        | true =>
          rw [e] at p3
          obtain ⟨e1, e2⟩ := Bool.and_eq_true_iff.mp e
          obtain ⟨e3, e4⟩ := Bool.and_eq_true_iff.mp e1
          obtain ⟨e5, e6⟩ := Bool.and_eq_true_iff.mp e2
          exact ⟨i, j, k, _, rfl, rgC_of e3 e4 (of_decide_eq_true e5) (of_decide_eq_true e6), RP.now p3 S3 wkR_C⟩
      | _ => exact False.elim p3
    | _ => exact False.elim p3
  | _ => exact False.elim p3
/-! ### a text's signs -/
theorem wkR_S {m : List Addr} {H : Hp} {s : List Nat} : WkR G m H (wkS s) (Its ⟨s.toArray⟩) where
  item := fun m1 h1 H1 i v x S hi e => by
    have hi' : i < s.length := hi
    refine ⟨by show i < (⟨s.toArray⟩ : PySem.Str).cps.size; simpa using hi', fun z H' q => ?_⟩
    obtain ⟨rfl, c, ec, rfl⟩ := q
    have ec' : s[i]? = some c := by simpa using ec
    unfold wkS at e
    dsimp only at e
    rw [ec'] at e
    cases e
    exact ⟨.refl, S, by simp only [RV]⟩
  fin := fun m1 h1 H1 x S e => by
    show (⟨s.toArray⟩ : PySem.Str).cps.size ≤ s.length
    simp
theorem ki_str (h : PI X tg e (L2.iStr (tM G W fa))) : PI X tg e (tMI G W (wStr fa)) := PI_wk h fun σ H R q => by
  refine (tMR.bind (Rel := RV G) (k := fun _ v h1 => match v with
  | .str s => .ok (wkS s) h1
  | _ => .bad) q).imp fun x H1 ⟨m1, h1, v, σm, S1, R1, r1, p1⟩ => ?_
  cases v with
  | str s =>
    simp only [RV] at r1
    exact ⟨_, r1, RP.now p1 S1 wkR_S⟩
  | _ => exact False.elim p1
/-! ### new pairs -/
theorem pair_new {m : List Addr} {h : MH} {H H' : Hp} {T : Addr} {a b : MV} {x y : V} (S : Sim G m h H) (hT : H T = none) (e : H' = upd H T (.tup [x, y])) (r1 : RV G m H a x) (r2 : RV G m H b y) : Ex G m H m H' ∧ Sim G m h H' ∧ RV G m H' (.tup [a, b]) (.ref T) := by
  subst e
  have x : Ex G m H m (upd H T (.tup [x, y])) := .upd T _ (plain_none hT) (.inr hT)
  refine ⟨x, S.fresh hT _, ?_⟩
  simp only [RV]
  exact ⟨T, _, rfl, upd_same, .cons (r1.mono x.toLe) (.cons (r2.mono x.toLe) .nil)⟩
/-! ### enumerate -/
theorem wkR_E {m : List Addr} {H : Hp} {n k : Nat} {a : Addr} (ea : m[n]? = some a) : WkR G m H (wkE (wkL n k)) (Ite G.K a) where
  item := fun m1 h1 H1 i v x S hi e => by
    unfold wkE wkL at e
    dsimp only at e
    cases eg : h1.get n with
    | none => rw [eg] at e; cases e
    | some o =>
      rw [eg] at e
      cases o with
      | lst xs =>
        dsimp only at e
        cases ei : xs[i]? with
        | none => rw [ei] at e; cases e
        | some w =>
          rw [ei] at e
          cases e
          obtain ⟨b, ys, eb, _, eh, r⟩ := S.lst eg (show RV G m1 H1 (.ref n) (.ref a) by simp only [RV]; exact ⟨a, x.toLe.ix ea, rfl⟩)
          have hb : b = a := Option.some.inj (eb.symm.trans (x.toLe.ix ea))
          subst hb
          obtain ⟨y, ey, ry⟩ := r.get ei
          refine ⟨⟨ys, y, SqL.of eh, ey⟩, fun z H' q => ?_⟩
          obtain ⟨T, u, rfl, hT, eH, q⟩ := q
          have hz := q ys (SqL.of eh)
          rw [ey] at hz
          cases hz
          exact pair_new S hT eH (by simp only [RV]) ry
      | ins _ _ => cases e
      | dct _ _ _ => cases e
  fin := fun m1 h1 H1 x S e => (wkR_L (G := G) (H := H) (k := k) ea).fin m1 h1 H1 x S e
theorem ki_enum {K : PySem.W.Frag} (hK : K = G.K) (h : PI X tg e (L2.iEnum K (L2.tCons (tM G W fa) L2.tNil))) : PI X tg e (tMI G W (wEnum fa)) := PI_wk h fun σ H R q => by
  subst hK
  refine (tMR.bind (Rel := RV G) (k := fun _ v h1 => match v with
  | .ref n => (match h1.get n with
    | some (.lst xs) => .ok (wkE (wkL n xs.length)) h1
    | _ => .bad)
  | _ => .bad) q).imp fun x H1 ⟨m1, h1, v, σm, S1, R1, r1, p1⟩ => ?_
  cases v with
  | ref n =>
    dsimp only at p1
    cases eg : h1.get n with
    | none => rw [eg] at p1; exact False.elim p1
    | some o =>
      rw [eg] at p1
      cases o with
      | lst xs =>
        obtain ⟨a, ys, ea, rfl, eh, r⟩ := S1.lst eg r1
        exact ⟨a, ys, rfl, SqL.of eh, RP.now p1 S1 (wkR_E ea)⟩
      | ins _ _ => exact False.elim p1
      | dct _ _ _ => exact False.elim p1
  | _ => exact False.elim p1
/-! ### zip -/
theorem wkR_ZT {m : List Addr} {H : Hp} {a b : Addr} {xs ys : List MV} {us vs : List V} (ha : H a = some (.tup us)) (hb : H b = some (.tup vs)) (ra : RVs G m H xs us) (rb : RVs G m H ys vs) : WkR G m H (wkZT xs ys) (RZ.ItzT G.K a b) where
  item := fun m1 h1 H1 i v x S hi e => by
    unfold wkZT at e
    dsimp only at e
    cases e1 : xs[i]? with
    | none => rw [e1] at e; cases e
    | some p =>
      cases e2 : ys[i]? with
      | none => rw [e1, e2] at e; cases e
      | some q =>
        rw [e1, e2] at e
        cases e
        have ha1 := SqT.of (K := G.K) (x.toLe.tup _ _ ha)
        have hb1 := SqT.of (K := G.K) (x.toLe.tup _ _ hb)
        obtain ⟨y, ey, ry⟩ := (ra.mono x.toLe).get e1
        obtain ⟨z, ez, rz⟩ := (rb.mono x.toLe).get e2
        refine ⟨⟨us, vs, y, z, ha1, hb1, ey, ez⟩, fun w H' q => ?_⟩
        obtain ⟨T, y', z', rfl, hT, eH, q1, q2⟩ := q
        have h1 := q1 us ha1
        have h2 := q2 vs hb1
        rw [ey] at h1
        rw [ez] at h2
        cases h1
        cases h2
        exact pair_new S hT eH ry rz
  fin := fun m1 h1 H1 x S e => ⟨us, vs, SqT.of (x.toLe.tup _ _ ha), SqT.of (x.toLe.tup _ _ hb), by
    have := ra.length
    have := rb.length
    show us.length ≤ Nat.min xs.length ys.length ∨ vs.length ≤ Nat.min xs.length ys.length
    rcases Nat.le_total xs.length ys.length with c | c
    · left; rw [show Nat.min xs.length ys.length = xs.length from Nat.min_eq_left c]; omega
    · right; rw [show Nat.min xs.length ys.length = ys.length from Nat.min_eq_right c]; omega⟩
theorem seq_at {m m1 : List Addr} {h h1 : MH} {H H1 : Hp} {v : MV} {x : V} {xs ys : List MV} (S : Sim G m h H) (r : RV G m H v x) (e : seqOf h v = some xs) (le : Ef G m H m1 H1) (S1 : Sim G m1 h1 H1) (e1 : seqOf h1 v = some ys) : ∃ a us, x = .ref a ∧ SqL G.K H1 a us ∧ RVs G m1 H1 ys us := by
  have r1 : RV G m1 H1 v x := r.mono le.toLe
  exact seq_sq S1 e1 r1
theorem wkR_ZL {m : List Addr} {h : MH} {H : Hp} {a b : Addr} {v w : MV} {xs ys : List MV} {n : Nat} (S0 : Sim G m h H) (rv : RV G m H v (.ref a)) (rw_ : RV G m H w (.ref b)) (e1 : seqOf h v = some xs) (e2 : seqOf h w = some ys) : WkR G m H (wkZL v w n) (Itz G.K a b) where
  item := fun m1 h1 H1 i u x S hi e => by
    unfold wkZL at e
    dsimp only at e
    cases e3 : seqOf h1 v with
    | none => rw [e3] at e; cases e
    | some xs1 =>
      cases e4 : seqOf h1 w with
      | none => rw [e3, e4] at e; cases e
      | some ys1 =>
        rw [e3, e4] at e
        dsimp only at e
        cases e5 : xs1[i]? with
        | none => rw [e5] at e; cases e
        | some p =>
          cases e6 : ys1[i]? with
          | none => rw [e5, e6] at e; cases e
          | some q =>
            rw [e5, e6] at e
            cases e
            obtain ⟨a', us, ea, sa, ra⟩ := seq_at S0 rv e1 x S e3
            obtain ⟨b', vs, eb, sb, rb⟩ := seq_at S0 rw_ e2 x S e4
            cases ea
            cases eb
            obtain ⟨y, ey, ry⟩ := ra.get e5
            obtain ⟨z, ez, rz⟩ := rb.get e6
            refine ⟨⟨us, vs, y, z, sa, sb, ey, ez⟩, fun w H' q => ?_⟩
            obtain ⟨T, y', z', rfl, hT, eH, q1, q2⟩ := q
            have h1 := q1 us sa
            have h2 := q2 vs sb
            rw [ey] at h1
            rw [ez] at h2
            cases h1
            cases h2
            exact pair_new S hT eH ry rz
  fin := fun m1 h1 H1 x S e => by
    unfold wkZL at e
    dsimp only at e
    cases e3 : seqOf h1 v with
    | none => rw [e3] at e; cases e
    | some xs1 =>
      cases e4 : seqOf h1 w with
      | none => rw [e3, e4] at e; cases e
      | some ys1 =>
        rw [e3, e4] at e
        dsimp only at e
        obtain ⟨a', us, ea, sa, ra⟩ := seq_at S0 rv e1 x S e3
        obtain ⟨b', vs, eb, sb, rb⟩ := seq_at S0 rw_ e2 x S e4
        cases ea
        cases eb
        refine ⟨us, vs, sa, sb, ?_⟩
        rcases Bool.or_eq_true_iff.mp e with q | q
        · exact .inl (by rw [ra.length]; exact Nat.le_of_ble_eq_true q)
        · exact .inr (by rw [rb.length]; exact Nat.le_of_ble_eq_true q)
theorem ki_zip {K : PySem.W.Frag} (hK : K = G.K) (h : PI X tg e (RZ.iZipA K (L2.tCons (tM G W fa) (L2.tCons (tM G W fb) L2.tNil)))) : PI X tg e (tMI G W (wZip fa fb)) := PI_wk h fun σ H R q => by
  subst hK
  refine (tMR.bind (Rel := RV G) (k := fun σ v h1 => (fb σ h1).bind fun w h2 => match v, w with
  | .tup xs, .tup ys => .ok (wkZT xs ys) h2
  | _, _ => (match seqOf h2 v, seqOf h2 w with
    | some xs, some ys => .ok (wkZL v w (Nat.min xs.length ys.length)) h2
    | _, _ => .bad)) q).imp fun x H1 ⟨m1, h1, v, σm, S1, R1, r1, p1⟩ => ?_
  refine ⟨m1, h1, σm, S1, R1, (RP.bind (Rel := RV G) p1).imp fun y H2 ⟨m2, h2, w, x2, S2, r2, p2⟩ => ?_⟩
  have r1' := r1.mono x2.toLe
  have lst : ∀ {k : Wk}, RP G W (WkR G) m2 H2 σ (match seqOf h2 v, seqOf h2 w with
    | some xs, some ys => .ok (wkZL v w (Nat.min xs.length ys.length)) h2
    | _, _ => .bad) R → ∃ a b xs ys, [x, y] = [V.ref a, .ref b] ∧ ((SqL G.K H2 a xs ∧ SqL G.K H2 b ys ∧ R (Itz G.K a b) H2) ∨ (SqT G.K H2 a xs ∧ SqT G.K H2 b ys ∧ R (RZ.ItzT G.K a b) H2)) := fun {k} p => by
    cases e1 : seqOf h2 v with
    | none => rw [e1] at p; exact False.elim p
    | some xs =>
      cases e2 : seqOf h2 w with
      | none => rw [e1, e2] at p; exact False.elim p
      | some ys =>
        rw [e1, e2] at p
        obtain ⟨a, us, rfl, sa, _⟩ := seq_sq S2 e1 r1'
        obtain ⟨b, vs, rfl, sb, _⟩ := seq_sq S2 e2 r2
        exact ⟨a, b, us, vs, rfl, .inl ⟨sa, sb, RP.now p S2 (wkR_ZL S2 r1' r2 e1 e2)⟩⟩
  cases v with
  | tup xs =>
    cases w with
    | tup ys =>
      simp only [RV] at r1' r2
      obtain ⟨a, us, rfl, ea, ra⟩ := r1'
      obtain ⟨b, vs, rfl, eb, rb⟩ := r2
      exact ⟨a, b, us, vs, rfl, .inr ⟨SqT.of ea, SqT.of eb, RP.now p2 S2 (wkR_ZT ea eb ra rb)⟩⟩
    | _ => exact lst (k := wkS []) p2
  | _ => exact lst (k := wkS []) p2
/-! ### dicts -/
theorem dct_at {m m1 : List Addr} {h1 : MH} {H H1 : Hp} {n : Nat} {a : Addr} {w : HO} {od : Obj} (ea : m[n]? = some a) (eh : H a = some (.frz od w)) (le : Ef G m H m1 H1) (S1 : Sim G m1 h1 H1) {tk : Bool} {kvs : List (MV × MV)} (e1 : h1.get n = some (.dct tk true kvs)) : H1 a = some (.frz od w) ∧ DctR G m1 H1 tk kvs w := by
  obtain ⟨b, eb, w', dr, eo⟩ := S1.at_ n _ e1
  have hb : b = a := Option.some.inj (eb.symm.trans (le.toLe.ix ea))
  subst hb
  obtain ⟨ob, eo⟩ := eo
  have e := le.frd _ _ _ eh
  rw [e] at eo
  cases eo
  exact ⟨e, dr⟩
theorem paired_get {α β : Type} {R : α → β → Prop} : ∀ {xs : List α} {ys : List β}, Paired R xs ys → ∀ {i : Nat} {x : α}, xs[i]? = some x → ∃ y, ys[i]? = some y ∧ R x y
  | _, _, .nil, i, x, e => by simp at e
  | _, _, .cons r t, 0, x, e => by simp at e; subst e; exact ⟨_, rfl, r⟩
  | _, _, .cons r t, i + 1, x, e => by simp at e; obtain ⟨y, h1, h2⟩ := paired_get t e; exact ⟨y, by simpa using h1, h2⟩
theorem wkD_invH {k n N i : Nat} {h1 : MH} {v : MV} (e : (wkD k n N).at_ i h1 = some v) : ∃ tk kvs p, h1.get n = some (.dct tk true kvs) ∧ kvs[i]? = some p ∧ v = entM k p := by
  unfold wkD at e
  dsimp only at e
  cases eg : h1.get n with
  | none => rw [eg] at e; cases e
  | some o =>
    rw [eg] at e
    cases o with
    | dct tk lk kvs =>
      cases lk with
      | false => cases e
      | true =>
        dsimp only at e
        cases ei : kvs[i]? with
        | none => rw [ei] at e; cases e
        | some p => rw [ei] at e; cases e; exact ⟨tk, kvs, p, rfl, ei, rfl⟩
    | _ => cases e
theorem wkD_finH {k n N : Nat} {h1 : MH} (e : (wkD k n N).fin h1 = true) : ∃ tk kvs, h1.get n = some (.dct tk true kvs) ∧ kvs.length ≤ N := by
  unfold wkD at e
  dsimp only at e
  cases eg : h1.get n with
  | none => rw [eg] at e; cases e
  | some o =>
    rw [eg] at e
    cases o with
    | dct tk lk kvs =>
      obtain ⟨e1, e2⟩ := Bool.and_eq_true_iff.mp e
      subst e1
      exact ⟨tk, kvs, rfl, Nat.le_of_ble_eq_true e2⟩
    | _ => cases e
theorem dK_inv {m : List Addr} {H : Hp} {tk : Bool} {kvs : List (MV × MV)} {ps : List (Key × V)} (d : DctR G m H tk kvs (.dK ps)) : Paired (fun p q => KR p.1 q.1 ∧ RV G m H p.2 q.2) kvs ps := by
  cases tk with
  | false => obtain ⟨ps', e, pr⟩ := d; cases e; exact pr
  | true => obtain ⟨ps', e, pr⟩ := d; cases e
theorem wkR_D0 {m : List Addr} {H : Hp} {n N : Nat} {a : Addr} {od : Obj} {ps : List (Key × V)} (ea : m[n]? = some a) (eh : H a = some (.frz od (.dK ps))) (hN : ps.length = N) : WkR G m H (wkD 0 n N) (Itk a od ps) where
  item := fun m1 h1 H1 i v x S hi e => by
    obtain ⟨tk, kvs, p, eg, ei, rfl⟩ := wkD_invH e
    obtain ⟨e1, d⟩ := dct_at ea eh x S eg
    obtain ⟨q, eq, r1, r2⟩ := paired_get (dK_inv d) ei
    refine ⟨⟨e1, by rw [hN]; exact hi⟩, fun z H' y => ?_⟩
    obtain ⟨rfl, k, u, ek, rfl⟩ := y
    rw [eq] at ek
    cases ek
    exact ⟨.refl, S, kr_rv r1⟩
  fin := fun m1 h1 H1 x S e => by
    obtain ⟨tk, kvs, eg, _⟩ := wkD_finH e
    exact ⟨(dct_at ea eh x S eg).1, by rw [hN]; exact Nat.le_refl _⟩
theorem wkR_D1 {m : List Addr} {H : Hp} {n N : Nat} {a : Addr} {od : Obj} {ps : List (Key × V)} (ea : m[n]? = some a) (eh : H a = some (.frz od (.dK ps))) (hN : ps.length = N) : WkR G m H (wkD 1 n N) (Itd a od ps) where
  item := fun m1 h1 H1 i v x S hi e => by
    obtain ⟨tk, kvs, p, eg, ei, rfl⟩ := wkD_invH e
    obtain ⟨e1, d⟩ := dct_at ea eh x S eg
    obtain ⟨q, eq, r1, r2⟩ := paired_get (dK_inv d) ei
    refine ⟨⟨e1, by rw [hN]; exact hi⟩, fun z H' y => ?_⟩
    obtain ⟨rfl, k, ek⟩ := y
    rw [eq] at ek
    cases ek
    exact ⟨.refl, S, r2⟩
  fin := fun m1 h1 H1 x S e => by
    obtain ⟨tk, kvs, eg, _⟩ := wkD_finH e
    exact ⟨(dct_at ea eh x S eg).1, by rw [hN]; exact Nat.le_refl _⟩
theorem wkR_D2 {m : List Addr} {H : Hp} {n N : Nat} {a : Addr} {od : Obj} {ps : List (Key × V)} (ea : m[n]? = some a) (eh : H a = some (.frz od (.dK ps))) (hN : ps.length = N) : WkR G m H (wkD 2 n N) (Iti a od ps) where
  item := fun m1 h1 H1 i v x S hi e => by
    obtain ⟨tk, kvs, p, eg, ei, rfl⟩ := wkD_invH e
    obtain ⟨e1, d⟩ := dct_at ea eh x S eg
    obtain ⟨q, eq, r1, r2⟩ := paired_get (dK_inv d) ei
    refine ⟨⟨e1, by rw [hN]; exact hi⟩, fun z H' y => ?_⟩
    obtain ⟨T, k, u, ek, rfl, hT, eH⟩ := y
    rw [eq] at ek
    cases ek
    exact pair_new S hT eH (kr_rv r1) r2
  fin := fun m1 h1 H1 x S e => by
    obtain ⟨tk, kvs, eg, _⟩ := wkD_finH e
    exact ⟨(dct_at ea eh x S eg).1, by rw [hN]; exact Nat.le_refl _⟩
theorem wDct_of {k : Nat} {σ : L2.St} {H : Hp} {R : It → Hp → Prop} (q : tMI G W (wDct k fa) σ H R) : tM G W fa σ H fun x H1 => ∃ (m1 : List Addr) (h1 : MH) (n : Nat) (a : Addr) (od : Obj) (kvs : List (MV × MV)) (ps : List (Key × V)), x = .ref a ∧ Sim G m1 h1 H1 ∧ m1[n]? = some a ∧ H1 a = some (.frz od (.dK ps)) ∧ ps.length = kvs.length ∧ RP G W (WkR G) m1 H1 σ (.ok (wkD k n kvs.length) h1) R := by
  refine (tMR.bind (Rel := RV G) (k := fun _ v h1 => match v with
  | .ref n => (match h1.get n with
    | some (.dct tk lk kvs) => (match lk && !tk with
      | true => .ok (wkD k n kvs.length) h1
      | false => .bad)
    | _ => .bad)
  | _ => .bad) q).imp fun x H1 ⟨m1, h1, v, σm, S1, R1, r1, p1⟩ => ?_
  cases v with
  | ref n =>
    dsimp only at p1
    cases eg : h1.get n with
    | none => rw [eg] at p1; exact False.elim p1
    | some o =>
      rw [eg] at p1
      cases o with
      | dct tk lk kvs =>
        dsimp only at p1
        cases lk with
        | false => exact False.elim p1
        | true =>
          cases tk with
          | true => exact False.elim p1
          | false =>
            obtain ⟨a, w, ea, rfl, dr, eh⟩ := S1.dct eg r1
            obtain ⟨od, eh⟩ := eh
            obtain ⟨ps, rfl, pr⟩ := dr
            exact ⟨m1, h1, n, a, od, kvs, ps, rfl, S1, ea, eh, pr.length.symm, p1⟩
      | _ => exact False.elim p1
  | _ => exact False.elim p1
theorem ki_keys (h : PI X tg e (L2.iKeys (tM G W fa))) : PI X tg e (tMI G W (wDct 0 fa)) := PI_wk h fun σ H R q => (wDct_of q).imp fun x H1 ⟨m1, h1, n, a, od, kvs, ps, e, S, ea, eh, hl, p⟩ => ⟨a, od, e, .inl ⟨ps, eh, RP.now p S (wkR_D0 ea eh hl)⟩⟩
theorem ki_vals (h : PI X tg e (L2.iVals (tM G W fa))) : PI X tg e (tMI G W (wDct 1 fa)) := PI_wk h fun σ H R q => (wDct_of q).imp fun x H1 ⟨m1, h1, n, a, od, kvs, ps, e, S, ea, eh, hl, p⟩ => ⟨a, od, ps, e, eh, RP.now p S (wkR_D1 ea eh hl)⟩
theorem ki_items (h : PI X tg e (L2.iItems (tM G W fa))) : PI X tg e (tMI G W (wDct 2 fa)) := PI_wk h fun σ H R q => (wDct_of q).imp fun x H1 ⟨m1, h1, n, a, od, kvs, ps, e, S, ea, eh, hl, p⟩ => ⟨a, od, ps, e, eh, RP.now p S (wkR_D2 ea eh hl)⟩
theorem o_pow : Op2 G (rI CPow fun i j => .int (i ^ j.toNat)) qPow := op2_int fun v w h => by
  cases v with
  | int i =>
    cases w with
    | int j =>
      unfold qPow
      dsimp only
      cases e : (decide (0 ≤ j) && decide (j ≤ 1000000)) && small64 i with
      | false => exact .inr rfl
      | true =>
        obtain ⟨e1, e2⟩ := Bool.and_eq_true_iff.mp e
        obtain ⟨e3, e4⟩ := Bool.and_eq_true_iff.mp e1
        have : i.natAbs < 18446744073709551616 := Nat.le_of_ble_eq_true e2
        exact .inl ⟨i, j, _, rfl, rfl, rfl, ⟨of_decide_eq_true e3, of_decide_eq_true e4, this⟩, fun m H => by simp only [RV]⟩
    | _ => exact .inr rfl
  | _ => exact .inr rfl
end
/-! ### isinstance -/
def kty (G : GC) : Nat → Value
  | 0 => .type "NoneType"
  | 1 => .type "bool"
  | 2 => .type "int"
  | 3 => .type "str"
  | 4 => .type "list"
  | 5 => .type "tuple"
  | 6 => .type "dict"
  | 7 => .none
  | 8 => .none
  | 9 => .none
  | c + 10 => .ref (G.cl c)
/-- an own class, as isinstance looks at it -/
structure InsOk (K : PySem.W.Frag) (C : Addr) : Prop where
  cls : Cls K C
  ha : PySem.W.findIn K (.ref C) "__class__" = some (some (.builtin "object.__class__"))
  hn : PySem.W.specialIn K (.builtin "object.__class__") "__get__" = some (some (.builtin "getset_descriptor.__get__"))
  htk : PySem.W.takesIn K (.builtin "object.__class__") = some true
  hm : PySem.W.mroIn K C (.type "object") = some true
structure IsiOk (G : GC) (nc k : Nat) (u : Value) : Prop where
  ins : ∀ c, c + 10 < nc → InsOk G.K (G.cl c)
  one : ∀ j, j < nc → (j < 7 ∨ 10 ≤ j) → PySem.W.kitOne G.K (kty G j) u = some (isA j k)
theorem kind_of {G : GC} {m : List Addr} {h : MH} {H : Hp} (S : Sim G m h H) {v : MV} {x : V} (r : RV G m H v x) {j nc k : Nat} {u : Value} (ek : kindOf h v = some j) (hj : j < nc) (I : IsiOk G nc k u) : (j < 7 ∨ 10 ≤ j) ∧ TyX G.K H x (kty G j) := by
  cases v with
  | non => cases ek; simp only [RV] at r; subst r; exact ⟨by omega, .base .non⟩
  | bl b => cases ek; simp only [RV] at r; subst r; exact ⟨by omega, .base (.bl _)⟩
  | int i => cases ek; simp only [RV] at r; subst r; exact ⟨by omega, .base (.int _)⟩
  | str s => cases ek; simp only [RV] at r; subst r; exact ⟨by omega, .base (.str _)⟩
  | tup ts =>
    cases ek
    simp only [RV] at r
    obtain ⟨a, xs, rfl, e, _⟩ := r
    exact ⟨by omega, .base (.tup e)⟩
  | flst ts =>
    cases ek
    simp only [RV] at r
    obtain ⟨a, xs, rfl, e, _⟩ := r
    refine ⟨by omega, ?_⟩
    rcases e with ⟨o, e⟩ | ⟨o, its, n, e, c, _⟩
    · exact .base (.frz e)
    · exact .kList e c
  | ref n =>
    unfold kindOf at ek
    dsimp only at ek
    cases eg : h.get n with
    | none => rw [eg] at ek; cases ek
    | some o =>
      rw [eg] at ek
      cases o with
      | lst xs =>
        cases ek
        obtain ⟨a, ys, _, rfl, eh, _⟩ := S.lst eg r
        exact ⟨by omega, .base (.lst eh)⟩
      | dct tk lk kvs =>
        obtain ⟨a, w, _, rfl, dr, eh⟩ := S.dct eg r
        cases tk with
        | false =>
          cases ek
          obtain ⟨ps, rfl, _⟩ := dr
          cases lk with
          | false => exact ⟨by omega, .base (.dK eh)⟩
          | true => obtain ⟨od, eh⟩ := eh; exact ⟨by omega, .fDict eh⟩
        | true =>
          cases lk with
          | false =>
            cases ek
            obtain ⟨ps, rfl, _⟩ := dr
            exact ⟨by omega, .base (.dT eh)⟩
          | true => cases ek
      | ins c fs =>
        cases ek
        obtain ⟨a, dx, gs, _, rfl, eh, _⟩ := S.ins eg r
        have z := I.ins c hj
        exact ⟨by omega, .base (.ins eh z.cls z.ha z.hn z.htk z.hm)⟩
section
variable {X : Cx} {G : GC} {W : XW} {e : Expr} {fa : EM} {am ak : AM}
theorem k_isi {nc k : Nat} {u : Value} {cv : V} {K : PySem.W.Frag} (hK : K = G.K) (I : IsiOk G nc k u) (hc : ClsV cv u) (h : PE X e (tCB (rIsi K) (L2.tCons (tM G W fa) (L2.tCons (L2.tC cv) L2.tNil)))) : PE X e (tM G W (e1 (qIsi nc k) fa)) := h.wk fun σ H Q q => by
  subst hK
  refine (tMR.bind (Rel := RV G) (k := fun _ v h1 => qIsi nc k v h1) q).imp fun x H1 ⟨m1, h1, v, σm, S1, R1, r1, p1⟩ => ?_
  unfold qIsi at p1
  cases ek : kindOf h1 v with
  | none => rw [ek] at p1; exact False.elim p1
  | some j =>
    rw [ek] at p1
    dsimp only at p1
    cases ej : Nat.blt j nc with
    | false => rw [ej] at p1; exact False.elim p1
    | true =>
      rw [ej] at p1
      have hj : j < nc := Nat.le_of_ble_eq_true ej
      obtain ⟨z, ty⟩ := kind_of S1 r1 ek hj I
      exact ⟨x, cv, _, u, _, rfl, hc, ty, I.one j hj z, RP.now p1 S1 (by simp only [RV])⟩
/-! ### keywords -/
theorem PK_wk {kws : List Keyword} {t t' : TA} (h : PK X kws t) (k : ∀ σ H Q, t' σ H Q → t σ H Q) : PK X kws t' := ⟨fun p pins s σ H Q I q => h.run p pins s σ H Q I (k σ H Q q)⟩
theorem kk_nil : PK X [] (tMA G W aNil) := PK_wk pk_nil fun σ H Q ⟨m, h, σm, S, R, p⟩ => RP.now p S .nil
theorem kk_cons {kws : List Keyword} (h : PK X kws (L2.tCons (tM G W fa) (tMA G W am))) : PK X kws (tMA G W (aCons fa am)) := PK_wk h fun σ H Q q => by
  refine (tMR.bind (Rel := RV G) (k := fun σ v h1 => (am σ h1).bind fun vs h2 => .ok (v :: vs) h2) q).imp fun x H1 ⟨m1, h1, v, σm, S1, R1, r1, p1⟩ => ?_
  exact ⟨m1, h1, σm, S1, R1, (RP.bind (Rel := RVs G) p1).imp fun xs H2 ⟨m2, h2, vs, x2, S2, r2, p2⟩ => RP.now p2 S2 (.cons (r1.mono x2.toLe) r2)⟩
/-- what stands where the keywords' values go -/
structure KwM (G : GC) (n mm np : Nat) (f : List MV → List MV → List MV) (gV : List V → List V → List V) : Prop where
  rel : ∀ {m H vs xs zs ys}, RVs G m H vs xs → RVs G m H zs ys → RVs G m H (f vs zs) (gV xs ys)
  len : ∀ (xs ys : List V), xs.length = n + 1 → ys.length = mm → (gV xs ys).length = np
theorem k_makeN {c n mm np : Nat} {g : FM} {f : List MV → List MV → List MV} {gV : List V → List V → List V} (M : KwM G n mm np f gV) (hl : ∀ σ h vs h', am σ h = .ok vs h' → vs.length = n) (hl2 : ∀ σ h vs h', ak σ h = .ok vs h' → vs.length = mm)
    (h : PE X e (L2.tMakeN (G.cl c) n mm (spM G np g) gV E0 (tMA G W0 am) (tMA G W0 ak))) : PE X e (tM G W0 (eNewK c g f am ak)) := h.wk fun σ H Q q => by
  obtain ⟨m, h, σm, S, R, p⟩ := q
  refine ⟨m, h, σm, S, R, ?_⟩
  unfold eNewK at p
  cases ea : am σm h with
  | bad => rw [ea] at p; exact False.elim p
  | exc c v h' => rw [ea] at p; exact p
  | ok vs h' =>
    rw [ea] at p
    intro m' H' xs x S' r
    refine ⟨m', h', σm, S', R.mono x.toLe, ?_⟩
    have p := RP.later p x
    dsimp only [Res.bind] at p
    cases eb : ak σm h' with
    | bad => rw [eb] at p; exact False.elim p
    | exc c v h' => rw [eb] at p; exact p
    | ok zs h2 =>
      rw [eb] at p
      dsimp only at p
      intro m2 H2 ys x' S2' r'
      have p2 := RP.later p x'
      refine ⟨by rw [r.length, hl _ _ _ _ ea], by rw [r'.length, hl2 _ _ _ _ eb], fun y dx hy hdx ne => ?_⟩
      have S1 := S2'.fresh hdx (.own y)
      have hy1 : upd H2 dx (.own y) y = none := by rw [upd_ne (Ne.symm ne)]; exact hy
      have x1 : Ex G m2 H2 m2 (upd H2 dx (.own y)) := .upd dx _ (plain_none hdx) (.inr hdx)
      have x2 : Ex G m2 (upd H2 dx (.own y)) (m2 ++ [y]) (upd (upd H2 dx (.own y)) y (.ins (G.cl c) dx [])) := (Ex.upd y _ (plain_none hy1) (.inr hy1)).app hy1
      have S2 : Sim G (m2 ++ [y]) (h2.push (.ins c [])) (upd (upd H2 dx (.own y)) y (.ins (G.cl c) dx [])) := S1.push hy1 ⟨dx, [], rfl, .nil⟩
      have x12 := x1.trans x2
      have ry : RV G (m2 ++ [y]) (upd (upd H2 dx (.own y)) y (.ins (G.cl c) dx [])) (.ref h2.n) (.ref y) := by
        simp only [RV]
        exact ⟨y, by rw [← S2'.len]; simp, rfl⟩
      refine ⟨M.len _ _ (by simp [r.length, hl _ _ _ _ ea]) (by rw [r'.length, hl2 _ _ _ _ eb]), _, _, f (.ref h2.n :: vs) zs, S2, M.rel (.cons ry ((r.mono x'.toLe).mono x12.toLe)) (r'.mono x12.toLe), ?_⟩
      have p3 := RP.later p2 x12
      refine (RP.w0 (σ' := []) (RP.bind (Rel := RV G) p3)).imp fun z H3 ⟨m3, h3, w, x4, S3, r3, p4⟩ => ?_
      cases w with
      | non =>
        simp only [RV] at r3
        exact ⟨r3, RP.now p4 S3 (ry.mono x4.toLe)⟩
      | _ => exact False.elim p4
/-- .. without keywords: the defaults behind -/
theorem makeD_imp {c n np : Nat} {g : FM} {dm : List MV} {ds : List V} (hd : ∀ m H, RVs G m H dm ds) (hl : ∀ σ h vs h', am σ h = .ok vs h' → vs.length = n) (hnp : n + 1 + ds.length = np)
    {σ : L2.St} {H : Hp} {Q : VK} (q : tM G W0 (eNewK c g (fun vs _ => vs ++ dm) am aNil) σ H Q) : L2.tMake (G.cl c) (spM G np g) ds E0 (tMA G W0 am) σ H Q := by
  obtain ⟨m, h, σm, S, R, p⟩ := q
  refine ⟨m, h, σm, S, R, ?_⟩
  unfold eNewK at p
  cases ea : am σm h with
  | bad => rw [ea] at p; exact False.elim p
  | exc c v h' => rw [ea] at p; exact p
  | ok vs h' =>
    rw [ea] at p
    intro m' H' xs x S' r y dx hy hdx ne
    have p2 := RP.later p x
    dsimp only [Res.bind, aNil] at p2
    have S1 := S'.fresh hdx (.own y)
    have hy1 : upd H' dx (.own y) y = none := by rw [upd_ne (Ne.symm ne)]; exact hy
    have x1 : Ex G m' H' m' (upd H' dx (.own y)) := .upd dx _ (plain_none hdx) (.inr hdx)
    have x2 : Ex G m' (upd H' dx (.own y)) (m' ++ [y]) (upd (upd H' dx (.own y)) y (.ins (G.cl c) dx [])) := (Ex.upd y _ (plain_none hy1) (.inr hy1)).app hy1
    have S2 : Sim G (m' ++ [y]) (h'.push (.ins c [])) (upd (upd H' dx (.own y)) y (.ins (G.cl c) dx [])) := S1.push hy1 ⟨dx, [], rfl, .nil⟩
    have x12 := x1.trans x2
    have ry : RV G (m' ++ [y]) (upd (upd H' dx (.own y)) y (.ins (G.cl c) dx [])) (.ref h'.n) (.ref y) := by
      simp only [RV]
      exact ⟨y, by rw [← S'.len]; simp, rfl⟩
    have rr := (RVs.cons ry (r.mono x12.toLe)).append (hd (m' ++ [y]) (upd (upd H' dx (.own y)) y (.ins (G.cl c) dx [])))
    refine ⟨by simp [r.length, hl _ _ _ _ ea]; omega, _, _, (.ref h'.n :: vs) ++ dm, S2, by simpa using rr, ?_⟩
    have p3 := RP.later p2 x12
    refine (RP.w0 (σ' := []) (RP.bind (Rel := RV G) p3)).imp fun z H3 ⟨m3, h3, w, x4, S3, r3, p4⟩ => ?_
    cases w with
    | non =>
      simp only [RV] at r3
      exact ⟨r3, RP.now p4 S3 (ry.mono x4.toLe)⟩
    | _ => exact False.elim p4
theorem k_makeD {c n np : Nat} {g : FM} {dm : List MV} {ds : List V} (hd : ∀ m H, RVs G m H dm ds) (hl : ∀ σ h vs h', am σ h = .ok vs h' → vs.length = n) (hnp : n + 1 + ds.length = np)
    (h : PE X e (L2.tMake (G.cl c) (spM G np g) ds E0 (tMA G W0 am))) : PE X e (tM G W0 (eNewK c g (fun vs _ => vs ++ dm) am aNil)) := h.wk fun σ H Q q => makeD_imp hd hl hnp q
end
end KA

set_option Elab.async false
set_option autoImplicit false
set_option linter.all false
set_option maxRecDepth 100000
set_option maxHeartbeats 400000
/-! KSugar: one word a construct. -/
namespace KA
open PySem PySem.Spec PyProof.Rows L2
/-- a def, as callers know it -/
structure Dn (P : Program) (w : World) (K : PySem.W.Frag) (mg : PySem.Str → Option Value) (base : Heap) (G : GC) (f : Addr) (k : Nat) (ps : List PySem.Str) (np : Nat) (g : FM) : Prop where
  ex : ∃ fd, FnOk P w K mg base CX0 k f fd ps (spM G np g) ∧ Binds K fd ps []
  kp : PySem.W.keepIn K (.ref f) = true
theorem dn_of {P : Program} {w : World} {K : PySem.W.Frag} {mg : PySem.Str → Option Value} {base : Heap} {x qual : PySem.Str} {params : Arguments} {body : List Stmt} {scope : Scope} {dvs : List V} {kws : List (PySem.Str × V)} {f : Addr} {fd : FuncData} {N ps : List PySem.Str} {k n np : Nat} {G : GC} {b : SM}
    (F : FunD K x qual params body scope dvs kws f fd) (S : FnScope N ps scope) (hn : N.length = n) (hp : ps.length = np) (hbi : Binds K fd ps [])
    (hb : ∀ (cdv : Value) (A : Around) (outer : List Env) (s : Shared) (H : Hp) (E : XK), Room k (A.deeper (envOfC qual scope s.heap.objs.size f cdv)) → PSs (cxOf CX0 P w K mg base N qual scope f cdv A outer s H E).nox body (tMS G W0 b)) :
    Dn P w K mg base G f (k + 1) ps np (fn n b) := ⟨⟨fd, fn_ok F S hn hp hb, hbi⟩, F.kp⟩
section
variable {X : Cx} {G : GC} {W : XW} {a b c e : Expr} {fa fb fc : EM} {am : AM} {pos : Pos} {k : Nat}
/-! ### operators -/
theorem x_add (ha : PE X a (tM G W fa)) (hb : PE X b (tM G W fb)) : PE X (.BinOp a .Add b pos) (tM G W (e2 qAdd fa fb)) := k_op o_add (pe_op op_addM ha hb)
theorem x_sub (ha : PE X a (tM G W fa)) (hb : PE X b (tM G W fb)) : PE X (.BinOp a .Sub b pos) (tM G W (e2 qSub fa fb)) := k_op o_sub (pe_op op_sub ha hb)
theorem x_mul (ha : PE X a (tM G W fa)) (hb : PE X b (tM G W fb)) : PE X (.BinOp a .Mult b pos) (tM G W (e2 qMul fa fb)) := k_op o_mul (pe_op op_mulM ha hb)
theorem x_div (ha : PE X a (tM G W fa)) (hb : PE X b (tM G W fb)) : PE X (.BinOp a .FloorDiv b pos) (tM G W (e2 qDiv fa fb)) := k_op o_div (pe_op op_fdivW ha hb)
theorem x_mod (ha : PE X a (tM G W fa)) (hb : PE X b (tM G W fb)) : PE X (.BinOp a .Mod b pos) (tM G W (e2 qMod fa fb)) := k_op o_mod (pe_op op_mod ha hb)
theorem x_pow (ha : PE X a (tM G W fa)) (hb : PE X b (tM G W fb)) : PE X (.BinOp a .Pow b pos) (tM G W (e2 qPow fa fb)) := k_op o_pow (pe_op op_pow ha hb)
theorem x_neg (ha : PE X a (tM G W fa)) : PE X (.UnaryOp .USub a pos) (tM G W (e1 qNeg fa)) := k_neg (pe_un un_neg ha)
/-- a comparison, by its operator's rule -/
theorem x_lt (ha : PE X a (tM G W fa)) (hb : PE X b (tM G W fb)) (hm : behindInMarks .Lt b = false := by first | exact nomark _ | rfl) : PE X (.Compare a [.Lt] [b] pos) (tM G W (e2 qLt fa fb)) := k_op o_lt (pe_cmpR op_lt ha hb hm)
theorem x_le (ha : PE X a (tM G W fa)) (hb : PE X b (tM G W fb)) (hm : behindInMarks .LtE b = false := by first | exact nomark _ | rfl) : PE X (.Compare a [.LtE] [b] pos) (tM G W (e2 qLe fa fb)) := k_op o_le (pe_cmpR op_le ha hb hm)
theorem x_gt (ha : PE X a (tM G W fa)) (hb : PE X b (tM G W fb)) (hm : behindInMarks .Gt b = false := by first | exact nomark _ | rfl) : PE X (.Compare a [.Gt] [b] pos) (tM G W (e2 qGt fa fb)) := k_op o_gt (pe_cmpR op_gt ha hb hm)
theorem x_ge (ha : PE X a (tM G W fa)) (hb : PE X b (tM G W fb)) (hm : behindInMarks .GtE b = false := by first | exact nomark _ | rfl) : PE X (.Compare a [.GtE] [b] pos) (tM G W (e2 qGe fa fb)) := k_op o_ge (pe_cmpR op_ge ha hb hm)
theorem x_eq (hr : Room k X.A) (ha : PE X a (tM G W fa)) (hb : PE X b (tM G W fb)) (hK : X.K = G.K := by rfl) (hm : behindInMarks .Eq b = false := by first | exact nomark _ | rfl) : PE X (.Compare a [.Eq] [b] pos) (tM G W (e2 qEq fa fb)) := k_op (r := rEqD X.K) (hK ▸ o_eq) (pe_cmpR (op_eqD hr.units) ha hb hm)
theorem x_ne (hr : Room k X.A) (ha : PE X a (tM G W fa)) (hb : PE X b (tM G W fb)) (hK : X.K = G.K := by rfl) (hm : behindInMarks .NotEq b = false := by first | exact nomark _ | rfl) : PE X (.Compare a [.NotEq] [b] pos) (tM G W (e2 qNe fa fb)) := k_op (r := rNeD X.K) (hK ▸ o_ne) (pe_cmpR (op_neD hr.units) ha hb hm)
theorem x_inL (hr : Room k X.A) (ha : PE X a (tM G W fa)) (hb : PE X b (tM G W fb)) (hK : X.K = G.K := by rfl) (hm : behindInMarks .In b = false := by rfl) : PE X (.Compare a [.In] [b] pos) (tM G W (e2 qInL fa fb)) := k_op (r := rInD X.K) (hK ▸ o_inL) (pe_cmpR (op_inD (by have := hr.un; omega)) ha hb hm)
theorem x_inS (ha : PE X a (tM G W fa)) (hb : PE X b (tM G W fb)) (hm : behindInMarks .In b = false := by rfl) : PE X (.Compare a [.In] [b] pos) (tM G W (e2 qInS fa fb)) := k_op o_inS (pe_cmpR op_in_sign ha hb hm)
theorem x_isN (ha : PE X a (tM G W fa)) (hb : PE X b (tM G W fb)) (hm : behindInMarks .Is b = false := by first | exact nomark _ | rfl) : PE X (.Compare a [.Is] [b] pos) (tM G W (e2 qIsN fa fb)) := k_op o_isN (pe_cmpR op_isN ha hb hm)
theorem x_notN (ha : PE X a (tM G W fa)) (hb : PE X b (tM G W fb)) (hm : behindInMarks .IsNot b = false := by first | exact nomark _ | rfl) : PE X (.Compare a [.IsNot] [b] pos) (tM G W (e2 qNotN fa fb)) := k_op o_notN (pe_cmpR op_notN ha hb hm)
theorem x_din (hr : Room k X.A) (ha : PE X a (tM G W fa)) (hb : PE X b (tM G W fb)) (hm : behindInMarks .In b = false := by rfl) : PE X (.Compare a [.In] [b] pos) (tM G W (e2 (qDin false) fa fb)) := k_din (pe_cmp (pc_din (hu_of hr) ha hb) hm)
theorem x_dnotin (hr : Room k X.A) (ha : PE X a (tM G W fa)) (hb : PE X b (tM G W fb)) (hm : behindInMarks .NotIn b = false := by rfl) : PE X (.Compare a [.NotIn] [b] pos) (tM G W (e2 (qDin true) fa fb)) := k_dnotin (pe_cmp (pc_dnotin (hu_of hr) ha hb) hm)
theorem x_chain {op op' : CmpOp} {r r' : R2} {g g' : MV → MV → MH → Res MV} (hr : Op2 G r g) (ho : OpR X (compareOp op) r) (hr' : Op2 G r' g') (ho' : OpR X (compareOp op') r') (ha : PE X a (tM G W fa)) (hb : PE X b (tM G W fb)) (hc : PE X c (tM G W fc)) (hm : lastMarks [op, op'] [b, c] = false := by with_unfolding_all rfl) :
    PE X (.Compare a [op, op'] [b, c] pos) (tM G W (eChain g g' fa fb fc)) := k_chain hr hr' (pe_chain ho ho' ha hb hc hm)
/-! ### tests -/
theorem t_val (h : PE X e (tM G W fa)) (he : ∀ whole, isTrue e X.env whole = (do let v ← whole; standAt e.pos; holding [v] (truthy v)) := by intro _; rfl) : PT X e (tMT G W (cB fa)) := kt_val (pt_val h he)
theorem t_lt (ha : PE X a (tM G W fa)) (hb : PE X b (tM G W fb)) (hm : behindInMarks .Lt b = false := by first | exact nomark _ | rfl) : PT X (.Compare a [.Lt] [b] pos) (tMT G W (cB (e2 qLt fa fb))) := kt_op o_lt (pt_cmpR op_lt ha hb hm)
theorem t_le (ha : PE X a (tM G W fa)) (hb : PE X b (tM G W fb)) (hm : behindInMarks .LtE b = false := by first | exact nomark _ | rfl) : PT X (.Compare a [.LtE] [b] pos) (tMT G W (cB (e2 qLe fa fb))) := kt_op o_le (pt_cmpR op_le ha hb hm)
theorem t_gt (ha : PE X a (tM G W fa)) (hb : PE X b (tM G W fb)) (hm : behindInMarks .Gt b = false := by first | exact nomark _ | rfl) : PT X (.Compare a [.Gt] [b] pos) (tMT G W (cB (e2 qGt fa fb))) := kt_op o_gt (pt_cmpR op_gt ha hb hm)
theorem t_ge (ha : PE X a (tM G W fa)) (hb : PE X b (tM G W fb)) (hm : behindInMarks .GtE b = false := by first | exact nomark _ | rfl) : PT X (.Compare a [.GtE] [b] pos) (tMT G W (cB (e2 qGe fa fb))) := kt_op o_ge (pt_cmpR op_ge ha hb hm)
theorem t_eq (hr : Room k X.A) (ha : PE X a (tM G W fa)) (hb : PE X b (tM G W fb)) (hK : X.K = G.K := by rfl) (hm : behindInMarks .Eq b = false := by first | exact nomark _ | rfl) : PT X (.Compare a [.Eq] [b] pos) (tMT G W (cB (e2 qEq fa fb))) := kt_op (r := rEqD X.K) (hK ▸ o_eq) (pt_cmpR (op_eqD hr.units) ha hb hm)
theorem t_ne (hr : Room k X.A) (ha : PE X a (tM G W fa)) (hb : PE X b (tM G W fb)) (hK : X.K = G.K := by rfl) (hm : behindInMarks .NotEq b = false := by first | exact nomark _ | rfl) : PT X (.Compare a [.NotEq] [b] pos) (tMT G W (cB (e2 qNe fa fb))) := kt_op (r := rNeD X.K) (hK ▸ o_ne) (pt_cmpR (op_neD hr.units) ha hb hm)
theorem t_inL (hr : Room k X.A) (ha : PE X a (tM G W fa)) (hb : PE X b (tM G W fb)) (hK : X.K = G.K := by rfl) (hm : behindInMarks .In b = false := by rfl) : PT X (.Compare a [.In] [b] pos) (tMT G W (cB (e2 qInL fa fb))) := kt_op (r := rInD X.K) (hK ▸ o_inL) (pt_cmpR (op_inD (by have := hr.un; omega)) ha hb hm)
theorem t_inS (ha : PE X a (tM G W fa)) (hb : PE X b (tM G W fb)) (hm : behindInMarks .In b = false := by rfl) : PT X (.Compare a [.In] [b] pos) (tMT G W (cB (e2 qInS fa fb))) := kt_op o_inS (pt_cmpR op_in_sign ha hb hm)
theorem t_isN (ha : PE X a (tM G W fa)) (hb : PE X b (tM G W fb)) (hm : behindInMarks .Is b = false := by first | exact nomark _ | rfl) : PT X (.Compare a [.Is] [b] pos) (tMT G W (cB (e2 qIsN fa fb))) := kt_op o_isN (pt_cmpR op_isN ha hb hm)
theorem t_notN (ha : PE X a (tM G W fa)) (hb : PE X b (tM G W fb)) (hm : behindInMarks .IsNot b = false := by first | exact nomark _ | rfl) : PT X (.Compare a [.IsNot] [b] pos) (tMT G W (cB (e2 qNotN fa fb))) := kt_op o_notN (pt_cmpR op_notN ha hb hm)
theorem t_din (hr : Room k X.A) (ha : PE X a (tM G W fa)) (hb : PE X b (tM G W fb)) (hm : behindInMarks .In b = false := by rfl) : PT X (.Compare a [.In] [b] pos) (tMT G W (cB (e2 (qDin false) fa fb))) := kt_din (pt_cmp (pc_din (hu_of hr) ha hb) hm)
theorem t_dnotin (hr : Room k X.A) (ha : PE X a (tM G W fa)) (hb : PE X b (tM G W fb)) (hm : behindInMarks .NotIn b = false := by rfl) : PT X (.Compare a [.NotIn] [b] pos) (tMT G W (cB (e2 (qDin true) fa fb))) := kt_dnotin (pt_cmp (pc_dnotin (hu_of hr) ha hb) hm)
theorem t_chain {op op' : CmpOp} {r r' : R2} {g g' : MV → MV → MH → Res MV} (hr : Op2 G r g) (ho : OpR X (compareOp op) r) (hr' : Op2 G r' g') (ho' : OpR X (compareOp op') r') (ha : PE X a (tM G W fa)) (hb : PE X b (tM G W fb)) (hc : PE X c (tM G W fc)) (hm : lastMarks [op, op'] [b, c] = false := by with_unfolding_all rfl) :
    PT X (.Compare a [op, op'] [b, c] pos) (tMT G W (cB (eChain g g' fa fb fc))) := kt_chain hr hr' (pt_chain ho ho' ha hb hc hm)
theorem t_not {t : TM} (h : PT X a (tMT G W t)) : PT X (.UnaryOp .Not a pos) (tMT G W (cNot t)) := kt_not (pt_not h)
theorem w_and {t u : TM} {rest : List Expr} (h : PT X a (tMT G W t)) (h2 : PW X (.BoolOp .And (b :: rest) pos) (tMT G W u)) : PW X (.BoolOp .And (a :: b :: rest) pos) (tMT G W (cAnd t u)) := kw_and (pw_and h h2)
theorem w_or {t u : TM} {rest : List Expr} (h : PT X a (tMT G W t)) (h2 : PW X (.BoolOp .Or (b :: rest) pos) (tMT G W u)) : PW X (.BoolOp .Or (a :: b :: rest) pos) (tMT G W (cOr t u)) := kw_or (pw_or h h2)
theorem x_and {rest : List Expr} (h : PE X a (tM G W fa)) (h2 : PE X (.BoolOp .And (b :: rest) pos) (tM G W fb)) : PE X (.BoolOp .And (a :: b :: rest) pos) (tM G W (eAnd fa fb)) := k_and (pe_and h h2)
theorem x_or {rest : List Expr} (h : PE X a (tM G W fa)) (h2 : PE X (.BoolOp .Or (b :: rest) pos) (tM G W fb)) : PE X (.BoolOp .Or (a :: b :: rest) pos) (tM G W (eOr fa fb)) := k_or (pe_or h h2)
theorem x_not (h : PE X a (tM G W fa)) : PE X (.UnaryOp .Not a pos) (tM G W (eNot fa)) := k_not (pe_not h)
theorem x_if {t : TM} (ht : PT X c (tMT G W t)) (ha : PE X a (tM G W fa)) (hb : PE X b (tM G W fb)) : PE X (.IfExp c a b pos) (tM G W (eIf t fa fb)) := k_if (pe_ifExp ht ha hb)
/-! ### arguments, displays -/
theorem a_nil : PA X [] (tMA G W aNil) := ka_nil
theorem a_cons {es : List Expr} (ha : PE X e (tM G W fa)) (hr : PA X es (tMA G W am)) (hs : starEach (e :: es) X.env = (false, eval e X.env) :: starEach es X.env := by rfl) : PA X (e :: es) (tMA G W (aCons fa am)) := ka_cons (pa_cons ha hr hs)
theorem x_tup {es : List Expr} {x1} (h : PA X es (tMA G W am)) : PE X (.Tuple es x1 pos) (tM G W (eA qTup am)) := k_tup (pe_tup h)
theorem x_lst {es : List Expr} (h : PA X es (tMA G W am)) : PE X (.List es pos) (tM G W (eA qLst am)) := k_lst (pe_lst h)
/-! ### places -/
theorem x_fld {inj : ∀ i j, G.fl i = G.fl j → i = j} {c f : Nat} {fs : PySem.Str} (hf : fs = G.fl f) (hc : Cls G.K (G.cl c)) (hn : NoAttr G.K (G.cl c) (G.fl f)) (h : PE X e (tM G W fa)) (hK : X.K = G.K := by rfl) (hb : attributeBase e fs X.env (eval e X.env) = eval e X.env := by rfl) : PE X (.Attribute e fs pos) (tM G W (e1 (qFld c f) fa)) := by
  subst hf
  exact k_fld (inj := inj) (K := X.K) (hK ▸ hc) (hK ▸ hn) (pe_fld h hb)
theorem x_ix (ha : PE X a (tM G W fa)) (hb : PE X b (tM G W fb)) (hK : X.K = G.K := by rfl) (hs : PlainIx b := by intro _ _; rfl) : PE X (.Subscript a b pos) (tM G W (e2 qIx fa fb)) := k_op (r := rIxM X.K) (hK ▸ o_ix) (pe_ix ix_M ha hb hs)
theorem x_dget (hr : Room k X.A) (ha : PE X a (tM G W fa)) (hb : PE X b (tM G W fb)) (hs : NoSl b := by intro _ _; rfl) : PE X (.Subscript a b pos) (tM G W (e2 qDget fa fb)) := k_dget (pe_dget (hu_of hr) ha hb hs)
theorem x_sl {lo hi : Option Expr} {fl fh : Option EM} {p2 : Pos} (ha : PE X a (tM G W fa)) (hl : PO X lo (tPartM G W fl)) (hh : PO X hi (tPartM G W fh)) (hK : X.K = G.K := by rfl) : PE X (.Subscript a (.Slice lo hi none p2) pos) (tM G W (eSl fa fl fh)) := k_sl hK (pe_slice sl_M ha hl hh)
theorem o_none : PO X none (tPartM G W none) := po_none
theorem o_some (h : PE X e (tM G W fa)) : PO X (some e) (tPartM G W (some fa)) := po_some h
theorem x_rev {j : Nat} {p1 p2 p3 : Pos} (h : PE X e (tM G W fa)) (hK : X.K = G.K := by rfl) : PE X (.Subscript e (.Slice none none (some (.UnaryOp .USub (.Constant (.int 1) j p1) p2)) p3) pos) (tM G W (e1 qRev fa)) := k_rev hK (pe_revL h)
theorem x_dnew {ks : List (Option Expr)} (h : PE X e L2.tDNewK) : PE X e (tM G W (eDNew false)) := k_dnew h
/-! ### globals -/
theorem x_gint {x : PySem.Str} {i : Int} (hm : ∃ t, X.mg x = some (.int i t)) (hg : Gl X x := by rfl) (hd : (x == ("__debug__" : PySem.Str)) = false := by decide) : PE X (.Name x pos) (tM G W (eC (.int i))) := by
  obtain ⟨t, e⟩ := hm
  exact m_glob (v := .int i) hg e ⟨t, rfl⟩ (fun m H => by simp only [RV]) hd
theorem x_gstr {x : PySem.Str} {s : List Nat} (hm : ∃ t, X.mg x = some (.str ⟨s.toArray⟩ t)) (hg : Gl X x := by rfl) (hd : (x == ("__debug__" : PySem.Str)) = false := by decide) : PE X (.Name x pos) (tM G W (eC (.str s))) := by
  obtain ⟨t, e⟩ := hm
  exact m_glob (v := .str ⟨s.toArray⟩) hg e ⟨t, rfl⟩ (fun m H => by simp only [RV]) hd
/-! ### calls -/
/-- f(e, ..), f built-in -/
theorem x_blt {x : PySem.Str} {p : Pos} {id : String} {r : List V → Hp → VK → Prop} {g : FM} {es : List Expr} (hc : CallR X (.builtin id) r) (cg : CallG G r g) (hm : X.mg x = none) (hv : bootBuiltins x = some (.builtin id)) (ha : PA X (e :: es) (tMA G W am)) (hg : Gl X x := by rfl) (hn : x ≠ "__name__" := by decide) (hdb : (x == ("__debug__" : PySem.Str)) = false := by decide)
    (he : starEach (e :: es) X.env = (false, eval e X.env) :: starEach es X.env := by rfl) (hpl : (backTo pos (starEach es X.env)).any (·.1) = false := by rfl) : PE X (.Call (.Name x p) (e :: es) [] pos) (tM G W (eA g am)) := k_cb cg (pe_callB hc hg hm hv ha hn hdb he hpl)
theorem x_bty {x : PySem.Str} {p : Pos} {T : String} {r : List V → Hp → VK → Prop} {g : FM} {es : List Expr} (hc : CallR X (.type T) r) (cg : CallG G r g) (hm : X.mg x = none) (hv : bootBuiltins x = some (.type T)) (ha : PA X (e :: es) (tMA G W am)) (hg : Gl X x := by rfl) (hn : x ≠ "__name__" := by decide) (hdb : (x == ("__debug__" : PySem.Str)) = false := by decide)
    (he : starEach (e :: es) X.env = (false, eval e X.env) :: starEach es X.env := by rfl) (hpl : (backTo pos (starEach es X.env)).any (·.1) = false := by rfl) : PE X (.Call (.Name x p) (e :: es) [] pos) (tM G W (eA g am)) := k_cb cg (pe_callTy hc hg hm hv ha hn hdb he hpl)
/-- isinstance(e, T) -/
theorem x_isi {nc j : Nat} {u : Value} {cv : V} {x : PySem.Str} {p : Pos} {tc : Expr} (hx : x = "isinstance") (I : IsiOk G nc j u) (hc : ClsV cv u) (hm : X.mg "isinstance" = none) (ha : PE X e (tM G W fa)) (ht : PE X tc (L2.tC cv)) (hK : X.K = G.K := by rfl) (hg : Gl X "isinstance" := by rfl)
    (he : starEach [e, tc] X.env = (false, eval e X.env) :: starEach [tc] X.env := by rfl) (he2 : starEach [tc] X.env = (false, eval tc X.env) :: starEach [] X.env := by rfl) (hpl : (backTo pos (starEach [tc] X.env)).any (·.1) = false := by rfl) : PE X (.Call (.Name x p) [e, tc] [] pos) (tM G W (e1 (qIsi nc j) fa)) := by
  subst hx
  exact k_isi (K := X.K) hK I hc (pe_callB call_isi hg hm (by decide +kernel) (pa_cons ha (pa_cons ht pa_nil he2) he) (by decide) (by decide) he hpl)
theorem x_ty {x : PySem.Str} {n : String} (hm : X.mg x = none) (hv : bootBuiltins x = some (.type n)) (hg : Gl X x := by rfl) (hn : x ≠ "__name__" := by decide) (hd : (x == ("__debug__" : PySem.Str)) = false := by decide) : PE X (.Name x pos) (L2.tC (.ty n)) := pe_bltn hg hm hv rfl hn hd
theorem x_cls {x : PySem.Str} {C : Addr} (hm : X.mg x = some (.ref C)) (hg : Gl X x := by rfl) (hd : (x == ("__debug__" : PySem.Str)) = false := by decide) : PE X (.Name x pos) (L2.tC (.ref C)) := pe_glob hg hm rfl hd
/-- f(e, ..), f a def -/
theorem x_call {x : PySem.Str} {p : Pos} {f : Addr} {ps : List PySem.Str} {np : Nat} {g : FM} {es : List Expr} (D : Dn X.prog X.w X.K X.mg X.base G f k ps np g) (hr : Room k X.A) (hm : X.mg x = some (.ref f)) (hl : ∀ σ h vs h', am σ h = .ok vs h' → vs.length = np) (ha : PA X (e :: es) (tMA G W0 am)) (hg : Gl X x := by rfl)
    (hdb : (x == ("__debug__" : PySem.Str)) = false := by decide) (he : starEach (e :: es) X.env = (false, eval e X.env) :: starEach es X.env := by rfl) (hpl : (backTo pos (starEach es X.env)).any (·.1) = false := by rfl) :
    PE X (.Call (.Name x p) (e :: es) [] pos) (tM G W0 (eA g am)) := by
  obtain ⟨fd, F, bi⟩ := D.ex
  exact k_call hl (pe_call F hr hg hm D.kp bi .nil pass0 ha hdb he hpl)
/-- o.m(e, ..), o.m() -/
theorem x_meth {o : Expr} {c : Nat} {mn : PySem.Str} {f : Addr} {ps : List PySem.Str} {np : Nat} {g : FM} {es : List Expr} {apos : Pos} {pl : Sem Bool} (D : Dn X.prog X.w X.K X.mg X.base G f k ps np g) (hr : Room k X.A) (hc : Cls G.K (G.cl c)) (hm : Meth G.K (G.cl c) mn f) (hf : ∀ i, G.fl i ≠ mn) (hl : ∀ σ h vs h', am σ h = .ok vs h' → vs.length + 1 = np) (ho : PE X o (tM G W0 fa)) (ha : PA X (e :: es) (tMA G W0 am)) (hK : X.K = G.K := by rfl)
    (hst : starEach (e :: es) X.env = (false, eval e X.env) :: starEach es X.env := by rfl) (hpl : (backTo pos (starEach es X.env)).any (·.1) = false := by rfl)
    (ht : eval (.Call (.Attribute o mn apos) (e :: es) [] pos) X.env = (do
      let ov ← eval o X.env
      standAt apos.atName
      let (f, first) ← holding [ov] (getMethod ov mn pl)
      callWith pos f first (backTo pos (starEach (e :: es) X.env)) (backToKw pos (keywordEach [] X.env))) := by rfl) :
    PE X (.Call (.Attribute o mn apos) (e :: es) [] pos) (tM G W0 (eMeth c g fa am)) := by
  obtain ⟨fd, F, bi⟩ := D.ex
  exact k_meth hf hl (pe_meth (pl := pl) ho (hK ▸ hc) (hK ▸ hm) F hr bi .nil pass0 ha hst hpl ht)
theorem x_meth0 {o : Expr} {c : Nat} {mn : PySem.Str} {f : Addr} {ps : List PySem.Str} {np : Nat} {g : FM} {apos : Pos} {pl : Sem Bool} (D : Dn X.prog X.w X.K X.mg X.base G f k ps np g) (hr : Room k X.A) (hc : Cls G.K (G.cl c)) (hm : Meth G.K (G.cl c) mn f) (hf : ∀ i, G.fl i ≠ mn) (hl : 1 = np) (ho : PE X o (tM G W0 fa)) (hK : X.K = G.K := by rfl)
    (ht : eval (.Call (.Attribute o mn apos) [] [] pos) X.env = (do
      let ov ← eval o X.env
      standAt apos.atName
      let (f, first) ← holding [ov] (getMethod ov mn pl)
      callWith pos f first (backTo pos (starEach [] X.env)) (backToKw pos (keywordEach [] X.env))) := by rfl) :
    PE X (.Call (.Attribute o mn apos) [] [] pos) (tM G W0 (eMeth c g fa aNil)) := by
  obtain ⟨fd, F, bi⟩ := D.ex
  refine k_meth (n := np) hf (fun σ h vs h' e => by rw [len_nil σ h vs h' e]; exact hl) ((pe_meth0 (pl := pl) ho (hK ▸ hc) (hK ▸ hm) F hr bi .nil pass0 ht).wk fun σ H Q q => ?_)
  exact q.imp fun x H1 ⟨a, dx, fs, e1, e2, e3, q⟩ => ⟨a, dx, fs, e1, e2, e3, by
    obtain ⟨m, h, σm, S, R, p⟩ := q
    exact RP.now p S .nil⟩
/-- C(e, ..), every parameter written -/
theorem x_make {x : PySem.Str} {p : Pos} {c : Nat} {f : Addr} {ps : List PySem.Str} {np : Nat} {g : FM} {es : List Expr} (M : Mk G.K (G.cl c) f) (D : Dn X.prog X.w X.K X.mg X.base G f k ps np g) (hr : Room (k + 1) X.A) (hm : X.mg x = some (.ref (G.cl c))) (hl : ∀ σ h vs h', am σ h = .ok vs h' → vs.length + 1 = np) (ha : PA X (e :: es) (tMA G W0 am)) (hK : X.K = G.K := by rfl) (hg : Gl X x := by rfl)
    (hdb : (x == ("__debug__" : PySem.Str)) = false := by decide) (he : starEach (e :: es) X.env = (false, eval e X.env) :: starEach es X.env := by rfl) (hpl : (backTo pos (starEach es X.env)).any (·.1) = false := by rfl) :
    PE X (.Call (.Name x p) (e :: es) [] pos) (tM G W0 (eNew c g am)) := by
  obtain ⟨fd, F, bi⟩ := D.ex
  exact k_make hl (pe_make (hK ▸ M) F hr hg hm bi .nil pass0 ha hdb he hpl)
/-! ### walks -/
variable {tg : Expr}
theorem i_seq (h : PE X e (tM G W fa)) (hK : X.K = G.K := by rfl) : PI X tg e (tMI G W (wSeq fa)) := ki_seq hK (pi_list h)
theorem i_fst (h : PE X e (tM G W fa)) (hK : X.K = G.K := by rfl) : PI X tg e (tMI G W (wFst fa)) := ki_fst hK (pi_list h)
theorem i_tup (h : PE X e (tM G W fa)) (hK : X.K = G.K := by rfl) : PI X tg e (tMI G W (wTup fa)) := ki_tup hK (pi_tup h)
theorem i_str (h : PE X e (tM G W fa)) : PI X tg e (tMI G W (wStr fa)) := ki_str (pi_str h)
theorem i_rng1 {p : Pos} (hm : X.mg "range" = none) (h : PE X e (tM G W fa)) (hg : Gl X "range" := by rfl) (hs : starEach [e] X.env = [(false, eval e X.env)] := by rfl) : PI X tg (.Call (.Name "range" p) [e] [] pos) (tMI G W (wRng1 fa)) := ki_rng1 (pi_range1 hg hm (pa_cons h pa_nil hs) hs)
theorem i_rng2 {p : Pos} (hm : X.mg "range" = none) (ha : PE X a (tM G W fa)) (hb : PE X b (tM G W fb)) (hg : Gl X "range" := by rfl) (hs : starEach [a, b] X.env = [(false, eval a X.env), (false, eval b X.env)] := by rfl) (hs2 : starEach [b] X.env = [(false, eval b X.env)] := by rfl) :
    PI X tg (.Call (.Name "range" p) [a, b] [] pos) (tMI G W (wRng2 fa fb)) := ki_rng2 (pi_range2 hg hm (pa_cons ha (pa_cons hb pa_nil hs2) (by rw [hs, hs2])) hs hs2)
theorem i_rng3 {p : Pos} (hm : X.mg "range" = none) (ha : PE X a (tM G W fa)) (hb : PE X b (tM G W fb)) (hc : PE X c (tM G W fc)) (hg : Gl X "range" := by rfl) (h1 : starEach [a, b, c] X.env = (false, eval a X.env) :: starEach [b, c] X.env := by rfl) (h2 : starEach [b, c] X.env = (false, eval b X.env) :: starEach [c] X.env := by rfl) (h3 : starEach [c] X.env = (false, eval c X.env) :: starEach [] X.env := by rfl) (hpl : (backTo pos (starEach [b, c] X.env)).any (·.1) = false := by rfl) :
    PI X tg (.Call (.Name "range" p) [a, b, c] [] pos) (tMI G W (wRng3 fa fb fc)) := ki_rng3 (pi_range3 hg hm (pa_cons ha (pa_cons hb (pa_cons hc pa_nil h3) h2) h1) h1 hpl)
theorem i_enum {p tpos : Pos} {elts : List Expr} {kk : Nat} (hm : X.mg "enumerate" = none) (h : PE X e (tM G W fa)) (hK : X.K = G.K := by rfl) (hg : Gl X "enumerate" := by rfl) (hs : starEach [e] X.env = [(false, eval e X.env)] := by rfl) : PI X (.Tuple elts kk tpos) (.Call (.Name "enumerate" p) [e] [] pos) (tMI G W (wEnum fa)) := ki_enum hK (pi_enum hg hm (pa_cons h pa_nil hs) hs)
theorem i_zip {p tpos : Pos} {elts : List Expr} {kk : Nat} (hm : X.mg "zip" = none) (ha : PE X a (tM G W fa)) (hb : PE X b (tM G W fb)) (hK : X.K = G.K := by rfl) (hg : Gl X "zip" := by rfl) (h1 : starEach [a, b] X.env = (false, eval a X.env) :: starEach [b] X.env := by rfl) (h2 : starEach [b] X.env = (false, eval b X.env) :: starEach [] X.env := by rfl) (hpl : (backTo pos (starEach [b] X.env)).any (·.1) = false := by rfl) :
    PI X (.Tuple elts kk tpos) (.Call (.Name "zip" p) [a, b] [] pos) (tMI G W (wZip fa fb)) := ki_zip hK (RZ.pi_zipA hg hm (pa_cons ha (pa_cons hb pa_nil h2) h1) h1 hpl)
theorem i_keys (h : PE X e (tM G W fa)) : PI X tg e (tMI G W (wDct 0 fa)) := ki_keys (pi_keys h)
theorem i_vals {apos : Pos} (h : PE X e (tM G W fa)) (hbase : attributeBase e "values" X.env (eval e X.env) = eval e X.env := by rfl) (hline : (apos.endLine == pos.line) = true := by rfl) : PI X tg (.Call (.Attribute e "values" apos) [] [] pos) (tMI G W (wDct 1 fa)) := ki_vals (pi_values h hbase hline)
theorem i_items {apos tpos : Pos} {elts : List Expr} {kk : Nat} (h : PE X e (tM G W fa)) (hbase : attributeBase e "items" X.env (eval e X.env) = eval e X.env := by rfl) (hline : (apos.endLine == pos.line) = true := by rfl) : PI X (.Tuple elts kk tpos) (.Call (.Attribute e "items" apos) [] [] pos) (tMI G W (wDct 2 fa)) := ki_items (pi_items h hbase hline)
/-! ### targets -/
theorem g_nm {i : Nat} {x : PySem.Str} (hN : X.N.Nodup) (hx : Loc X.env.scope x) (hi : X.N[i]? = some x := by rfl) (hf : X.fn x = true ∨ X.env.scope.names.lookup x = some .local := by first | exact .inl rfl | exact .inr rfl | assumption) : PG X (.Name x pos) (gP G (.nm i)) := kg_name (pg_name hN hi hx hf)
theorem gs_nil : PGs X [] (gPs G .nil) := kgs_nil pgs_nil
theorem gs_cons {tgs : List Expr} {p q : Pt} (h1 : PG X e (gP G p)) (h2 : PGs X tgs (gPs G q)) (hs : (assignEach (e :: tgs) X.env).map (·.2) = assign e X.env :: (assignEach tgs X.env).map (·.2) := by rfl) : PGs X (e :: tgs) (gPs G (.cons p q)) := kgs_cons (pgs_cons h1 h2 hs)
theorem g_tup {tgs : List Expr} {kk : Nat} {p q : Pt} (hc : X.calm = true) (h : PGs X tgs (gPs G (.cons p q))) (hn : (assignEach tgs X.env).length = (Pt.cons p q).len := by rfl) (hst : (assignEach tgs X.env).findIdx? (·.1) = none := by rfl) : PG X (.Tuple tgs kk pos) (gP G (.cons p q)) := kg_tup (K := X.K) (fun i z => by cases z) (pg_tup hc h hn hst)
/-! ### statements -/
variable {sa sb : SM} {t : TM} {body els : List Stmt}
theorem s_set {i : Nat} {x : PySem.Str} {pos' : Pos} (hN : X.N.Nodup) (hx : Loc X.env.scope x) (he : PE X e (tM G W fa)) (hi : X.N[i]? = some x := by rfl) (hs : swapsWith e (some (.Name x pos')) pos.line X.env = pure false := by rfl) (hf : X.fn x = true ∨ X.env.scope.names.lookup x = some .local := by first | exact .inl rfl | exact .inr rfl | assumption) :
    PS X (.Assign [.Name x pos'] e pos) (tMS G W (jAsg fa (.nm i))) := js_set (ps_set hN hi hx he hs hf)
theorem s_asg {p : Pt} {tg : Expr} (he : PE X e (tM G W fa)) (hg : PG X tg (gP G p)) (hs : swapsWithSole [tg] e pos.line X.env = pure false := by rfl) (hw : swappedStores [tg] e X.env = pure none := by rfl)
    (h1 : (assignEach [tg] X.env).map (·.2) = [assign tg X.env] := by rfl) : PS X (.Assign [tg] e pos) (tMS G W (jAsg fa p)) := js_asg (ps_asg he hg hs hw h1)
theorem s_par {i j : Nat} {x y : PySem.Str} {px py pt : Pos} {kt k2 pt2} (hN : X.N.Nodup) (hij : i ≠ j) (ha : PE X a (tM G W fa)) (hb : PE X b (tM G W fb)) (hc : X.calm = true := by rfl) (hi : X.N[i]? = some x := by rfl) (hj : X.N[j]? = some y := by rfl)
    (hx : X.env.scope.names.lookup x = some .local := by rfl) (hy : X.env.scope.names.lookup y = some .local := by rfl) (h1 : starEach [a, b] X.env = (false, eval a X.env) :: starEach [b] X.env := by rfl) (h2 : starEach [b] X.env = (false, eval b X.env) :: starEach [] X.env := by rfl)
    (hw : swappedStores [.Tuple [.Name x px, .Name y py] kt pt] (.Tuple [a, b] k2 pt2) X.env = pure (some [x, y]) := by rfl)
    (hs : swapsWithSole [.Tuple [.Name x px, .Name y py] kt pt] (.Tuple [a, b] k2 pt2) pos.line X.env = pure false := by rfl) :
    PS X (.Assign [.Tuple [.Name x px, .Name y py] kt pt] (.Tuple [a, b] k2 pt2) pos) (tMS G W (jPar i j fa fb)) := js_par (ps_par hc hN hi hj hij hx hy (pa_cons ha (pa_cons hb pa_nil h2) h1) hw hs)
theorem s_expr (h : PE X e (tM G W fa)) (hs : swapsWith e none pos.line X.env = pure false := by rfl) : PS X (.Expr e pos) (tMS G W (jDrop fa)) := js_expr (ps_expr h hs)
theorem s_ret (h : PE X e (tM G W fa)) : PS X (.Return (some e) pos) (tMS G W (jRet fa)) := js_ret (ps_ret h)
theorem s_retN : PS X (.Return none pos) (tMS G W jRetN) := js_retN ps_retN
theorem s_if (h : PT X c (tMT G W t)) (ha : PSs X body (tMS G W sa)) (hb : PSs X els (tMS G W sb)) : PS X (.If c body els pos) (tMS G W (jIf t sa sb)) := js_if (ps_if h ha hb)
theorem s_for {w : WM} {p : Pt} {iter tg : Expr} (hi : PI X tg iter (tMI G W w)) (hg : PG X tg (gP G p)) (hb : PSs X body (tMS G W sb)) (hp : PassesOwn (model X.prog X.w) X.A X.env X.xe) (hc : X.calm = true := by rfl) (hs : ∀ x, foldedSetIterable iter X.env x = pure x := by intro _; rfl) : PS X (.For tg iter body [] pos) (tMS G W (jFor w p sb)) := js_for (ps_for hp hc hi hg hb hs)
theorem s_while (n : Nat) (hc : PT X c (tMT G W t)) (hb : PSs X body (tMS G W sb)) (hp : PassesOwn (model X.prog X.w) X.A X.env X.xe) : PS X (.While c body [] pos) (tMS G W (jWhile n t sb)) := js_while n (ps_while hp hc hb)
theorem s_fld {inj : ∀ i j, G.fl i = G.fl j → i = j} {c f : Nat} {o v : Expr} {fs : PySem.Str} {pos' : Pos} (hf : fs = G.fl f) (hc : Cls G.K (G.cl c)) (hn : NoAttr G.K (G.cl c) (G.fl f)) (ho : PE X o (tM G W fa)) (hv : PE X v (tM G W fb)) (hK : X.K = G.K := by rfl) (hs : swapsWith v (some (.Attribute o fs pos')) pos.line X.env = pure false := by rfl) :
    PS X (.Assign [.Attribute o fs pos'] v pos) (tMS G W (jFld c f fa fb)) := by
  subst hf
  exact js_fld (inj := inj) (K := X.K) (hK ▸ hc) (hK ▸ hn) (ps_fld ho hv hs)
theorem s_dput {pos' : Pos} {d i v : Expr} (hr : Room k X.A) (hd : PE X d (tM G W fa)) (hi : PE X i (tM G W fb)) (hv : PE X v (tM G W fc)) (hs : swapsWith v (some (.Subscript d i pos')) pos.line X.env = pure false := by rfl) : PS X (.Assign [.Subscript d i pos'] v pos) (tMS G W (jDput fa fb fc)) := js_dput (ps_dput (hu_of hr) hd hi hv hs)
theorem js_setL {st : Stmt} (h : PS X st (L2.tAsg (tM G W fc) (L2.gSub (tM G W fa) (tM G W fb) L2.rSetL))) : PS X st (tMS G W (jSetL fa fb fc)) := h.wk fun D σ H q => by
  refine (tMS.out (Rel := RV G) (k := fun σ y h1 => (fa σ h1).out σ fun x h2 => (fb σ h2).out σ fun k h3 => match x, k with
  | .ref n, .int k => (match h3.get n with
    | some (.lst xs) => (match ixM xs.length k with
      | some j => .nx σ (h3.set n (.lst (xs.set j y)))
      | none => .bad)
    | _ => .bad)
  | _, _ => .bad) q).imp fun y H1 ⟨m1, h1, ym, σm, S1, R1, r1, p1⟩ => ?_
  refine ⟨m1, h1, σm, S1, R1, (OP.out (Rel := RV G) R1 p1).imp fun x H2 ⟨m2, h2, xm, x2, S2, r2, p2⟩ => ?_⟩
  have R2' := R1.mono x2.toLe
  refine ⟨m2, h2, σm, S2, R2', (OP.out (Rel := RV G) R2' p2).imp fun i H3 ⟨m3, h3, im, x3, S3, r3, p3⟩ => ?_⟩
  cases xm with
  | ref n =>
    cases im with
    | int k =>
      dsimp only at p3
      cases eg : h3.get n with
      | none => rw [eg] at p3; exact False.elim p3
      | some o =>
        rw [eg] at p3
        cases o with
        | lst xs =>
          dsimp only at p3
          cases ei : ixM xs.length k with
          | none => rw [ei] at p3; exact False.elim p3
          | some j =>
            rw [ei] at p3
            simp only [RV] at r3
            obtain ⟨a, us, ea, rfl, eh, rs⟩ := S3.lst eg (r2.mono x3.toLe)
            have rv3 := (r1.mono x2.toLe).mono x3.toLe
            have pl : Plain (H3 a) := by rw [eh]; trivial
            have x4 : Ex G m3 H3 m3 (upd H3 a (.lst (us.set j y))) := .upd a _ pl (.inl (List.mem_of_getElem? ea))
            refine ⟨a, us, k, j, rfl, r3, eh, by rw [← ixM_eq, rs.length]; exact ei, ?_⟩
            exact p3 m3 _ σ x4 (S3.write ea pl.l ⟨_, rfl, (rs.set j rv3).mono x4.toLe⟩) ((R2'.mono x3.toLe).mono x4.toLe)
        | _ => exact False.elim p3
    | _ => exact False.elim p3
  | _ => exact False.elim p3
theorem s_setL {pos' : Pos} {o i v : Expr} (ho : PE X o (tM G W fa)) (hi : PE X i (tM G W fb)) (hv : PE X v (tM G W fc)) (hs : swapsWithSole [.Subscript o i pos'] v pos.line X.env = pure false := by rfl) (hw : swappedStores [.Subscript o i pos'] v X.env = pure none := by rfl) (h1 : (assignEach [.Subscript o i pos'] X.env).map (·.2) = [assign (.Subscript o i pos') X.env] := by rfl)
    (ha : ∀ v, assign (.Subscript o i pos') X.env v = (do
      let ov ← holding [v] (eval o X.env)
      let iv ← holding [v, ov] (eval i X.env)
      standAt pos'
      holding [v, ov, iv] (setItem ov iv v)
      release [v, ov, iv] []) := by intro _; rfl) : PS X (.Assign [.Subscript o i pos'] v pos) (tMS G W (jSetL fa fb fc)) := js_setL (ps_asg hv (pg_sub ho hi set_list ha) hs hw h1)
end
/-! ### C(.., k = v, ..) -/
structure Kb (P : Program) (w : World) (K : PySem.W.Frag) (mg : PySem.Str → Option Value) (base : Heap) (G : GC) (f : Addr) (k : Nat) (ps : List PySem.Str) (np n : Nat) (ks : List PySem.Str) (g : FM) (kf : List MV → List MV → List MV) : Prop where
  ex : ∃ (fd : FuncData) (gg : List Value → List Value → List Value) (gV : List V → List V → List V), FnOk P w K mg base CX0 k f fd ps (spM G np g) ∧ KBn K fd ps (n + 1) ks gg gV ∧ KwM G n ks.length np kf gV
theorem x_makeN {X : Cx} {G : GC} {e : Expr} {am ak : AM} {pos : Pos} {k : Nat} {x : PySem.Str} {p : Pos} {c n np : Nat} {f : Addr} {ps ks : List PySem.Str} {g : FM} {kf : List MV → List MV → List MV} {es : List Expr} {kws : List Keyword} (M : Mk G.K (G.cl c) f) (D : Kb X.prog X.w X.K X.mg X.base G f k ps np n ks g kf) (hr : Room (k + 1) X.A) (hm : X.mg x = some (.ref (G.cl c)))
    (hl : ∀ σ h vs h', am σ h = .ok vs h' → vs.length = n) (hl2 : ∀ σ h vs h', ak σ h = .ok vs h' → vs.length = ks.length) (ha : PA X (e :: es) (tMA G W0 am)) (hkw : PK X kws (tMA G W0 ak)) (hK : X.K = G.K := by rfl) (hg : Gl X x := by rfl)
    (hall : (backToKw pos (keywordEach kws X.env)).all (·.1.isSome) = true := by rfl) (hks : (backToKw pos (keywordEach kws X.env)).filterMap (·.1) = ks := by rfl)
    (hdb : (x == ("__debug__" : PySem.Str)) = false := by decide) (he : starEach (e :: es) X.env = (false, eval e X.env) :: starEach es X.env := by rfl)
    (hpl : ((backTo pos (starEach (e :: es) X.env)).any (·.1) || (backToKw pos (keywordEach kws X.env)).any (·.1.isNone)) = false := by rfl) :
    PE X (.Call (.Name x p) (e :: es) kws pos) (tM G W0 (eNewK c g kf am ak)) := by
  obtain ⟨fd, gg, gV, F, hb, KM⟩ := D.ex
  exact k_makeN KM hl hl2 (pe_makeN (hK ▸ M) F hr hg hm hb pass0 ha hkw hall hks hdb he hpl)
structure Kd (P : Program) (w : World) (K : PySem.W.Frag) (mg : PySem.Str → Option Value) (base : Heap) (G : GC) (f : Addr) (k : Nat) (ps : List PySem.Str) (np n : Nat) (g : FM) (dm : List MV) : Prop where
  ex : ∃ (fd : FuncData) (ds : List Value) (dv : List V), FnOk P w K mg base CX0 k f fd ps (spM G np g) ∧ Binds K fd ps ds ∧ Vals dv ds ∧ (∀ m H, RVs G m H dm dv) ∧ n + 1 + dv.length = np
theorem x_makeD {X : Cx} {G : GC} {e : Expr} {am : AM} {pos : Pos} {k : Nat} {x : PySem.Str} {p : Pos} {c n np : Nat} {f : Addr} {ps : List PySem.Str} {g : FM} {dm : List MV} {es : List Expr} (M : Mk G.K (G.cl c) f) (D : Kd X.prog X.w X.K X.mg X.base G f k ps np n g dm) (hr : Room (k + 1) X.A) (hm : X.mg x = some (.ref (G.cl c)))
    (hl : ∀ σ h vs h', am σ h = .ok vs h' → vs.length = n) (ha : PA X (e :: es) (tMA G W0 am)) (hK : X.K = G.K := by rfl) (hg : Gl X x := by rfl)
    (hdb : (x == ("__debug__" : PySem.Str)) = false := by decide) (he : starEach (e :: es) X.env = (false, eval e X.env) :: starEach es X.env := by rfl) (hpl : (backTo pos (starEach es X.env)).any (·.1) = false := by rfl) :
    PE X (.Call (.Name x p) (e :: es) [] pos) (tM G W0 (eNewK c g (fun vs _ => vs ++ dm) am aNil)) := by
  obtain ⟨fd, ds, dv, F, hb, hv, hd, hn⟩ := D.ex
  exact k_makeD hd hl hn (pe_make (hK ▸ M) F hr hg hm hb hv pass0 ha hdb he hpl)
theorem rvs_ints {G : GC} {m : List Addr} {H : Hp} : ∀ is : List Int, RVs G m H (is.map MV.int) (is.map V.int)
  | [] => .nil
  | _ :: r => .cons (by simp only [RV]) (rvs_ints r)
/-! ### what is locked stands at a name, or in a field of it -/
def LkOk (G : GC) (fp : EM) : Prop := ∀ (m : List Addr) (h : MH) (H : Hp) (σm : Sl) (σ : L2.St) (v : MV) (h' : MH), Sim G m h H → RS G m H σm σ → fp σm h = .ok v h' → h' = h ∧ ∃ x, RV G m H v x
theorem lk_var {G : GC} (i : Nat) : LkOk G (eV i) := fun m h H σm σ v h' S R e => by
  unfold eV at e
  cases q : σm[i]? with
  | none => rw [q] at e; cases e
  | some u =>
    rw [q] at e
    cases u with
    | none => cases e
    | some w =>
      cases e
      obtain ⟨x, _, r⟩ := R.at_ i v q
      exact ⟨rfl, x, r⟩
theorem lk_fld {G : GC} {inj : ∀ i j, G.fl i = G.fl j → i = j} {c f : Nat} {fp : EM} (hp : LkOk G fp) : LkOk G (e1 (qFld c f) fp) := fun m h H σm σ v h' S R e => by
  unfold e1 at e
  cases q : fp σm h with
  | bad => rw [q] at e; cases e
  | exc _ _ _ => rw [q] at e; cases e
  | ok w h2 =>
    rw [q] at e
    obtain ⟨rfl, x, r⟩ := hp m h H σm σ w h2 S R q
    dsimp only [Res.bind] at e
    unfold qFld at e
    cases w with
    | ref n =>
      dsimp only at e
      cases eg : h2.get n with
      | none => rw [eg] at e; cases e
      | some o =>
        rw [eg] at e
        cases o with
        | ins d fs =>
          dsimp only at e
          cases ed : Nat.beq d c with
          | false => rw [ed] at e; cases e
          | true =>
            rw [ed] at e
            dsimp only at e
            cases ef : fget f fs with
            | none => rw [ef] at e; cases e
            | some u =>
              rw [ef] at e
              cases e
              obtain ⟨a, dx, gs, _, rfl, _, pr⟩ := S.ins eg r
              obtain ⟨y, _, ry⟩ := fget_of (inj := inj) pr ef
              exact ⟨rfl, y, ry⟩
        | _ => cases e
    | _ => cases e
section
variable {X : Cx} {G : GC} {e : Expr} {st : Stmt} {fa fp : EM} {sa : SM}
theorem s_lock (hp : LkOk G fp) (h : PS X st (tMS G W0 sa)) : PS X st (tMS G W0 (jLock fp sa)) := js_lock (fun m h H σm σ v h' S R e => (hp m h H σm σ v h' S R e).2) h
end
end KA

set_option Elab.async false
set_option autoImplicit false
set_option linter.all false
set_option maxRecDepth 100000
set_option maxHeartbeats 400000
/-! KMore: more operators. -/
namespace KA
open PySem PySem.Spec PyProof.Rows L2
theorem flat_rv {G : GC} {m : List Addr} {H : Hp} {v : MV} {x : V} (e : flatM v = true) (r : RV G m H v x) : flatV x = true := by
  cases v with
  | non => simp only [RV] at r; subst r; rfl
  | bl b => simp only [RV] at r; subst r; rfl
  | int i => simp only [RV] at r; subst r; rfl
  | str s => simp only [RV] at r; subst r; rfl
  | _ => cases e
theorem str_eqV (a b : List Nat) : ((⟨a.toArray⟩ : PySem.Str) == ⟨b.toArray⟩) = decide (a = b) := by
  by_cases c : a = b
  · subst c; simp
  · rw [decide_eq_false c]
    refine beq_eq_false_iff_ne.mpr fun z => c ?_
    have e2 : a.toArray = b.toArray := PySem.Str.mk.inj z
    simpa using e2
theorem eq_flat {G : GC} {m : List Addr} {h : MH} {H : Hp} {v w : MV} {x y : V} (ev : flatM v = true) (ew : flatM w = true) (r : RV G m H v x) (q : RV G m H w y) : eqB 1 h v w = eqV x y := by
  cases v with
  | non =>
    cases w with
    | non => simp only [RV] at r q; subst r q; rfl
    | bl b => simp only [RV] at r q; subst r q; rfl
    | int i => simp only [RV] at r q; subst r q; rfl
    | str s => simp only [RV] at r q; subst r q; rfl
    | _ => cases ew
  | bl a =>
    cases w with
    | non => simp only [RV] at r q; subst r q; rfl
    | bl b => simp only [RV] at r q; subst r q; rfl
    | int i => simp only [RV] at r q; subst r q; cases a <;> rfl
    | str s => simp only [RV] at r q; subst r q; rfl
    | _ => cases ew
  | int a =>
    cases w with
    | non => simp only [RV] at r q; subst r q; rfl
    | bl b => simp only [RV] at r q; subst r q; cases b <;> rfl
    | int i => simp only [RV] at r q; subst r q; rfl
    | str s => simp only [RV] at r q; subst r q; rfl
    | _ => cases ew
  | str a =>
    cases w with
    | non => simp only [RV] at r q; subst r q; rfl
    | bl b => simp only [RV] at r q; subst r q; rfl
    | int i => simp only [RV] at r q; subst r q; rfl
    | str s =>
      simp only [RV] at r q; subst r q
      show beqN a s = ((⟨a.toArray⟩ : PySem.Str) == ⟨s.toArray⟩)
      rw [str_eqV, beqN_iff]
    | _ => cases ew
  | _ => cases ev
theorem any_flat {G : GC} {m : List Addr} {h : MH} {H : Hp} {v : MV} {x : V} (ev : flatM v = true) (r : RV G m H v x) : ∀ {ys : List MV} {us : List V}, RVs G m H ys us → ys.all flatM = true → us.all flatV = true ∧ (ys.any fun y => eqB 1 h y v) = inV x us
  | [], us, q, _ => by rw [q.nil_inv]; exact ⟨rfl, rfl⟩
  | y :: ys, us, q, e => by
    obtain ⟨u, us', rfl, r1, r2⟩ := q.cons_inv
    rw [List.all_cons, Bool.and_eq_true] at e
    obtain ⟨h1, h2⟩ := any_flat (h := h) ev r r2 e.2
    refine ⟨by rw [List.all_cons, flat_rv e.1 r1, h1]; rfl, ?_⟩
    show _ = (List.any (u :: us') fun z => eqV z x)
    rw [List.any_cons, List.any_cons, eq_flat e.1 ev r1 r, h2]
    rfl
theorem o_inT {G : GC} (neg : Bool) : Op2 G (rIn G.K neg) (qInT neg) := by
  intro W m h H σ v w x y Q S r1 r2 p
  unfold qInT at p
  cases w with
  | tup ys =>
    dsimp only at p
    cases ef : flatM v && ys.all flatM with
    | false => rw [ef] at p; exact False.elim p
    | true =>
      rw [ef] at p
      obtain ⟨e1, e2⟩ := Bool.and_eq_true_iff.mp ef
      simp only [RV] at r2
      obtain ⟨a, us, rfl, ea, rs⟩ := r2
      obtain ⟨f1, f2⟩ := any_flat (h := h) e1 r1 rs e2
      refine ⟨a, us, rfl, .inr (SqT.of ea), flat_rv e1 r1, f1, RP.now p S ?_⟩
      cases neg with
      | false => simp only [RV]; rw [f2]; rfl
      | true => simp only [RV]; rw [f2]; rfl
  | _ => exact False.elim p
section
variable {X : Cx} {G : GC} {W : XW} {a b : Expr} {fa fb : EM} {pos : Pos}
theorem x_inT (ha : PE X a (tM G W fa)) (hb : PE X b (tM G W fb)) (hK : X.K = G.K := by rfl) (hm : behindInMarks .In b = false := by rfl) : PE X (.Compare a [.In] [b] pos) (tM G W (e2 (qInT false) fa fb)) := k_op (r := rIn X.K false) (hK ▸ o_inT false) (pe_cmpR op_in_seq ha hb hm)
theorem t_inT (ha : PE X a (tM G W fa)) (hb : PE X b (tM G W fb)) (hK : X.K = G.K := by rfl) (hm : behindInMarks .In b = false := by rfl) : PT X (.Compare a [.In] [b] pos) (tMT G W (cB (e2 (qInT false) fa fb))) := kt_op (r := rIn X.K false) (hK ▸ o_inT false) (pt_cmpR op_in_seq ha hb hm)
theorem x_ninT (ha : PE X a (tM G W fa)) (hb : PE X b (tM G W fb)) (hK : X.K = G.K := by rfl) (hm : behindInMarks .NotIn b = false := by rfl) : PE X (.Compare a [.NotIn] [b] pos) (tM G W (e2 (qInT true) fa fb)) := k_op (r := rIn X.K true) (hK ▸ o_inT true) (pe_cmpR op_notIn_seq ha hb hm)
theorem t_ninT (ha : PE X a (tM G W fa)) (hb : PE X b (tM G W fb)) (hK : X.K = G.K := by rfl) (hm : behindInMarks .NotIn b = false := by rfl) : PT X (.Compare a [.NotIn] [b] pos) (tMT G W (cB (e2 (qInT true) fa fb))) := kt_op (r := rIn X.K true) (hK ▸ o_inT true) (pt_cmpR op_notIn_seq ha hb hm)
end
end KA

set_option Elab.async false
set_option autoImplicit false
set_option linter.all false
set_option maxRecDepth 100000
set_option maxHeartbeats 400000
/-! KIs: x is True, x is not False. -/
namespace KA
open PySem PySem.Spec PyProof.Rows L2
section
variable {X : Cx} {G : GC} {W : XW} {a b : Expr} {fa fb : EM} {pos : Pos}
theorem o_isB : Op2 G rIsB (qIsB false) := by
  intro W m h H σ v w x y Q S r1 r2 p
  cases v with
  | bl i =>
    cases w with
    | bl j =>
      simp only [RV] at r1 r2
      exact ⟨i, j, r1, r2, RP.now p S (by simp [RV])⟩
    | _ => exact p.elim
  | _ => exact p.elim
theorem o_notB : Op2 G rNotB (qIsB true) := by
  intro W m h H σ v w x y Q S r1 r2 p
  cases v with
  | bl i =>
    cases w with
    | bl j =>
      simp only [RV] at r1 r2
      exact ⟨i, j, r1, r2, RP.now p S (by simp [RV])⟩
    | _ => exact p.elim
  | _ => exact p.elim
theorem x_isB (ha : PE X a (tM G W fa)) (hb : PE X b (tM G W fb)) (hm : behindInMarks .Is b = false := by first | exact nomark _ | rfl) : PE X (.Compare a [.Is] [b] pos) (tM G W (e2 (qIsB false) fa fb)) := k_op o_isB (pe_cmpR op_isBl ha hb hm)
theorem t_isB (ha : PE X a (tM G W fa)) (hb : PE X b (tM G W fb)) (hm : behindInMarks .Is b = false := by first | exact nomark _ | rfl) : PT X (.Compare a [.Is] [b] pos) (tMT G W (cB (e2 (qIsB false) fa fb))) := kt_op o_isB (pt_cmpR op_isBl ha hb hm)
theorem x_notB (ha : PE X a (tM G W fa)) (hb : PE X b (tM G W fb)) (hm : behindInMarks .IsNot b = false := by first | exact nomark _ | rfl) : PE X (.Compare a [.IsNot] [b] pos) (tM G W (e2 (qIsB true) fa fb)) := k_op o_notB (pe_cmpR op_notBl ha hb hm)
theorem t_notB (ha : PE X a (tM G W fa)) (hb : PE X b (tM G W fb)) (hm : behindInMarks .IsNot b = false := by first | exact nomark _ | rfl) : PT X (.Compare a [.IsNot] [b] pos) (tMT G W (cB (e2 (qIsB true) fa fb))) := kt_op o_notB (pt_cmpR op_notBl ha hb hm)
theorem js_par3 {i j l : Nat} {fc : EM} {st : Stmt} (h : PS X st (L2.tPar3 i j l (L2.tCons (tM G W fa) (L2.tCons (tM G W fb) (L2.tCons (tM G W fc) L2.tNil))))) : PS X st (tMS G W (jPar3 i j l fa fb fc)) := h.wk fun D σ H q => by
  refine (tMS.out (Rel := RV G) (k := fun σ v h1 => (fb σ h1).out σ fun w h2 => (fc σ h2).out σ fun u h3 => .nx (((σ.set i (some v)).set j (some w)).set l (some u)) h3) q).imp fun x H1 ⟨m1, h1, v, σm, S1, R1, r1, p1⟩ => ?_
  refine ⟨m1, h1, σm, S1, R1, (OP.out (Rel := RV G) R1 p1).imp fun y H2 ⟨m2, h2, w, x2, S2, r2, p2⟩ => ?_⟩
  have R2' := R1.mono x2.toLe
  refine ⟨m2, h2, σm, S2, R2', (OP.out (Rel := RV G) R2' p2).imp fun z H3 ⟨m3, h3, u, x3, S3, r3, p3⟩ => ?_⟩
  exact ⟨x, y, z, rfl, OP.nx_now p3 S3 ((((R2'.mono x3.toLe).set i ((r1.mono x2.toLe).mono x3.toLe)).set j (r2.mono x3.toLe)).set l r3)⟩
theorem s_par3 {i j l : Nat} {fc : EM} {c : Expr} {x y z : PySem.Str} {px py pz pt : Pos} {kt k2 pt2} (hN : X.N.Nodup) (hij : i ≠ j) (hil : i ≠ l) (hjl : j ≠ l) (ha : PE X a (tM G W fa)) (hb : PE X b (tM G W fb)) (hc' : PE X c (tM G W fc)) (hc : X.calm = true := by rfl) (hi : X.N[i]? = some x := by rfl) (hj : X.N[j]? = some y := by rfl) (hl : X.N[l]? = some z := by rfl)
    (hx : X.env.scope.names.lookup x = some .local := by rfl) (hy : X.env.scope.names.lookup y = some .local := by rfl) (hz : X.env.scope.names.lookup z = some .local := by rfl)
    (h1 : starEach [a, b, c] X.env = (false, eval a X.env) :: starEach [b, c] X.env := by rfl) (h2 : starEach [b, c] X.env = (false, eval b X.env) :: starEach [c] X.env := by rfl) (h3 : starEach [c] X.env = (false, eval c X.env) :: starEach [] X.env := by rfl)
    (hw : swappedStores [.Tuple [.Name x px, .Name y py, .Name z pz] kt pt] (.Tuple [a, b, c] k2 pt2) X.env = pure (some [x, y, z]) := by rfl)
    (hs : swapsWithSole [.Tuple [.Name x px, .Name y py, .Name z pz] kt pt] (.Tuple [a, b, c] k2 pt2) pos.line X.env = pure false := by rfl) :
    PS X (.Assign [.Tuple [.Name x px, .Name y py, .Name z pz] kt pt] (.Tuple [a, b, c] k2 pt2) pos) (tMS G W (jPar3 i j l fa fb fc)) :=
  js_par3 (ps_par3 hc hN hi hj hl hij hil hjl hx hy hz (pa_cons ha (pa_cons hb (pa_cons hc' pa_nil h3) h2) h1) hw hs)
end
end KA

set_option Elab.async false
set_option autoImplicit false
set_option linter.all false
set_option maxRecDepth 100000
set_option maxHeartbeats 800000
/-! KInn: iterators within enumerate and zip. -/
namespace KA
open PySem PySem.Spec PyProof.Rows L2

/-- an iterator at it, drawn from within another one: st its own object at each turn -/
structure Inn (P : Program) (w : World) (K : PySem.W.Frag) (J : It) (it : Addr) (st : Nat → Heap → Prop) : Prop where
  obj : ∀ i h, st i h → ∃ o, h.get? it = some o ∧ ∀ v, o.data ≠ .cell v
  keep : ∀ i h h', st i h → (∀ o, h.get? it = some o → h'.get? it = some o) → st i h'
  goUp : ∀ i H p xs, H p = none → J.go i H → J.go i (upd H p (.tup xs))
  stUp : ∀ i H p xs, H p = none → J.stop i H → J.stop i (upd H p (.tup xs))
  item : ∀ (X : Cx), X.prog = P → X.w = w → X.K = K → ∀ (A : Around) (i : Nat) (pins : List (Addr × Obj)) (s : Shared) (σ : L2.St) (H : Hp) (E : Value → Shared → Prop) (Q : Value → Shared → Prop), Inv X pins σ H s → FpOk X pins H it → st i s.heap → J.go i H →
    (∀ u h' x H1, Inv X pins σ H1 { s with heap := h' } → RelV x u → J.yld i H x H1 → st (i + 1) h' → (∀ b o, b ≠ it → s.heap.get? b = some o → h'.get? b = some o) → s.heap.objs.size ≤ h'.objs.size →
      (H1 = H ∨ ∃ T xs, H T = none ∧ s.heap.objs.size ≤ T ∧ H1 = upd H T (.tup xs)) → Q u { s with heap := h' }) →
    wpAny (model P w) A (Builtin.SmallTypes.nextOf (.ref it)) Q E s
  done : ∀ (X : Cx), X.prog = P → X.w = w → X.K = K → ∀ (A : Around) (i : Nat) (pins : List (Addr × Obj)) (s : Shared) (σ : L2.St) (H : Hp) (E : Value → Shared → Prop) (Q : Value → Shared → Prop), A.handled = none → Inv X pins σ H s → FpOk X pins H it → st i s.heap → J.stop i H →
    (∀ h' e, (∀ b o, b ≠ it → s.heap.get? b = some o → h'.get? b = some o) → (∃ o, h'.get? e = some o ∧ o.cls = .type "StopIteration") → E (.ref e) { s with heap := h' }) →
    wpAny (model P w) A (Builtin.SmallTypes.nextOf (.ref it)) Q E s
section
variable {P : Program} {w : World} {K : PySem.W.Frag}
theorem sqL_up {K : PySem.W.Frag} {H : Hp} {a p : Addr} {xs ys : List V} (hp : H p = none) (h : SqL K H a xs) : SqL K (upd H p (.tup ys)) a xs := by
  rcases h with (h | ⟨o, h⟩) | h
  · exact .inl (.inl (by rw [upd_ne (ne_of_none h hp)]; exact h))
  · exact .inl (.inr ⟨o, by rw [upd_ne (ne_of_none h hp)]; exact h⟩)
  · exact .inr h
theorem sqT_up {K : PySem.W.Frag} {H : Hp} {a p : Addr} {xs ys : List V} (hp : H p = none) (h : SqT K H a xs) : SqT K (upd H p (.tup ys)) a xs := by
  rcases h with (h | ⟨o, h⟩) | h
  · exact .inl (.inl (by rw [upd_ne (ne_of_none h hp)]; exact h))
  · exact .inl (.inr ⟨o, by rw [upd_ne (ne_of_none h hp)]; exact h⟩)
  · exact .inr h
theorem fp1 {X : Cx} {pins : List (Addr × Obj)} {H : Hp} {it : Addr} (fp : FpOk X pins H it) : ∀ b ∈ [it], FpOk X pins H b := fun b hb => by
  have : b = it := by simpa using hb
  rw [this]; exact fp
/-- over a tuple -/
theorem inn_tup (a it : Addr) : Inn P w K (Itt K a) it (fun i h => h.IsTupleIter it a i) where
  obj := fun i h ⟨o, e, _, d⟩ => ⟨o, e, fun v q => by rw [d] at q; cases q⟩
  keep := fun i h h' st k => st.at fun o q => k o q
  goUp := fun i H p xs hp ⟨ys, y, h, e⟩ => ⟨ys, y, sqT_up hp h, e⟩
  stUp := fun i H p xs hp ⟨ys, h, e⟩ => ⟨ys, sqT_up hp h, e⟩
  item := by
    intro X hP hw hK A i pins s σ H E Q I fp st hg q
    subst hP hw hK
    obtain ⟨ys, y, hy, ey⟩ := hg
    obtain ⟨its, rv, pl, _⟩ := I.tuple hy
    obtain ⟨u, hu, ru⟩ := rv.get ey
    refine RZ.nextOf_tuple_item st pl (x := u) (by simpa using hu) fun h' st' sb => ?_
    have k : ∀ b o, b ≠ it → s.heap.get? b = some o → h'.get? b = some o := fun b o n e => (sb.2 b n).trans e
    have I2 : Inv X pins σ H { s with heap := h' } := I.turnedL (t' := s.toks) (ch := [it]) (fun b o hb e => k b o (by simpa using hb) e) (fp1 fp)
    exact q u h' y H I2 ru ⟨rfl, fun zs hz => by rw [I.tuple_inj hz hy]; exact ey⟩ st' k (Nat.le_of_eq sb.1.symm) (.inl rfl)
  done := by
    intro X hP hw hK A i pins s σ H E Q hh I fp st hg q
    subst hP hw hK
    obtain ⟨ys, hy, hl⟩ := hg
    obtain ⟨its, rv, pl, _⟩ := I.tuple hy
    have l1 := rv.length
    exact RZ.nextOf_tuple_end hh st pl (by simp; omega) fun h' e k he => q h' e (fun b o n => k b o n) he
/-- over a list -/
theorem inn_lst (a it : Addr) : Inn P w K (Itl K a) it (fun i h => h.IsListIter it a i) where
  obj := fun i h ⟨o, e, _, d⟩ => ⟨o, e, fun v q => by rw [d] at q; cases q⟩
  keep := fun i h h' st k => st.at fun o q => k o q
  goUp := fun i H p xs hp ⟨ys, y, h, e⟩ => ⟨ys, y, sqL_up hp h, e⟩
  stUp := fun i H p xs hp ⟨ys, h, e⟩ => ⟨ys, sqL_up hp h, e⟩
  item := by
    intro X hP hw hK A i pins s σ H E Q I fp st hg q
    subst hP hw hK
    obtain ⟨ys, y, hy, ey⟩ := hg
    obtain ⟨its, rv, pl, _⟩ := I.list hy
    obtain ⟨u, hu, ru⟩ := rv.get ey
    refine wpAny_nextOf_list_item st pl.isList (x := u) (by simpa using hu) fun h' st' sb => ?_
    have k : ∀ b o, b ≠ it → s.heap.get? b = some o → h'.get? b = some o := fun b o n e => (sb.2 b n).trans e
    have I2 : Inv X pins σ H { s with heap := h' } := I.turnedL (t' := s.toks) (ch := [it]) (fun b o hb e => k b o (by simpa using hb) e) (fp1 fp)
    exact q u h' y H I2 ru ⟨rfl, fun zs hz => by rw [I.list_inj hz hy]; exact ey⟩ st' k (Nat.le_of_eq sb.1.symm) (.inl rfl)
  done := by
    intro X hP hw hK A i pins s σ H E Q hh I fp st hg q
    subst hP hw hK
    obtain ⟨ys, hy, hl⟩ := hg
    obtain ⟨its, rv, pl, _⟩ := I.list hy
    have l1 := rv.length
    exact wpAny_nextOf_list_end hh st pl.isList (by simp; omega) fun h' e k he => q h' e (fun b o n => k b o n) he
/-! ### enumerate -/
theorem fp_up {X : Cx} {pins : List (Addr × Obj)} {H H1 : Hp} {b : Addr} {n : Nat} (fp : FpOk X pins H b) (hb : b < n) (hu : H1 = H ∨ ∃ T xs, H T = none ∧ n ≤ T ∧ H1 = upd H T (.tup xs)) : FpOk X pins H1 b := by
  refine ⟨?_, fp.2⟩
  rcases hu with rfl | ⟨T, xs, _, hT, rfl⟩
  · exact fp.1
  · rw [upd_ne (Nat.ne_of_lt (Nat.lt_of_lt_of_le hb hT))]; exact fp.1
theorem enum_step {J : It} {it e : Addr} {st : Nat → Heap → Prop} (N : Inn P w K J it st) (X : Cx) (hP : X.prog = P) (hw : X.w = w) (hK : X.K = K) {A : Around} {i : Nat} {pins : List (Addr × Obj)} {s : Shared} {σ : L2.St} {H : Hp} {E : Value → Shared → Prop} {Q : Value → Shared → Prop} {old : Value}
    (I : Inv X pins σ H s) (fe : FpOk X pins H e) (fi : FpOk X pins H it) (ne : e ≠ it) (he : IsEnum s.heap e it ((i : Nat) : Int) old) (hs : st i s.heap) (hg : J.go i H)
    (hQ : ∀ T x H1 u h' t', Inv X pins σ (upd H1 T (.tup [.int (i : Nat), x])) { s with heap := h', toks := t' } → J.yld i H x H1 → H1 T = none → st (i + 1) h' → IsEnumOut h' e it ((i : Int) + 1) u T → s.heap.objs.size ≤ T →
      (H1 = H ∨ ∃ T xs, H T = none ∧ s.heap.objs.size ≤ T ∧ H1 = upd H T (.tup xs)) → Q (.ref T) { s with heap := h', toks := t' }) :
    wpAny (model P w) A (Builtin.«enumerate.__next__» ⟨[.ref e], []⟩) (fun fin s' => ∃ v, fin = .done (.ret v) ∧ Q v s') E s := by
  have hel : e < s.heap.objs.size := Heap.lt_size he
  show wpAny _ _ (field (.ref e) 2 >>= _) _ _ _
  refine wpAny_bind (wpAny_field he rfl (x := .ref it) rfl ?_)
  refine wpAny_bind (N.item X hP hw hK A i pins s σ H E _ I fi hs hg fun u h1 x H1 I1 ru yl st1 k1 sz1 up => ?_)
  have fe1 : FpOk X pins H1 e := fp_up fe hel up
  have he1 : IsEnum h1 e it ((i : Nat) : Int) old := k1 e _ ne he
  obtain ⟨hp, g, d, tk, os⟩ := s
  show wpAny _ _ (field (.ref e) 3 >>= _) _ _ ⟨h1, g, d, tk, os⟩
  refine wpAny_bind (wpAny_field he1 rfl (x := rawInt (i : Nat)) rfl ?_)
  show wpAny _ _ (field (.ref e) 4 >>= _) _ _ ⟨h1, g, d, tk, os⟩
  refine wpAny_bind (wpAny_field he1 rfl (x := .none) rfl ?_)
  show wpAny _ _ (mkInt (i : Nat) >>= _) _ _ ⟨h1, g, d, tk, os⟩
  refine wpAny_bind (wpAny_mkInt ?_)
  show wpAny _ _ (setField (.ref e) 3 (rawInt ((i : Int) + 1)) >>= _) _ _ ⟨h1, g, d, tk + 1, os⟩
  refine wpAny_bind (wpAny_setField_rec he1 (by simp) fun h2 e2 b2 => ?_)
  replace b2 : Heap.SameBut e h1 h2 := b2
  replace e2 : IsEnum h2 e it ((i : Int) + 1) old := e2
  show wpAny _ _ (setField (.ref e) 4 .none >>= _) _ _ ⟨h2, g, d, tk + 1, os⟩
  refine wpAny_bind (wpAny_setField_rec e2 (by simp) fun h3 e3 b3 => ?_)
  replace b3 : Heap.SameBut e h2 h3 := b3
  replace e3 : IsEnum h3 e it ((i : Int) + 1) old := e3
  show wpAny _ _ (newTuple [.int (i : Nat) tk, u] >>= _) _ _ ⟨h3, g, d, tk + 1, os⟩
  refine wpAny_bind (wpAny_newTuple ?_)
  have hT : h3.objs.size = h1.objs.size := by rw [b3.1, b2.1]
  have e4 : IsEnum (h3.push { cls := .type "tuple", data := .seq #[.int (i : Nat) tk, u] }) e it ((i : Int) + 1) old := Heap.get?_push_of_some _ e3
  have t4 : (h3.push { cls := .type "tuple", data := .seq #[.int (i : Nat) tk, u] }).get? h1.objs.size = some { cls := .type "tuple", data := .seq #[.int (i : Nat) tk, u] } := by rw [← hT]; exact Heap.get?_push_size _ rfl
  have k4 : ∀ b o, b ≠ e → h1.get? b = some o → (h3.push { cls := .type "tuple", data := .seq #[.int (i : Nat) tk, u] }).get? b = some o := fun b o n q => Heap.get?_push_of_some _ (b3.extBut b o n (b2.extBut b o n q))
  show wpAny _ _ (Builtin.SmallTypes.ownedTupleIsFree (.ref e) >>= _) _ _ ⟨h3.push { cls := .type "tuple", data := .seq #[.int (i : Nat) tk, u] }, g, d, tk + 1, os⟩
  rw [hT]
  generalize h3.push { cls := .type "tuple", data := .seq #[.int (i : Nat) tk, u] } = h4 at e4 t4 k4
  clear hT e3 b3 e2 b2 h3 h2
  refine wpAny_bind ?_
  unfold Builtin.SmallTypes.ownedTupleIsFree
  refine wpAny_bind (wpAny_field e4 rfl (x := .none) rfl (wpAny_pure ?_))
  simp only [if_true]
  refine wpAny_bind (wpAny_rule ?_)
  refine wpAny_bind (wpAny_field e4 rfl (x := old) rfl ?_)
  refine wpAny_bind (wpAny_setField_rec e4 (by simp) fun h5 e5 b5 => ?_)
  replace b5 : Heap.SameBut e h4 h5 := b5
  replace e5 : IsEnum h5 e it ((i : Int) + 1) u := e5
  show wpAny _ _ (Builtin.SmallTypes.ownedTupleHandOut (.ref e) (.ref h1.objs.size) >>= _) _ _ ⟨h5, g, d, tk + 1, os⟩
  refine wpAny_bind ?_
  unfold Builtin.SmallTypes.ownedTupleHandOut
  refine wpAny_bind (wpAny_setField_rec e5 (by simp) fun h6 e6 b6 => ?_)
  replace b6 : Heap.SameBut e h5 h6 := b6
  replace e6 : IsEnumOut h6 e it ((i : Int) + 1) u h1.objs.size := e6
  refine wpAny_setField_rec e6 (by simp) fun h7 e7 b7 => ?_
  replace b7 : Heap.SameBut e h6 h7 := b7
  replace e7 : IsEnumOut h7 e it ((i : Int) + 1) u h1.objs.size := e7
  have k7 : ∀ b o, b ≠ e → h1.get? b = some o → h7.get? b = some o := fun b o n q => b7.extBut b o n (b6.extBut b o n (b5.extBut b o n (k4 b o n q)))
  have el1 : e ≠ h1.objs.size := Nat.ne_of_lt (Nat.lt_of_lt_of_le hel sz1)
  have t7 : h7.get? h1.objs.size = some { cls := .type "tuple", data := .seq #[.int (i : Nat) tk, u] } := b7.extBut _ _ (Ne.symm el1) (b6.extBut _ _ (Ne.symm el1) (b5.extBut _ _ (Ne.symm el1) t4))
  have nw : ObjOk X.prog X.w (upd H1 h1.objs.size (.tup [.int (i : Nat), x])) h7 h1.objs.size (.tup [.int (i : Nat), x]) := ⟨by show 2 ≤ sizeLine; decide, [.int (i : Nat) tk, u], .cons ⟨_, rfl⟩ (.cons ru .nil), ⟨_, t7, rfl, _, rfl⟩⟩
  have I7 : Inv X pins σ (upd H1 h1.objs.size (.tup [.int (i : Nat), x])) ⟨h7, g, d, tk + 1, os⟩ := I1.turnedNew (ch := [e]) (fun b o hb q => k7 b o (by simpa using hb) q) (fp1 fe1) (Nat.le_refl _) nw
  exact wpAny_bind (wpAny_letGo (wpAny_pure ⟨_, rfl, hQ _ x H1 u h7 (tk + 1) I7 yl (I1.hok.fresh (Nat.le_refl _)) (N.keep _ _ _ st1 fun o q => k7 it o (Ne.symm ne) q) e7 sz1 up⟩))
/-- the pairs of a number and an item -/
def Ite2 (J : It) : It := ⟨J.go, fun i H v H' => ∃ T x H1, v = .ref T ∧ J.yld i H x H1 ∧ H1 T = none ∧ H' = upd H1 T (.tup [.int (i : Nat), x]), J.stop⟩
theorem turn_enumI {J : It} {it e : Addr} {st : Nat → Heap → Prop} (N : Inn P w K J it st) (ne : e ≠ it) {elts : List Expr} {kk : Nat} {tpos : Pos} :
    Turn P w K (.Tuple elts kk tpos) (Ite2 J) [e, it] e (fun i h => (∃ old, IsEnum h e it ((i : Nat) : Int) old) ∧ st i h) where
  mem := by simp
  obj := fun i h ⟨⟨old, he⟩, hs⟩ b hb => by
    have e' : b = e ∨ b = it := by simpa using hb
    rcases e' with z | z
    · rw [z]; exact ⟨_, he, fun v q => nomatch q⟩
    · rw [z]; exact N.obj i h hs
  keep := fun i h h' ⟨⟨old, he⟩, hs⟩ k => ⟨⟨old, k e (by simp) _ he⟩, N.keep i h h' hs fun o q => k it (by simp) o q⟩
  item := by
    intro X hP hw hK hc i pins s σ H E I hf hst hg
    obtain ⟨⟨old, he⟩, hs⟩ := hst
    have hT : s.TypeIs (.ref e) "enumerate" := ⟨_, he, rfl⟩
    have hel : e < s.heap.objs.size := Heap.lt_size he
    unfold pyNext
    refine wpAny_bind (wpAny_attempt (wpAny_callSpecial?_slot (name := Str.ofString "__next__") hT F.slot_enumerate_next
      (wpAny_call_entry F.slot_enumerate_next hT F.entry_enumerate_next (enum_step N X hP hw hK I (hf e (by simp)) (hf it (by simp)) ne he hs hg fun T x H1 u h' t' I7 yl hn st7 e7 hTs up => wpAny_pure ?_) (F.args_enumerate_next_1 _))))
    refine ⟨_, rfl, wpAny_letOwnedTupleGo_enum (s := { s with heap := h', toks := t' }) e7 fun h'' he'' sb => ?_⟩
    have kk : ∀ b o, b ∉ [e] → h'.get? b = some o → h''.get? b = some o := fun b o hb q => (sb.2 b (by simpa using hb)).trans q
    have fe1 : FpOk X pins (upd H1 T (.tup [.int (i : Nat), x])) e := by
      have := fp_up (hf e (by simp)) hel up
      refine ⟨?_, this.2⟩
      rw [upd_ne (Nat.ne_of_lt (Nat.lt_of_lt_of_le hel hTs))]; exact this.1
    have hit : it < s.heap.objs.size := by obtain ⟨o, q, _⟩ := N.obj i s.heap hs; exact Heap.lt_size q
    have fi1 : FpOk X pins (upd H1 T (.tup [.int (i : Nat), x])) it := by
      have := fp_up (hf it (by simp)) hit up
      refine ⟨?_, this.2⟩
      rw [upd_ne (Nat.ne_of_lt (Nat.lt_of_lt_of_le hit hTs))]; exact this.1
    refine ⟨.ref T, _, I7.turnedL (ch := [e]) kk (fp1 fe1), rfl, ⟨T, x, H1, rfl, yl, hn, rfl⟩, ⟨⟨u, ?_⟩, N.keep _ _ _ st7 fun o q => kk it o (by simpa using Ne.symm ne) q⟩, fun b hb => ?_⟩
    · have e1 : ((i + 1 : Nat) : Int) = (i : Int) + 1 := by omega
      rw [e1]; exact he''
    · have e' : b = e ∨ b = it := by simpa using hb
      rcases e' with z | z
      · rw [z]; exact fe1.1
      · rw [z]; exact fi1.1
  done := by
    intro X hP hw hK hc i pins s σ H E I hf hst hg
    obtain ⟨⟨old, he⟩, hs⟩ := hst
    have hT : s.TypeIs (.ref e) "enumerate" := ⟨_, he, rfl⟩
    have hh : X.A.handled = none := I.ok.hd hc
    unfold pyNext
    refine wpAny_bind (wpAny_attempt (wpAny_callSpecial?_slot (name := Str.ofString "__next__") hT F.slot_enumerate_next
      (wpAny_call_entry F.slot_enumerate_next hT F.entry_enumerate_next ?_ (F.args_enumerate_next_1 _))))
    show wpAny _ _ (field (.ref e) 2 >>= _) _ _ _
    refine wpAny_bind (wpAny_field he rfl (x := .ref it) rfl ?_)
    refine wpAny_bind (N.done X hP hw hK _ i pins s σ H _ _ hh I (hf it (by simp)) hs hg fun h' x k hx => ?_)
    obtain ⟨o, ho, hc⟩ := hx
    refine wpAny_bind (wpAny_isInstance (T := "StopIteration") (b := true) ⟨o, ho, hc⟩ isSubtype_stop ?_)
    exact wpAny_pure ⟨rfl, I.turnedL (t' := s.toks) (ch := [it]) (fun b o hb q => k b o (by simpa using hb) q) (fp1 (hf it (by simp)))⟩
  self := fun A i s Q E hst h => let ⟨⟨_, he⟩, _⟩ := hst; wpAny_pyIter_enum he h
end
section
variable {prog : Program} {w : World} {A : Around} {E : Value → Shared → Prop} {s : Shared}
open AutoSeq1 (wpAny_loadPart') in
theorem meets_enum_tup (l : Addr) (items : Array Value) :
    Meets (Builtin.«enumerate.__new__» ⟨[.type "enumerate", .ref l], []⟩) (fun _ R s => s.heap.IsTuple l items ∧
      R (.ok (.ret (.ref (s.heap.push { cls := .type "tuple_iterator", data := .fields #[.ref l, .int 0 0] }).objs.size)))
        { s with heap := (s.heap.push { cls := .type "tuple_iterator", data := .fields #[.ref l, .int 0 0] }).push { cls := .type "enumerate", data := .fields #[.none, .bool false, .ref s.heap.objs.size, rawInt 0, .none, .none] } }) :=
  .of_wp fun prog w A R s h => by
    obtain ⟨hp, g, d, tk, os⟩ := s
    obtain ⟨hl, h⟩ := h
    have hsub := sub_enumerate
    have hL : Heap.IsTuple (Shared.heap ⟨hp, g, d, tk, os⟩) l items := hl
    obtain ⟨o, ho, hc, n, hd⟩ := id hl
    wp_walk using wpAny_loadPart' ho
    refine wpAny_stack_any fun st => wpAny_pure ?_
    split
    · rename_i c _ _ _ _ _
      cases (c == Value.type "enumerate")
      · wp_walk using wpAny_loadPart' ho, wpAny_pyIter_tuple hL
        exact ⟨_, rfl, h⟩
      · wp_walk using wpAny_loadPart' ho, wpAny_pyIter_tuple hL
        exact ⟨_, rfl, h⟩
    · wp_walk using wpAny_loadPart' ho, wpAny_pyIter_tuple hL
      exact ⟨_, rfl, h⟩
theorem call_enum_tup {l : Addr} {items : Array Value} {Q : Value → Shared → Prop} (hL : s.heap.IsTuple l items)
    (h : ∀ h', IsEnum h' (s.heap.objs.size + 1) s.heap.objs.size 0 .none → h'.IsTupleIter s.heap.objs.size l 0 → (∀ b o, s.heap.get? b = some o → h'.get? b = some o) → Q (.ref (s.heap.objs.size + 1)) { s with heap := h' }) :
    wpAny (model prog w) A (call (.type "enumerate") [.ref l]) Q E s := by
  refine callType_new F.called_enumerate (by decide) (F.typeCall_enumerate_1 _) (F.newCall_enumerate_1 _) (fun obj => F.args_object_init_2 obj _) F.entry_enumerate_new (meets_enum_tup l items) ⟨hL, ?_⟩
  generalize hh1 : s.heap.push { cls := .type "tuple_iterator", data := .fields #[.ref l, .int 0 0] } = h1
  have z1 : h1.objs.size = s.heap.objs.size + 1 := by rw [← hh1]; exact Heap.size_push ..
  have g1 : h1.get? s.heap.objs.size = some { cls := .type "tuple_iterator", data := .fields #[.ref l, .int 0 0] } := by rw [← hh1]; exact Heap.get?_push_size _ rfl
  have k1 : ∀ b o, s.heap.get? b = some o → h1.get? b = some o := fun b o e => by rw [← hh1]; exact Heap.get?_push_of_some _ e
  show _ ∧ _
  have g2 : (h1.push { cls := .type "enumerate", data := .fields #[.none, .bool false, .ref s.heap.objs.size, rawInt 0, .none, .none] }).get? h1.objs.size = some { cls := .type "enumerate", data := .fields #[.none, .bool false, .ref s.heap.objs.size, rawInt 0, .none, .none] } := Heap.get?_push_size _ rfl
  rw [z1] at g2 ⊢
  exact ⟨⟨_, g2, rfl⟩, h _ g2 ⟨_, Heap.get?_push_of_some _ g1, rfl, rfl⟩ fun b o e => Heap.get?_push_of_some _ (k1 b o e)⟩
end
section
variable {X : Cx} {G : GC} {W : XW} {e : Expr} {fa : EM}
def iEnumT (K : PySem.W.Frag) (ta : TA) : TI := fun σ H R => ta σ H fun vs H1 => ∃ a xs, vs = [.ref a] ∧ SqT K H1 a xs ∧ R (Ite2 (Itt K a)) H1
theorem pi_enumT {ta : TA} {p pos tpos : Pos} {elts : List Expr} {kk : Nat} (hg : Gl X "enumerate") (hm : X.mg "enumerate" = none) (ha : PA X [e] ta) (hs : starEach [e] X.env = [(false, eval e X.env)] := by rfl) :
    PI X (.Tuple elts kk tpos) (.Call (.Name "enumerate" p) [e] [] pos) (iEnumT X.K ta) := by
  refine ⟨fun pins s σ H R I h => ?_⟩
  refine Call_ (ld_blt I hg hm boot_enumerate (PyProof.Rows.callWith_type1 (thn (ha.run pos pins s σ H _ I h) fun us s1 ⟨vs, H1, I1, r1, q1⟩ => ?_) hs rfl))
  obtain ⟨a, xs, ex, hq, q⟩ := q1
  subst ex
  cases r1 with
  | cons r rr =>
    cases rr
    cases r
    obtain ⟨its, rv, pl, hz⟩ := I1.tuple hq
    refine call_enum_tup (show s1.heap.IsTuple a its.toArray from pl) fun h' he hit k => wpAny_pyIter_enum he ?_
    have I2 : Inv X pins σ H1 { s1 with heap := h' } := I1.kept (t' := s1.toks) k
    refine ⟨s1.heap.objs.size + 1, [s1.heap.objs.size + 1, s1.heap.objs.size], _, _, H1, rfl, I2, turn_enumI (inn_tup a s1.heap.objs.size) (Nat.succ_ne_self _), ⟨⟨.none, he⟩, hit⟩, fun b hb => ?_, q⟩
    have le : s1.heap.objs.size ≤ b := by
      have q : b = s1.heap.objs.size + 1 ∨ b = s1.heap.objs.size := by simpa using hb
      rcases q with q | q
      · rw [q]; exact Nat.le_add_right _ _
      · rw [q]; exact Nat.le_refl _
    exact I1.fpOk le (I1.hok.fresh le)
/-- pairs of a number and what a walk gives -/
theorem wkR_E2 {m : List Addr} {H : Hp} {k : Wk} {J : It} (h0 : WkR G m H k J) : WkR G m H (wkE k) (Ite2 J) where
  item := fun m1 h1 H1 i v x S hi e => by
    unfold wkE at e
    dsimp only at e
    cases eg : k.at_ i h1 with
    | none => rw [eg] at e; cases e
    | some u =>
      rw [eg] at e
      cases e
      obtain ⟨g, q⟩ := h0.item m1 h1 H1 i u x S hi eg
      refine ⟨g, fun z H' ⟨T, y, H2, ez, yl, hT, eH⟩ => ?_⟩
      obtain ⟨x2, S2, r2⟩ := q y H2 yl
      have := pair_new S2 hT eH (a := .int (i : Nat)) (by simp only [RV]) r2
      subst ez
      exact ⟨x2.trans this.1, this.2.1, this.2.2⟩
  fin := fun m1 h1 H1 x S e => h0.fin m1 h1 H1 x S e
theorem wkR_T {m : List Addr} {H : Hp} {xs : List MV} {ys : List V} {a : Addr} (fz : H a = some (.tup ys)) (r : RVs G m H xs ys) : WkR G m H (wkT xs) (Itt G.K a) where
  item := fun m2 h2 H2 i v x S hi e => by
    obtain ⟨y, ey, ry⟩ := r.get e
    refine ⟨⟨ys, y, SqT.of (x.toLe.tup _ _ fz), ey⟩, fun z H' q => ?_⟩
    obtain ⟨rfl, q⟩ := q
    have hz := q ys (SqT.of (x.toLe.tup _ _ fz))
    rw [ey] at hz
    cases hz
    exact ⟨.refl, S, ry.mono x.toLe⟩
  fin := fun m2 h2 H2 x S e => ⟨ys, SqT.of (x.toLe.tup _ _ fz), Nat.le_of_eq r.length⟩
theorem ki_enumT {tg : Expr} {K : PySem.W.Frag} (hK : K = G.K) (h : PI X tg e (iEnumT K (L2.tCons (tM G W fa) L2.tNil))) : PI X tg e (tMI G W (wEnumT fa)) := PI_wk h fun σ H R q => by
  subst hK
  refine (tMR.bind (Rel := RV G) (k := fun _ v h1 => match v with
  | .tup xs => .ok (wkE (wkT xs)) h1
  | _ => .bad) q).imp fun x H1 ⟨m1, h1, v, σm, S1, R1, r1, p1⟩ => ?_
  cases v with
  | tup xs =>
    simp only [RV] at r1
    obtain ⟨a, ys, rfl, fz, r⟩ := r1
    exact ⟨a, ys, rfl, SqT.of fz, RP.now p1 S1 (wkR_E2 (wkR_T fz r))⟩
  | _ => exact False.elim p1
theorem i_enumT {p pos tpos : Pos} {elts : List Expr} {kk : Nat} (hm : X.mg "enumerate" = none) (h : PE X e (tM G W fa)) (hK : X.K = G.K := by rfl) (hg : Gl X "enumerate" := by rfl) (hs : starEach [e] X.env = [(false, eval e X.env)] := by rfl) : PI X (.Tuple elts kk tpos) (.Call (.Name "enumerate" p) [e] [] pos) (tMI G W (wEnumT fa)) := ki_enumT hK (pi_enumT hg hm (pa_cons h pa_nil hs) hs)
end
end KA

set_option Elab.async false
set_option autoImplicit false
set_option linter.all false
set_option maxRecDepth 100000
set_option maxHeartbeats 800000
/-! KInn2: dicts walked from within zip. -/
namespace KA
open PySem PySem.Spec PyProof.Rows L2
section
variable {prog : Program} {w : World} {A : Around} {E : Value → Shared → Prop} {s : Shared}
theorem nx_key {it d : Addr} {i n ep : Nat} {od : Obj} {es : Array DictEntry} {en : DictEntry} {Q : Value → Shared → Prop} (ht : s.heap.IsKeyIter it d i n ep) (ho : s.heap.get? d = some od) (hd : od.data = .dict es ep) (hz : es.size = n) (hx : es[i]? = some en)
    (q : ∀ h', h'.IsKeyIter it d (i + 1) n ep → Heap.SameBut it s.heap h' → Q en.key { s with heap := h' }) : wpAny (model prog w) A (Builtin.SmallTypes.nextOf (.ref it)) Q E s := by
  obtain ⟨o, eo, ec, ed⟩ := id ht
  unfold Builtin.SmallTypes.nextOf
  refine wpAny_bind (wpAny_callSpecial?_slot (name := Str.ofString "__next__") ht.typeIs F.slot_dict_keyiterator_next (wpAny_call_entry F.slot_dict_keyiterator_next ht.typeIs F.entry_dict_keyiterator_next ?_ (F.args_dict_keyiterator_next_1 _)))
  refine wpAny_bind (wpAny_pure (wpAny_bind (wpAny_bind ?_)))
  first | refine wpAny_bind (wpAny_typeNameOfWhole_keyiter ht.typeIs (wpAny_pure ?_)) | refine wpAny_bind (wpAny_typeNameOf_keyiter ht.typeIs (wpAny_pure ?_))
  refine wpAny_bind (wpAny_fieldsOf eo ed ?_)
  simp only [show Builtin.Dict_items.ownsTuple "dict_keyiterator" = false by decide, Bool.false_eq_true, if_false]
  show wpAny _ _ (if (Value.ref d == .none) = true then _ else _) _ _ s
  rw [if_neg (show ¬ (Value.ref d == Value.none) = true from fun z => Bool.false_ne_true z)]
  refine wpAny_bind (wpAny_pure (wpAny_bind (wpAny_dictEntries ho hd ?_)))
  rw [if_neg (by rw [hz]; simp)]
  refine wpAny_bind (wpAny_pure (wpAny_bind (wpAny_dictEpoch ho hd ?_)))
  rw [if_neg (by simp)]
  refine wpAny_pure ?_
  obtain ⟨hl, he⟩ := Array.getElem?_eq_some_iff.mp hx
  simp only [show ¬ ((i : Int) < 0) by omega, Int.toNat_natCast, Array.getElem?_eq_getElem hl, if_false]
  refine wpAny_bind ?_
  first | refine wpAny_bind (wpAny_typeNameOfWhole_keyiter ht.typeIs (wpAny_pure ?_)) | refine wpAny_bind (wpAny_typeNameOf_keyiter ht.typeIs (wpAny_pure ?_))
  refine wpAny_bind (wpAny_isOneOf_keyiter ht.typeIs ?_)
  show wpAny _ _ (setField (.ref it) 1 (rawInt (i + 1)) >>= _) _ _ s
  refine wpAny_bind (wpAny_setField eo ed (by simp) ?_)
  generalize eh : s.heap.update it (Obj.mapFields (·.setIfInBounds 1 (rawInt (i + 1)))) = h1
  have t1 : h1.IsKeyIter it d (i + 1) n ep := by
    rw [← eh]
    exact ⟨_, Heap.get?_update_self _ eo (Obj.isFreed_of_fields (Obj.data_mapFields ed _)), (Obj.cls_mapFields ..).trans ec, by rw [Obj.data_mapFields ed]; simp [rawInt]⟩
  have sb : Heap.SameBut it s.heap h1 := by rw [← eh]; exact Heap.SameBut.update ..
  refine wpAny_bind (wpAny_holding (wpAny_bind (wpAny_isOneOf_keyiter (s := { s with heap := h1 }) t1.typeIs ?_)))
  show wpAny _ _ (pure es[i].key) _ _ _
  rw [he]
  exact wpAny_pure (wpAny_pure ⟨_, rfl, wpAny_pure (q h1 t1 sb)⟩)
theorem ne_key {it d : Addr} {i n ep : Nat} {od : Obj} {es : Array DictEntry} {Q : Value → Shared → Prop} (hh : A.handled = none) (ht : s.heap.IsKeyIter it d i n ep) (ho : s.heap.get? d = some od) (hd : od.data = .dict es ep) (hz : es.size = n) (hx : n ≤ i)
    (q : ∀ h' e, Heap.ExtBut it s.heap h' → (∃ o, h'.get? e = some o ∧ o.cls = .type "StopIteration") → E (.ref e) { s with heap := h' }) : wpAny (model prog w) A (Builtin.SmallTypes.nextOf (.ref it)) Q E s := by
  obtain ⟨o, eo, ec, ed⟩ := id ht
  unfold Builtin.SmallTypes.nextOf
  refine wpAny_bind (wpAny_callSpecial?_slot (name := Str.ofString "__next__") ht.typeIs F.slot_dict_keyiterator_next (wpAny_call_entry F.slot_dict_keyiterator_next ht.typeIs F.entry_dict_keyiterator_next ?_ (F.args_dict_keyiterator_next_1 _)))
  refine wpAny_bind (wpAny_pure (wpAny_bind (wpAny_bind ?_)))
  first | refine wpAny_bind (wpAny_typeNameOfWhole_keyiter ht.typeIs (wpAny_pure ?_)) | refine wpAny_bind (wpAny_typeNameOf_keyiter ht.typeIs (wpAny_pure ?_))
  refine wpAny_bind (wpAny_fieldsOf eo ed ?_)
  simp only [show Builtin.Dict_items.ownsTuple "dict_keyiterator" = false by decide, Bool.false_eq_true, if_false]
  show wpAny _ _ (if (Value.ref d == .none) = true then _ else _) _ _ s
  rw [if_neg (show ¬ (Value.ref d == Value.none) = true from fun z => Bool.false_ne_true z)]
  refine wpAny_bind (wpAny_pure (wpAny_bind (wpAny_dictEntries ho hd ?_)))
  rw [if_neg (by rw [hz]; simp)]
  refine wpAny_bind (wpAny_pure (wpAny_bind (wpAny_dictEpoch ho hd ?_)))
  rw [if_neg (by simp)]
  refine wpAny_pure ?_
  simp only [show ¬ ((i : Int) < 0) by omega, Int.toNat_natCast, Array.getElem?_eq_none (show es.size ≤ i by omega), if_false]
  refine wpAny_bind ?_
  first | refine wpAny_bind (wpAny_typeNameOfWhole_keyiter ht.typeIs (wpAny_pure ?_)) | refine wpAny_bind (wpAny_typeNameOf_keyiter ht.typeIs (wpAny_pure ?_))
  show wpAny _ _ (setField (.ref it) 0 .none >>= _) _ _ s
  refine wpAny_bind (wpAny_setField eo ed (by simp) ?_)
  show wpAny _ _ (newExc (.type "StopIteration") [] >>= _) _ _ _
  refine wpAny_bind ?_
  simp only [newExc, newTuple]
  refine wpAny_bind (wpAny_newObj_type (wpAny_bind (m := firstArgMember _ _) (wpAny_of_eq (a := Value.none) (by first | rfl | (simp only [firstArgMember]; rfl)) ?_)) (by size_fits))
  refine wpAny_newObj_type ?_ (by size_fits)
  simp only [raiseNew]
  refine wpAny_bind (wpAny_handled ?_)
  first | rw [show A.in1.handled = none from hh] | rw [hh]
  exact wpAny_bind (wpAny_pure (wpAny_throw (q _ _ (((Heap.SameBut.update ..).extBut.push _).push _) ⟨_, Heap.get?_push_size _ rfl, rfl⟩)))
theorem nx_val {it d : Addr} {i n ep : Nat} {od : Obj} {es : Array DictEntry} {en : DictEntry} {Q : Value → Shared → Prop} (ht : s.heap.IsValIter it d i n ep) (ho : s.heap.get? d = some od) (hd : od.data = .dict es ep) (hz : es.size = n) (hx : es[i]? = some en)
    (q : ∀ h', h'.IsValIter it d (i + 1) n ep → Heap.SameBut it s.heap h' → Q en.val { s with heap := h' }) : wpAny (model prog w) A (Builtin.SmallTypes.nextOf (.ref it)) Q E s := by
  obtain ⟨o, eo, ec, ed⟩ := id ht
  unfold Builtin.SmallTypes.nextOf
  refine wpAny_bind (wpAny_callSpecial?_slot (name := Str.ofString "__next__") ht.typeIs F.slot_dict_valueiterator_next (wpAny_call_entry F.slot_dict_valueiterator_next ht.typeIs F.entry_dict_valueiterator_next ?_ (F.args_dict_valueiterator_next_1 _)))
  refine wpAny_bind (wpAny_pure (wpAny_bind (wpAny_bind ?_)))
  first | refine wpAny_bind (wpAny_typeNameOfWhole_valiter ht.typeIs (wpAny_pure ?_)) | refine wpAny_bind (wpAny_typeNameOf_valiter ht.typeIs (wpAny_pure ?_))
  refine wpAny_bind (wpAny_fieldsOf eo ed ?_)
  simp only [show Builtin.Dict_items.ownsTuple "dict_valueiterator" = false by decide, Bool.false_eq_true, if_false]
  show wpAny _ _ (if (Value.ref d == .none) = true then _ else _) _ _ s
  rw [if_neg (show ¬ (Value.ref d == Value.none) = true from fun z => Bool.false_ne_true z)]
  refine wpAny_bind (wpAny_pure (wpAny_bind (wpAny_dictEntries ho hd ?_)))
  rw [if_neg (by rw [hz]; simp)]
  refine wpAny_bind (wpAny_pure (wpAny_bind (wpAny_dictEpoch ho hd ?_)))
  rw [if_neg (by simp)]
  refine wpAny_pure ?_
  obtain ⟨hl, he⟩ := Array.getElem?_eq_some_iff.mp hx
  simp only [show ¬ ((i : Int) < 0) by omega, Int.toNat_natCast, Array.getElem?_eq_getElem hl, if_false]
  refine wpAny_bind ?_
  first | refine wpAny_bind (wpAny_typeNameOfWhole_valiter ht.typeIs (wpAny_pure ?_)) | refine wpAny_bind (wpAny_typeNameOf_valiter ht.typeIs (wpAny_pure ?_))
  refine wpAny_bind (wpAny_isOneOf_valiter ht.typeIs ?_)
  show wpAny _ _ (setField (.ref it) 1 (rawInt (i + 1)) >>= _) _ _ s
  refine wpAny_bind (wpAny_setField eo ed (by simp) ?_)
  generalize eh : s.heap.update it (Obj.mapFields (·.setIfInBounds 1 (rawInt (i + 1)))) = h1
  have t1 : h1.IsValIter it d (i + 1) n ep := by
    rw [← eh]
    exact ⟨_, Heap.get?_update_self _ eo (Obj.isFreed_of_fields (Obj.data_mapFields ed _)), (Obj.cls_mapFields ..).trans ec, by rw [Obj.data_mapFields ed]; simp [rawInt]⟩
  have sb : Heap.SameBut it s.heap h1 := by rw [← eh]; exact Heap.SameBut.update ..
  refine wpAny_bind (wpAny_holding (wpAny_bind (wpAny_isOneOf_valiter (s := { s with heap := h1 }) t1.typeIs ?_)))
  refine wpAny_bind (wpAny_isOneOf_valiter (s := { s with heap := h1 }) t1.typeIs ?_)
  show wpAny _ _ (pure es[i].val) _ _ _
  rw [he]
  exact wpAny_pure (wpAny_pure ⟨_, rfl, wpAny_pure (q h1 t1 sb)⟩)
theorem ne_val {it d : Addr} {i n ep : Nat} {od : Obj} {es : Array DictEntry} {Q : Value → Shared → Prop} (hh : A.handled = none) (ht : s.heap.IsValIter it d i n ep) (ho : s.heap.get? d = some od) (hd : od.data = .dict es ep) (hz : es.size = n) (hx : n ≤ i)
    (q : ∀ h' e, Heap.ExtBut it s.heap h' → (∃ o, h'.get? e = some o ∧ o.cls = .type "StopIteration") → E (.ref e) { s with heap := h' }) : wpAny (model prog w) A (Builtin.SmallTypes.nextOf (.ref it)) Q E s := by
  obtain ⟨o, eo, ec, ed⟩ := id ht
  unfold Builtin.SmallTypes.nextOf
  refine wpAny_bind (wpAny_callSpecial?_slot (name := Str.ofString "__next__") ht.typeIs F.slot_dict_valueiterator_next (wpAny_call_entry F.slot_dict_valueiterator_next ht.typeIs F.entry_dict_valueiterator_next ?_ (F.args_dict_valueiterator_next_1 _)))
  refine wpAny_bind (wpAny_pure (wpAny_bind (wpAny_bind ?_)))
  first | refine wpAny_bind (wpAny_typeNameOfWhole_valiter ht.typeIs (wpAny_pure ?_)) | refine wpAny_bind (wpAny_typeNameOf_valiter ht.typeIs (wpAny_pure ?_))
  refine wpAny_bind (wpAny_fieldsOf eo ed ?_)
  simp only [show Builtin.Dict_items.ownsTuple "dict_valueiterator" = false by decide, Bool.false_eq_true, if_false]
  show wpAny _ _ (if (Value.ref d == .none) = true then _ else _) _ _ s
  rw [if_neg (show ¬ (Value.ref d == Value.none) = true from fun z => Bool.false_ne_true z)]
  refine wpAny_bind (wpAny_pure (wpAny_bind (wpAny_dictEntries ho hd ?_)))
  rw [if_neg (by rw [hz]; simp)]
  refine wpAny_bind (wpAny_pure (wpAny_bind (wpAny_dictEpoch ho hd ?_)))
  rw [if_neg (by simp)]
  refine wpAny_pure ?_
  simp only [show ¬ ((i : Int) < 0) by omega, Int.toNat_natCast, Array.getElem?_eq_none (show es.size ≤ i by omega), if_false]
  refine wpAny_bind ?_
  first | refine wpAny_bind (wpAny_typeNameOfWhole_valiter ht.typeIs (wpAny_pure ?_)) | refine wpAny_bind (wpAny_typeNameOf_valiter ht.typeIs (wpAny_pure ?_))
  show wpAny _ _ (setField (.ref it) 0 .none >>= _) _ _ s
  refine wpAny_bind (wpAny_setField eo ed (by simp) ?_)
  show wpAny _ _ (newExc (.type "StopIteration") [] >>= _) _ _ _
  refine wpAny_bind ?_
  simp only [newExc, newTuple]
  refine wpAny_bind (wpAny_newObj_type (wpAny_bind (m := firstArgMember _ _) (wpAny_of_eq (a := Value.none) (by first | rfl | (simp only [firstArgMember]; rfl)) ?_)) (by size_fits))
  refine wpAny_newObj_type ?_ (by size_fits)
  simp only [raiseNew]
  refine wpAny_bind (wpAny_handled ?_)
  first | rw [show A.in1.handled = none from hh] | rw [hh]
  exact wpAny_bind (wpAny_pure (wpAny_throw (q _ _ (((Heap.SameBut.update ..).extBut.push _).push _) ⟨_, Heap.get?_push_size _ rfl, rfl⟩)))
/-- .. items: whether or not its last tuple is out -/
def IsIt (h : Heap) (it d : Addr) (i n ep : Nat) : Prop := ∃ (f0 : Value) (fl : Bool) (ok ov : Value), (f0 = .none ∨ ∃ T : Nat, f0 = rawInt T) ∧ h.get? it = some { cls := .type "dict_itemiterator", dict := none, data := .fields #[f0, .bool fl, .ref d, .int i 0, .int n 0, .int ep 0, ok, ov], slots := #[] }
theorem alive_any {M : Model} {a : Addr} {Q : Option Obj → Shared → Prop} (h : ∀ r, Q r s) : wpAny M A (loadIfAlive a) Q E s := by
  exact fun _ _ _ => h (s.heap.get? a)
theorem nx_item {it d : Addr} {i n ep : Nat} {od : Obj} {es : Array DictEntry} {en : DictEntry} {Q : Value → Shared → Prop} (ht : IsIt s.heap it d i n ep) (ho : s.heap.get? d = some od) (hd : od.data = .dict es ep) (hz : es.size = n) (hx : es[i]? = some en)
    (q : ∀ h', IsIt h' it d (i + 1) n ep → h'.get? s.heap.objs.size = some { cls := .type "tuple", data := .seq #[en.key, en.val] } → (∀ b o, b ≠ it → s.heap.get? b = some o → h'.get? b = some o) → h'.objs.size = s.heap.objs.size + 1 → Q (.ref s.heap.objs.size) { s with heap := h' }) :
    wpAny (model prog w) A (Builtin.SmallTypes.nextOf (.ref it)) Q E s := by
  obtain ⟨f0, fl, ok, ov, hf, eo⟩ := ht
  have hT : s.TypeIs (.ref it) "dict_itemiterator" := ⟨_, eo, rfl⟩
  have hil : it < s.heap.objs.size := Heap.lt_size eo
  unfold Builtin.SmallTypes.nextOf
  refine wpAny_bind (wpAny_callSpecial?_slot (name := Str.ofString "__next__") hT F.slot_dict_itemiterator_next (wpAny_call_entry F.slot_dict_itemiterator_next hT F.entry_dict_itemiterator_next ?_ (F.args_dict_itemiterator_next_1 _)))
  refine wpAny_bind (wpAny_pure (wpAny_bind (wpAny_bind ?_)))
  first | refine wpAny_bind (wpAny_typeNameOfWhole_itemiter hT (wpAny_pure ?_)) | refine wpAny_bind (wpAny_typeNameOf_itemiter hT (wpAny_pure ?_))
  refine wpAny_bind (wpAny_fieldsOf eo rfl ?_)
  simp only [show Builtin.Dict_items.ownsTuple "dict_itemiterator" = true by decide, if_true]
  show wpAny _ _ (if (Value.ref d == .none) = true then _ else _) _ _ s
  rw [if_neg (show ¬ (Value.ref d == Value.none) = true from fun z => Bool.false_ne_true z)]
  refine wpAny_bind (wpAny_pure (wpAny_bind (wpAny_dictEntries ho hd ?_)))
  rw [if_neg (by rw [hz]; simp)]
  refine wpAny_bind (wpAny_pure (wpAny_bind (wpAny_dictEpoch ho hd ?_)))
  rw [if_neg (by simp)]
  refine wpAny_pure ?_
  obtain ⟨hl, he⟩ := Array.getElem?_eq_some_iff.mp hx
  simp only [show ¬ ((i : Int) < 0) by omega, Int.toNat_natCast, Array.getElem?_eq_getElem hl, if_false]
  refine wpAny_bind ?_
  first | refine wpAny_bind (wpAny_typeNameOfWhole_itemiter hT (wpAny_pure ?_)) | refine wpAny_bind (wpAny_typeNameOf_itemiter hT (wpAny_pure ?_))
  refine wpAny_bind (wpAny_isOneOf_itemiter hT ?_)
  rw [he]
  obtain ⟨hp, g, dr, tk, os⟩ := s
  show wpAny _ _ (setField (.ref it) 3 (rawInt (i + 1)) >>= _) _ _ ⟨hp, g, dr, tk, os⟩
  refine wpAny_bind (wpAny_setField_rec eo (by simp) fun h1 e1 b1 => ?_)
  replace b1 : Heap.SameBut it hp h1 := b1
  replace e1 : h1.get? it = some { cls := .type "dict_itemiterator", dict := none, data := .fields #[f0, .bool fl, .ref d, .int (i + 1 : Nat) 0, .int n 0, .int ep 0, ok, ov], slots := #[] } := by
    rw [show (((i + 1 : Nat)) : Int) = (i : Int) + 1 by omega]; simpa [rawInt] using e1
  have hT1 : Shared.TypeIs ⟨h1, g, dr, tk, os⟩ (.ref it) "dict_itemiterator" := ⟨_, e1, rfl⟩
  refine wpAny_bind (wpAny_holding (wpAny_bind (wpAny_isOneOf_itemiter hT1 (wpAny_bind (wpAny_isOneOf_itemiter hT1 ?_)))))
  show wpAny _ _ (Builtin.Dict_items.pairFromOwner (.ref it) 6 en.key en.val) _ _ ⟨h1, g, dr, tk, os⟩
  unfold Builtin.Dict_items.pairFromOwner
  refine wpAny_bind (wpAny_newTuple ?_)
  have z1 : h1.objs.size = hp.objs.size := b1.1
  have e2 : (h1.push { cls := .type "tuple", data := .seq #[en.key, en.val] }).get? it = some { cls := .type "dict_itemiterator", dict := none, data := .fields #[f0, .bool fl, .ref d, .int (i + 1 : Nat) 0, .int n 0, .int ep 0, ok, ov], slots := #[] } := Heap.get?_push_of_some _ e1
  have t2 : (h1.push { cls := .type "tuple", data := .seq #[en.key, en.val] }).get? hp.objs.size = some { cls := .type "tuple", data := .seq #[en.key, en.val] } := by rw [← z1]; exact Heap.get?_push_size _ rfl
  have k2 : ∀ b o, b ≠ it → hp.get? b = some o → (h1.push { cls := .type "tuple", data := .seq #[en.key, en.val] }).get? b = some o := fun b o n e => Heap.get?_push_of_some _ (b1.extBut b o n e)
  have z2 : (h1.push { cls := .type "tuple", data := .seq #[en.key, en.val] }).objs.size = hp.objs.size + 1 := by rw [Heap.size_push, z1]
  show wpAny _ _ (Builtin.Dict_items.ownedTupleIsFree (.ref it) >>= _) _ _ ⟨h1.push { cls := .type "tuple", data := .seq #[en.key, en.val] }, g, dr, tk, os⟩
  rw [z1]
  generalize h1.push { cls := .type "tuple", data := .seq #[en.key, en.val] } = h2 at e2 t2 k2 z2
  have ni : it ≠ hp.objs.size := Nat.ne_of_lt hil
  -- the tuple is handed out
  have out : ∀ (R : Value → Shared → Prop), (∀ h', IsIt h' it d (i + 1) n ep → h'.get? hp.objs.size = some { cls := .type "tuple", data := .seq #[en.key, en.val] } → (∀ b o, b ≠ it → hp.get? b = some o → h'.get? b = some o) → h'.objs.size = hp.objs.size + 1 → R (.ref hp.objs.size) ⟨h', g, dr, tk, os⟩) →
      wpAny (model prog w) A.in1 (do
        let old := [← field (.ref it) 6, ← field (.ref it) (6 + 1)]
        setField (.ref it) 6 en.key
        setField (.ref it) (6 + 1) en.val
        setField (.ref it) 0 (rawInt hp.objs.size)
        setField (.ref it) 1 (.bool false)
        letGo old [.ref hp.objs.size]
        pure (Value.ref hp.objs.size)) R E ⟨h2, g, dr, tk, os⟩ := by
    intro R hR
    refine wpAny_bind (wpAny_field e2 rfl (x := ok) rfl ?_)
    refine wpAny_bind (wpAny_field e2 rfl (x := ov) rfl ?_)
    refine wpAny_bind (wpAny_setField_rec e2 (by simp) fun h3 e3 b3 => ?_)
    replace b3 : Heap.SameBut it h2 h3 := b3
    refine wpAny_bind (wpAny_setField_rec e3 (by simp) fun h4 e4 b4 => ?_)
    replace b4 : Heap.SameBut it h3 h4 := b4
    refine wpAny_bind (wpAny_setField_rec e4 (by simp) fun h5 e5 b5 => ?_)
    replace b5 : Heap.SameBut it h4 h5 := b5
    refine wpAny_bind (wpAny_setField_rec e5 (by simp) fun h6 e6 b6 => ?_)
    replace b6 : Heap.SameBut it h5 h6 := b6
    refine wpAny_bind (wpAny_letGo (wpAny_pure (hR h6 ⟨_, _, _, _, .inr ⟨hp.objs.size, rfl⟩, e6⟩ ?_ ?_ ?_)))
    · exact b6.extBut _ _ (Ne.symm ni) (b5.extBut _ _ (Ne.symm ni) (b4.extBut _ _ (Ne.symm ni) (b3.extBut _ _ (Ne.symm ni) t2)))
    · exact fun b o nb e => b6.extBut _ _ nb (b5.extBut _ _ nb (b4.extBut _ _ nb (b3.extBut _ _ nb (k2 b o nb e))))
    · show h6.objs.size = _
      rw [b6.1, b5.1, b4.1, b3.1, z2]
  have fin : ∀ h', IsIt h' it d (i + 1) n ep → h'.get? hp.objs.size = some { cls := .type "tuple", data := .seq #[en.key, en.val] } → (∀ b o, b ≠ it → hp.get? b = some o → h'.get? b = some o) → h'.objs.size = hp.objs.size + 1 →
      wpAny (model prog w) A.in1 (ret (Value.ref hp.objs.size)) (fun fin s' => ∃ v, fin = .done (.ret v) ∧ wpAny (model prog w) A (pure v) Q E s') E ⟨h', g, dr, tk, os⟩ := fun h' a b c e => wpAny_pure ⟨_, rfl, wpAny_pure (q h' a b c e)⟩
  refine wpAny_bind ?_
  unfold Builtin.Dict_items.ownedTupleIsFree
  refine wpAny_bind (wpAny_field e2 rfl (x := f0) rfl ?_)
  rcases hf with rfl | ⟨T, rfl⟩
  · refine wpAny_pure ?_
    simp only [if_true]
    exact wpAny_mono (out _ fin) (fun v s' z => z) fun _ _ z => z
  · show wpAny _ _ (loadIfAlive ((T : Int).toNat) >>= _) _ _ _
    refine wpAny_bind (alive_any fun r => ?_)
    cases r with
    | none =>
      simp only [Option.isNone_none, if_true]
      refine wpAny_pure ?_
      simp only [if_true]
      exact wpAny_mono (out _ fin) (fun v s' z => z) fun _ _ z => z
    | some o =>
      simp only [Option.isNone_some, Bool.false_eq_true, if_false]
      refine wpAny_bind (wpAny_field e2 rfl (x := .bool fl) rfl ?_)
      cases fl with
      | true =>
        rw [if_neg (show ¬ ((Value.bool true != Value.bool true) = true) from Bool.false_ne_true)]
        refine wpAny_pure ?_
        simp only [Bool.false_eq_true, if_false]
        exact wpAny_pure (fin h2 ⟨_, _, _, _, .inr ⟨T, rfl⟩, e2⟩ t2 k2 z2)
      | false =>
        rw [if_pos (show (Value.bool false != Value.bool true) = true from rfl)]
        refine wpAny_bind (wpAny_setField_rec e2 (by simp) fun h3 e3 b3 => wpAny_pure ?_)
        replace b3 : Heap.SameBut it h2 h3 := b3
        simp only [Bool.false_eq_true, if_false]
        exact wpAny_pure (fin h3 ⟨_, _, _, _, .inr ⟨T, rfl⟩, e3⟩ (b3.extBut _ _ (Ne.symm ni) t2) (fun b o nb e => b3.extBut _ _ nb (k2 b o nb e)) (by rw [b3.1, z2]))
theorem ne_item {it d : Addr} {i n ep : Nat} {od : Obj} {es : Array DictEntry} {Q : Value → Shared → Prop} (hh : A.handled = none) (ht : IsIt s.heap it d i n ep) (ho : s.heap.get? d = some od) (hd : od.data = .dict es ep) (hz : es.size = n) (hx : n ≤ i)
    (q : ∀ h' e, Heap.ExtBut it s.heap h' → (∃ o, h'.get? e = some o ∧ o.cls = .type "StopIteration") → E (.ref e) { s with heap := h' }) : wpAny (model prog w) A (Builtin.SmallTypes.nextOf (.ref it)) Q E s := by
  obtain ⟨f0, fl, ok, ov, hf, eo⟩ := ht
  have hT : s.TypeIs (.ref it) "dict_itemiterator" := ⟨_, eo, rfl⟩
  unfold Builtin.SmallTypes.nextOf
  refine wpAny_bind (wpAny_callSpecial?_slot (name := Str.ofString "__next__") hT F.slot_dict_itemiterator_next (wpAny_call_entry F.slot_dict_itemiterator_next hT F.entry_dict_itemiterator_next ?_ (F.args_dict_itemiterator_next_1 _)))
  refine wpAny_bind (wpAny_pure (wpAny_bind (wpAny_bind ?_)))
  first | refine wpAny_bind (wpAny_typeNameOfWhole_itemiter hT (wpAny_pure ?_)) | refine wpAny_bind (wpAny_typeNameOf_itemiter hT (wpAny_pure ?_))
  refine wpAny_bind (wpAny_fieldsOf eo rfl ?_)
  simp only [show Builtin.Dict_items.ownsTuple "dict_itemiterator" = true by decide, if_true]
  show wpAny _ _ (if (Value.ref d == .none) = true then _ else _) _ _ s
  rw [if_neg (show ¬ (Value.ref d == Value.none) = true from fun z => Bool.false_ne_true z)]
  refine wpAny_bind (wpAny_pure (wpAny_bind (wpAny_dictEntries ho hd ?_)))
  rw [if_neg (by rw [hz]; simp)]
  refine wpAny_bind (wpAny_pure (wpAny_bind (wpAny_dictEpoch ho hd ?_)))
  rw [if_neg (by simp)]
  refine wpAny_pure ?_
  simp only [show ¬ ((i : Int) < 0) by omega, Int.toNat_natCast, Array.getElem?_eq_none (show es.size ≤ i by omega), if_false]
  refine wpAny_bind ?_
  first | refine wpAny_bind (wpAny_typeNameOfWhole_itemiter hT (wpAny_pure ?_)) | refine wpAny_bind (wpAny_typeNameOf_itemiter hT (wpAny_pure ?_))
  show wpAny _ _ (setField (.ref it) 2 .none >>= _) _ _ s
  refine wpAny_bind (wpAny_setField eo rfl (by simp) ?_)
  show wpAny _ _ (newExc (.type "StopIteration") [] >>= _) _ _ _
  refine wpAny_bind ?_
  simp only [newExc, newTuple]
  refine wpAny_bind (wpAny_newObj_type (wpAny_bind (m := firstArgMember _ _) (wpAny_of_eq (a := Value.none) (by first | rfl | (simp only [firstArgMember]; rfl)) ?_)) (by size_fits))
  refine wpAny_newObj_type ?_ (by size_fits)
  simp only [raiseNew]
  refine wpAny_bind (wpAny_handled ?_)
  first | rw [show A.in1.handled = none from hh] | rw [hh]
  exact wpAny_bind (wpAny_pure (wpAny_throw (q _ _ (((Heap.SameBut.update ..).extBut.push _).push _) ⟨_, Heap.get?_push_size _ rfl, rfl⟩)))
end
/-! ### .. as inner iterators -/
section
variable {P : Program} {w : World} {K : PySem.W.Frag} {d : Addr} {o : Obj} {es : Array DictEntry} {ep : Nat} {kvs : List (Key × V)}
/-- the entries of a locked dict -/
theorem frz_ent {X : Cx} {pins : List (Addr × Obj)} {σ : L2.St} {H : Hp} {s : Shared} (I : Inv X pins σ H s) (h : H d = some (.frz o (.dK kvs))) (hod : o.data = .dict es ep) :
    s.heap.get? d = some o ∧ es.size = kvs.length ∧ ∀ (i : Nat) (k : Key) (v : V), kvs[i]? = some (k, v) → ∃ en : DictEntry, es[i]? = some en ∧ RelV (kV k) en.key ∧ RelV v en.val := by
  obtain ⟨hs, hgd, hx, es', ep', vs, hdt, hsz, kv, hm⟩ := I.frzK h
  obtain ⟨rfl, rfl⟩ := dict_ep hod hdt
  refine ⟨hgd, hsz, fun i k v e => ?_⟩
  obtain ⟨u, hu, ru⟩ := kv_get kv e
  obtain ⟨od, es2, hod2, hcd, hdd, hk, hpr, hn⟩ := hm
  have z : od = o := Option.some.inj (hod2.symm.trans hgd)
  subst z
  obtain ⟨rfl, _⟩ := dict_ep hod hdd
  have hi : i < kvs.length := (List.getElem?_eq_some_iff.mp e).1
  have hi2 : i < es2.size := by omega
  obtain ⟨hkey, hval⟩ := hpr.get? (e := es2[i]) (by simp [hi2]) hu
  exact ⟨es2[i], Array.getElem?_eq_getElem hi2, relV_key (show keyIs k es2[i].key = true from hkey), by rw [hval]; exact ru⟩
theorem frz_up {H : Hp} {p : Addr} {xs : List V} {u : HO} (hp : H p = none) (h : H d = some u) : upd H p (.tup xs) d = some u := by rw [upd_ne (ne_of_none h hp)]; exact h
theorem inn_keys (it : Addr) (hod : o.data = .dict es ep) : Inn P w K (Itk d o kvs) it (fun i h => h.IsKeyIter it d i kvs.length ep) where
  obj := fun i h ⟨oi, e, _, dd⟩ => ⟨oi, e, fun v z => by rw [dd] at z; cases z⟩
  keep := fun i h h' st k => st.at fun oi e => k oi e
  goUp := fun i H p xs hp ⟨a, b⟩ => ⟨frz_up hp a, b⟩
  stUp := fun i H p xs hp ⟨a, b⟩ => ⟨frz_up hp a, b⟩
  item := by
    intro X hP hw hK A i pins s σ H E Q I fp st hg q
    subst hP hw hK
    obtain ⟨hd, hi⟩ := hg
    obtain ⟨hgd, hsz, ent⟩ := frz_ent I hd hod
    obtain ⟨en, hen, rk, rv⟩ := ent i _ _ (List.getElem?_eq_getElem hi)
    refine nx_key st hgd hod hsz hen fun h' st' sb => ?_
    exact q en.key h' _ H (I.turnedL (t' := s.toks) (ch := [it]) (fun b o hb e => (sb.2 b (by simpa using hb)).trans e) (fp1 fp)) rk ⟨rfl, _, _, List.getElem?_eq_getElem hi, rfl⟩ st' (fun b o n e => (sb.2 b n).trans e) (Nat.le_of_eq sb.1.symm) (.inl rfl)
  done := by
    intro X hP hw hK A i pins s σ H E Q hh I fp st hg q
    subst hP hw hK
    obtain ⟨hd, hi⟩ := hg
    obtain ⟨hgd, hsz, ent⟩ := frz_ent I hd hod
    exact ne_key hh st hgd hod hsz hi fun h' e k he => q h' e (fun b o n => k b o n) he
theorem inn_vals (it : Addr) (hod : o.data = .dict es ep) : Inn P w K (Itd d o kvs) it (fun i h => h.IsValIter it d i kvs.length ep) where
  obj := fun i h ⟨oi, e, _, dd⟩ => ⟨oi, e, fun v z => by rw [dd] at z; cases z⟩
  keep := fun i h h' st k => st.at fun oi e => k oi e
  goUp := fun i H p xs hp ⟨a, b⟩ => ⟨frz_up hp a, b⟩
  stUp := fun i H p xs hp ⟨a, b⟩ => ⟨frz_up hp a, b⟩
  item := by
    intro X hP hw hK A i pins s σ H E Q I fp st hg q
    subst hP hw hK
    obtain ⟨hd, hi⟩ := hg
    obtain ⟨hgd, hsz, ent⟩ := frz_ent I hd hod
    obtain ⟨en, hen, rk, rv⟩ := ent i _ _ (List.getElem?_eq_getElem hi)
    refine nx_val st hgd hod hsz hen fun h' st' sb => ?_
    exact q en.val h' _ H (I.turnedL (t' := s.toks) (ch := [it]) (fun b o hb e => (sb.2 b (by simpa using hb)).trans e) (fp1 fp)) rv ⟨rfl, _, List.getElem?_eq_getElem hi⟩ st' (fun b o n e => (sb.2 b n).trans e) (Nat.le_of_eq sb.1.symm) (.inl rfl)
  done := by
    intro X hP hw hK A i pins s σ H E Q hh I fp st hg q
    subst hP hw hK
    obtain ⟨hd, hi⟩ := hg
    obtain ⟨hgd, hsz, ent⟩ := frz_ent I hd hod
    exact ne_val hh st hgd hod hsz hi fun h' e k he => q h' e (fun b o n => k b o n) he
theorem inn_items (it : Addr) (hod : o.data = .dict es ep) : Inn P w K (Iti d o kvs) it (fun i h => IsIt h it d i kvs.length ep) where
  obj := fun i h ⟨f0, fl, ok, ov, _, e⟩ => ⟨_, e, fun v z => nomatch z⟩
  keep := fun i h h' ⟨f0, fl, ok, ov, z, e⟩ k => ⟨f0, fl, ok, ov, z, k _ e⟩
  goUp := fun i H p xs hp ⟨a, b⟩ => ⟨frz_up hp a, b⟩
  stUp := fun i H p xs hp ⟨a, b⟩ => ⟨frz_up hp a, b⟩
  item := by
    intro X hP hw hK A i pins s σ H E Q I fp st hg q
    subst hP hw hK
    obtain ⟨hd, hi⟩ := hg
    obtain ⟨hgd, hsz, ent⟩ := frz_ent I hd hod
    obtain ⟨en, hen, rk, rv⟩ := ent i _ _ (List.getElem?_eq_getElem hi)
    refine nx_item st hgd hod hsz hen fun h' st' t k z => ?_
    have nw : ObjOk X.prog X.w (upd H s.heap.objs.size (.tup [kV kvs[i].1, kvs[i].2])) h' s.heap.objs.size (.tup [kV kvs[i].1, kvs[i].2]) := ⟨by show 2 ≤ sizeLine; decide, [en.key, en.val], .cons rk (.cons rv .nil), ⟨_, t, rfl, _, rfl⟩⟩
    have hn := I.hok.fresh (Nat.le_refl s.heap.objs.size)
    exact q (.ref s.heap.objs.size) h' (.ref s.heap.objs.size) _ (I.turnedNew (t' := s.toks) (ch := [it]) (fun b o hb e => k b o (by simpa using hb) e) (fp1 fp) (Nat.le_refl _) nw) rfl
      ⟨_, _, _, List.getElem?_eq_getElem hi, rfl, hn, rfl⟩ st' k (by rw [z]; exact Nat.le_succ _) (.inr ⟨_, _, hn, Nat.le_refl _, rfl⟩)
  done := by
    intro X hP hw hK A i pins s σ H E Q hh I fp st hg q
    subst hP hw hK
    obtain ⟨hd, hi⟩ := hg
    obtain ⟨hgd, hsz, ent⟩ := frz_ent I hd hod
    exact ne_item hh st hgd hod hsz hi fun h' e k he => q h' e (fun b o n => k b o n) he
end
end KA

set_option Elab.async false
set_option autoImplicit false
set_option linter.all false
set_option maxRecDepth 100000
set_option maxHeartbeats 1600000
/-! KZip: zip of two inner iterators. -/
namespace KA
open PySem PySem.Spec PyProof.Rows L2
section
variable {P : Program} {w : World} {K : PySem.W.Frag}
structure ZA (z TI TO i1 i2 : Addr) : Prop where
  a : TI ≠ z
  b : TO ≠ z
  c : i1 ≠ z
  d : i2 ≠ z
  e : TI ≠ TO
  f : TI ≠ i1
  g : TI ≠ i2
  h : TO ≠ i1
  i : TO ≠ i2
  j : i1 ≠ i2
theorem zip_step {J1 J2 : It} {z TI TO i1 i2 : Addr} {st1 st2 : Nat → Heap → Prop} (D : ZA z TI TO i1 i2) (N1 : Inn P w K J1 i1 st1) (N2 : Inn P w K J2 i2 st2) (X : Cx) (hP : X.prog = P) (hw : X.w = w) (hK : X.K = K) {A : Around} {i : Nat} {pins : List (Addr × Obj)} {s : Shared} {σ : L2.St} {H : Hp} {E : Value → Shared → Prop} {Q : Value → Shared → Prop} {p q : Value}
    (I : Inv X pins σ H s) (hf : ∀ b ∈ [z, TI, TO, i1, i2], FpOk X pins H b) (hz : IsZip s.heap z TI TO .none) (hTI : IsPair s.heap TI (.ref i1) (.ref i2)) (hTO : IsPair s.heap TO p q) (h1 : st1 i s.heap) (h2 : st2 i s.heap) (g1 : J1.go i H) (g2 : J2.go i H)
    (hQ : ∀ T x y H1 H2 u v h', Inv X pins σ (upd H2 T (.tup [x, y])) { s with heap := h' } → J1.yld i H x H1 → J2.yld i H1 y H2 → H2 T = none → IsZip h' z TI TO (rawInt T) → IsPair h' TI (.ref i1) (.ref i2) → IsPair h' TO u v → st1 (i + 1) h' → st2 (i + 1) h' →
      (∀ b ∈ [z, TI, TO, i1, i2], FpOk X pins (upd H2 T (.tup [x, y])) b) → Q (.ref T) { s with heap := h' }) :
    wpAny (model P w) A (Builtin.«zip.__next__» ⟨[.ref z], []⟩) (fun fin s' => ∃ v, fin = .done (.ret v) ∧ Q v s') E s := by
  have lz : z < s.heap.objs.size := Heap.lt_size hz
  have lTI : TI < s.heap.objs.size := Heap.lt_size hTI
  have lTO : TO < s.heap.objs.size := Heap.lt_size hTO
  have li1 : i1 < s.heap.objs.size := by obtain ⟨o, e, _⟩ := N1.obj i _ h1; exact Heap.lt_size e
  have li2 : i2 < s.heap.objs.size := by obtain ⟨o, e, _⟩ := N2.obj i _ h2; exact Heap.lt_size e
  have lt : ∀ b ∈ [z, TI, TO, i1, i2], b < s.heap.objs.size := fun b hb => by
    have e : b = z ∨ b = TI ∨ b = TO ∨ b = i1 ∨ b = i2 := by simpa using hb
    rcases e with e | e | e | e | e <;> (rw [e]; assumption)
  show wpAny _ _ (field (.ref z) 2 >>= _) _ _ _
  refine wpAny_bind (wpAny_field hz rfl (x := .bool false) rfl ?_)
  show wpAny _ _ (field (.ref z) 3 >>= _) _ _ _
  refine wpAny_bind (wpAny_field hz rfl (x := .ref TI) rfl (wpAny_bind (wpAny_seqItems hTI rfl ?_)))
  show wpAny _ _ (Builtin.SmallTypes.ownedTupleIsFree (.ref z) >>= _) _ _ _
  refine wpAny_bind ?_
  unfold Builtin.SmallTypes.ownedTupleIsFree
  refine wpAny_bind (wpAny_field hz rfl (x := .none) rfl (wpAny_pure ?_))
  simp only [if_true]
  refine wpAny_bind (wpAny_rule (wpAny_bind (wpAny_field hz rfl (x := .ref TO) rfl (wpAny_bind (wpAny_setField_rec hz (by simp) fun ha za ba => ?_)))))
  replace za : IsZip ha z TI TO .ellipsis := za
  have Ia : Inv X pins σ H { s with heap := ha } := I.turnedL (t' := s.toks) (ch := [z]) (fun b o hb e => ba.extBut b o (by simpa using hb) e) (fp1 (hf z (by simp)))
  have TIa := ba.extBut _ _ D.a hTI
  have TOa := ba.extBut _ _ D.b hTO
  have s1a := N1.keep _ _ _ h1 fun o e => ba.extBut _ _ D.c e
  have s2a := N2.keep _ _ _ h2 fun o e => ba.extBut _ _ D.d e
  refine wpAny_bind ?_
  simp only [List.zipIdx_cons, List.zipIdx_nil, List.forIn_cons, List.forIn_nil]
  -- the first
  refine wpAny_bind (wpAny_bind (wpAny_onRaise ?_))
  show wpAny _ _ (Builtin.SmallTypes.nextOf (.ref i1) >>= _) _ _ _
  refine wpAny_bind (N1.item X hP hw hK A i pins { s with heap := ha } σ H _ _ Ia (hf i1 (by simp)) s1a g1 fun u hb x H1 Ib ru yl1 s1b kb szb upb => wpAny_pure ?_)
  have szb' : s.heap.objs.size ≤ hb.objs.size := by have := ba.1; exact Nat.le_trans (Nat.le_of_eq this.symm) szb
  have upb' : H1 = H ∨ ∃ T xs, H T = none ∧ s.heap.objs.size ≤ T ∧ H1 = upd H T (.tup xs) := by
    rcases upb with e | ⟨T, xs, e1, e2, e3⟩
    · exact .inl e
    · exact .inr ⟨T, xs, e1, Nat.le_trans (Nat.le_of_eq ba.1.symm) e2, e3⟩
  have f1 : ∀ b ∈ [z, TI, TO, i1, i2], FpOk X pins H1 b := fun b hm => fp_up (hf b hm) (lt b hm) upb'
  have zb := kb _ _ (Ne.symm D.c) za
  have TIb := kb _ _ D.f TIa
  have TOb : IsPair hb TO p q := kb _ _ D.h TOa
  have s2b := N2.keep _ _ _ s2a fun o e => kb _ o (Ne.symm D.j) e
  refine wpAny_bind (wpAny_seqItems TOb rfl (wpAny_bind (wpAny_updateSeq_pair TOb fun hc TOc bc => wpAny_bind (wpAny_letGo (wpAny_pure ?_)))))
  replace TOc : IsPair hc TO u q := TOc
  have Ic : Inv X pins σ H1 { s with heap := hc } := Inv.turnedL (s := { s with heap := hb }) Ib (t' := s.toks) (ch := [TO]) (fun b o hb e => bc.extBut b o (by simpa using hb) e) (fp1 (f1 TO (by simp)))
  have zc := bc.extBut _ _ (Ne.symm D.b) zb
  have TIc := bc.extBut _ _ D.e TIb
  have s1c := N1.keep _ _ _ s1b fun o e => bc.extBut _ o (Ne.symm D.h) e
  have s2c := N2.keep _ _ _ s2b fun o e => bc.extBut _ o (Ne.symm D.i) e
  have g2' : J2.go i H1 := by
    rcases upb with e | ⟨T, xs, e1, e2, e3⟩
    · rw [e]; exact g2
    · rw [e3]; exact N2.goUp _ _ _ _ e1 g2
  -- the second
  refine wpAny_bind (wpAny_bind (wpAny_onRaise ?_))
  show wpAny _ _ (Builtin.SmallTypes.nextOf (.ref i2) >>= _) _ _ _
  refine wpAny_bind (N2.item X hP hw hK A i pins { s with heap := hc } σ H1 _ _ Ic (f1 i2 (by simp)) s2c g2' fun v hd y H2 Id rv yl2 s2d kd szd upd_ => wpAny_pure ?_)
  have szc : s.heap.objs.size ≤ hc.objs.size := by rw [bc.1]; exact szb'
  have upd' : H2 = H1 ∨ ∃ T xs, H1 T = none ∧ s.heap.objs.size ≤ T ∧ H2 = upd H1 T (.tup xs) := by
    rcases upd_ with e | ⟨T, xs, e1, e2, e3⟩
    · exact .inl e
    · exact .inr ⟨T, xs, e1, Nat.le_trans szc e2, e3⟩
  have f2 : ∀ b ∈ [z, TI, TO, i1, i2], FpOk X pins H2 b := fun b hm => fp_up (f1 b hm) (lt b hm) upd'
  have zd := kd _ _ (Ne.symm D.d) zc
  have TId := kd _ _ D.g TIc
  have TOd : IsPair hd TO u q := kd _ _ D.i TOc
  have s1d := N1.keep _ _ _ s1c fun o e => kd _ o D.j e
  refine wpAny_bind (wpAny_seqItems TOd rfl (wpAny_bind (wpAny_updateSeq_pair TOd fun he TOe be => wpAny_bind (wpAny_letGo (wpAny_pure (wpAny_pure ?_))))))
  replace TOe : IsPair he TO u v := TOe
  have Ie : Inv X pins σ H2 { s with heap := he } := Inv.turnedL (s := { s with heap := hd }) Id (t' := s.toks) (ch := [TO]) (fun b o hb e => be.extBut b o (by simpa using hb) e) (fp1 (f2 TO (by simp)))
  have ze : IsZip he z TI TO .ellipsis := be.extBut _ _ (Ne.symm D.b) zd
  have TIe := be.extBut _ _ D.e TId
  have s1e := N1.keep _ _ _ s1d fun o e => be.extBut _ o (Ne.symm D.h) e
  have s2e := N2.keep _ _ _ s2d fun o e => be.extBut _ o (Ne.symm D.i) e
  have sze : s.heap.objs.size ≤ he.objs.size := by rw [be.1]; exact Nat.le_trans szc szd
  -- the pair
  refine wpAny_bind (wpAny_seqItems TOe rfl (wpAny_bind (wpAny_newTuple ?_)))
  show wpAny _ _ (Builtin.SmallTypes.ownedTupleHandOut (.ref z) (.ref he.objs.size) >>= _) _ _ _
  refine wpAny_bind ?_
  unfold Builtin.SmallTypes.ownedTupleHandOut
  have zf : IsZip (he.push { cls := .type "tuple", data := .seq #[u, v] }) z TI TO .ellipsis := Heap.get?_push_of_some _ ze
  refine wpAny_bind (wpAny_setField_rec zf (by simp) fun hg zg bg => ?_)
  replace zg : IsZip hg z TI TO (rawInt he.objs.size) := zg
  refine wpAny_setField_rec zg (by simp) fun hh zh bh => ?_
  replace zh : IsZip hh z TI TO (rawInt he.objs.size) := zh
  have k : ∀ c o, c ≠ z → he.get? c = some o → hh.get? c = some o := fun c o n e => bh.extBut _ _ n (bg.extBut _ _ n (Heap.get?_push_of_some _ e))
  have nz : z ≠ he.objs.size := Nat.ne_of_lt (Nat.lt_of_lt_of_le lz sze)
  have tT : IsPair hh he.objs.size u v := bh.extBut _ _ (Ne.symm nz) (bg.extBut _ _ (Ne.symm nz) (Heap.get?_push_size _ rfl))
  have hn : H2 he.objs.size = none := Ie.hok.fresh (Nat.le_refl _)
  have nw : ObjOk X.prog X.w (upd H2 he.objs.size (.tup [x, y])) hh he.objs.size (.tup [x, y]) := ⟨by show 2 ≤ sizeLine; decide, [u, v], .cons ru (.cons rv .nil), ⟨_, tT, rfl, _, rfl⟩⟩
  have Ih : Inv X pins σ (upd H2 he.objs.size (.tup [x, y])) { s with heap := hh } := Ie.turnedNew (t' := s.toks) (ch := [z]) (fun b o hb e => k b o (by simpa using hb) e) (fp1 (f2 z (by simp))) (Nat.le_refl _) nw
  refine wpAny_pure ⟨_, rfl, hQ _ x y H1 H2 u v hh Ih yl1 yl2 hn zh (k _ _ D.a TIe) (k _ _ D.b TOe) (N1.keep _ _ _ s1e fun o e => k _ o D.c e) (N2.keep _ _ _ s2e fun o e => k _ o D.d e) fun b hm => ?_⟩
  refine ⟨?_, (f2 b hm).2⟩
  rw [upd_ne (Nat.ne_of_lt (Nat.lt_of_lt_of_le (lt b hm) sze))]
  exact (f2 b hm).1
theorem zip_end {J1 J2 : It} {z TI TO i1 i2 : Addr} {st1 st2 : Nat → Heap → Prop} (D : ZA z TI TO i1 i2) (N1 : Inn P w K J1 i1 st1) (N2 : Inn P w K J2 i2 st2) (X : Cx) (hP : X.prog = P) (hw : X.w = w) (hK : X.K = K) {A : Around} {i : Nat} {pins : List (Addr × Obj)} {s : Shared} {σ : L2.St} {H : Hp} {E : Value → Shared → Prop} {Q : Fin → Shared → Prop} {p q : Value} (hh : A.handled = none)
    (I : Inv X pins σ H s) (hf : ∀ b ∈ [z, TI, TO, i1, i2], FpOk X pins H b) (hz : IsZip s.heap z TI TO .none) (hTI : IsPair s.heap TI (.ref i1) (.ref i2)) (hTO : IsPair s.heap TO p q) (h1 : st1 i s.heap) (h2 : st2 i s.heap) (g : J1.stop i H ∨ (J1.go i H ∧ J2.stop i H))
    (hE : ∀ h' e, (∀ c o, c ∉ [z, TI, TO, i1, i2] → s.heap.get? c = some o → h'.get? c = some o) → (∃ o, h'.get? e = some o ∧ o.cls = .type "StopIteration") → E (.ref e) { s with heap := h' }) :
    wpAny (model P w) A (Builtin.«zip.__next__» ⟨[.ref z], []⟩) Q E s := by
  have lz : z < s.heap.objs.size := Heap.lt_size hz
  have lTO : TO < s.heap.objs.size := Heap.lt_size hTO
  have li2 : i2 < s.heap.objs.size := by obtain ⟨o, e, _⟩ := N2.obj i _ h2; exact Heap.lt_size e
  show wpAny _ _ (field (.ref z) 2 >>= _) _ _ _
  refine wpAny_bind (wpAny_field hz rfl (x := .bool false) rfl ?_)
  show wpAny _ _ (field (.ref z) 3 >>= _) _ _ _
  refine wpAny_bind (wpAny_field hz rfl (x := .ref TI) rfl (wpAny_bind (wpAny_seqItems hTI rfl ?_)))
  show wpAny _ _ (Builtin.SmallTypes.ownedTupleIsFree (.ref z) >>= _) _ _ _
  refine wpAny_bind ?_
  unfold Builtin.SmallTypes.ownedTupleIsFree
  refine wpAny_bind (wpAny_field hz rfl (x := .none) rfl (wpAny_pure ?_))
  simp only [if_true]
  refine wpAny_bind (wpAny_rule (wpAny_bind (wpAny_field hz rfl (x := .ref TO) rfl (wpAny_bind (wpAny_setField_rec hz (by simp) fun ha za ba => ?_)))))
  replace za : IsZip ha z TI TO .ellipsis := za
  have Ia : Inv X pins σ H { s with heap := ha } := I.turnedL (t' := s.toks) (ch := [z]) (fun b o hb e => ba.extBut b o (by simpa using hb) e) (fp1 (hf z (by simp)))
  have TOa := ba.extBut _ _ D.b hTO
  have s1a := N1.keep _ _ _ h1 fun o e => ba.extBut _ _ D.c e
  have s2a := N2.keep _ _ _ h2 fun o e => ba.extBut _ _ D.d e
  refine wpAny_bind ?_
  simp only [List.zipIdx_cons, List.zipIdx_nil, List.forIn_cons, List.forIn_nil]
  refine wpAny_bind (wpAny_bind (wpAny_onRaise ?_))
  show wpAny _ _ (Builtin.SmallTypes.nextOf (.ref i1) >>= _) _ _ _
  have nm : ∀ c, c ∉ [z, TI, TO, i1, i2] → c ≠ z ∧ c ≠ TO ∧ c ≠ i1 ∧ c ≠ i2 := fun c hc => ⟨fun e => hc (by simp [e]), fun e => hc (by simp [e]), fun e => hc (by simp [e]), fun e => hc (by simp [e])⟩
  rcases g with g | ⟨g1, g2⟩
  · refine wpAny_bind (N1.done X hP hw hK A i pins { s with heap := ha } σ H _ _ hh Ia (hf i1 (by simp)) s1a g fun hb e kb ⟨oe, eo, ec⟩ => ?_)
    have zb := kb _ _ (Ne.symm D.c) za
    have ez : e ≠ z := fun x => by subst x; rw [zb] at eo; cases eo; simp at ec
    refine wpAny_setField_rec zb (by simp) fun hc _ bc => hE hc e (fun c o n x => ?_) ⟨oe, bc.extBut _ _ ez eo, ec⟩
    obtain ⟨n1, n2, n3, n4⟩ := nm c n
    exact bc.extBut _ _ n1 (kb _ _ n3 (ba.extBut _ _ n1 x))
  · refine wpAny_bind (N1.item X hP hw hK A i pins { s with heap := ha } σ H _ _ Ia (hf i1 (by simp)) s1a g1 fun u hb x H1 Ib ru yl1 s1b kb szb upb => wpAny_pure ?_)
    have szb' : s.heap.objs.size ≤ hb.objs.size := Nat.le_trans (Nat.le_of_eq ba.1.symm) szb
    have upb' : H1 = H ∨ ∃ T xs, H T = none ∧ s.heap.objs.size ≤ T ∧ H1 = upd H T (.tup xs) := by
      rcases upb with e | ⟨T, xs, e1, e2, e3⟩
      · exact .inl e
      · exact .inr ⟨T, xs, e1, Nat.le_trans (Nat.le_of_eq ba.1.symm) e2, e3⟩
    have zb := kb _ _ (Ne.symm D.c) za
    have TOb : IsPair hb TO p q := kb _ _ D.h TOa
    have s2b := N2.keep _ _ _ s2a fun o e => kb _ o (Ne.symm D.j) e
    refine wpAny_bind (wpAny_seqItems TOb rfl (wpAny_bind (wpAny_updateSeq_pair TOb fun hc TOc bc => wpAny_bind (wpAny_letGo (wpAny_pure ?_)))))
    have Ic : Inv X pins σ H1 { s with heap := hc } := Inv.turnedL (s := { s with heap := hb }) Ib (t' := s.toks) (ch := [TO]) (fun b o hb e => bc.extBut b o (by simpa using hb) e) (fp1 (fp_up (hf TO (by simp)) lTO upb'))
    have zc := bc.extBut _ _ (Ne.symm D.b) zb
    have s2c := N2.keep _ _ _ s2b fun o e => bc.extBut _ o (Ne.symm D.i) e
    have g2' : J2.stop i H1 := by
      rcases upb with e | ⟨T, xs, e1, e2, e3⟩
      · rw [e]; exact g2
      · rw [e3]; exact N2.stUp _ _ _ _ e1 g2
    refine wpAny_bind (wpAny_bind (wpAny_onRaise ?_))
    show wpAny _ _ (Builtin.SmallTypes.nextOf (.ref i2) >>= _) _ _ _
    refine wpAny_bind (N2.done X hP hw hK A i pins { s with heap := hc } σ H1 _ _ hh Ic (fp_up (hf i2 (by simp)) li2 upb') s2c g2' fun hd e kd ⟨oe, eo, ec⟩ => ?_)
    have zd := kd _ _ (Ne.symm D.d) zc
    have ez : e ≠ z := fun x => by subst x; rw [zd] at eo; cases eo; simp at ec
    refine wpAny_setField_rec zd (by simp) fun he _ be => hE he e (fun c o n x => ?_) ⟨oe, be.extBut _ _ ez eo, ec⟩
    obtain ⟨n1, n2, n3, n4⟩ := nm c n
    exact be.extBut _ _ n1 (kd _ _ n4 (bc.extBut _ _ n2 (kb _ _ n3 (ba.extBut _ _ n1 x))))
/-- the pairs of what two walks give -/
def Itz2 (J1 J2 : It) : It := ⟨fun i H => J1.go i H ∧ J2.go i H, fun i H v H' => ∃ T x y H1 H2, v = .ref T ∧ J1.yld i H x H1 ∧ J2.yld i H1 y H2 ∧ H2 T = none ∧ H' = upd H2 T (.tup [x, y]), fun i H => J1.stop i H ∨ (J1.go i H ∧ J2.stop i H)⟩
theorem turn_zipI {J1 J2 : It} {z TI TO i1 i2 : Addr} {st1 st2 : Nat → Heap → Prop} (D : ZA z TI TO i1 i2) (N1 : Inn P w K J1 i1 st1) (N2 : Inn P w K J2 i2 st2) {elts : List Expr} {kk : Nat} {tpos : Pos} :
    Turn P w K (.Tuple elts kk tpos) (Itz2 J1 J2) [z, TI, TO, i1, i2] z (fun i h => IsZip h z TI TO .none ∧ IsPair h TI (.ref i1) (.ref i2) ∧ (∃ x y, IsPair h TO x y) ∧ st1 i h ∧ st2 i h) where
  mem := by simp
  obj := fun i h ⟨hz, hTI, ⟨x, y, hTO⟩, h1, h2⟩ b hb => by
    have e' : b = z ∨ b = TI ∨ b = TO ∨ b = i1 ∨ b = i2 := by simpa using hb
    rcases e' with q | q | q | q | q
    · rw [q]; exact ⟨_, hz, fun v q => nomatch q⟩
    · rw [q]; exact ⟨_, hTI, fun v q => nomatch q⟩
    · rw [q]; exact ⟨_, hTO, fun v q => nomatch q⟩
    · rw [q]; exact N1.obj i h h1
    · rw [q]; exact N2.obj i h h2
  keep := fun i h h' ⟨hz, hTI, ⟨x, y, hTO⟩, h1, h2⟩ k => ⟨k z (by simp) _ hz, k TI (by simp) _ hTI, ⟨x, y, k TO (by simp) _ hTO⟩, N1.keep i h h' h1 fun o e => k i1 (by simp) o e, N2.keep i h h' h2 fun o e => k i2 (by simp) o e⟩
  item := by
    intro X hP hw hK hc i pins s σ H E I hf hst hg
    obtain ⟨hz, hTI, ⟨x0, y0, hTO⟩, h1, h2⟩ := hst
    have hT : s.TypeIs (.ref z) "zip" := ⟨_, hz, rfl⟩
    unfold pyNext
    refine wpAny_bind (wpAny_attempt (wpAny_callSpecial?_slot (name := Str.ofString "__next__") hT F.slot_zip_next (wpAny_call_entry F.slot_zip_next hT F.entry_zip_next
      (zip_step D N1 N2 X hP hw hK I hf hz hTI hTO h1 h2 hg.1 hg.2 fun T x y H1 H2 u v h' I7 yl1 yl2 hn z7 TI7 TO7 s17 s27 f7 => wpAny_pure ?_) (F.args_zip_next_1 _))))
    refine ⟨_, rfl, wpAny_letOwnedTupleGo_zip (s := { s with heap := h' }) z7 fun h'' z8 sb => ?_⟩
    have kk : ∀ b o, b ∉ [z] → h'.get? b = some o → h''.get? b = some o := fun b o hb q => (sb.2 b (by simpa using hb)).trans q
    have k2 : ∀ b o, b ≠ z → h'.get? b = some o → h''.get? b = some o := fun b o hb q => (sb.2 b hb).trans q
    exact ⟨.ref T, _, Inv.turnedL (s := { s with heap := h' }) I7 (t' := s.toks) (ch := [z]) kk (fp1 (f7 z (by simp))), rfl, ⟨T, x, y, H1, H2, rfl, yl1, yl2, hn, rfl⟩, ⟨z8, k2 _ _ D.a TI7, ⟨u, v, k2 _ _ D.b TO7⟩, N1.keep _ _ _ s17 fun o e => k2 _ o D.c e, N2.keep _ _ _ s27 fun o e => k2 _ o D.d e⟩, fun b hb => (f7 b hb).1⟩
  done := by
    intro X hP hw hK hc i pins s σ H E I hf hst hg
    obtain ⟨hz, hTI, ⟨x0, y0, hTO⟩, h1, h2⟩ := hst
    have hT : s.TypeIs (.ref z) "zip" := ⟨_, hz, rfl⟩
    have hh : X.A.handled = none := I.ok.hd hc
    unfold pyNext
    refine wpAny_bind (wpAny_attempt (wpAny_callSpecial?_slot (name := Str.ofString "__next__") hT F.slot_zip_next (wpAny_call_entry F.slot_zip_next hT F.entry_zip_next
      (zip_end D N1 N2 X hP hw hK hh I hf hz hTI hTO h1 h2 hg fun h' e k he => ?_) (F.args_zip_next_1 _))))
    obtain ⟨o, ho, hc⟩ := he
    refine wpAny_bind (wpAny_isInstance (T := "StopIteration") (b := true) ⟨o, ho, hc⟩ isSubtype_stop ?_)
    exact wpAny_pure ⟨rfl, I.turnedL (t' := s.toks) (ch := [z, TI, TO, i1, i2]) k hf⟩
  self := fun A i s Q E st h => wpAny_pyIter_zip st.1 h
end
/-! ### zip(a, b): two iterators are made -/
/-- what pyIter makes of a value: one object -/
structure SrcI (P : Program) (w : World) (K : PySem.W.Frag) (v : Value) (J : It) (h0 : Heap) : Prop where
  ex : ∃ (o : Obj) (st : Addr → Nat → Heap → Prop), (∀ (A : Around) (E : Value → Shared → Prop) (Q : Value → Shared → Prop) (s' : Shared), (∀ b o, h0.get? b = some o → s'.heap.get? b = some o) → Q (.ref s'.heap.objs.size) { s' with heap := s'.heap.push o } → wpAny (model P w) A (pyIter v) Q E s') ∧
    (∀ it, Inn P w K J it (st it)) ∧ (∀ it h, h.get? it = some o → st it 0 h) ∧ o.isFreed = false
section
variable {prog : Program} {w : World} {A : Around} {E : Value → Shared → Prop} {s : Shared}
theorem call_zipI {a b : Value} {o1 o2 : Obj} {Q : Value → Shared → Prop} (f1 : o1.isFreed = false) (f2 : o2.isFreed = false)
    (i1 : ∀ (A : Around) (E : Value → Shared → Prop) (Q : Value → Shared → Prop) (s' : Shared), (∀ b o, s.heap.get? b = some o → s'.heap.get? b = some o) → Q (.ref s'.heap.objs.size) { s' with heap := s'.heap.push o1 } → wpAny (model prog w) A (pyIter a) Q E s')
    (i2 : ∀ (A : Around) (E : Value → Shared → Prop) (Q : Value → Shared → Prop) (s' : Shared), (∀ b o, s.heap.get? b = some o → s'.heap.get? b = some o) → Q (.ref s'.heap.objs.size) { s' with heap := s'.heap.push o2 } → wpAny (model prog w) A (pyIter b) Q E s')
    (h : ∀ h' n, n = s.heap.objs.size → IsZip h' (n + 4) (n + 2) (n + 3) .none → IsPair h' (n + 2) (.ref n) (.ref (n + 1)) → IsPair h' (n + 3) .none .none → h'.get? n = some o1 → h'.get? (n + 1) = some o2 → (∀ c o, s.heap.get? c = some o → h'.get? c = some o) → Q (.ref (n + 4)) { s with heap := h' }) :
    wpAny (model prog w) A (call (.type "zip") [a, b]) Q E s := by
  refine callType_codes (T := "zip") (Bi := Builtin.«object.__init__») (Q₁ := fun r s₁ => s₁.TypeIs r "zip" ∧ Q r s₁) F.called_zip (F.typeCall_zip_2 _ _) F.entry_object_init ?_ ?_
  · refine codeAny_of_tree ?_
    show wpAny _ A.in1.in1 (do checkBuiltinCall "zip.__new__" ⟨[.type "zip", a, b], []⟩; again (.builtin "zip.__new__" ⟨[.type "zip", a, b], []⟩)) _ _ s
    refine wpAny_bind (wpAny_of_eq (F.newCall_zip_2 _ _) (wpAny_pure ⟨plainId_quiet (by decide +kernel) _, codeAny_builtin F.entry_zip_new ?_⟩))
    rw [Around.under_plainId (by decide +kernel) _]
    obtain ⟨hp, g, d, tk, os⟩ := s
    have hsub := sub_zip
    wp_walk using i1 _ _ _ _ (fun _ _ e => e), i2 _ _ _ _ (fun _ _ e => Heap.get?_push_of_some _ e)
    obtain ⟨h1, e1⟩ : ∃ h1 : Heap, h1 = hp.push o1 := ⟨_, rfl⟩
    obtain ⟨h2, e2⟩ : ∃ h2 : Heap, h2 = h1.push o2 := ⟨_, rfl⟩
    obtain ⟨h3, e3⟩ : ∃ h3 : Heap, h3 = h2.push { cls := .type "tuple", data := .seq #[.ref hp.objs.size, .ref h1.objs.size] } := ⟨_, rfl⟩
    obtain ⟨h4, e4⟩ : ∃ h4 : Heap, h4 = h3.push { cls := .type "tuple", data := .seq #[.none, .none] } := ⟨_, rfl⟩
    obtain ⟨h5, e5⟩ : ∃ h5 : Heap, h5 = h4.push { cls := .type "zip", data := .fields #[.none, .bool false, .bool false, .ref h2.objs.size, .ref h3.objs.size] } := ⟨_, rfl⟩
    have z1 : h1.objs.size = hp.objs.size + 1 := by rw [e1]; exact Heap.size_push ..
    have z2 : h2.objs.size = hp.objs.size + 2 := by rw [e2, Heap.size_push, z1]
    have z3 : h3.objs.size = hp.objs.size + 3 := by rw [e3, Heap.size_push, z2]
    have z4 : h4.objs.size = hp.objs.size + 4 := by rw [e4, Heap.size_push, z3]
    have u1 : ∀ c o, hp.get? c = some o → h1.get? c = some o := fun c o q => by rw [e1]; exact Heap.get?_push_of_some _ q
    have u2 : ∀ c o, h1.get? c = some o → h2.get? c = some o := fun c o q => by rw [e2]; exact Heap.get?_push_of_some _ q
    have u3 : ∀ c o, h2.get? c = some o → h3.get? c = some o := fun c o q => by rw [e3]; exact Heap.get?_push_of_some _ q
    have u4 : ∀ c o, h3.get? c = some o → h4.get? c = some o := fun c o q => by rw [e4]; exact Heap.get?_push_of_some _ q
    have u5 : ∀ c o, h4.get? c = some o → h5.get? c = some o := fun c o q => by rw [e5]; exact Heap.get?_push_of_some _ q
    have n1 : h1.get? hp.objs.size = some o1 := by rw [e1]; exact Heap.get?_push_size _ f1
    have n2 : h2.get? h1.objs.size = some o2 := by rw [e2]; exact Heap.get?_push_size _ f2
    have n3 : IsPair h3 h2.objs.size (.ref hp.objs.size) (.ref h1.objs.size) := by rw [e3]; exact Heap.get?_push_size _ rfl
    have n4 : IsPair h4 h3.objs.size .none .none := by rw [e4]; exact Heap.get?_push_size _ rfl
    have n5 : IsZip h5 h4.objs.size h2.objs.size h3.objs.size .none := by rw [e5]; exact Heap.get?_push_size _ rfl
    have main : Shared.TypeIs ⟨h5, g, d, tk, os⟩ (.ref h4.objs.size) "zip" ∧ Q (.ref h4.objs.size) ⟨h5, g, d, tk, os⟩ := by
      refine ⟨⟨_, n5, rfl⟩, ?_⟩
      rw [z2, z3, z4] at n5
      rw [z1, z2] at n3
      rw [z3] at n4
      rw [z1] at n2
      rw [z4]
      exact h h5 hp.objs.size rfl n5 (u5 _ _ (u4 _ _ n3)) (u5 _ _ n4) (u5 _ _ (u4 _ _ (u3 _ _ (u2 _ _ n1)))) (u5 _ _ (u4 _ _ (u3 _ _ n2))) fun c o q => u5 _ _ (u4 _ _ (u3 _ _ (u2 _ _ (u1 _ _ q))))
    subst e5 e4 e3 e2 e1
    exact main
  · rintro obj s1 ⟨hT, hq⟩
    exact ⟨hT, F.args_object_init_3 obj _ _, object_init_meets F.called_zip.init.lookup F.called_zip.made (by decide) prog w A.in1 _ s1 ⟨hT, rfl, hq⟩⟩
end
/-! ### what zip draws from, by values -/
def vwHO (n : String) (v d : Addr) : HO := .ext fun h => h.get? v = some { cls := .type n, data := .fields #[.ref d] }
inductive SrcV (K : PySem.W.Frag) (H : Hp) : V → It → Prop
  | lst {a : Addr} {xs : List V} (h : SqL K H a xs) : SrcV K H (.ref a) (Itl K a)
  | tup {a : Addr} {xs : List V} (h : SqT K H a xs) : SrcV K H (.ref a) (Itt K a)
  | keys {d : Addr} {o : Obj} {kvs : List (Key × V)} (h : H d = some (.frz o (.dK kvs))) : SrcV K H (.ref d) (Itk d o kvs)
  | vals {v d : Addr} {o : Obj} {kvs : List (Key × V)} (hv : H v = some (vwHO "dict_values" v d)) (h : H d = some (.frz o (.dK kvs))) : SrcV K H (.ref v) (Itd d o kvs)
  | items {v d : Addr} {o : Obj} {kvs : List (Key × V)} (hv : H v = some (vwHO "dict_items" v d)) (h : H d = some (.frz o (.dK kvs))) : SrcV K H (.ref v) (Iti d o kvs)
section
variable {X : Cx} {pins : List (Addr × Obj)} {σ : L2.St} {H : Hp} {s : Shared}
theorem SrcV.src {x : V} {J : It} {u : Value} (S : SrcV X.K H x J) (I : Inv X pins σ H s) (r : RelV x u) : SrcI X.prog X.w X.K u J s.heap := by
  cases S with
  | @lst a xs h =>
    cases r
    obtain ⟨its, rv, pl, hz⟩ := I.list h
    exact ⟨⟨_, fun it i h => h.IsListIter it a i, fun A E Q s' k q => wpAny_pyIter_list (l := a) (items := its.toArray) (pl.isList.at fun o e => k _ o e) q, fun it => inn_lst a it, fun it h e => ⟨_, e, rfl, rfl⟩, rfl⟩⟩
  | @tup a xs h =>
    cases r
    obtain ⟨its, rv, pl, hz⟩ := I.tuple h
    have pl' : s.heap.IsTuple a its.toArray := pl
    exact ⟨⟨_, fun it i h => h.IsTupleIter it a i, fun A E Q s' k q => wpAny_pyIter_tuple (t := a) (items := its.toArray) (pl'.at fun o e => k _ o e) q, fun it => inn_tup a it, fun it h e => ⟨_, e, rfl, rfl⟩, rfl⟩⟩
  | @keys d o kvs h =>
    cases r
    obtain ⟨hs, hgd, hx, es, ep, vs, hdt, hsz, kv, hm⟩ := I.frzK h
    exact ⟨⟨_, fun it i h => h.IsKeyIter it d i kvs.length ep, fun A E Q s' k q => iter_keys hs (k _ _ hgd) hx hdt q, fun it => inn_keys it hdt, fun it h e => ⟨_, e, rfl, by rw [← hsz]; rfl⟩, rfl⟩⟩
  | @vals v d o kvs hv h =>
    cases r
    obtain ⟨hs, hgd, hx, es, ep, vs, hdt, hsz, kv, hm⟩ := I.frzK h
    have hl : kvs.length = vs.length := Paired.length kv
    have ev : s.heap.get? v = some { cls := .type "dict_values", data := .fields #[.ref d] } := (I.hok v _ hv).1
    exact ⟨⟨_, fun it i h => h.IsValIter it d i kvs.length ep, fun A E Q s' k q => wpAny_pyIter_values (d := d) (knd := mixKind X.prog X.w) ⟨_, k _ _ ev, rfl, rfl⟩ (hm.at fun o e => k _ o e) q, fun it => inn_vals it hdt, fun it h e => ⟨_, e, rfl, by rw [hl] <;> rfl⟩, rfl⟩⟩
  | @items v d o kvs hv h =>
    cases r
    obtain ⟨hs, hgd, hx, es, ep, vs, hdt, hsz, kv, hm⟩ := I.frzK h
    have hl : kvs.length = vs.length := Paired.length kv
    have ev : s.heap.get? v = some { cls := .type "dict_items", data := .fields #[.ref d] } := (I.hok v _ hv).1
    exact ⟨⟨_, fun it i h => IsIt h it d i kvs.length ep, fun A E Q s' k q => wpAny_pyIter_items (d := d) (knd := mixKind X.prog X.w) ⟨_, k _ _ ev, rfl, rfl⟩ (hm.at fun o e => k _ o e) q, fun it => inn_items it hdt, fun it h e => ⟨.none, false, .none, .none, .inl rfl, by rw [hl]; exact e⟩, rfl⟩⟩
end
section
variable {X : Cx} {e e2 : Expr} {t1 t2 : TE}
def iZipG (K : PySem.W.Frag) (t1 t2 : TE) : TI := fun σ H R => L2.tCons t1 (L2.tCons t2 L2.tNil) σ H fun vs H2 => ∃ x y J1 J2, vs = [x, y] ∧ SrcV K H2 x J1 ∧ SrcV K H2 y J2 ∧ R (Itz2 J1 J2) H2
theorem za_of (n : Nat) : ZA (n + 4) (n + 2) (n + 3) n (n + 1) := by
  have k : ∀ a b : Nat, a ≠ b → (show Addr from a) ≠ b := fun a b h => h
  exact ⟨k _ _ (by omega), k _ _ (by omega), k _ _ (by omega), k _ _ (by omega), k _ _ (by omega), k _ _ (by omega), k _ _ (by omega), k _ _ (by omega), k _ _ (by omega), k _ _ (by omega)⟩
theorem pi_zipG {p pos tpos : Pos} {elts : List Expr} {kk : Nat} (hg : Gl X "zip") (hm : X.mg "zip" = none) (ha : PE X e t1) (hb : PE X e2 t2) (h1 : starEach [e, e2] X.env = (false, eval e X.env) :: starEach [e2] X.env := by rfl) (h2 : starEach [e2] X.env = (false, eval e2 X.env) :: starEach [] X.env := by rfl) (hpl : (backTo pos (starEach [e2] X.env)).any (·.1) = false := by rfl) :
    PI X (.Tuple elts kk tpos) (.Call (.Name "zip" p) [e, e2] [] pos) (iZipG X.K t1 t2) := by
  refine ⟨fun pins s σ H R I h => ?_⟩
  refine Call_ (ld_blt I hg hm PyProof.Rows.boot_zip (PyProof.Rows.callWith_type1 (thn ((pa_cons ha (pa_cons hb pa_nil h2) h1).run pos pins s σ H _ I h) fun us s1 ⟨vs, H1, I1, r1, q1⟩ => ?_) h1 hpl))
  obtain ⟨x, y, J1, J2, rfl, S1, S2, q⟩ := q1
  obtain ⟨u1, u2, rfl, r1, r2⟩ := r1.two
  obtain ⟨o1, st1, p1, n1, z1, f1⟩ := (S1.src I1 r1).ex
  obtain ⟨o2, st2, p2, n2, z2, f2⟩ := (S2.src I1 r2).ex
  refine call_zipI f1 f2 p1 p2 fun h' n hn hz hTI hTO g1 g2 k => wpAny_pyIter_zip hz ?_
  have I2 : Inv X pins σ H1 { s1 with heap := h' } := I1.kept (t' := s1.toks) k
  have D := za_of n
  refine ⟨n + 4, [n + 4, n + 2, n + 3, n, n + 1], _, _, H1, rfl, I2, turn_zipI D (n1 n) (n2 (n + 1)), ⟨hz, hTI, ⟨_, _, hTO⟩, z1 _ _ g1, z2 _ _ g2⟩, fun b hb => ?_, q⟩
  have le : s1.heap.objs.size ≤ b := by
    rw [← hn]
    have e' : b = n + 4 ∨ b = n + 2 ∨ b = n + 3 ∨ b = n ∨ b = n + 1 := by simpa using hb
    rcases e' with z | z | z | z | z
    · rw [z]; exact Nat.le_add_right _ _
    · rw [z]; exact Nat.le_add_right _ _
    · rw [z]; exact Nat.le_add_right _ _
    · rw [z]; exact Nat.le_refl _
    · rw [z]; exact Nat.le_add_right _ _
  exact I1.fpOk le (I1.hok.fresh le)
end
end KA

set_option Elab.async false
set_option autoImplicit false
set_option linter.all false
set_option maxRecDepth 100000
set_option maxHeartbeats 1600000
/-! KZip2: zip(a, b) over lists, tuples, dicts, their values and items. -/
namespace KA
open PySem PySem.Spec PyProof.Rows L2
/-- what stands behind an argument of zip: the value, or a new view of the dict -/
def srcP (k : Nat) (Q : VK) (x : V) (H : Hp) : Prop := match k with
  | 2 => ∃ d o kvs, x = .ref d ∧ H d = some (.frz o (.dK kvs)) ∧ ∀ p, H p = none → Q (.ref p) (upd H p (vwHO "dict_values" p d))
  | 3 => ∃ d o kvs, x = .ref d ∧ H d = some (.frz o (.dK kvs)) ∧ ∀ p, H p = none → Q (.ref p) (upd H p (vwHO "dict_items" p d))
  | _ => Q x H
def tSrc (k : Nat) (t : TE) : TE := fun σ H Q => t σ H (srcP k Q)
section
variable {X : Cx} {e : Expr} {td : TE} {apos cpos : Pos}
theorem Inv.view {pins : List (Addr × Obj)} {σ : L2.St} {H : Hp} {s : Shared} {n : String} {d : Addr} (I : Inv X pins σ H s) : Inv X pins σ (upd H s.heap.objs.size (vwHO n s.heap.objs.size d)) { s with heap := s.heap.push { cls := .type n, data := .fields #[.ref d] } } :=
  I.turnedNew (t' := s.toks) (ch := []) (fun b o _ q => Heap.get?_push_of_some _ q) (fun b hb => by simp at hb) (Nat.le_refl _)
    ⟨Heap.get?_push_size _ rfl, ⟨_, Heap.get?_push_size _ rfl⟩, fun h1 h2 q k => k _ q⟩
theorem pe_srcV (he : PE X e td) (hbase : attributeBase e "values" X.env (eval e X.env) = eval e X.env := by rfl) (hline : (apos.endLine == cpos.line) = true := by rfl) : PE X (.Call (.Attribute e "values" apos) [] [] cpos) (tSrc 2 td) := by
  refine ⟨fun pins s σ H Q I h => ?_⟩
  refine wpAny_Call_method (T := "dict") (id := "dict.values") hbase rfl hline F.plainAttrs_dict F.slot_dict_values F.type_dict_values (thn (he.run pins s σ H _ I h) fun u s1 ⟨x, H1, I1, rx, q1⟩ => ?_)
  obtain ⟨d, o, kvs, ex, hd, q⟩ := q1
  subst ex
  obtain rfl : u = Value.ref d := rx
  obtain ⟨hs, hgd, hx, es, ep, vs, hdt, hsz, kv, hm⟩ := I1.frzK hd
  refine ⟨hm.dictOf.typeIs, hm.dictOf.mapOf.noDict, ?_⟩
  have fin : EP X pins σ Q (.ref s1.heap.objs.size) { s1 with heap := s1.heap.push { cls := .type "dict_values", data := .fields #[.ref d] } } :=
    ⟨.ref s1.heap.objs.size, _, Inv.view I1, rfl, q _ (I1.hok.fresh (Nat.le_refl _))⟩
  show wpAny _ _ (callWith cpos (.builtin "dict.values") [.ref d] [] []) _ X.xe s1
  exact method_meetsIn F.slot_dict_values F.entry_dict_values rfl (PySem.evalArgs_none ⟨rfl, hm.dictOf.typeIs, F.args_dict_values_1 _, _, meets_dict_values (mixKind X.prog X.w) d hs, ⟨vs, hm.dictOf⟩, fin⟩)
theorem pe_srcI (he : PE X e td) (hbase : attributeBase e "items" X.env (eval e X.env) = eval e X.env := by rfl) (hline : (apos.endLine == cpos.line) = true := by rfl) : PE X (.Call (.Attribute e "items" apos) [] [] cpos) (tSrc 3 td) := by
  refine ⟨fun pins s σ H Q I h => ?_⟩
  refine wpAny_Call_method (T := "dict") (id := "dict.items") hbase rfl hline F.plainAttrs_dict F.slot_dict_items F.type_dict_items (thn (he.run pins s σ H _ I h) fun u s1 ⟨x, H1, I1, rx, q1⟩ => ?_)
  obtain ⟨d, o, kvs, ex, hd, q⟩ := q1
  subst ex
  obtain rfl : u = Value.ref d := rx
  obtain ⟨hs, hgd, hx, es, ep, vs, hdt, hsz, kv, hm⟩ := I1.frzK hd
  refine ⟨hm.dictOf.typeIs, hm.dictOf.mapOf.noDict, ?_⟩
  have fin : EP X pins σ Q (.ref s1.heap.objs.size) { s1 with heap := s1.heap.push { cls := .type "dict_items", data := .fields #[.ref d] } } :=
    ⟨.ref s1.heap.objs.size, _, Inv.view I1, rfl, q _ (I1.hok.fresh (Nat.le_refl _))⟩
  show wpAny _ _ (callWith cpos (.builtin "dict.items") [.ref d] [] []) _ X.xe s1
  exact method_meetsIn F.slot_dict_items F.entry_dict_items rfl (PySem.evalArgs_none ⟨rfl, hm.dictOf.typeIs, F.args_dict_items_1 _, _, meets_dict_items (mixKind X.prog X.w) d hs, ⟨vs, hm.dictOf⟩, fin⟩)
theorem pe_src0 (he : PE X e td) : PE X e (tSrc 0 td) := he
theorem pe_src1 (he : PE X e td) : PE X e (tSrc 1 td) := he
end
section
variable {G : GC} {W : XW} {X : Cx} {e : Expr} {fa fb : EM}
/-- the argument of zip, as it stands -/
def SrcT (G : GC) (k : Nat) (m : List Addr) (H : Hp) (v : MV) (x : V) : Prop := match k with
  | 0 => RV G m H v x
  | 1 => RV G m H v x
  | 2 => ∃ y d, x = .ref y ∧ y ∉ m ∧ H y = some (vwHO "dict_values" y d) ∧ RV G m H v (.ref d)
  | 3 => ∃ y d, x = .ref y ∧ y ∉ m ∧ H y = some (vwHO "dict_items" y d) ∧ RV G m H v (.ref d)
  | _ => False
theorem SrcT.mono {k : Nat} {m m' : List Addr} {H H' : Hp} {v : MV} {x : V} (s : SrcT G k m H v x) (e : Ex G m H m' H') : SrcT G k m' H' v x := by
  have pr : ∀ y u, y ∉ m → H y = some u → y ∉ m' ∧ H' y = some u := fun y u hy hu => ⟨fun q => absurd (hu.symm.trans (e.new y q hy)) (by simp), (e.out y hy (by rw [hu]; simp)).trans hu⟩
  match k, s with
  | 0, s => exact RV.mono e.toLe s
  | 1, s => exact RV.mono e.toLe s
  | 2, ⟨y, d, ex, hy, hu, r⟩ => exact ⟨y, d, ex, (pr y _ hy hu).1, (pr y _ hy hu).2, r.mono e.toLe⟩
  | 3, ⟨y, d, ex, hy, hu, r⟩ => exact ⟨y, d, ex, (pr y _ hy hu).1, (pr y _ hy hu).2, r.mono e.toLe⟩
theorem src_of {k : Nat} (hk : k ≤ 3) {m : List Addr} {h : MH} {H : Hp} {v : MV} {x : V} {w : Wk} {Q : VK} (S : Sim G m h H) (r : RV G m H v x) (e : srcM k v h = some w) (q : ∀ x' H', Ex G m H m H' → Sim G m h H' → SrcT G k m H' v x' → Q x' H') : srcP k Q x H := by
  have dct : ∀ {j : Nat}, srcM (j + 1) v h = some w → ∃ d o kvs, x = .ref d ∧ H d = some (.frz o (.dK kvs)) := fun {j} e => by
    unfold srcM at e
    cases v with
    | ref n =>
      dsimp only at e
      cases eg : h.get n with
      | none => rw [eg] at e; cases e
      | some o =>
        rw [eg] at e
        cases o with
        | dct tk lk kvs =>
          dsimp only at e
          cases lk with
          | false => cases e
          | true =>
            cases tk with
            | true => cases e
            | false =>
              obtain ⟨a, w', ea, rfl, dr, eh⟩ := S.dct eg r
              obtain ⟨od, eh⟩ := eh
              obtain ⟨ps, rfl, pr⟩ := dr
              exact ⟨a, od, ps, rfl, eh⟩
        | _ => cases e
    | _ => cases e
  match k, hk with
  | 0, _ => exact q x H .refl S r
  | 1, _ => exact q x H .refl S r
  | 2, _ =>
    obtain ⟨d, o, kvs, rfl, hd⟩ := dct e
    refine ⟨d, o, kvs, rfl, hd, fun p hp => ?_⟩
    have x1 : Ex G m H m (upd H p (vwHO "dict_values" p d)) := .upd p _ (plain_none hp) (.inr hp)
    exact q _ _ x1 (S.fresh hp _) ⟨p, d, rfl, fun z => S.trk p z hp, upd_same, r.mono x1.toLe⟩
  | 3, _ =>
    obtain ⟨d, o, kvs, rfl, hd⟩ := dct e
    refine ⟨d, o, kvs, rfl, hd, fun p hp => ?_⟩
    have x1 : Ex G m H m (upd H p (vwHO "dict_items" p d)) := .upd p _ (plain_none hp) (.inr hp)
    exact q _ _ x1 (S.fresh hp _) ⟨p, d, rfl, fun z => S.trk p z hp, upd_same, r.mono x1.toLe⟩
theorem wkR_F {m : List Addr} {H : Hp} {xs : List MV} {ys : List V} {a : Addr} (fz : FrzL G.K H a ys) (r : RVs G m H xs ys) : WkR G m H (wkT xs) (Itl G.K a) where
  item := fun m2 h2 H2 i v x S hi e => by
    obtain ⟨y, ey, ry⟩ := r.get e
    refine ⟨⟨ys, y, (x.toLe.frzl fz).sq, ey⟩, fun z H' q => ?_⟩
    obtain ⟨rfl, q⟩ := q
    have hz := q ys (x.toLe.frzl fz).sq
    rw [ey] at hz
    cases hz
    exact ⟨.refl, S, ry.mono x.toLe⟩
  fin := fun m2 h2 H2 x S e => ⟨ys, (x.toLe.frzl fz).sq, Nat.le_of_eq r.length⟩
theorem srcV_of {k : Nat} {m : List Addr} {h : MH} {H : Hp} {v : MV} {x : V} {w : Wk} (S : Sim G m h H) (t : SrcT G k m H v x) (e : srcM k v h = some w) : ∃ J, SrcV G.K H x J ∧ WkR G m H w J := by
  have dct : ∀ {j : Nat} {d : Addr}, RV G m H v (.ref d) → srcM (j + 1) v h = some w → ∃ (n : Nat) (o : Obj) (kvs : List (MV × MV)) (ps : List (Key × V)), m[n]? = some d ∧ H d = some (.frz o (.dK ps)) ∧ ps.length = kvs.length ∧ w = wkD j n kvs.length := fun {j d} r e => by
    unfold srcM at e
    cases v with
    | ref n =>
      dsimp only at e
      cases eg : h.get n with
      | none => rw [eg] at e; cases e
      | some o =>
        rw [eg] at e
        cases o with
        | dct tk lk kvs =>
          dsimp only at e
          cases lk with
          | false => cases e
          | true =>
            cases tk with
            | true => cases e
            | false =>
              obtain ⟨a, w', ea, ea2, dr, eh⟩ := S.dct eg r
              cases ea2
              obtain ⟨od, eh⟩ := eh
              obtain ⟨ps, rfl, pr⟩ := dr
              exact ⟨n, od, kvs, ps, ea, eh, pr.length.symm, (Option.some.inj e).symm⟩
        | _ => cases e
    | _ => cases e
  match k, t with
  | 0, t =>
    unfold srcM at e
    cases v with
    | tup xs =>
      cases e
      have t' : RV G m H (.tup xs) x := t
      simp only [RV] at t'
      obtain ⟨a, ys, rfl, fz, r⟩ := t'
      exact ⟨_, .tup (SqT.of fz), wkR_T fz r⟩
    | flst xs =>
      cases e
      have t' : RV G m H (.flst xs) x := t
      simp only [RV] at t'
      obtain ⟨a, ys, rfl, fz, r⟩ := t'
      exact ⟨_, .lst fz.sq, wkR_F fz r⟩
    | ref n =>
      dsimp only at e
      cases eg : h.get n with
      | none => rw [eg] at e; cases e
      | some o =>
        rw [eg] at e
        cases o with
        | lst xs =>
          cases e
          obtain ⟨a, ys, ea, rfl, eh, r⟩ := S.lst eg t
          exact ⟨_, .lst (SqL.of eh), wkR_L ea⟩
        | _ => cases e
    | _ => cases e
  | 1, t =>
    cases v with
    | ref n =>
      have t' : RV G m H (.ref n) x := t
      simp only [RV] at t'
      obtain ⟨d, ed, rfl⟩ := t'
      obtain ⟨n, o, kvs, ps, em, eh, hl, rfl⟩ := dct (d := d) t e
      exact ⟨_, .keys eh, wkR_D0 em eh hl⟩
    | _ => cases e
  | 2, ⟨y, d, ex, hy, hu, r⟩ =>
    subst ex
    obtain ⟨n, o, kvs, ps, em, eh, hl, rfl⟩ := dct r e
    exact ⟨_, .vals hu eh, wkR_D1 em eh hl⟩
  | 3, ⟨y, d, ex, hy, hu, r⟩ =>
    subst ex
    obtain ⟨n, o, kvs, ps, em, eh, hl, rfl⟩ := dct r e
    exact ⟨_, .items hu eh, wkR_D2 em eh hl⟩
theorem wkR_Z2 {m : List Addr} {H : Hp} {a b : Wk} {J1 J2 : It} (ra : WkR G m H a J1) (rb : WkR G m H b J2) : WkR G m H (wkZ a b) (Itz2 J1 J2) where
  item := fun m1 h1 H1 i v x S hi e => by
    unfold wkZ at e hi
    dsimp only at e hi
    have hm : i < min a.n b.n := hi
    have l1 : i < a.n := by omega
    have l2 : i < b.n := by omega
    cases e1 : a.at_ i h1 with
    | none => rw [e1] at e; cases e
    | some p =>
      cases e2 : b.at_ i h1 with
      | none => rw [e1, e2] at e; cases e
      | some q =>
        rw [e1, e2] at e
        cases e
        obtain ⟨g1, k1⟩ := ra.item m1 h1 H1 i p x S l1 e1
        obtain ⟨g2, _⟩ := rb.item m1 h1 H1 i q x S l2 e2
        refine ⟨⟨g1, g2⟩, fun w H' z => ?_⟩
        obtain ⟨T, y, u, H2, H3, rfl, y1, y2, hT, eH⟩ := z
        obtain ⟨x1, S1, r1⟩ := k1 y H2 y1
        obtain ⟨x2, S2, r2⟩ := (rb.item m1 h1 H2 i q (x.trans x1.ef) S1 l2 e2).2 u H3 y2
        have pn := pair_new S2 hT eH (r1.mono x2.toLe) r2
        exact ⟨(x1.trans x2).trans pn.1, pn.2.1, pn.2.2⟩
  fin := fun m1 h1 H1 x S e => by
    unfold wkZ at e ⊢
    dsimp only at e ⊢
    cases c : Nat.ble a.n b.n with
    | true =>
      rw [c] at e
      have c' := Nat.le_of_ble_eq_true c
      left
      rw [show Nat.min a.n b.n = a.n from Nat.min_eq_left c']
      exact ra.fin m1 h1 H1 x S e
    | false =>
      rw [c] at e
      have c' : b.n < a.n := Nat.lt_of_not_le fun z => by rw [Nat.ble_eq_true_of_le z] at c; cases c
      dsimp only at e
      cases e1 : a.at_ b.n h1 with
      | none => rw [e1] at e; cases e
      | some p =>
        rw [e1] at e
        right
        rw [show Nat.min a.n b.n = b.n from Nat.min_eq_right (Nat.le_of_lt c')]
        exact ⟨(ra.item m1 h1 H1 b.n p x S c' e1).1, rb.fin m1 h1 H1 x S e⟩
theorem ki_zipG {tg : Expr} {K : PySem.W.Frag} {k j : Nat} (hK : K = G.K) (hk : k ≤ 3) (hj : j ≤ 3) (h : PI X tg e (iZipG K (tSrc k (tM G W fa)) (tSrc j (tM G W fb)))) : PI X tg e (tMI G W (wZipG k j fa fb)) := PI_wk h fun σ H R q => by
  subst hK
  refine (tMR.bind (Rel := RV G) (k := fun σ v h1 => match srcM k v h1 with
  | none => .bad
  | some _ => (fb σ h1).bind fun w h2 => match srcM k v h2, srcM j w h2 with
    | some p, some q => .ok (wkZ p q) h2
    | _, _ => .bad) q).imp fun x H1 ⟨m1, h1, v, σm, S1, R1, r1, p1⟩ => ?_
  cases e1 : srcM k v h1 with
  | none => rw [e1] at p1; exact p1.elim
  | some w1 =>
    rw [e1] at p1
    refine src_of hk S1 r1 e1 fun x' H1' x1 S1' t1 => ?_
    refine ⟨m1, h1, σm, S1', R1.mono x1.toLe, (RP.bind (Rel := RV G) (p1.later x1)).imp fun y H2 ⟨m2, h2, w, x2, S2, r2, p2⟩ => ?_⟩
    have t2 := t1.mono x2
    cases e2 : srcM k v h2 with
    | none => rw [e2] at p2; exact p2.elim
    | some wa =>
      cases e3 : srcM j w h2 with
      | none => rw [e2, e3] at p2; exact p2.elim
      | some wb =>
        rw [e2, e3] at p2
        refine src_of hj S2 r2 e3 fun y' H2' x3 S3 t3 => ?_
        obtain ⟨J1, s1, k1⟩ := srcV_of S3 (t2.mono x3) e2
        obtain ⟨J2, s2, k2⟩ := srcV_of S3 t3 e3
        exact ⟨x', y', J1, J2, rfl, s1, s2, RP.now (p2.later x3) S3 (wkR_Z2 k1 k2)⟩
theorem i_zipG {e1 e2 : Expr} {k j : Nat} {p pos tpos : Pos} {elts : List Expr} {kk : Nat} (hm : X.mg "zip" = none) (hk : k ≤ 3) (hj : j ≤ 3) (ha : PE X e1 (tSrc k (tM G W fa))) (hb : PE X e2 (tSrc j (tM G W fb))) (hK : X.K = G.K := by rfl) (hg : Gl X "zip" := by rfl) (h1 : starEach [e1, e2] X.env = (false, eval e1 X.env) :: starEach [e2] X.env := by rfl) (h2 : starEach [e2] X.env = (false, eval e2 X.env) :: starEach [] X.env := by rfl) (hpl : (backTo pos (starEach [e2] X.env)).any (·.1) = false := by rfl) :
    PI X (.Tuple elts kk tpos) (.Call (.Name "zip" p) [e1, e2] [] pos) (tMI G W (wZipG k j fa fb)) := ki_zipG hK hk hj (pi_zipG hg hm ha hb h1 h2 hpl)
end
end KA

set_option Elab.async false
set_option autoImplicit false
set_option linter.all false
set_option maxRecDepth 100000
set_option maxHeartbeats 1600000
/-! KOwn: operations on instances of the program's own classes. -/
namespace KA
open PySem PySem.Spec PyProof.Rows L2
section
variable {X : Cx} {G : GC} {pins : List (Addr × Obj)} {σ : L2.St} {H : Hp} {s : Shared} {k np c : Nat} {f : Addr} {ps : List PySem.Str} {g : FM}
/-- a def called somewhere below the running body -/
theorem run_own {A : Around} {us : List Value} {xs : List V} {Q : VK} (D : Dn X.prog X.w X.K X.mg X.base G f k ps np g) (sb : Sub X k A) (I : Inv X pins σ H s) (r : Vals xs us) (h : spM G np g xs H Q E0) :
    wpAny (model X.prog X.w) A (call (.ref f) us) (EP X pins σ Q) X.xe s := by
  obtain ⟨fd, F, hb⟩ := D.ex
  have e0 : Env0 X.prog X.w X.K X.mg X.base A X.stack s H := by
    have e := I.env0
    exact ⟨by rw [sb.fr]; exact e.frames, e.mod, e.bs, e.bsz, e.funs, e.frf, e.hok, e.bare⟩
  have hl := F.len _ _ _ _ h
  refine wpAny_call (codeAny_mono (F.run A X.stack s H ⟨us, []⟩ us xs Q E0 sb.room e0 (by
    have := hb s us I.kIn (by rw [← hl, r.length]; simp)
    simpa using this) r h) fun r s' hq => ?_)
  cases r with
  | error e => exact pass0 pins σ H s e s' I hq
  | ok fl =>
    cases fl with
    | ret w => exact I.after hq
    | next => exact False.elim hq
    | brk => exact False.elim hq
    | cont => exact False.elim hq
theorem sub_here (hr : Room k X.A) : Sub X k X.A := ⟨hr, rfl⟩
theorem sub_in1 {k : Nat} (hr : Room (k + 1) X.A) : Sub X k X.A.in1 := ⟨hr.in1, rfl⟩
/-- an instance of the class at C -/
def InsA (H : Hp) (C a : Addr) : Prop := ∃ dx fs, H a = some (.ins C dx fs)
theorem ins_at {C a : Addr} (I : Inv X pins σ H s) (h : InsA H C a) : ∃ od, PySem.W.InstAt s.heap a (PySem.W.instObj C (h.choose)) C od := by
  have hc := h.choose_spec
  obtain ⟨fs, hc⟩ := hc
  obtain ⟨mA, J, _⟩ := ins_get I.hok hc
  obtain ⟨od, J, _⟩ := J.look
  exact ⟨_, J⟩
/-! ### == and != -/
def rOwEq (G : GC) (c : Nat) (g : FM) : R2 := fun x y H Q => ∃ a b, x = .ref a ∧ y = .ref b ∧ InsA H (G.cl c) a ∧ InsA H (G.cl c) b ∧ spM G 2 g [x, y] H Q E0
theorem own_eq {A : Around} (D : Dn X.prog X.w X.K X.mg X.base G f k ps 2 g) (hm : Meth X.K (G.cl c) "__eq__" f) (sb : Sub X k A) {x y : V} {v u : Value} {Q : VK} (I : Inv X pins σ H s) (rx : RelV x v) (ry : RelV y u) (h : rOwEq G c g x y H Q) :
    wpAny (model X.prog X.w) A (richCompare .Eq v u) (EP X pins σ Q) X.xe s := by
  obtain ⟨a, b, rfl, rfl, ha, hb, q⟩ := h
  cases (show v = Value.ref a from rx)
  cases (show u = Value.ref b from ry)
  obtain ⟨od, J⟩ := ins_at I ha
  obtain ⟨od', J'⟩ := ins_at I hb
  obtain ⟨m, hF⟩ := I.fr
  refine PySem.W.cmp_K (op := .Eq) (tb := .ref (G.cl c)) sb.room.units0 hF I.ok.mod.kin J J'.type (by simp [PySem.W.notFirst]) hm.at_ hm.fn ?_
  refine wpAny_mono (run_own (us := [.ref a, .ref b]) (xs := [.ref a, .ref b]) D sb I (.cons rfl (.cons rfl .nil)) q) (fun w s' z => ?_) fun _ _ x => x
  obtain ⟨z', H', I', rz, qz⟩ := z
  exact SlX.cmpback rz ⟨z', H', I', rz, qz⟩
theorem op_owEq (D : Dn X.prog X.w X.K X.mg X.base G f k ps 2 g) (hm : Meth X.K (G.cl c) "__eq__" f) (hr : Room k X.A) : OpR X (compareOp .Eq) (rOwEq G c g) :=
  fun pins s σ H x y v u Q I rx ry h => own_eq D hm (sub_here hr) I rx ry h
theorem ifBound_objNe {M : Model} {A : Around} {E : Value → Shared → Prop} {K : PySem.W.Frag} {x C : Addr} {ox : Obj} {od : Option Obj} {args : List Value} {Q : Option Value → Shared → Prop} (X : K.In s.heap) (I : PySem.W.InstAt s.heap x ox C od) (hs : PySem.W.findIn K (.ref C) "__ne__" = some (some (.builtin "object.__ne__")))
    (h : wpAny M A (call (.builtin "object.__ne__") (.ref x :: args)) (fun v => Q (some v)) E s) : wpAny M A (callSpecialIfBound? (.ref x) "__ne__" args) Q E s := by
  simp only [callSpecialIfBound?, bindSpecialIfBound?]
  refine wpAny_holding (wpAny_bind (wpAny_bind (wpAny_bind (I.type.here ((PySem.W.looks_findIn X hs).here ?_)))))
  refine wpAny_bind (wpAny_askSetting (wpAny_ite ?_))
  have fin : wpAny M A (call (.builtin "object.__ne__") ([.ref x] ++ args) >>= fun v => pure (some v)) Q E s := wpAny_bind (wpAny_mono h (fun v s' h' => wpAny_pure h') fun _ _ h' => h')
  split
  · exact wpAny_bind (wpAny_of_eq (F.cmp_object.ne.bind _) (wpAny_pure (by exact fin)))
  · exact wpAny_tryCatch (wpAny_bind (wpAny_of_eq (F.cmp_object.ne.bind _) (wpAny_pure (by exact fin))))
theorem objNe_K {M : Model} {A : Around} {E : Value → Shared → Prop} {K : PySem.W.Frag} {x C : Addr} {ox : Obj} {od : Option Obj} {b : Value} {Q : Fin → Shared → Prop} (hu : A.units < cLine) (X : K.In s.heap) (I : PySem.W.InstAt s.heap x ox C od) (hs : PySem.W.findIn K (.ref C) "__eq__" = some (some (.ref f))) (hf : PySem.W.isFn K (.ref f) = true)
    (h : wpAny M A (call (.ref f) [.ref x, b]) (fun v s' => ∃ t, v = .bool t ∧ Q (.done (.ret (.bool (!t)))) s') E s) : wpAny M A (Builtin.«object.__ne__» ⟨[.ref x, b], []⟩) Q E s := by
  unfold Builtin.«object.__ne__»
  refine wpAny_bind (wpAny_pure ?_)
  refine wpAny_bind (wpAny_cRoomFor hu ?_)
  refine wpAny_bind (PySem.W.ifBound_K X I hs hf (wpAny_mono h (fun v s' z => ?_) fun _ _ e => e))
  obtain ⟨t, rfl, q⟩ := z
  refine wpAny_bind (wpAny_truthy_bool ?_)
  exact wpAny_pure q
def rOwNe (G : GC) (c : Nat) (g : FM) : R2 := fun x y H Q => ∃ a b, x = .ref a ∧ y = .ref b ∧ InsA H (G.cl c) a ∧ InsA H (G.cl c) b ∧ spM G 2 g [x, y] H (fun z H' => ∃ t, z = .bl t ∧ Q (.bl (!t)) H') E0
theorem op_owNe (D : Dn X.prog X.w X.K X.mg X.base G f k ps 2 g) (hm : Meth X.K (G.cl c) "__eq__" f) (hne : PySem.W.findIn X.K (.ref (G.cl c)) "__ne__" = some (some (.builtin "object.__ne__"))) (hob : PySem.W.mroIn X.K (G.cl c) (.type "object") = some true) (hr : Room (k + 1) X.A) : OpR X (compareOp .NotEq) (rOwNe G c g) := by
  intro pins s σ H x y v u Q I rx ry h
  obtain ⟨a, b, rfl, rfl, ha, hb, q⟩ := h
  cases (show v = Value.ref a from rx)
  cases (show u = Value.ref b from ry)
  obtain ⟨od, J⟩ := ins_at I ha
  obtain ⟨od', J'⟩ := ins_at I hb
  have kin := I.kIn
  show wpAny (model X.prog X.w) X.A (richCompare .NotEq (.ref a) (.ref b)) (EP X pins σ Q) X.xe s
  have one : wpAny (model X.prog X.w) X.A (tryCompare (.ref a) "__ne__" (.ref b)) (fun r s' => ∃ v, r = some v ∧ EP X pins σ Q v s') X.xe s := by
    unfold tryCompare
    refine wpAny_bind (ifBound_objNe kin J hne (wpAny_call (codeAny_call_builtin F.cmp_object.ne.plain F.cmpEntry_ne (PySem.W.check_slot F.cmpKind_ne F.cmpSplit_ne (J.type.andThen (PySem.W.looks_mroIn kin hob)) (F.cmpArgs_ne _ _)
      (objNe_K (A := X.A.in1) hr.in1.units0 kin J hm.at_ hm.fn (wpAny_mono (run_own (us := [.ref a, .ref b]) (xs := [.ref a, .ref b]) D (sub_in1 hr) I (.cons rfl (.cons rfl .nil)) q) (fun w s' z => ?_) fun _ _ x => x))))))
    obtain ⟨z', H', I', rz, t, ez, qz⟩ := z
    subst ez
    cases (show w = Value.bool t from rz)
    exact ⟨t, rfl, wpAny_pure ⟨_, rfl, ⟨.bl (!t), H', I', rfl, qz⟩⟩⟩
  unfold richCompare
  simp only [oneThing_ref]
  refine wpAny_holding (wpAny_bind (wpAny_cRoomFor hr.units0 ?_))
  refine wpAny_bind (J.type.here (wpAny_bind (J'.type.here ?_)))
  split
  · rename_i q
    simp at q
  · refine wpAny_bind (wpAny_pure ?_)
    simp only [Bool.false_eq_true, if_false]
    refine wpAny_bind (wpAny_mono one (fun r s' z => ?_) fun _ _ e => e)
    obtain ⟨v, rfl, hq⟩ := z
    exact wpAny_pure hq
/-! ### in, not in, a[b], len, bool, truth -/
def rOwIn (G : GC) (c : Nat) (g : FM) (neg : Bool) : R2 := fun y x H Q => ∃ a, x = .ref a ∧ InsA H (G.cl c) a ∧ spM G 2 g [x, y] H (fun z H' => ∃ t, z = .bl t ∧ Q (.bl (match neg with
  | false => t
  | true => !t)) H') E0
theorem op_owIn (D : Dn X.prog X.w X.K X.mg X.base G f k ps 2 g) (hm : Meth X.K (G.cl c) "__contains__" f) (hr : Room k X.A) : OpR X (compareOp .In) (rOwIn G c g false) := by
  intro pins s σ H y x u v Q I ry rx h
  obtain ⟨a, rfl, ha, q⟩ := h
  cases (show v = Value.ref a from rx)
  obtain ⟨od, J⟩ := ins_at I ha
  obtain ⟨m, hF⟩ := I.fr
  refine PySem.W.in_K hF I.ok.mod.kin J hm.at_ hm.fn (wpAny_mono (run_own (us := [.ref a, u]) (xs := [.ref a, y]) D (sub_here hr) I (.cons rfl (.cons ry .nil)) q) (fun w s' z => ?_) fun _ _ x => x)
  obtain ⟨z', H', I', rz, t, ez, qz⟩ := z
  subst ez
  cases (show w = Value.bool t from rz)
  exact wpAny_truthy_bool ⟨.bl t, H', I', rfl, qz⟩
theorem op_owNotIn (D : Dn X.prog X.w X.K X.mg X.base G f k ps 2 g) (hm : Meth X.K (G.cl c) "__contains__" f) (hr : Room k X.A) : OpR X (compareOp .NotIn) (rOwIn G c g true) := by
  intro pins s σ H y x u v Q I ry rx h
  obtain ⟨a, rfl, ha, q⟩ := h
  cases (show v = Value.ref a from rx)
  obtain ⟨od, J⟩ := ins_at I ha
  obtain ⟨m, hF⟩ := I.fr
  refine PySem.W.notIn_K hF I.ok.mod.kin J hm.at_ hm.fn (wpAny_mono (run_own (us := [.ref a, u]) (xs := [.ref a, y]) D (sub_here hr) I (.cons rfl (.cons ry .nil)) q) (fun w s' z => ?_) fun _ _ x => x)
  obtain ⟨z', H', I', rz, t, ez, qz⟩ := z
  subst ez
  cases (show w = Value.bool t from rz)
  exact wpAny_truthy_bool ⟨.bl (!t), H', I', rfl, qz⟩
/-- an operation with an own def, its own class on the left: what the def gives -/
def rOw2 (G : GC) (c : Nat) (g : FM) : R2 := fun x y H Q => ∃ a, x = .ref a ∧ InsA H (G.cl c) a ∧ spM G 2 g [x, y] H Q E0
def rOwI (G : GC) (c : Nat) (g : FM) : R2 := fun x y H Q => ∃ a i, x = .ref a ∧ y = .int i ∧ InsA H (G.cl c) a ∧ spM G 2 g [x, y] H Q E0
theorem op_owBin {op : Operator} (D : Dn X.prog X.w X.K X.mg X.base G f k ps 2 g) (hm : Meth X.K (G.cl c) (PySem.dunder op.info.2) f) (hc : PySem.W.selfFirst X.K (G.cl c) = true) (hr : Room k X.A) : OpR X (binaryOp op) (rOwEq G c g) := by
  intro pins s σ H x y v u Q I rx ry h
  obtain ⟨a, b, rfl, rfl, ha, hb, q⟩ := h
  cases (show v = Value.ref a from rx)
  cases (show u = Value.ref b from ry)
  obtain ⟨od, J⟩ := ins_at I ha
  obtain ⟨od', J'⟩ := ins_at I hb
  obtain ⟨m, hF⟩ := I.fr
  refine PySem.W.binop_K hF I.ok.mod.kin J J'.type hc hm.at_ hm.fn (wpAny_mono (run_own (us := [.ref a, .ref b]) (xs := [.ref a, .ref b]) D (sub_here hr) I (.cons rfl (.cons rfl .nil)) q) (fun w s' z => ?_) fun _ _ x => x)
  obtain ⟨z', H', I', rz, qz⟩ := z
  exact SlX.cmpback rz ⟨z', H', I', rz, qz⟩
theorem op_owBinI {op : Operator} {fo ro : Option Value} (D : Dn X.prog X.w X.K X.mg X.base G f k ps 2 g) (hm : Meth X.K (G.cl c) (PySem.dunder op.info.2) f) (hc : PySem.W.selfFirst X.K (G.cl c) = true) (hrr : PySem.W.findIn X.K (.ref (G.cl c)) (dunderR op.info.2) = some none)
    (h1 : PySem.W.findIn X.K (.type "int") (PySem.dunder op.info.2) = some fo) (h2 : PySem.W.findIn X.K (.type "int") (dunderR op.info.2) = some ro) (hsub : PySem.W.subIn X.K (.type "int") (.ref (G.cl c)) = some false) (hr : Room k X.A) : OpR X (binaryOp op) (rOwI G c g) := by
  intro pins s σ H x y v u Q I rx ry h
  obtain ⟨a, i, rfl, rfl, ha, q⟩ := h
  cases (show v = Value.ref a from rx)
  obtain ⟨t, e⟩ := (show ∃ t, u = Value.int i t from ry)
  subst e
  obtain ⟨od, J⟩ := ins_at I ha
  obtain ⟨m, hF⟩ := I.fr
  refine PySem.W.ksp_binT (T := "int") hF I.ok.mod.kin J rfl hc hm.at_ hm.fn hrr (.inl rfl) h1 h2 hsub (wpAny_mono (run_own (us := [.ref a, .int i t]) (xs := [.ref a, .int i]) D (sub_here hr) I (.cons rfl (.cons ⟨t, rfl⟩ .nil)) q) (fun w s' z => ?_) fun _ _ x => x)
  obtain ⟨z', H', I', rz, qz⟩ := z
  exact SlX.cmpback rz ⟨z', H', I', rz, qz⟩
/-- a[b], a an instance -/
theorem pe_owIx {a b : Expr} {ta tb : TE} {pos : Pos} (D : Dn X.prog X.w X.K X.mg X.base G f k ps 2 g) (hm : Meth X.K (G.cl c) "__getitem__" f) (hfn : PySem.W.fnIn X.K f = true) (hr : Room (k + 1) X.A) (ha : PE X a ta) (hb : PE X b tb)
    (hs : ∀ x i, subscripted b true (.ref x) i = runValue (.builtin "lifetime.subscript" ⟨[.ref x, i], []⟩) := by intro _ _; with_unfolding_all rfl) : PE X (.Subscript a b pos) (tOp (rOw2 G c g) ta tb) := by
  refine ⟨fun pins s σ H Q I h => ?_⟩
  refine Subscript_ (binT ha hb I h fun v u s2 x y H2 I2 rx ry q => ?_)
  obtain ⟨p, rfl, hp, q⟩ := q
  cases (show v = Value.ref p from rx)
  obtain ⟨od, J⟩ := ins_at I2 hp
  obtain ⟨m, hF⟩ := I2.fr
  exact PySem.W.sub_K hF I2.ok.mod.kin J hm.at_ hfn hm.fn (run_own (us := [.ref p, u]) (xs := [.ref p, y]) D (sub_in1 hr) I2 (.cons rfl (.cons ry .nil)) q) (hs p u)
/-- len(a), bool(a) -/
def rOwLen (G : GC) (c : Nat) (g : FM) : List V → Hp → VK → Prop := fun xs H Q => ∃ a, xs = [.ref a] ∧ InsA H (G.cl c) a ∧ spM G 1 g xs H (fun z H' => ∃ i : Int, z = .int i ∧ 0 ≤ i ∧ i < 2 ^ 63 ∧ Q (.int i) H') E0
theorem call_owLen (D : Dn X.prog X.w X.K X.mg X.base G f k ps 1 g) (hm : Meth X.K (G.cl c) "__len__" f) (hr : Room (k + 1) X.A) : CallR X (.builtin "len") (rOwLen G c g) := by
  intro pins s σ H xs us Q I r h
  obtain ⟨a, rfl, ha, q⟩ := h
  obtain rfl := Vals.ref1 r
  obtain ⟨od, J⟩ := ins_at I ha
  obtain ⟨m, hF⟩ := I.fr
  refine PySem.W.len_K hF I.ok.mod.kin J hm.at_ hm.fn (wpAny_mono (run_own (us := [.ref a]) (xs := [.ref a]) D (sub_in1 hr) I (.cons rfl .nil) q) (fun w s' z => ?_) fun _ _ x => x)
  obtain ⟨z', H', I', rz, i, ez, i0, i1, qz⟩ := z
  subst ez
  obtain ⟨t, e⟩ := (show ∃ t, w = Value.int i t from rz)
  subst e
  exact ⟨⟨i0, i1⟩, .int i, H', I'.tok _, ⟨_, rfl⟩, qz⟩
def rOwTru (G : GC) (c : Nat) (g : FM) : V → Hp → (Bool → Hp → Prop) → Prop := fun x H Q => ∃ a, x = .ref a ∧ InsA H (G.cl c) a ∧ spM G 1 g [x] H (fun z H' => ∃ t, z = .bl t ∧ Q t H') E0
theorem tru_at {A : Around} (D : Dn X.prog X.w X.K X.mg X.base G f k ps 1 g) (hm : Meth X.K (G.cl c) "__bool__" f) (sb : Sub X k A) {x : V} {v : Value} {Q : Bool → Hp → Prop} (I : Inv X pins σ H s) (rx : RelV x v) (h : rOwTru G c g x H Q) : wpAny (model X.prog X.w) A (truthy v) (TP X pins σ Q) X.xe s := by
  obtain ⟨a, rfl, ha, q⟩ := h
  cases (show v = Value.ref a from rx)
  obtain ⟨od, J⟩ := ins_at I ha
  obtain ⟨m, hF⟩ := I.fr
  refine PySem.W.truthy_K hF I.ok.mod.kin J hm.at_ hm.fn (wpAny_mono (run_own (us := [.ref a]) (xs := [.ref a]) D sb I (.cons rfl .nil) q) (fun w s' z => ?_) fun _ _ x => x)
  obtain ⟨z', H', I', rz, t, ez, qz⟩ := z
  subst ez
  cases (show w = Value.bool t from rz)
  exact ⟨H', I', qz⟩
theorem tru_ow (D : Dn X.prog X.w X.K X.mg X.base G f k ps 1 g) (hm : Meth X.K (G.cl c) "__bool__" f) (hr : Room k X.A) : TruR X (rOwTru G c g) :=
  fun pins s σ H x v Q I rx h => tru_at D hm (sub_here hr) I rx h
end
section
variable {prog : Program} {w : World} {A : Around} {E : Value → Shared → Prop} {s : Shared}
/-- bool(a) -/
theorem call_boolT {a : Addr} {Q : Value → Shared → Prop} (h : wpAny (model prog w) A.in1.in1 (truthy (.ref a)) (fun b s' => Q (.bool b) s') E s) : wpAny (model prog w) A (call (.type "bool") [.ref a]) Q E s := by
  refine callType_codes (T := "bool") (Bi := Builtin.«object.__init__») (Q₁ := fun r s₁ => s₁.TypeIs r "bool" ∧ Q r s₁) F.called_bool (F.typeCall_bool_1 _) F.entry_object_init ?_ ?_
  · refine codeAny_of_tree ?_
    show wpAny _ A.in1.in1 (do checkBuiltinCall "bool.__new__" ⟨[.type "bool", .ref a], []⟩; again (.builtin "bool.__new__" ⟨[.type "bool", .ref a], []⟩)) _ _ s
    refine wpAny_bind (wpAny_of_eq (F.newCall_bool_1 _) (wpAny_pure ⟨plainId_quiet (by decide +kernel) _, codeAny_builtin F.entry_bool_new ?_⟩))
    rw [Around.under_plainId (by decide +kernel) _]
    have f1 := F.conv_sub_bool
    obtain ⟨hp, g, d, tk, os⟩ := s
    have tr : wpAny (model prog w) A.in1.in1 (truthy (.ref a)) (fun b s' => Q (.bool b) s') E ⟨hp, g, d, tk, os⟩ := h
    repeat (any_goals (first | assumption | (with_reducible refine wpAny_mono tr (fun b s' q => ?_) (fun _ _ e => e)) | wp_step))
    all_goals exact ⟨rfl, by assumption⟩
  · rintro obj s1 ⟨hT, hq⟩
    exact ⟨hT, F.args_object_init_2 obj _, object_init_meets F.called_bool.init.lookup F.called_bool.made (by decide) prog w A.in1 _ s1 ⟨hT, rfl, hq⟩⟩
end
section
variable {X : Cx} {G : GC} {k c : Nat} {f : Addr} {ps : List PySem.Str} {g : FM}
def rOwBool (G : GC) (c : Nat) (g : FM) : List V → Hp → VK → Prop := fun xs H Q => ∃ x, xs = [x] ∧ rOwTru G c g x H fun t H' => Q (.bl t) H'
theorem call_owBool (D : Dn X.prog X.w X.K X.mg X.base G f k ps 1 g) (hm : Meth X.K (G.cl c) "__bool__" f) (hr : Room (k + 2) X.A) : CallR X (.type "bool") (rOwBool G c g) := by
  intro pins s σ H xs us Q I r h
  obtain ⟨x, rfl, h⟩ := h
  obtain ⟨a, rfl, ha, q⟩ := id h
  obtain rfl := Vals.ref1 r
  have hr2 : Room (k + 1) X.A.in1 := Room.in1 (k := k + 1) hr
  refine call_boolT (wpAny_mono (tru_at D hm (A := X.A.in1.in1) ⟨hr2.in1, rfl⟩ I (show RelV (.ref a) (.ref a) from rfl) h) (fun b s' z => ?_) fun _ _ e => e)
  obtain ⟨H', I', q⟩ := z
  exact ⟨.bl b, H', I', rfl, q⟩
end
/-! ### over the mini heap -/
/-- a binary operation, where nothing is raised -/
def Op20 (G : GC) (r : R2) (g : MV → MV → MH → Res MV) : Prop :=
  ∀ (m : List Addr) (h : MH) (H : Hp) (σ : L2.St) (v w : MV) (x y : V) (Q : VK), Sim G m h H → RV G m H v x → RV G m H w y → RP G W0 (RV G) m H σ (g v w h) Q → r x y H Q
section
variable {X : Cx} {G : GC} {e a b : Expr} {fa fb : EM} {am : AM} {pos : Pos} {k c : Nat} {f : Addr} {ps : List PySem.Str} {g : FM}
theorem tOp0_of {r : R2} {q : MV → MV → MH → Res MV} (hr : Op20 G r q) {σ : L2.St} {H : Hp} {Q : VK} (h : tM G W0 (e2 q fa fb) σ H Q) : tOp r (tM G W0 fa) (tM G W0 fb) σ H Q := by
  refine (tMR.bind (Rel := RV G) (k := fun σ v h1 => (fb σ h1).bind fun w h2 => q v w h2) h).imp fun x H1 ⟨m1, h1, v, σm, S1, R1, r1, p1⟩ => ?_
  refine ⟨m1, h1, σm, S1, R1, (RP.bind (Rel := RV G) p1).imp fun y H2 ⟨m2, h2, w, x2, S2, r2, p2⟩ => ?_⟩
  exact hr m2 h2 H2 σ v w x y Q S2 (r1.mono x2.toLe) r2 p2
theorem k_op0 {r : R2} {q : MV → MV → MH → Res MV} (hr : Op20 G r q) (h : PE X e (tOp r (tM G W0 fa) (tM G W0 fb))) : PE X e (tM G W0 (e2 q fa fb)) := h.wk fun _ _ _ p => tOp0_of hr p
theorem kt_op0 {r : R2} {q : MV → MV → MH → Res MV} (hr : Op20 G r q) (h : PT X e (tTest (tOp r (tM G W0 fa) (tM G W0 fb)))) : PT X e (tMT G W0 (cB (e2 q fa fb))) := h.wk fun σ H Q p => tOp0_of (Q := fun x H' => ∃ k, x = .bl k ∧ Q k H') hr (cB_of p)
theorem sp_of {n : Nat} {m : List Addr} {h : MH} {H : Hp} {σ : L2.St} {vs : List MV} {xs : List V} {Q : VK} {E : XK} (S : Sim G m h H) (r : RVs G m H vs xs) (hl : vs.length = n) (p : RP G W0 (RV G) m H σ (g vs h) Q) : spM G n g xs H Q E :=
  ⟨by rw [r.length]; exact hl, m, h, vs, S, r, p.w0⟩
theorem isIns_of {m : List Addr} {h : MH} {H : Hp} {v : MV} {x : V} (S : Sim G m h H) (r : RV G m H v x) (e : isIns c h v = true) : ∃ a, x = .ref a ∧ InsA H (G.cl c) a := by
  unfold isIns at e
  cases v with
  | ref n =>
    dsimp only at e
    cases eg : h.get n with
    | none => rw [eg] at e; cases e
    | some o =>
      rw [eg] at e
      cases o with
      | ins d fs =>
        have ed : d = c := Nat.eq_of_beq_eq_true e
        subst ed
        obtain ⟨a, dx, gs, ea, rfl, eh, pr⟩ := S.ins eg r
        exact ⟨a, rfl, dx, gs, eh⟩
      | lst _ => cases e
      | dct _ _ _ => cases e
  | _ => cases e
theorem rp_asB {m : List Addr} {H : Hp} {σ : L2.St} {r : Res MV} {Q : VK} (p : RP G W0 (RV G) m H σ (r.bind asB) Q) : RP G W0 (RV G) m H σ r fun z H' => ∃ t, z = .bl t ∧ Q (.bl t) H' :=
  (RP.bind (Rel := RV G) p).imp fun y H2 ⟨m2, h2, w, x2, S2, r2, p2⟩ => by
    unfold asB at p2
    cases w with
    | bl t => exact ⟨t, by simpa only [RV] using r2, RP.now p2 S2 (by simp [RV])⟩
    | _ => exact p2.elim
theorem rp_asNB {m : List Addr} {H : Hp} {σ : L2.St} {r : Res MV} {Q : VK} (p : RP G W0 (RV G) m H σ (r.bind asNB) Q) : RP G W0 (RV G) m H σ r fun z H' => ∃ t, z = .bl t ∧ Q (.bl (!t)) H' :=
  (RP.bind (Rel := RV G) p).imp fun y H2 ⟨m2, h2, w, x2, S2, r2, p2⟩ => by
    unfold asNB at p2
    cases w with
    | bl t => exact ⟨t, by simpa only [RV] using r2, RP.now p2 S2 (by simp [RV])⟩
    | _ => exact p2.elim
theorem o_owEq : Op20 G (rOwEq G c g) (qOwB c g) := by
  intro m h H σ v w x y Q S r1 r2 p
  unfold qOwB at p
  cases e : (isIns c h v && isIns c h w) with
  | false => rw [e] at p; exact p.elim
  | true =>
    rw [e] at p
    obtain ⟨e1, e2⟩ := Bool.and_eq_true_iff.mp e
    obtain ⟨a, rfl, ha⟩ := isIns_of S r1 e1
    obtain ⟨b, rfl, hb⟩ := isIns_of S r2 e2
    exact ⟨a, b, rfl, rfl, ha, hb, sp_of S (.cons r1 (.cons r2 .nil)) rfl p⟩
theorem o_owNe : Op20 G (rOwNe G c g) (qOwNe c g) := by
  intro m h H σ v w x y Q S r1 r2 p
  unfold qOwNe qOwB at p
  cases e : (isIns c h v && isIns c h w) with
  | false => rw [e] at p; exact p.elim
  | true =>
    rw [e] at p
    obtain ⟨e1, e2⟩ := Bool.and_eq_true_iff.mp e
    obtain ⟨a, rfl, ha⟩ := isIns_of S r1 e1
    obtain ⟨b, rfl, hb⟩ := isIns_of S r2 e2
    exact ⟨a, b, rfl, rfl, ha, hb, sp_of S (.cons r1 (.cons r2 .nil)) rfl (rp_asNB p)⟩
theorem o_ow2 : Op20 G (rOw2 G c g) (qOw2 c g) := by
  intro m h H σ v w x y Q S r1 r2 p
  unfold qOw2 at p
  cases e : isIns c h v with
  | false => rw [e] at p; exact p.elim
  | true =>
    rw [e] at p
    obtain ⟨a, rfl, ha⟩ := isIns_of S r1 e
    exact ⟨a, rfl, ha, sp_of S (.cons r1 (.cons r2 .nil)) rfl p⟩
theorem o_owI : Op20 G (rOwI G c g) (qOwI c g) := by
  intro m h H σ v w x y Q S r1 r2 p
  cases w with
  | int i =>
    unfold qOwI qOw2 at p
    dsimp only at p
    cases e : isIns c h v with
    | false => rw [e] at p; exact p.elim
    | true =>
      rw [e] at p
      obtain ⟨a, rfl, ha⟩ := isIns_of S r1 e
      have hy : y = .int i := by simpa only [RV] using r2
      exact ⟨a, i, rfl, hy, ha, sp_of S (.cons r1 (.cons r2 .nil)) rfl p⟩
  | _ => exact p.elim
theorem o_owIn (neg : Bool) : Op20 G (rOwIn G c g neg) (qOwIn neg c g) := by
  intro m h H σ w v y x Q S r2 r1 p
  unfold qOwIn qOw2 at p
  cases e : isIns c h v with
  | false => rw [e] at p; exact p.elim
  | true =>
    rw [e] at p
    obtain ⟨a, rfl, ha⟩ := isIns_of S r1 e
    cases neg with
    | false => exact ⟨a, rfl, ha, sp_of S (.cons r1 (.cons r2 .nil)) rfl (rp_asB p)⟩
    | true => exact ⟨a, rfl, ha, sp_of S (.cons r1 (.cons r2 .nil)) rfl (rp_asNB p)⟩
/-! ### the rules -/
theorem x_oeq (D : Dn X.prog X.w X.K X.mg X.base G f k ps 2 g) (hm : Meth G.K (G.cl c) "__eq__" f) (hr : Room k X.A) (ha : PE X a (tM G W0 fa)) (hb : PE X b (tM G W0 fb)) (hK : X.K = G.K := by rfl) (hb2 : behindInMarks .Eq b = false := by first | exact nomark _ | rfl) : PE X (.Compare a [.Eq] [b] pos) (tM G W0 (e2 (qOwB c g) fa fb)) := k_op0 o_owEq (pe_cmpR (op_owEq D (hK ▸ hm) hr) ha hb hb2)
theorem t_oeq (D : Dn X.prog X.w X.K X.mg X.base G f k ps 2 g) (hm : Meth G.K (G.cl c) "__eq__" f) (hr : Room k X.A) (ha : PE X a (tM G W0 fa)) (hb : PE X b (tM G W0 fb)) (hK : X.K = G.K := by rfl) (hb2 : behindInMarks .Eq b = false := by first | exact nomark _ | rfl) : PT X (.Compare a [.Eq] [b] pos) (tMT G W0 (cB (e2 (qOwB c g) fa fb))) := kt_op0 o_owEq (pt_cmpR (op_owEq D (hK ▸ hm) hr) ha hb hb2)
/-- the class takes != from object -/
structure NeO (K : PySem.W.Frag) (C : Addr) : Prop where
  ne : PySem.W.findIn K (.ref C) "__ne__" = some (some (.builtin "object.__ne__"))
  ob : PySem.W.mroIn K C (.type "object") = some true
theorem x_one (D : Dn X.prog X.w X.K X.mg X.base G f k ps 2 g) (hm : Meth G.K (G.cl c) "__eq__" f) (hn : NeO G.K (G.cl c)) (hr : Room (k + 1) X.A) (ha : PE X a (tM G W0 fa)) (hb : PE X b (tM G W0 fb)) (hK : X.K = G.K := by rfl) (hb2 : behindInMarks .NotEq b = false := by first | exact nomark _ | rfl) : PE X (.Compare a [.NotEq] [b] pos) (tM G W0 (e2 (qOwNe c g) fa fb)) := k_op0 o_owNe (pe_cmpR (op_owNe D (hK ▸ hm) (hK ▸ hn.ne) (hK ▸ hn.ob) hr) ha hb hb2)
theorem t_one (D : Dn X.prog X.w X.K X.mg X.base G f k ps 2 g) (hm : Meth G.K (G.cl c) "__eq__" f) (hn : NeO G.K (G.cl c)) (hr : Room (k + 1) X.A) (ha : PE X a (tM G W0 fa)) (hb : PE X b (tM G W0 fb)) (hK : X.K = G.K := by rfl) (hb2 : behindInMarks .NotEq b = false := by first | exact nomark _ | rfl) : PT X (.Compare a [.NotEq] [b] pos) (tMT G W0 (cB (e2 (qOwNe c g) fa fb))) := kt_op0 o_owNe (pt_cmpR (op_owNe D (hK ▸ hm) (hK ▸ hn.ne) (hK ▸ hn.ob) hr) ha hb hb2)
theorem x_oin (D : Dn X.prog X.w X.K X.mg X.base G f k ps 2 g) (hm : Meth G.K (G.cl c) "__contains__" f) (hr : Room k X.A) (ha : PE X a (tM G W0 fa)) (hb : PE X b (tM G W0 fb)) (hK : X.K = G.K := by rfl) (hb2 : behindInMarks .In b = false := by rfl) : PE X (.Compare a [.In] [b] pos) (tM G W0 (e2 (qOwIn false c g) fa fb)) := k_op0 (o_owIn false) (pe_cmpR (op_owIn D (hK ▸ hm) hr) ha hb hb2)
theorem t_oin (D : Dn X.prog X.w X.K X.mg X.base G f k ps 2 g) (hm : Meth G.K (G.cl c) "__contains__" f) (hr : Room k X.A) (ha : PE X a (tM G W0 fa)) (hb : PE X b (tM G W0 fb)) (hK : X.K = G.K := by rfl) (hb2 : behindInMarks .In b = false := by rfl) : PT X (.Compare a [.In] [b] pos) (tMT G W0 (cB (e2 (qOwIn false c g) fa fb))) := kt_op0 (o_owIn false) (pt_cmpR (op_owIn D (hK ▸ hm) hr) ha hb hb2)
theorem x_onin (D : Dn X.prog X.w X.K X.mg X.base G f k ps 2 g) (hm : Meth G.K (G.cl c) "__contains__" f) (hr : Room k X.A) (ha : PE X a (tM G W0 fa)) (hb : PE X b (tM G W0 fb)) (hK : X.K = G.K := by rfl) (hb2 : behindInMarks .NotIn b = false := by rfl) : PE X (.Compare a [.NotIn] [b] pos) (tM G W0 (e2 (qOwIn true c g) fa fb)) := k_op0 (o_owIn true) (pe_cmpR (op_owNotIn D (hK ▸ hm) hr) ha hb hb2)
theorem t_onin (D : Dn X.prog X.w X.K X.mg X.base G f k ps 2 g) (hm : Meth G.K (G.cl c) "__contains__" f) (hr : Room k X.A) (ha : PE X a (tM G W0 fa)) (hb : PE X b (tM G W0 fb)) (hK : X.K = G.K := by rfl) (hb2 : behindInMarks .NotIn b = false := by rfl) : PT X (.Compare a [.NotIn] [b] pos) (tMT G W0 (cB (e2 (qOwIn true c g) fa fb))) := kt_op0 (o_owIn true) (pt_cmpR (op_owNotIn D (hK ▸ hm) hr) ha hb hb2)
/-- what a op int asks of the class -/
structure BinI (K : PySem.W.Frag) (C : Addr) (op : Operator) : Prop where
  sf : PySem.W.selfFirst K C = true
  rr : PySem.W.findIn K (.ref C) (dunderR op.info.2) = some none
  h1 : ∃ fo, PySem.W.findIn K (.type "int") (PySem.dunder op.info.2) = some fo
  h2 : ∃ ro, PySem.W.findIn K (.type "int") (dunderR op.info.2) = some ro
  su : PySem.W.subIn K (.type "int") (.ref C) = some false
theorem x_obin {op : Operator} (D : Dn X.prog X.w X.K X.mg X.base G f k ps 2 g) (hm : Meth G.K (G.cl c) (PySem.dunder op.info.2) f) (hc : PySem.W.selfFirst G.K (G.cl c) = true) (hr : Room k X.A) (ha : PE X a (tM G W0 fa)) (hb : PE X b (tM G W0 fb)) (hK : X.K = G.K := by rfl) : PE X (.BinOp a op b pos) (tM G W0 (e2 (qOwB c g) fa fb)) := k_op0 o_owEq (pe_op (op_owBin D (hK ▸ hm) (hK ▸ hc) hr) ha hb)
theorem x_obinI {op : Operator} (D : Dn X.prog X.w X.K X.mg X.base G f k ps 2 g) (hm : Meth G.K (G.cl c) (PySem.dunder op.info.2) f) (hc : BinI G.K (G.cl c) op) (hr : Room k X.A) (ha : PE X a (tM G W0 fa)) (hb : PE X b (tM G W0 fb)) (hK : X.K = G.K := by rfl) : PE X (.BinOp a op b pos) (tM G W0 (e2 (qOwI c g) fa fb)) := by
  obtain ⟨sf, rr, ⟨fo, h1⟩, ⟨ro, h2⟩, su⟩ := hc
  exact k_op0 o_owI (pe_op (op_owBinI D (hK ▸ hm) (hK ▸ sf) (hK ▸ rr) (hK ▸ h1) (hK ▸ h2) (hK ▸ su) hr) ha hb)
theorem x_oix (D : Dn X.prog X.w X.K X.mg X.base G f k ps 2 g) (hm : Meth G.K (G.cl c) "__getitem__" f) (hfn : PySem.W.fnIn G.K f = true) (hr : Room (k + 1) X.A) (ha : PE X a (tM G W0 fa)) (hb : PE X b (tM G W0 fb)) (hK : X.K = G.K := by rfl)
    (hs : ∀ x i, subscripted b true (.ref x) i = runValue (.builtin "lifetime.subscript" ⟨[.ref x, i], []⟩) := by intro _ _; with_unfolding_all rfl) : PE X (.Subscript a b pos) (tM G W0 (e2 (qOw2 c g) fa fb)) := k_op0 o_ow2 (pe_owIx D (hK ▸ hm) (hK ▸ hfn) hr ha hb hs)
/-- len(a), bool(a) of an instance -/
theorem k_cb0 {q : FM} {r : List V → Hp → VK → Prop} (hc : ∀ (m : List Addr) (h : MH) (H : Hp) (σ : L2.St) (vs : List MV) (xs : List V) (Q : VK), Sim G m h H → RVs G m H vs xs → RP G W0 (RV G) m H σ (q vs h) Q → r xs H Q) (h : PE X e (tCB r (tMA G W0 am))) : PE X e (tM G W0 (eA q am)) := h.wk fun σ H Q p => by
  refine (eA_of p).imp fun xs H1 ⟨m, h, vs, S, r, p⟩ => ?_
  exact hc m h H1 σ vs xs Q S r p
theorem c_owLen (m : List Addr) (h : MH) (H : Hp) (σ : L2.St) (vs : List MV) (xs : List V) (Q : VK) (S : Sim G m h H) (r : RVs G m H vs xs) (p : RP G W0 (RV G) m H σ (qOwLen c g vs h) Q) : rOwLen G c g xs H Q := by
  unfold qOwLen qOw1 at p
  match vs, r, p with
  | [v], r, p =>
    simp only [RVs] at r
    obtain ⟨x, ys, rfl, r1, rfl⟩ := r
    dsimp only at p
    cases e : isIns c h v with
    | false => rw [e] at p; exact p.elim
    | true =>
      rw [e] at p
      obtain ⟨a, rfl, ha⟩ := isIns_of S r1 e
      refine ⟨a, rfl, ha, sp_of (σ := σ) S (.cons r1 .nil) rfl ((RP.bind (Rel := RV G) p).imp fun y H2 ⟨m2, h2, w, x2, S2, r2, p2⟩ => ?_)⟩
      cases w with
      | int i =>
        dsimp only at p2
        cases e2 : (decide (0 ≤ i) && decide (i < 9223372036854775808)) with
        | false => rw [e2] at p2; exact p2.elim
        | true =>
          rw [e2] at p2
          obtain ⟨h1, h2⟩ := Bool.and_eq_true_iff.mp e2
          exact ⟨i, by simpa only [RV] using r2, of_decide_eq_true h1, of_decide_eq_true h2, RP.now p2 S2 (by simp [RV])⟩
      | _ => exact p2.elim
theorem c_owBool (m : List Addr) (h : MH) (H : Hp) (σ : L2.St) (vs : List MV) (xs : List V) (Q : VK) (S : Sim G m h H) (r : RVs G m H vs xs) (p : RP G W0 (RV G) m H σ (qOwBool c g vs h) Q) : rOwBool G c g xs H Q := by
  unfold qOwBool qOw1 at p
  match vs, r, p with
  | [v], r, p =>
    simp only [RVs] at r
    obtain ⟨x, ys, rfl, r1, rfl⟩ := r
    dsimp only at p
    cases e : isIns c h v with
    | false => rw [e] at p; exact p.elim
    | true =>
      rw [e] at p
      obtain ⟨a, rfl, ha⟩ := isIns_of S r1 e
      exact ⟨.ref a, rfl, a, rfl, ha, sp_of (σ := σ) S (.cons r1 .nil) rfl (rp_asB p)⟩
theorem x_olen {x : PySem.Str} {p : Pos} {es : List Expr} (hx : x = "len") (D : Dn X.prog X.w X.K X.mg X.base G f k ps 1 g) (hm : Meth G.K (G.cl c) "__len__" f) (hr : Room (k + 1) X.A) (hmg : X.mg "len" = none) (ha : PA X (e :: es) (tMA G W0 am)) (hK : X.K = G.K := by rfl) (hg : Gl X "len" := by rfl)
    (he : starEach (e :: es) X.env = (false, eval e X.env) :: starEach es X.env := by rfl) (hpl : (backTo pos (starEach es X.env)).any (·.1) = false := by rfl) : PE X (.Call (.Name x p) (e :: es) [] pos) (tM G W0 (eA (qOwLen c g) am)) := by
  subst hx
  exact k_cb0 c_owLen (pe_callB (call_owLen D (hK ▸ hm) hr) hg hmg (by decide +kernel) ha (by decide) (by decide) he hpl)
theorem x_obool {x : PySem.Str} {p : Pos} {es : List Expr} (hx : x = "bool") (D : Dn X.prog X.w X.K X.mg X.base G f k ps 1 g) (hm : Meth G.K (G.cl c) "__bool__" f) (hr : Room (k + 2) X.A) (hmg : X.mg "bool" = none) (ha : PA X (e :: es) (tMA G W0 am)) (hK : X.K = G.K := by rfl) (hg : Gl X "bool" := by rfl)
    (he : starEach (e :: es) X.env = (false, eval e X.env) :: starEach es X.env := by rfl) (hpl : (backTo pos (starEach es X.env)).any (·.1) = false := by rfl) : PE X (.Call (.Name x p) (e :: es) [] pos) (tM G W0 (eA (qOwBool c g) am)) := by
  subst hx
  exact k_cb0 c_owBool (pe_callTy (call_owBool D (hK ▸ hm) hr) hg hmg (by decide +kernel) ha (by decide) (by decide) he hpl)
/-- an instance as a test -/
theorem t_otru (D : Dn X.prog X.w X.K X.mg X.base G f k ps 1 g) (hm : Meth G.K (G.cl c) "__bool__" f) (hr : Room k X.A) (h : PE X e (tM G W0 fa)) (hK : X.K = G.K := by rfl) (he : ∀ whole, isTrue e X.env whole = (do let v ← whole; standAt e.pos; holding [v] (truthy v)) := by intro _; rfl) : PT X e (tMT G W0 (cOw c g fa)) := by
  refine (pt_truthR h (tru_ow D (hK ▸ hm) hr) he).wk fun σ H Q p => ?_
  refine (tMR.bind (Rel := RV G) (k := fun _ v h1 => (qOw1 c g v h1).bind qB) p).imp fun x H1 ⟨m1, h1, v, σm, S1, R1, r1, p1⟩ => ?_
  unfold qOw1 at p1
  cases e : isIns c h1 v with
  | false => rw [e] at p1; exact p1.elim
  | true =>
    rw [e] at p1
    obtain ⟨a, rfl, ha⟩ := isIns_of S1 r1 e
    refine ⟨a, rfl, ha, sp_of (σ := σ) S1 (.cons r1 .nil) rfl ((RP.bind (Rel := RV G) p1).imp fun y H2 ⟨m2, h2, w, x2, S2, r2, p2⟩ => ?_)⟩
    unfold qB at p2
    cases w with
    | bl t => exact ⟨t, by simpa only [RV] using r2, RP.now (y := t) p2 S2 rfl⟩
    | _ => exact p2.elim
/-! ### a property; an instance called -/
theorem x_prop {mn : PySem.Str} {p : Addr} (D : Dn X.prog X.w X.K X.mg X.base G f k ps 1 g) (hc : Cls G.K (G.cl c)) (hp : PropOf G.K (G.cl c) mn p f) (hr : Room (k + 1) X.A) (h : PE X e (tM G W0 fa)) (hK : X.K = G.K := by rfl) (hb : attributeBase e mn X.env (eval e X.env) = eval e X.env := by rfl) : PE X (.Attribute e mn pos) (tM G W0 (e1 (qOw1 c g) fa)) := by
  obtain ⟨fd, F, bi⟩ := D.ex
  refine (pe_prop h (hK ▸ hc) (hK ▸ hp) F hr bi .nil pass0 hb).wk fun σ H Q q => ?_
  refine (tMR.bind (Rel := RV G) (k := fun _ v h1 => qOw1 c g v h1) q).imp fun x H1 ⟨m1, h1, v, σm, S1, R1, r1, p1⟩ => ?_
  unfold qOw1 at p1
  cases e : isIns c h1 v with
  | false => rw [e] at p1; exact p1.elim
  | true =>
    rw [e] at p1
    obtain ⟨a, rfl, dx, fs, ha⟩ := isIns_of S1 r1 e
    exact ⟨a, dx, fs, rfl, ha, sp_of (σ := σ) S1 (.cons r1 .nil) rfl p1⟩
end
end KA

set_option Elab.async false
set_option autoImplicit false
set_option linter.all false
set_option maxRecDepth 100000
set_option maxHeartbeats 1600000
/-! KOwn2: an instance called; list(d.items()); (*a, b). -/
namespace KA
open PySem PySem.Spec PyProof.Rows L2
section
variable {G : GC} {m : List Addr} {h : MH} {H H' : Hp}
/-- the abstract heap has grown beside -/
theorem ex_ext (e : ∀ b o, H b = some o → H' b = some o) : Ex G m H m H' :=
  ⟨⟨⟨[], by simp⟩, fun b xs q => e _ _ q, fun b o xs q => e _ _ q⟩, fun b o u q => e _ _ q, fun b h1 h2 => absurd h1 h2, fun b _ hb => by
    cases q : H b with
    | none => exact absurd q hb
    | some o => exact e _ _ q⟩
theorem Sim.ext' (S : Sim G m h H) (e : ∀ b o, H b = some o → H' b = some o) : Sim G m h H' := by
  refine ⟨S.len, S.nd, fun i u q => ?_, fun a ha => ?_⟩
  · obtain ⟨a, ea, r⟩ := S.at_ i u q
    refine ⟨a, ea, ?_⟩
    have ha := S.trk a (List.mem_of_getElem? ea)
    cases q2 : H a with
    | none => exact absurd q2 ha
    | some o =>
      rw [q2] at r
      rw [e a o q2]
      exact r.mono (ex_ext e).toLe
  · have ha := S.trk a ha
    cases q2 : H a with
    | none => exact absurd q2 ha
    | some o => rw [e a o q2]; exact fun z => nomatch z
end
section
variable {X : Cx} {G : GC} {W : XW} {e : Expr} {es : List Expr} {fa : EM} {am : AM} {pos p apos cpos : Pos}
/-! ### list(d.items()) -/
theorem k_listItems (h : PE X e (LiI.tListItems (tM G W fa))) : PE X e (tM G W (e1 qListItems fa)) := h.wk fun σ H Q q => by
  refine (tMR.bind (Rel := RV G) (k := fun _ v h1 => qListItems v h1) q).imp fun x H1 ⟨m1, h1, v, σm, S1, R1, r1, p1⟩ => ?_
  unfold qListItems at p1
  cases v with
  | ref n =>
    dsimp only at p1
    cases eg : h1.get n with
    | none => rw [eg] at p1; exact p1.elim
    | some o =>
      rw [eg] at p1
      cases o with
      | dct tk lk kvs =>
        dsimp only at p1
        cases tk with
        | true => exact p1.elim
        | false =>
          cases lk with
          | true => exact p1.elim
          | false =>
            obtain ⟨a, w, ea, rfl, dr, eh⟩ := S1.dct eg r1
            obtain ⟨ps, rfl, pr⟩ := dr
            have eh' : H1 a = some (.dK ps) := eh
            refine ⟨a, ps, rfl, eh', fun H' l ts ext hl hts hnl el hp => ?_⟩
            have x0 : Ex G m1 H1 m1 (fun b => if b = l then none else H' b) := ex_ext fun b o q => by
              have ne : b ≠ l := fun z => by rw [z, hl] at q; cases q
              show (if b = l then none else H' b) = some o
              rw [if_neg ne]
              exact ext b o q
            have S0 : Sim G m1 h1 (fun b => if b = l then none else H' b) := S1.ext' fun b o q => by
              have ne : b ≠ l := fun z => by rw [z, hl] at q; cases q
              show (if b = l then none else H' b) = some o
              rw [if_neg ne]
              exact ext b o q
            have hl0 : (fun b => if b = l then none else H' b) l = none := by simp
            have eH : upd (fun b => if b = l then none else H' b) l (.lst (ts.map V.ref)) = H' := by
              funext b
              by_cases c : b = l
              · rw [c, upd_same, el]
              · rw [upd_ne c]
                show (if b = l then none else H' b) = H' b
                rw [if_neg c]
            have xl : Ex G m1 H1 m1 H' := ex_ext ext
            have rvs : RVs G m1 H' (kvs.map fun p => MV.tup [p.1, p.2]) (ts.map V.ref) := by
              clear el hnl eH hl0 S0 x0 p1
              have go : ∀ {kvs : List (MV × MV)} {ps : List (Key × V)} {ts : List Addr}, Paired (fun p q => KR p.1 q.1 ∧ RV G m1 H1 p.2 q.2) kvs ps → Paired (fun (t : Addr) (q : Key × V) => H' t = some (.tup [kV q.1, q.2])) ts ps → RVs G m1 H' (kvs.map fun p => MV.tup [p.1, p.2]) (ts.map V.ref) := by
                intro kvs ps ts pr
                induction pr generalizing ts with
                | nil => intro hp; cases hp; simp only [List.map_nil, RVs]
                | cons r t ih =>
                  intro hp
                  cases hp with
                  | cons r2 t2 =>
                    simp only [List.map_cons, RVs]
                    refine ⟨_, _, rfl, ?_, ih t2⟩
                    simp only [RV]
                    exact ⟨_, _, rfl, r2, .cons (kr_rv r.1) (.cons (r.2.mono xl.toLe) .nil)⟩
              exact go pr hp
            have x1 : Ex G m1 (fun b => if b = l then none else H' b) (m1 ++ [l]) (upd (fun b => if b = l then none else H' b) l (.lst (ts.map V.ref))) := (Ex.upd l _ (plain_none hl0) (.inr hl0)).app hl0
            have S2 := S0.push hl0 (u := .lst (kvs.map fun p => MV.tup [p.1, p.2])) (o := .lst (ts.map V.ref)) ⟨_, rfl, by
              rw [eH]
              exact rvs.mono ⟨⟨[l], rfl⟩, fun _ _ q => q, fun _ _ _ q => q⟩⟩
            have x2 := x0.trans x1
            rw [eH] at S2 x2
            refine p1 _ _ (.ref l) x2 S2 ?_
            simp only [RV]
            exact ⟨l, by rw [← S1.len]; simp, rfl⟩
      | _ => exact p1.elim
  | _ => exact p1.elim
theorem x_listItems (hm : X.mg "list" = none) (h : PE X e (tM G W fa)) (hc : X.calm = true := by rfl) (hg : Gl X "list" := by rfl) (hv : bootBuiltins "list" = some (.type "list") := by decide +kernel) (hbase : attributeBase e "items" X.env (eval e X.env) = eval e X.env := by rfl) (hline : (apos.endLine == cpos.line) = true := by rfl)
    (hs : starEach [.Call (.Attribute e "items" apos) [] [] cpos] X.env = (false, eval (.Call (.Attribute e "items" apos) [] [] cpos) X.env) :: starEach [] X.env := by rfl) :
    PE X (.Call (.Name "list" p) [.Call (.Attribute e "items" apos) [] [] cpos] [] pos) (tM G W (e1 qListItems fa)) := k_listItems (LiI.pe_listItems hc h hg hm hv hbase hline hs)
/-! ### (*a, b) -/
theorem ka_star {K : PySem.W.Frag} (h : PA X es (StX.tStar K (tM G W fa) (tMA G W am))) : PA X es (tMA G W (aStar fa am)) := h.wk fun σ H Q q => by
  refine (tMR.bind (Rel := RV G) (k := fun σ v h1 => match v with
  | .tup xs => (am σ h1).bind fun ys h2 => .ok (xs ++ ys) h2
  | _ => .bad) q).imp fun x H1 ⟨m1, h1, v, σm, S1, R1, r1, p1⟩ => ?_
  cases v with
  | tup xs =>
    simp only [RV] at r1
    obtain ⟨a, ys, rfl, ha, rs⟩ := r1
    refine ⟨a, ys, rfl, .inl (SqT.of ha), m1, h1, σm, S1, R1, (RP.bind (Rel := RVs G) p1).imp fun zs H2 ⟨m2, h2, ws, x2, S2, r2, p2⟩ => ?_⟩
    exact RP.now p2 S2 ((rs.mono x2.toLe).append r2)
  | _ => exact p1.elim
theorem a_star {ps : Pos} (he : PE X e (tM G W fa)) (hr : PA X es (tMA G W am)) (hs : starEach (.Starred e ps :: es) X.env = (true, eval e X.env) :: starEach es X.env := by rfl) : PA X (.Starred e ps :: es) (tMA G W (aStar fa am)) := ka_star (StX.pa_star he hr hs)
end
/-! ### o(a, ..) -/
section
variable {X : Cx} {G : GC} {e fe : Expr} {es : List Expr} {fa : EM} {am : AM} {pos : Pos} {k c np : Nat} {f : Addr} {ps : List PySem.Str} {g : FM}
theorem fnR_of {P : Program} {w : World} {K : PySem.W.Frag} {mg : PySem.Str → Option Value} {base : Heap} (D : Dn P w K mg base G f k ps np g) : FnR P w K mg base CX0 k f (spM G np g) := by
  obtain ⟨fd, F, hb⟩ := D.ex
  intro A outer s H us vs Q E hr e0 r h
  have hl := F.len _ _ _ _ h
  refine F.run A outer s H ⟨us, []⟩ us vs Q E hr e0 ?_ r h
  have := hb s us (PySem.W.Frag.In.keeps e0.mod.kin fun b o q => (e0.bs b o q).1) (by rw [← hl, r.length]; simp)
  simpa using this
theorem x_ocall (D : Dn X.prog X.w X.K X.mg X.base G f k ps np g) (hc : StX.CallO G.K (G.cl c) f) (hr : Room k X.A) (hl : ∀ σ h vs h', am σ h = .ok vs h' → vs.length + 1 = np) (hf : PE X fe (tM G W0 fa)) (ha : PA X (e :: es) (tMA G W0 am)) (hK : X.K = G.K := by rfl)
    (ht : eval (.Call fe (e :: es) [] pos) X.env = (do callWith pos (← eval fe X.env) [] (backTo pos (starEach (e :: es) X.env)) (backToKw pos (keywordEach [] X.env))) := by rfl)
    (he : starEach (e :: es) X.env = (false, eval e X.env) :: starEach es X.env := by rfl) (hpl : (backTo pos (starEach es X.env)).any (·.1) = false := by rfl) : PE X (.Call fe (e :: es) [] pos) (tM G W0 (eCallO c g fa am)) := by
  refine (StX.pe_callO (C := G.cl c) (sp := spM G np g) (E := E0) hf (hK ▸ hc) (fnR_of D) hr pass0 ha ht he hpl).wk fun σ H Q q => ?_
  refine (tMR.bind (Rel := RV G) (k := fun σ x h1 => match x with
  | .ref n => (am σ h1).bind fun vs h2 => (match isIns c h2 (.ref n) with
    | true => g (.ref n :: vs) h2
    | false => .bad)
  | _ => .bad) q).imp fun x H1 ⟨m1, h1, v, σm, S1, R1, r1, p1⟩ => ?_
  cases v with
  | ref n =>
    dsimp only at p1
    have r1' := r1
    simp only [RV] at r1'
    obtain ⟨a, _, rfl⟩ := r1'
    refine ⟨a, rfl, m1, h1, σm, S1, R1, ?_⟩
    cases eb : am σm h1 with
    | bad => rw [eb] at p1; exact p1.elim
    | exc c v h' => rw [eb] at p1; exact p1
    | ok vs h2 =>
      rw [eb] at p1
      intro m2 H2 xs x2 S2 r2
      have p2 := RP.later (G := G) p1 x2
      have p3 : RP G W0 (RV G) m2 H2 σ (match isIns c h2 (.ref n) with
        | true => g (.ref n :: vs) h2
        | false => .bad) Q := p2
      cases ei : isIns c h2 (.ref n) with
      | false => rw [ei] at p3; exact p3.elim
      | true =>
        rw [ei] at p3
        have r1m := r1.mono x2.toLe
        obtain ⟨a2, e2, ha⟩ := isIns_of S2 r1m ei
        cases e2
        exact ⟨.inr ha, sp_of (σ := σ) S2 (.cons r1m r2) (by simpa using hl _ _ _ _ eb) p3⟩
  | _ => exact p1.elim
end
end KA

set_option Elab.async false
set_option autoImplicit false
set_option linter.all false
set_option maxRecDepth 100000
set_option maxHeartbeats 1600000
/-! KOwn3: list(range(n)); list(f(..)) of a generator def. -/
namespace KA
open PySem PySem.Spec PyProof.Rows L2
section
variable {X : Cx} {G : GC} {W : XW} {e : Expr} {fa : EM} {p p2 pos pos2 : Pos}
theorem rvs_range {m : List Addr} {H : Hp} (n : Int) : RVs G m H ((List.range n.toNat).map fun i : Nat => MV.int (i : Int)) (rgV 0 n) := by
  unfold rgV
  rw [Int.sub_zero]
  have go : ∀ l : List Nat, RVs G m H (l.map fun i : Nat => MV.int (i : Int)) (l.map fun i : Nat => V.int (0 + (i : Nat))) := by
    intro l
    induction l with
    | nil => simp only [List.map_nil, RVs]
    | cons a l ih =>
      simp only [List.map_cons, RVs]
      exact ⟨_, _, rfl, by simp only [RV]; rw [Int.zero_add], ih⟩
  exact go _
theorem k_listRg (h : PE X e (tLstRg (tRg1 (tM G W fa)))) : PE X e (tM G W (e1 qListRg fa)) := h.wk fun σ H Q q => by
  refine (tMR.bind (Rel := RV G) (k := fun _ v h1 => qListRg v h1) q).imp fun x H1 ⟨m1, h1, v, σm, S1, R1, r1, p1⟩ => ?_
  unfold qListRg at p1
  cases v with
  | int n =>
    dsimp only at p1
    have ex : x = .int n := by simpa only [RV] using r1
    cases c : (decide (0 ≤ n) && decide (n ≤ 16777216)) with
    | false => rw [c] at p1; exact p1.elim
    | true =>
      rw [c] at p1
      obtain ⟨c1, c2⟩ := Bool.and_eq_true_iff.mp c
      exact ⟨n, ex, RgOk.of_le (by omega) (of_decide_eq_true c2) (by omega) (of_decide_eq_true c1), fun l hl => RP.newLst p1 S1 (rvs_range n) hl⟩
  | _ => exact p1.elim
theorem x_listRg (hm : X.mg "list" = none) (hm2 : X.mg "range" = none) (h : PE X e (tM G W fa)) (hc : X.calm = true := by rfl) (hg : Gl X "list" := by rfl) (hg2 : Gl X "range" := by rfl)
    (na : starEach [e] X.env = (false, eval e X.env) :: starEach [] X.env := by rfl) (na2 : starEach [.Call (.Name "range" p2) [e] [] pos2] X.env = (false, eval (.Call (.Name "range" p2) [e] [] pos2) X.env) :: starEach [] X.env := by rfl) :
    PE X (.Call (.Name "list" p) [.Call (.Name "range" p2) [e] [] pos2] [] pos) (tM G W (e1 qListRg fa)) := k_listRg (pe_listRg hc hg hm (prg_1 hg2 hm2 h na) na2)
end
/-! ### yield from a list -/
section
variable {prog : Program} {w : World} {A : Around} {E : Value → Shared → Prop} {s : Shared}
theorem sp_lst_item {it l : Addr} {i : Nat} {items : Array Value} {x : Value} {Q : Option Value → Shared → Prop} (hi : s.heap.IsListIter it l i) (hL : s.heap.IsList l items) (hx : items[i]? = some x)
    (q : ∀ h', h'.IsListIter it l (i + 1) → Heap.SameBut it s.heap h' → Q (some x) { s with heap := h' }) : wpAny (model prog w) A (callSpecial? (.ref it) "__next__") Q E s := by
  obtain ⟨ob, eo, ec, ed⟩ := id hi
  obtain ⟨ol, el, _, nl, dl⟩ := hL
  refine wpAny_callSpecial?_slot (name := Str.ofString "__next__") hi.typeIs slot_listiter_next (wpAny_call_entry slot_listiter_next hi.typeIs entry_listiter_next ?_ (args_listiter_next _))
  show wpAny _ _ (field (.ref it) 0 >>= _) _ _ s
  refine wpAny_bind (wpAny_field eo ed (x := .ref l) rfl ?_)
  show wpAny _ _ (if (Value.ref l == Value.none) = true then _ else _) _ _ s
  rw [if_neg (show ¬ ((Value.ref l == Value.none) = true) from Bool.false_ne_true)]
  show wpAny _ _ (field (.ref it) 1 >>= _) _ _ s
  refine wpAny_bind (wpAny_field eo ed (x := .int i 0) rfl ?_)
  show wpAny _ _ (seqItems? (.ref l) >>= _) _ _ s
  refine wpAny_bind (wpAny_seqItems el dl ?_)
  simp only [Int.toNat_natCast, hx]
  refine wpAny_bind (wpAny_setField eo ed (by simp) (wpAny_pure ⟨x, rfl, q _ ?_ (Heap.SameBut.update ..)⟩))
  exact ⟨_, Heap.get?_update_self _ eo (Obj.isFreed_of_fields (Obj.data_mapFields ed _)), (Obj.cls_mapFields ..).trans ec, by rw [Obj.data_mapFields ed]; simp [rawInt]⟩
theorem sp_lst_end {it l : Addr} {i : Nat} {items : Array Value} {Q : Option Value → Shared → Prop} (hh : A.handled = none) (hi : s.heap.IsListIter it l i) (hL : s.heap.IsList l items) (hx : items[i]? = none)
    (q : ∀ e h', StopX e h' → Heap.ExtBut it s.heap h' → E e { s with heap := h' }) : wpAny (model prog w) A (callSpecial? (.ref it) "__next__") Q E s := by
  obtain ⟨ob, eo, ec, ed⟩ := id hi
  obtain ⟨ol, el, _, nl, dl⟩ := hL
  refine wpAny_callSpecial?_slot (name := Str.ofString "__next__") hi.typeIs slot_listiter_next (wpAny_call_entry slot_listiter_next hi.typeIs entry_listiter_next ?_ (args_listiter_next _))
  show wpAny _ _ (field (.ref it) 0 >>= _) _ _ s
  refine wpAny_bind (wpAny_field eo ed (x := .ref l) rfl ?_)
  show wpAny _ _ (if (Value.ref l == Value.none) = true then _ else _) _ _ s
  rw [if_neg (show ¬ ((Value.ref l == Value.none) = true) from Bool.false_ne_true)]
  show wpAny _ _ (field (.ref it) 1 >>= _) _ _ s
  refine wpAny_bind (wpAny_field eo ed (x := .int i 0) rfl ?_)
  show wpAny _ _ (seqItems? (.ref l) >>= _) _ _ s
  refine wpAny_bind (wpAny_seqItems el dl ?_)
  simp only [Int.toNat_natCast, hx]
  refine wpAny_bind (wpAny_rule (wpAny_bind (wpAny_setField eo ed (by simp) ?_)))
  show wpAny _ _ (newExc (.type "StopIteration") [] >>= _) _ _ _
  refine wpAny_bind ?_
  simp only [newExc, newTuple]
  refine wpAny_bind (wpAny_newObj_type ?_ (by size_fits))
  refine wpAny_bind (m := firstArgMember _ _) (wpAny_of_eq (a := Value.none) (by first | rfl | (simp only [firstArgMember]; rfl)) ?_)
  refine wpAny_newObj_type ?_ (by size_fits)
  simp only [raiseNew]
  refine wpAny_bind (wpAny_handled ?_)
  first | rw [show A.in1.handled = none from hh] | rw [hh]
  refine wpAny_bind (wpAny_pure (wpAny_throw ?_))
  refine q _ _ ⟨_, _, _, rfl, Heap.get?_push_size _ rfl, rfl, rfl, ?_⟩ (((Heap.SameBut.update ..).extBut.push _).push _)
  first
    | rfl
    | (rw [Array.getElem?_append_left (by decide)]; rfl)
    | kernel_rfl
end
section
variable {X : Cx} {e : Expr} {te : TE}
def tYfLst (te : TE) : TYf := fun σ H Q => te σ H fun x H1 => ∃ a xs, x = .ref a ∧ H1 a = some (.lst xs) ∧ Q xs H1
theorem close_lst : typeLookup (.type "list_iterator") "close" = pure none := by rw [typeLookup_type, builtinLookup_eq_fast]; kernel_rfl
theorem yf_lst (he : PE X e te) : YfE X e (tYfLst te) := by
  refine ⟨fun pins s σ H Q I h => ?_⟩
  refine thn (he.run pins s σ H _ I h) fun v s1 ⟨x, H1, I1, r1, a, xs, ex, ha, hq⟩ => ?_
  subst ex
  obtain rfl : v = Value.ref a := r1
  obtain ⟨hlen, its, n, rits, hob⟩ := I1.hok a _ ha
  have hL : s1.heap.IsList a its.toArray := ⟨_, hob, rfl, n, rfl⟩
  refine ⟨"list", hL.typeIs, by decide, wpAny_pyIter_list hL ?_⟩
  have lt : ∀ b o, s1.heap.get? b = some o → b ≠ s1.heap.objs.size := fun b o e => Nat.ne_of_lt (Heap.lt_size e)
  have kp : ∀ b o, s1.heap.get? b = some o → (s1.heap.push { cls := .type "list_iterator", data := .fields #[.ref a, .int 0 0] }).get? b = some o := fun b o e => Heap.get?_push_of_some _ e
  refine ⟨s1.heap.objs.size, H1, xs, fun j h => h.IsListIter s1.heap.objs.size a j ∧ h.get? a = some { cls := .type "list", data := .seq its.toArray n }, rfl, I1.kept (t' := s1.toks) kp, .inr I1.sz, Nat.ne_of_gt I1.lt, fun y c hy => ?_, I1.hok.fresh (Nat.le_refl _), fun p hp => ?_,
    ⟨⟨_, Heap.get?_push_size _ rfl, rfl, rfl⟩, kp _ _ hob⟩, ⟨⟨"list_iterator", fun j h q => ?_, close_lst, by decide⟩, fun j h h' q hk => ?_, fun A' j x s2 Q' E' hA hx q hQ => ?_, fun A' s2 Q' E' hA q hE => ?_⟩, hq⟩
  · obtain ⟨v, o, ho, _⟩ := I1.cell y c hy
    exact lt c o ho
  · exact lt p.1 _ (I1.pin p hp).1
  · obtain ⟨⟨o, ho, hc, _⟩, _⟩ := q
    exact ⟨o, ho, hc⟩
  · obtain ⟨⟨o, ho, r⟩, q2⟩ := q
    exact ⟨⟨o, hk _ o (.inl rfl) ho, r⟩, hk _ _ (.inr (by rw [ha]; exact fun z => by cases z)) q2⟩
  · obtain ⟨q1, q2⟩ := q
    obtain ⟨u, hu, ru⟩ := rits.get hx
    have hne : a ≠ s1.heap.objs.size := lt a _ hob
    exact sp_lst_item q1 ⟨_, q2, rfl, n, rfl⟩ (x := u) (by simpa using hu) fun h' q1' hs => hQ u h' s2.toks ru ⟨q1', hs.extBut _ _ hne q2⟩ fun b o hb eb => hs.extBut b o hb eb
  · obtain ⟨q1, q2⟩ := q
    have hnone : its.toArray[xs.length]? = none := by
      have e := rits.length
      have e2 : its[xs.length]? = none := List.getElem?_eq_none_iff.mpr (by omega)
      simpa using e2
    exact sp_lst_end hA q1 ⟨_, q2, rfl, n, rfl⟩ hnone fun e h' hS hk => hE e h' s2.toks hS fun b o hb eb => hk b o hb eb
end
end KA

set_option Elab.async false
set_option autoImplicit false
set_option linter.all false
set_option maxRecDepth 100000
set_option maxHeartbeats 1600000
/-! KGen: list(f(..)) of a generator def that ends in «yield from» a list. -/
namespace KA
open PySem PySem.Spec PyProof.Rows L2
section
variable {X : Cx} {G : GC} {st : Stmt} {rest : List Stmt} {fe : EM} {e : Expr} {yp pos : Pos}
theorem PS.calm {t : TS} (h : PS X.nox st t) : PS X st t := ⟨fun pins s σ H D I hw =>
  wpAny_mono (h.run pins s σ H D (I.wish _) hw) (fun _ _ q => q.unwish) fun _ _ z => False.elim z⟩
/-- what is wanted of the list at the end -/
def LstEnd (Q : List V → Hp → Prop) : VK := fun x H => ∃ a xs, x = .ref a ∧ H a = some (.lst xs) ∧ xs.length ≤ sizeLine ∧ Q xs H
/-- what a generator's body does: in the end it hands out the list that f gives -/
def tGm (G : GC) (f : Sl → MH → Res MV) : TGn := fun D ys σ H => ys = [] ∧ ∃ m h σm, Sim G m h H ∧ RS G m H σm σ ∧ RP G W0 (RV G) m H [] (f σm h) (LstEnd fun xs H' => ∀ σ', D.nx xs σ' H')
theorem gss_wk {t t' : TGn} (h : GSs X rest t) (k : ∀ D ys σ H, t' D ys σ H → t D ys σ H) : GSs X rest t' :=
  ⟨fun A S ip R n ys s₀ c fs K J gd lv s σ H D g hn gk hI ht => h.run A S ip R n ys s₀ c fs K J gd lv s σ H D g hn gk hI (k D ys σ H ht)⟩
theorem gm_cons {b : SM} {f : Sl → MH → Res MV} (hs : PS X.nox st (tMS G W0 b)) (hr : GSs X rest (tGm G f)) : GSs X (st :: rest) (tGm G (gSeq b f)) := by
  refine gss_wk (gss_cons (gs_ps (PS.calm hs)) hr) fun D ys σ H q => ?_
  obtain ⟨rfl, m, h, σm, S, R, p⟩ := q
  refine ⟨m, h, σm, S, R, ?_⟩
  unfold gSeq at p
  cases eb : b σm h with
  | nx σ1 h1 =>
    rw [eb] at p
    intro m' H' σ' x S' R'
    exact ⟨rfl, m', h1, σ1, S', R', RP.later (G := G) p x⟩
  | _ => rw [eb] at p; exact p.elim
theorem gm_end (he : PE X.nox e (tM G W0 fe)) (hc : X.A.handled = none) (hi : interactive X.env = false := by rfl) : GSs X [.Expr (.YieldFrom e yp) pos] (tGm G fe) := by
  refine gss_wk (gss_cons (gs_yieldFrom (yf_lst (PE.nox he)) hc hi) gss_nil) fun D ys σ H q => ?_
  obtain ⟨rfl, m, h, σm, S, R, p⟩ := q
  refine ⟨m, h, σm, S, R, (RP.w0 p).imp fun x H1 ⟨a, xs, ex, ea, hl, q⟩ => ?_⟩
  exact ⟨a, xs, ex, ea, by simpa using hl, q σ⟩
/-- what a generator def promises -/
def spGM (G : GC) (n : Nat) (g : FM) : SpG := fun vs H cont _ => vs.length = n ∧ ∃ m h ms, Sim G m h H ∧ RVs G m H ms vs ∧ RP G W0 (RV G) m H [] (g ms h) (LstEnd cont)
structure Gn (P : Program) (w : World) (K : PySem.W.Frag) (mg : PySem.Str → Option Value) (base : Heap) (G : GC) (f : Addr) (k : Nat) (ps : List PySem.Str) (np : Nat) (g : FM) : Prop where
  ex : ∃ fd, GFn P w K mg base k f fd ps (spGM G np g) ∧ Binds K fd ps []
  kp : PySem.W.keepIn K (.ref f) = true
theorem gn_of {P : Program} {w : World} {K : PySem.W.Frag} {mg : PySem.Str → Option Value} {base : Heap} {x qual : PySem.Str} {params : Arguments} {body : List Stmt} {scope : Scope} {dvs : List V} {kws : List (PySem.Str × V)} {f : Addr} {fd : FuncData} {N ps : List PySem.Str} {k n np : Nat} {b : Sl → MH → Res MV}
    (F : FunD K x qual params body scope dvs kws f fd) (S : GScope N ps scope) (hn : N.length = n) (hp : ps.length = np) (hbi : Binds K fd ps [])
    (hb : ∀ (cdv : Value) (A : Around) (outer : List Env) (s : Shared) (H : Hp) (E : XK) (pn : List (Addr × Obj)), Room k (A.deeper (envOfC qual scope s.heap.objs.size f cdv)) → GSs (gcxOf P w K mg base N qual scope f cdv A outer s H E pn) body (tGm G b)) :
    Gn P w K mg base G f (k + 1) ps np (fnG n b) := by
  refine ⟨⟨fd, ?_, hbi⟩, F.kp⟩
  obtain ⟨oc, od, dV, kV, doc, pm, an, cdv, ct, osl, rfl, lk, hcd, _, _⟩ := F.ex
  refine gfn_of lk hcd S (fun vs H Q E h => hp ▸ h.1) fun A outer s H vs Q E pn hr h => ⟨_, hb cdv A outer s H E pn hr, ?_⟩
  obtain ⟨hl, m, h, ms, Sm, r, p⟩ := h
  exact ⟨rfl, m, h, ms.map some ++ List.replicate (n - ms.length) none, Sm, RS.start r N n hn, p.imp fun y H' ⟨a, xs, ex, ea, hx, q⟩ => ⟨a, xs, ex, ea, hx, fun _ => q⟩⟩
end
section
variable {X : Cx} {G : GC} {e o : Expr} {am : AM} {fa : EM} {pos : Pos} {k c np : Nat} {f : Addr} {ps : List PySem.Str} {g : FM}
theorem gen_copy {m : List Addr} {H : Hp} {σ : L2.St} {r : Res MV} {Q : VK} (p : RP G W0 (RV G) m H σ (r.bind copyL) Q) : RP G W0 (RV G) m H [] r (LstEnd fun out H2 => ∀ p, H2 p = none → Q (.ref p) (upd H2 p (.lst out))) := by
  refine RP.w0 (σ := σ) ((RP.bind (Rel := RV G) p).imp fun y H2 ⟨m2, h2, w, x2, S2, r2, p2⟩ => ?_)
  unfold copyL at p2
  cases w with
  | ref n =>
    dsimp only at p2
    cases eg : h2.get n with
    | none => rw [eg] at p2; exact p2.elim
    | some ob =>
      rw [eg] at p2
      cases ob with
      | lst xs =>
        obtain ⟨a, ys, ea, rfl, eh, rs⟩ := S2.lst eg r2
        dsimp only at p2
        rcases lim_cases xs.length (Res.ok (MV.ref h2.n) (h2.push (.lst xs))) with ⟨z, e1⟩ | e1
        · rw [e1] at p2
          exact ⟨a, ys, rfl, eh, by rw [rs.length]; rw [sizeLine_eq]; exact z, fun q hq => RP.newLst p2 S2 rs hq⟩
        · rw [e1] at p2
          exact p2.elim
      | _ => exact p2.elim
  | _ => exact p2.elim
theorem noStop0 {K : PySem.W.Frag} : NoStop K E0 := fun _ _ _ z => z.elim
theorem passG {P : Program} {w : World} : Passes (L2.CX P w) X E0 := fun _ _ _ _ _ _ _ h => by
  obtain ⟨_, _, _, _, _, _, _, _, _, _, _, _, z⟩ := h
  exact z.elim
theorem x_gen {x y : PySem.Str} {p p2 : Pos} {pos2 : Pos} {es : List Expr} (D : Gn X.prog X.w X.K X.mg X.base G f k ps np g) (hy : y = "list") (hr : Room (k + 3) X.A) (hm : X.mg x = some (.ref f)) (hl : ∀ σ h vs h', am σ h = .ok vs h' → vs.length = np) (hml : X.mg "list" = none) (ha : PA X (e :: es) (tMA G W0 am)) (hg : Gl X x := by rfl) (hgl : Gl X "list" := by rfl)
    (hdb : (x == ("__debug__" : PySem.Str)) = false := by decide) (he : starEach (e :: es) X.env = (false, eval e X.env) :: starEach es X.env := by rfl) (hpl : (backTo pos2 (starEach es X.env)).any (·.1) = false := by rfl)
    (he2 : starEach [.Call (.Name x p2) (e :: es) [] pos2] X.env = (false, eval (.Call (.Name x p2) (e :: es) [] pos2) X.env) :: starEach [] X.env := by rfl) :
    PE X (.Call (.Name y p) [.Call (.Name x p2) (e :: es) [] pos2] [] pos) (tM G W0 (eGenL g am)) := by
  subst hy
  obtain ⟨fd, F, bi⟩ := D.ex
  refine (pe_listG (pgen_call (sp := spGM G np g) (E := E0) F (hr.mono (by omega)) hg hm D.kp bi .nil ha hdb he hpl) passG noStop0 hr hgl hml (by decide +kernel) (by decide) (by decide) he2).wk fun σ H Q q => ?_
  obtain ⟨m, h, σm, S, R, p⟩ := q
  refine ⟨m, h, σm, S, R, ?_⟩
  unfold eGenL at p
  cases ea : am σm h with
  | bad => rw [ea] at p; exact p.elim
  | exc c v h' => rw [ea] at p; exact p
  | ok vs h' =>
    rw [ea] at p
    intro m' H' xs x S' r
    exact ⟨by simp [r.length, hl _ _ _ _ ea], m', h', vs, S', by simpa using r, gen_copy (RP.later (G := G) p x)⟩
theorem nolook {m : List Addr} {H : Hp} {mn : PySem.Str} (hm : ∀ i, G.fl i ≠ mn) {fs : List (Nat × MV)} {gs : List (PySem.Str × V)} (pr : Paired (fun (p : Nat × MV) (q : PySem.Str × V) => q.1 = G.fl p.1 ∧ RV G m H p.2 q.2) fs gs) : gs.lookup mn = none := by
  induction pr with
  | nil => rfl
  | @cons p q fs' gs' r t ih =>
    obtain ⟨n', u⟩ := q
    have e' : n' = G.fl p.1 := r.1
    rw [List.lookup_cons, show (mn == n') = false by rw [e']; exact beq_eq_false_iff_ne.mpr (fun z => hm _ z.symm)]
    exact ih
theorem k_genM {mn : PySem.Str} (hm : ∀ i, G.fl i ≠ mn) (h : PE X e (tListG (tMethG (G.cl c) mn (spGM G 1 g) [] E0 (tM G W0 fa) L2.tNil))) : PE X e (tM G W0 (eGenM c g fa)) := h.wk fun σ H Q q => by
  refine (tMR.bind (Rel := RV G) (k := fun _ x h1 => match isIns c h1 x with
  | true => (g [x] h1).bind copyL
  | false => .bad) q).imp fun x H1 ⟨m1, h1, v, σm, S1, R1, r1, p1⟩ => ?_
  cases ei : isIns c h1 v with
  | false => rw [ei] at p1; exact p1.elim
  | true =>
    rw [ei] at p1
    cases v with
    | ref n =>
      unfold isIns at ei
      dsimp only at ei
      cases eg : h1.get n with
      | none => rw [eg] at ei; cases ei
      | some ob =>
        rw [eg] at ei
        cases ob with
        | ins d fs =>
          have ed : d = c := Nat.eq_of_beq_eq_true ei
          subst ed
          obtain ⟨a, dx, gs, ea, rfl, eh, pr⟩ := S1.ins eg r1
          exact ⟨a, dx, gs, rfl, eh, nolook hm pr, rfl, m1, h1, [.ref n], S1, .cons r1 .nil, gen_copy p1⟩
        | lst _ => cases ei
        | dct _ _ _ => cases ei
    | _ => cases ei
theorem x_genM {mn y : PySem.Str} {p apos pos2 : Pos} {pl : Sem Bool} (D : Gn X.prog X.w X.K X.mg X.base G f k ps 1 g) (hy : y = "list") (hr : Room (k + 3) X.A) (hc : Cls G.K (G.cl c)) (hm : Meth G.K (G.cl c) mn f) (hf : ∀ i, G.fl i ≠ mn) (hml : X.mg "list" = none) (ho : PE X o (tM G W0 fa)) (hK : X.K = G.K := by rfl) (hgl : Gl X "list" := by rfl)
    (ht : eval (.Call (.Attribute o mn apos) [] [] pos2) X.env = (do
      let ov ← eval o X.env
      standAt apos.atName
      let (f, first) ← holding [ov] (getMethod ov mn pl)
      callWith pos2 f first (backTo pos2 (starEach [] X.env)) (backToKw pos2 (keywordEach [] X.env))) := by rfl)
    (he2 : starEach [.Call (.Attribute o mn apos) [] [] pos2] X.env = (false, eval (.Call (.Attribute o mn apos) [] [] pos2) X.env) :: starEach [] X.env := by rfl) :
    PE X (.Call (.Name y p) [.Call (.Attribute o mn apos) [] [] pos2] [] pos) (tM G W0 (eGenM c g fa)) := by
  subst hy
  obtain ⟨fd, F, bi⟩ := D.ex
  exact k_genM hf (pe_listG (pgen_meth0 (pl := pl) (sp := spGM G 1 g) (E := E0) ho (hK ▸ hc) (hK ▸ hm) F (hr.mono (by omega)) bi .nil ht) passG noStop0 hr hgl hml (by decide +kernel) (by decide) (by decide) he2)
end
end KA

set_option Elab.async false
set_option autoImplicit false
set_option linter.all false
set_option maxRecDepth 100000
set_option maxHeartbeats 4000000
/-! KTup: a tuple times an int of at least 1. -/
namespace KA
open PySem PySem.Spec PyProof.Rows L2
theorem tuple_mul1 (l : Addr) (items : Array Value) (n : Nat) (dd : Option Addr) (sl : Array (Option Value)) (u : Tok) :
    Meets (Builtin.«tuple.__mul__» ⟨[.ref l, .int 1 u], []⟩) (fun _ R s => s.heap.get? l = some { cls := .type "tuple", dict := dd, data := .seq items n, slots := sl } ∧ R (.ok (.ret (Value.ref l))) s) :=
  .of_wp fun prog w A R s h => by
    obtain ⟨hp, g, d, tk, os⟩ := s
    obtain ⟨hl, h⟩ := h
    have f1 := AutoSeq1.idx_int
    have b : (items.isEmpty || (1 : Int) == 1) = true := by simp
    wp_walk using wpAny_loadPart' hl
    exact ⟨_, rfl, h⟩
def rRep1 (K : PySem.W.Frag) : R2 := fun x y H Q => ∃ l xs, x = .ref l ∧ y = .int 1 ∧ SqT K H l xs ∧ Q (.ref l) H
section
variable {X : Cx} {G : GC} {W : XW}
theorem op_rep1 : OpR X (binaryOp .Mult) (rRep1 X.K) := by
  intro pins s σ H x y v u Q I rx ry h
  obtain ⟨l, xs, rfl, rfl, hT, q⟩ := h
  cases rx
  obtain ⟨t, rfl⟩ := ry
  obtain ⟨its, r, ⟨⟨cls, dd, data, sl⟩, ho, hc, n, hd⟩, hs⟩ := I.tuple hT
  simp only at hc hd
  subst hc hd
  exact wpAny_binaryOp_repeat_ref (T := "tuple") (U := "int") (by decide) ⟨_, ho, rfl⟩ (fun s' => typeIs_int s' 1 t) noFill_tuple_mul F.fills_int_mul F.slot_int_rmul repeat_tuple F.slot_int_index.lookup
    (call_meets F.slot_int_rmul (typeIs_int s 1 t) F.entry_int_rmul (F.args_int_rmul_2 _ _) (int_rmul_tuple 1 t l its.toArray n dd sl)
      ⟨ho, rfl, ⟨_, ho, rfl⟩, call_meets F.slot_tuple_mul ⟨_, ho, rfl⟩ F.entry_tuple_mul (F.args_tuple_mul_2 _ _) (tuple_mul1 l its.toArray n dd sl t) ⟨ho, .ref l, H, I, rfl, q⟩⟩)
def rRep (K : PySem.W.Frag) : R2 := fun x y H Q => rRep1 K x y H Q ∨ rRepT K x y H Q
theorem op_rep : OpR X (binaryOp .Mult) (rRep X.K) := fun pins s σ H x y v u Q I rx ry h => h.elim (op_rep1 pins s σ H x y v u Q I rx ry) (op_repT pins s σ H x y v u Q I rx ry)
theorem rvs_flat {m : List Addr} {H : Hp} {xs : List MV} {ys : List V} (r : RVs G m H xs ys) : ∀ n : Nat, RVs G m H (List.replicate n xs).flatten (List.replicate n ys).flatten
  | 0 => by simp only [List.replicate_zero, List.flatten_nil, RVs]
  | n + 1 => by
    simp only [List.replicate_succ, List.flatten_cons]
    exact r.append (rvs_flat r n)
theorem o_rep : Op2 G (rRep G.K) qRepT := by
  intro W m h H σ v w x y Q S r1 r2 p
  unfold qRepT at p
  cases v with
  | tup xs =>
    cases w with
    | int k =>
      dsimp only at p
      simp only [RV] at r1 r2
      obtain ⟨a, ys, rfl, ha, rs⟩ := r1
      subst r2
      cases c : decide (k = 1) with
      | true =>
        rw [c] at p
        have := of_decide_eq_true c
        subst this
        exact .inl ⟨a, ys, rfl, rfl, SqT.of ha, RP.now p S (by simp only [RV]; exact ⟨a, ys, rfl, ha, rs⟩)⟩
      | false =>
        rw [c] at p
        dsimp only at p
        cases c2 : (!xs.isEmpty && (decide (2 ≤ k) && (decide (k ≤ 1000) && Nat.ble xs.length 1000))) with
        | false => rw [c2] at p; exact p.elim
        | true =>
          rw [c2] at p
          obtain ⟨d1, c2⟩ := Bool.and_eq_true_iff.mp c2
          obtain ⟨d2, c2⟩ := Bool.and_eq_true_iff.mp c2
          obtain ⟨d3, d4⟩ := Bool.and_eq_true_iff.mp c2
          have hl := rs.length
          refine .inr ⟨a, k, ys, rfl, rfl, SqT.of ha, fun z => ?_, of_decide_eq_true d2, of_decide_eq_true d3, by rw [hl]; exact Nat.le_of_ble_eq_true d4, fun q hq => RP.newTup p S (rvs_flat rs _) hq⟩
          rw [z] at hl
          cases xs with
          | nil => cases d1
          | cons _ _ => simp at hl
    | _ => exact p.elim
  | _ => exact p.elim
end
section
variable {X : Cx} {G : GC} {W : XW} {a b : Expr} {fa fb : EM} {pos : Pos}
theorem x_rep (ha : PE X a (tM G W fa)) (hb : PE X b (tM G W fb)) (hK : X.K = G.K := by rfl) : PE X (.BinOp a .Mult b pos) (tM G W (e2 qRepT fa fb)) := k_op (r := rRep X.K) (hK ▸ o_rep) (pe_op op_rep ha hb)
end
theorem c_bool {G : GC} : CallG G (fun xs H Q => (∃ i, xs = [.int i] ∧ Q (.bl (i != 0)) H) ∨ ∃ k, xs = [.bl k] ∧ Q (.bl k) H) qBoolB := call1 fun W m h H σ v x Q S r1 p => by
  unfold qBoolB1 at p
  cases v with
  | bl b =>
    have ex : x = .bl b := by simpa only [RV] using r1
    exact .inr ⟨b, by rw [ex], RP.now p S (by simp [RV])⟩
  | _ => exact p.elim
theorem hu65 {k : Nat} {A : Around} (hr : Room k A) : A.units + 65 < cLine := by have := hr.un; omega
end KA

set_option Elab.async false
set_option autoImplicit false
set_option linter.all false
set_option maxRecDepth 100000
set_option maxHeartbeats 1600000
/-! KEq: == of lists of tuples of flat things and own instances, either answer. -/
namespace KQ
open PySem PySem.SeqAt
open AutoSeq1 (wpAny_loadPart')
open MeetsSeq MeetsSeq2 MeetsSeq3 SeqRoads2
section
variable {prog : Program} {w : World} {A : Around} {R : Result → Shared → Prop}
/-- two lists as they stand, N items each -/
def LR (l b : Addr) (N : Nat) (s : Shared) : Prop := ∃ (xs ys : Array Value) (n m : Nat), s.heap.get? l = some { cls := .type "list", data := .seq xs n } ∧ s.heap.get? b = some { cls := .type "list", data := .seq ys m } ∧ xs.size = N ∧ ys.size = N
structure Turns (prog : Program) (w : World) (A : Around) (R : Result → Shared → Prop) (l b : Addr) (N : Nat) (I : Nat → Shared → Prop) (J : Shared → Prop) : Prop where
  rd : ∀ i s, I i s → LR l b N s
  go : ∀ i s (xs ys : Array Value) (n m : Nat), I i s → s.heap.get? l = some { cls := .type "list", data := .seq xs n } → s.heap.get? b = some { cls := .type "list", data := .seq ys m } → ∀ (h1 : i < xs.size) (h2 : i < ys.size),
    wpAny (model prog w) A.in1 (eqBool xs[i] ys[i]) (fun r s' => match r with
      | true => I (i + 1) s'
      | false => LR l b N s' ∧ J s') (fun e s' => R (.error e) s') s
  yes : ∀ s, I N s → R (.ok (.ret (.bool true))) s
  no : ∀ s, J s → R (.ok (.ret (.bool false))) s
theorem loop2 {l b : Addr} {N : Nat} {I : Nat → Shared → Prop} {J : Shared → Prop} (T : Turns prog w A R l b N I J) : ∀ (d i : Nat) (s : Shared), N - i = d → i ≤ N → I i s →
    wpAny (model prog w) A.in1 (Builtin.«list.__eq__.loop» ⟨[.ref l, .ref b, rawInt i, rawInt 2], []⟩) (GQ.FinOf prog w A R) (fun e s' => R (.error e) s') s := by
  intro d
  induction d with
  | zero =>
    intro i s hd hi h
    obtain ⟨xs, ys, n, m, e1, e2, z1, z2⟩ := T.rd i s h
    have e : i = N := by omega
    have fin := T.yes s (e ▸ h)
    obtain ⟨hp, g, dr, tk, os⟩ := s
    wp_walk using wpAny_loadPart' e1, wpAny_loadPart' e2
    have q1 : xs[((i : Nat) : Int).toNat]? = none := by simp; omega
    have q2 : ys[((i : Nat) : Int).toNat]? = none := by simp; omega
    rw [q1, q2]
    wp_walk using wpAny_loadPart' e1, wpAny_loadPart' e2
    show R (.ok (.ret (.bool (xs.size == ys.size)))) _
    rw [z1, z2]
    simpa using fin
  | succ d ih =>
    intro i s hd hi h
    obtain ⟨xs, ys, n, m, e1, e2, z1, z2⟩ := T.rd i s h
    have l1 : i < xs.size := by omega
    have l2 : i < ys.size := by omega
    have go := T.go i s xs ys n m h e1 e2 l1 l2
    obtain ⟨hp, g, dr, tk, os⟩ := s
    wp_walk using wpAny_loadPart' e1, wpAny_loadPart' e2
    have q1 : xs[((i : Nat) : Int).toNat]? = some xs[i] := by simp [l1]
    have q2 : ys[((i : Nat) : Int).toNat]? = some ys[i] := by simp [l2]
    rw [q1, q2]
    refine wpAny_bind (wpAny_mono go (fun r s2 z => ?_) fun _ _ x => x)
    cases r with
    | true =>
      have up : ((i : Int) + 1) = ((i + 1 : Nat) : Int) := by omega
      have next := ih (i + 1) s2 (by omega) (by omega) z
      obtain ⟨hp2, g2, dr2, tk2, os2⟩ := s2
      wp_walk
      rw [up]
      exact ⟨plainId_quiet plain_eq_loop _, codeAny_builtin entry_eq_loop (by
        rw [Around.under_plainId plain_eq_loop _]
        exact next)⟩
    | false =>
      obtain ⟨⟨us, vs, n2, m2, f1, f2, y1, y2⟩, j⟩ := z
      have fin := T.no s2 j
      obtain ⟨hp2, g2, dr2, tk2, os2⟩ := s2
      wp_walk using wpAny_loadPart' f1, wpAny_loadPart' f2
      have k1 : i < us.size := by omega
      have k2 : i < vs.size := by omega
      have p1 : us[((i : Nat) : Int).toNat]? = some us[i] := by simp [k1]
      have p2 : vs[((i : Nat) : Int).toNat]? = some vs[i] := by simp [k2]
      rw [p1, p2]
      wp_walk
      exact fin
theorem list2 {l b : Addr} {N : Nat} {I : Nat → Shared → Prop} {J : Shared → Prop} (T : Turns prog w A R l b N I J) {s : Shared} (h : I 0 s) :
    wpAny (model prog w) A.in1 (Builtin.«list.__eq__» ⟨[.ref l, .ref b], []⟩) (GQ.FinOf prog w A R) (fun e s' => R (.error e) s') s := by
  obtain ⟨xs, ys, n, m, e1, e2, z1, z2⟩ := T.rd 0 s h
  have go := loop2 T N 0 s (by omega) (by omega) h
  obtain ⟨hp, g, dr, tk, os⟩ := s
  have sub := AutoSeq1.sub_list_list
  have same : ¬ (xs.size != ys.size) = true := by simp [z1, z2]
  wp_walk using wpAny_loadPart' e1, wpAny_loadPart' e2
  exact ⟨plainId_quiet plain_eq_loop _, codeAny_builtin entry_eq_loop (by
    rw [Around.under_plainId plain_eq_loop _]
    exact go)⟩
/-- two tuples of one length -/
structure TurnsT (prog : Program) (w : World) (A : Around) (R : Result → Shared → Prop) (xs ys : Array Value) (I : Nat → Shared → Prop) (J : Shared → Prop) : Prop where
  go : ∀ i (h1 : i < xs.size) (h2 : i < ys.size) s, I i s → wpAny (model prog w) A.in1 (eqBool xs[i] ys[i]) (fun r s' => match r with
    | true => I (i + 1) s'
    | false => J s') (fun e s' => R (.error e) s') s
  yes : ∀ s, I xs.size s → R (.ok (.ret (.bool true))) s
  no : ∀ s, J s → R (.ok (.ret (.bool false))) s
theorem tuple2 {l b : Addr} {xs ys : Array Value} {n n2 : Nat} {dd dd2 : Option Addr} {sl sl2 : Array (Option Value)} {I : Nat → Shared → Prop} {J : Shared → Prop} (T : TurnsT prog w A R xs ys I J) (hz : xs.size = ys.size) {s : Shared}
    (e1 : s.heap.get? l = some { cls := .type "tuple", dict := dd, data := .seq xs n, slots := sl }) (e2 : s.heap.get? b = some { cls := .type "tuple", dict := dd2, data := .seq ys n2, slots := sl2 }) (h : I 0 s) :
    wpAny (model prog w) A.in1 (Builtin.«tuple.__eq__» ⟨[.ref l, .ref b], []⟩) (GQ.FinOf prog w A R) (fun e s' => R (.error e) s') s := by
  have sub := AutoSeq1.sub_tuple_tuple
  have hZ : (xs.toList.zip ys.toList).length = xs.size := by simp [hz]
  have h0 := h
  obtain ⟨hp, g, dr, tk, os⟩ := s
  wp_walk using wpAny_loadPart' e1, wpAny_loadPart' e2, wpAny_forIn_list _ (fun rest b s' => b.1 = none ∧ ∃ i, rest = (xs.toList.zip ys.toList).drop i ∧ i ≤ xs.size ∧ I i s') _
  case turn =>
    rintro ⟨y, x⟩ rest b s' ⟨hb', i, hr, hi, hI⟩
    have hlt : i < (xs.toList.zip ys.toList).length := by
      rcases Nat.lt_or_ge i (xs.toList.zip ys.toList).length with z | z
      · exact z
      · rw [List.drop_of_length_le z] at hr; cases hr
    have l1 : i < xs.size := hZ ▸ hlt
    have l2 : i < ys.size := hz ▸ l1
    rw [List.drop_eq_getElem_cons hlt] at hr
    injection hr with hyx hrest
    have hy : y = xs[i] := by have := congrArg Prod.fst hyx; simpa using this
    have hx : x = ys[i] := by have := congrArg Prod.snd hyx; simpa using this
    subst hy hx
    refine wpAny_bind (wpAny_mono (T.go i l1 l2 s' hI) (fun r s2 q => ?_) fun _ _ x => x)
    cases r with
    | true =>
      wp_walk
      exact ⟨rfl, i + 1, hrest, l1, q⟩
    | false =>
      wp_walk
      exact T.no s2 q
  case fin =>
    rintro ⟨b1, b2⟩ s' ⟨hb', i, hr, hi, hI⟩
    simp only at hb'
    subst hb'
    have hge : xs.size ≤ i := by
      rcases Nat.lt_or_ge i (xs.toList.zip ys.toList).length with z | z
      · rw [List.drop_eq_getElem_cons z] at hr; cases hr
      · exact hZ ▸ z
    have hi' : i = xs.size := by omega
    have fin := T.yes s' (hi' ▸ hI)
    wp_walk
    simpa [Builtin.Tuple.tupleCompareSizes, hz] using fin
  case h =>
    exact ⟨rfl, 0, rfl, Nat.zero_le _, h0⟩
end
end KQ

namespace KA
open PySem PySem.Spec PyProof.Rows L2
section
variable {X : Cx} {G : GC} {pins : List (Addr × Obj)} {σ τ : L2.St} {H : Hp} {s : Shared} {k c : Nat} {f : Addr} {ps : List PySem.Str} {g : FM} {m : List Addr} {h : MH}
abbrev BRel (G : GC) : List Addr → Hp → Bool → Bool → Prop := fun _ _ a b => b = a
theorem ref_same {n j : Nat} {a : Addr} (S : Sim G m h H) (r1 : RV G m H (.ref n) (.ref a)) (r2 : RV G m H (.ref j) (.ref a)) : n = j := by
  simp only [RV] at r1 r2
  obtain ⟨b, e1, z1⟩ := r1
  obtain ⟨b', e2, z2⟩ := r2
  cases z1
  cases z2
  obtain ⟨l1, q1⟩ := List.getElem?_eq_some_iff.mp e1
  obtain ⟨l2, q2⟩ := List.getElem?_eq_some_iff.mp e2
  exact (List.getElem_inj S.nd).mp (q1.trans q2.symm)
theorem flat_self {v : MV} {x : V} (e : flatM v = true) (r : RV G m H v x) : eqV x x = true := by
  cases v with
  | non => simp only [RV] at r; subst r; rfl
  | bl b => simp only [RV] at r; subst r; simp [eqV]
  | int i => simp only [RV] at r; subst r; simp [eqV]
  | str z => simp only [RV] at r; subst r; simp [eqV]
  | _ => cases e
/-- one item against one, inside a built-in's comparison -/
theorem elE_ok {A : Around} (D : Dn X.prog X.w X.K X.mg X.base G f k ps 2 g) (hm : Meth X.K (G.cl c) "__eq__" f) (sb : Sub X k A) {v w : MV} {x y : V} {u1 u2 : Value} {Q : Bool → Hp → Prop} (I : Inv X pins σ H s) (S : Sim G m h H) (r1 : RV G m H v x) (r2 : RV G m H w y) (rx : RelV x u1) (ry : RelV y u2)
    (p : RP G W0 (BRel G) m H τ (elE c g v w h) Q) : wpAny (model X.prog X.w) A (eqBool u1 u2) (TP X pins σ Q) X.xe s := by
  unfold elE at p
  cases e : (flatM v && flatM w) with
  | true =>
    rw [e] at p
    obtain ⟨e1, e2⟩ := Bool.and_eq_true_iff.mp e
    have q := eqAt_V (A := A) (s := s) rx ry (flat_rv e1 r1) (flat_rv e2 r2)
    exact q X.prog X.w X.xe _ ⟨H, I, RP.now p S (eq_flat e1 e2 r1 r2).symm⟩
  | false =>
    rw [e] at p
    cases v with
    | ref n =>
      cases w with
      | ref j =>
        dsimp only at p
        cases ei : (isIns c h (.ref n) && isIns c h (.ref j)) with
        | false => rw [ei] at p; exact p.elim
        | true =>
          rw [ei] at p
          obtain ⟨e1, e2⟩ := Bool.and_eq_true_iff.mp ei
          obtain ⟨a, rfl, ha⟩ := isIns_of S r1 e1
          obtain ⟨b, rfl, hb⟩ := isIns_of S r2 e2
          cases (show u1 = Value.ref a from rx)
          cases (show u2 = Value.ref b from ry)
          cases en : Nat.beq n j with
          | true =>
            rw [en] at p
            have hn := Nat.eq_of_beq_eq_true en
            subst hn
            have hab : a = b := by
              simp only [RV] at r1 r2
              obtain ⟨a1, q1, z1⟩ := r1
              obtain ⟨a2, q2, z2⟩ := r2
              cases z1
              cases z2
              exact Option.some.inj (q1.symm.trans q2)
            subst hab
            exact SeqAt.EqAt.same (A := A) (s := s) (.ref a) X.prog X.w X.xe _ ⟨H, I, RP.now p S rfl⟩
          | false =>
            rw [en] at p
            have hab : a ≠ b := fun z => by
              subst z
              rw [ref_same S r1 r2, Nat.beq_refl] at en
              cases en
            have q : rOwEq G c g (.ref a) (.ref b) H (fun z H' => ∃ t, z = .bl t ∧ Q t H') := ⟨a, b, rfl, rfl, ha, hb, sp_of (σ := τ) S (.cons r1 (.cons r2 .nil)) rfl ((RP.bind (Rel := RV G) p).imp fun y H2 ⟨m2, h2, w2, x2, S2, rr, p2⟩ => by
              unfold qB at p2
              cases w2 with
              | bl t => exact ⟨t, by simpa only [RV] using rr, RP.now (y := t) p2 S2 rfl⟩
              | _ => exact p2.elim)⟩
            refine GQ.eqBool_refG hab (wpAny_mono (own_eq D hm sb I (show RelV (.ref a) (.ref a) from rfl) (show RelV (.ref b) (.ref b) from rfl) q) (fun z s' hz => ?_) fun _ _ x => x)
            obtain ⟨z', H', I', rz, t, ez, qz⟩ := hz
            subst ez
            exact ⟨t, rz, H', I', qz⟩
      | _ => exact p.elim
    | _ => exact p.elim
theorem elE_self {v w : MV} {x : V} {Q : Bool → Hp → Prop} {M : Bool → MH → Res Bool} (S : Sim G m h H) (r1 : RV G m H v x) (r2 : RV G m H w x) (p : RP G W0 (BRel G) m H τ ((elE c g v w h).bind M) Q) : RP G W0 (BRel G) m H τ (M true h) Q := by
  unfold elE at p
  cases e : (flatM v && flatM w) with
  | true =>
    rw [e] at p
    obtain ⟨e1, e2⟩ := Bool.and_eq_true_iff.mp e
    have q := eq_flat (h := h) e1 e2 r1 r2
    rw [flat_self e1 r1] at q
    rw [q] at p
    exact p
  | false =>
    rw [e] at p
    cases v with
    | ref n =>
      cases w with
      | ref j =>
        dsimp only at p
        cases ei : (isIns c h (.ref n) && isIns c h (.ref j)) with
        | false => rw [ei] at p; exact p.elim
        | true =>
          rw [ei] at p
          obtain ⟨e1, e2⟩ := Bool.and_eq_true_iff.mp ei
          obtain ⟨a, rfl, ha⟩ := isIns_of S r1 e1
          rw [show Nat.beq n j = true from by rw [ref_same S r1 r2]; exact Nat.beq_refl j] at p
          exact p
      | _ => exact p.elim
    | _ => exact p.elim
theorem seqE_self : ∀ {vs ws : List MV} {xs : List V} {Q : Bool → Hp → Prop}, Sim G m h H → RVs G m H vs xs → RVs G m H ws xs → RP G W0 (BRel G) m H τ (seqE c g vs ws h) Q → Q true H
  | [], [], _, _, S, _, _, p => RP.now p S rfl
  | [], _ :: _, _, _, S, _, _, p => p.elim
  | _ :: _, [], _, _, S, _, _, p => p.elim
  | v :: vs, w :: ws, xs, Q, S, r1, r2, p => by
    simp only [RVs] at r1 r2
    obtain ⟨y, ys, rfl, ry, rys⟩ := r1
    obtain ⟨z, zs, e, rz, rzs⟩ := r2
    cases e
    have p2 := elE_self (M := fun b h1 => match b with
      | true => seqE c g vs ws h1
      | false => .ok false h1) S ry rz p
    exact seqE_self S rys rzs p2
/-- what stands between two turns -/
def Mid (X : Cx) (G : GC) (pins : List (Addr × Obj)) (σ τ : L2.St) (m : List Addr) (H : Hp) (r : MH → Res Bool) (Q : Bool → Hp → Prop) (s' : Shared) : Prop := ∃ H' m' h', Inv X pins σ H' s' ∧ Ex G m H m' H' ∧ Sim G m' h' H' ∧ RP G W0 (BRel G) m' H' τ (r h') Q
theorem rvs_drop : ∀ {vs : List MV} {xs : List V} (i : Nat), RVs G m H vs xs → RVs G m H (vs.drop i) (xs.drop i)
  | _, _, 0, r => r
  | [], xs, i + 1, r => by
    simp only [RVs] at r
    subst r
    simp only [List.drop_nil, RVs]
  | v :: vs, xs, i + 1, r => by
    simp only [RVs] at r
    obtain ⟨y, ys, rfl, _, r⟩ := r
    exact rvs_drop i r
theorem tupE_rc {A : Around} (hK : X.K = G.K) (D : Dn X.prog X.w X.K X.mg X.base G f k ps 2 g) (hm : Meth X.K (G.cl c) "__eq__" f) (sb : Sub X (k + 1) A) {vs ws : List MV} {a b : Addr} {xs ys : List V} {Q : Bool → Hp → Prop} (I : Inv X pins σ H s) (S : Sim G m h H) (ha : H a = some (.tup xs)) (hb : H b = some (.tup ys)) (r1 : RVs G m H vs xs) (r2 : RVs G m H ws ys)
    (hl : vs.length = ws.length) (p : RP G W0 (BRel G) m H τ (seqE c g vs ws h) Q) : wpAny (model X.prog X.w) A (richCompare .Eq (.ref a) (.ref b)) (fun v s' => ∃ r, v = .bool r ∧ TP X pins σ Q r s') X.xe s := by
  obtain ⟨its, r, e, z⟩ := I.tuple (SqT.of ha)
  obtain ⟨its2, r', e', z'⟩ := I.tuple (SqT.of hb)
  have hsz : its.toArray.size = its2.toArray.size := by rw [List.size_toArray, List.size_toArray, ← r.length, ← r'.length, r1.length, r2.length]; exact hl
  have e0 := e
  obtain ⟨⟨cls, dd, data, sl⟩, ho, hc, n, hd⟩ := e
  obtain ⟨⟨cls2, dd2, data2, sl2⟩, ho2, hc2, n2, hd2⟩ := e'
  simp only at hc hd hc2 hd2
  subst hc hd hc2 hd2
  refine wpAny_richCompare_same_room (op := .Eq) ⟨_, ho, rfl⟩ ⟨_, ho2, rfl⟩ F.slot_tuple_eq (GQ.call_here F.slot_tuple_eq ⟨_, ho, rfl⟩ F.entry_tuple_eq (F.args_tuple_eq_2 _ _) ?_) sb.room.units0
  refine KQ.tuple2 (I := fun i s' => Mid X G pins σ τ m H (fun h' => seqE c g (vs.drop i) (ws.drop i) h') Q s') (J := fun s' => TP X pins σ Q false s') ⟨fun i h1 h2 s' hI => ?_, fun s' hI => ?_, fun s' hj => ⟨(fun x => nomatch x), false, rfl, hj⟩⟩ hsz ho ho2 ⟨H, m, h, I, .refl, S, p⟩
  · obtain ⟨H1, m1, h1', I1, x1, S1, p1⟩ := hI
    have k1 : i < xs.length := by rw [r.length]; simpa using h1
    have k2 : i < ys.length := by rw [r'.length]; simpa using h2
    obtain ⟨u, hu, ru⟩ := r.get (List.getElem?_eq_getElem k1)
    obtain ⟨v, hv, rv⟩ := r'.get (List.getElem?_eq_getElem k2)
    have g1 : its[i]? = some its.toArray[i] := by
      have h1' : i < its.length := by simpa using h1
      rw [List.getElem?_eq_getElem h1'] <;> simp
    have g2 : its2[i]? = some its2.toArray[i] := by
      have h2' : i < its2.length := by simpa using h2
      rw [List.getElem?_eq_getElem h2'] <;> simp
    rw [g1] at hu
    rw [g2] at hv
    rw [Option.some.inj hu, Option.some.inj hv]
    have d1 := rvs_drop i (r1.mono x1.toLe)
    have d2 := rvs_drop i (r2.mono x1.toLe)
    rw [List.drop_eq_getElem_cons k1] at d1
    rw [List.drop_eq_getElem_cons k2] at d2
    have j1 : i < vs.length := by rw [← r1.length]; exact k1
    have j2 : i < ws.length := by rw [← r2.length]; exact k2
    rw [List.drop_eq_getElem_cons j1] at d1 p1
    rw [List.drop_eq_getElem_cons j2] at d2 p1
    simp only [RVs] at d1 d2
    obtain ⟨y1, t1, z1, q1, _⟩ := d1
    obtain ⟨y2, t2, z2, q2, _⟩ := d2
    cases z1
    cases z2
    have p2 : RP G W0 (BRel G) m1 H1 τ ((elE c g vs[i] ws[i] h1').bind fun b h1 => match b with
      | true => seqE c g (vs.drop (i + 1)) (ws.drop (i + 1)) h1
      | false => .ok false h1) Q := p1
    refine wpAny_mono (elE_ok D hm (A := A.in1) sb.in1 I1 S1 q1 q2 ru rv (RP.bind (Rel := BRel G) p2)) (fun t s2 z => ?_) fun _ _ x => x
    obtain ⟨H2, I2, m2, h2, t2, x2, S2, et, p3⟩ := z
    subst et
    cases t with
    | true => exact ⟨H2, m2, h2, I2, x1.trans x2, S2, p3⟩
    | false => exact ⟨H2, I2, RP.now p3 S2 rfl⟩
  · obtain ⟨H1, m1, h1', I1, x1, S1, p1⟩ := hI
    have w1 : vs.drop its.toArray.size = [] := by
      apply List.drop_of_length_le
      have := r.length
      have := r1.length
      simp only [List.size_toArray]; omega
    have w2 : ws.drop its.toArray.size = [] := by
      apply List.drop_of_length_le
      have := r.length
      have := r1.length
      simp only [List.size_toArray]; omega
    dsimp only at p1
    rw [w1, w2] at p1
    exact ⟨(fun x => nomatch x), true, rfl, H1, I1, RP.now (y := true) p1 S1 rfl⟩
theorem itE_ok {A : Around} (hK : X.K = G.K) (D : Dn X.prog X.w X.K X.mg X.base G f k ps 2 g) (hm : Meth X.K (G.cl c) "__eq__" f) (sb : Sub X (k + 1) A) {v w : MV} {x y : V} {u1 u2 : Value} {Q : Bool → Hp → Prop} (I : Inv X pins σ H s) (S : Sim G m h H) (r1 : RV G m H v x) (r2 : RV G m H w y) (rx : RelV x u1) (ry : RelV y u2)
    (p : RP G W0 (BRel G) m H τ (itE c g v w h) Q) : wpAny (model X.prog X.w) A (eqBool u1 u2) (TP X pins σ Q) X.xe s := by
  cases v with
  | tup vs =>
    cases w with
    | tup ws =>
      unfold itE at p
      dsimp only at p
      cases el : Nat.beq vs.length ws.length with
      | false => rw [el] at p; exact p.elim
      | true =>
        rw [el] at p
        simp only [RV] at r1 r2
        obtain ⟨a, xs, rfl, ha, rx1⟩ := r1
        obtain ⟨b, ys, rfl, hb, ry1⟩ := r2
        cases (show u1 = Value.ref a from rx)
        cases (show u2 = Value.ref b from ry)
        by_cases hab : a = b
        · subst hab
          rw [ha] at hb
          cases hb
          exact SeqAt.EqAt.same (A := A) (s := s) (.ref a) X.prog X.w X.xe _ ⟨H, I, seqE_self S rx1 ry1 p⟩
        · exact GQ.eqBool_refG hab (tupE_rc hK D hm sb I S ha hb rx1 ry1 (Nat.eq_of_beq_eq_true el) p)
    | _ => exact p.elim
  | _ => exact p.elim
/-- two mini lists stand as they are read -/
theorem twoL_of {n j N : Nat} {xs ys : List MV} {a b : Addr} (S : Sim G m h H) (r1 : RV G m H (.ref n) (.ref a)) (r2 : RV G m H (.ref j) (.ref b)) (e : twoL n j N h = some (xs, ys)) : ∃ us vs, H a = some (.lst us) ∧ H b = some (.lst vs) ∧ RVs G m H xs us ∧ RVs G m H ys vs ∧ xs.length = N ∧ ys.length = N := by
  unfold twoL at e
  cases e1 : h.get n with
  | none => rw [e1] at e; cases e
  | some o1 =>
    cases e2 : h.get j with
    | none => rw [e1, e2] at e; cases o1 <;> cases e
    | some o2 =>
      rw [e1, e2] at e
      cases o1 with
      | lst xs' =>
        cases o2 with
        | lst ys' =>
          dsimp only at e
          cases el : (Nat.beq xs'.length N && Nat.beq ys'.length N) with
          | false => rw [el] at e; cases e
          | true =>
            rw [el] at e
            cases e
            obtain ⟨l1, l2⟩ := Bool.and_eq_true_iff.mp el
            obtain ⟨a', us, ea, za, ha, ru⟩ := S.lst e1 r1
            obtain ⟨b', vs, eb, zb, hb, rv⟩ := S.lst e2 r2
            cases za
            cases zb
            exact ⟨us, vs, ha, hb, ru, rv, Nat.eq_of_beq_eq_true l1, Nat.eq_of_beq_eq_true l2⟩
        | _ => cases e
      | _ => cases o2 <;> cases e
theorem two_LR {n j N : Nat} {xs ys : List MV} {a b : Addr} (I : Inv X pins σ H s) (S : Sim G m h H) (r1 : RV G m H (.ref n) (.ref a)) (r2 : RV G m H (.ref j) (.ref b)) (e : twoL n j N h = some (xs, ys)) : KQ.LR a b N s := by
  obtain ⟨us, vs, ha, hb, ru, rv, l1, l2⟩ := twoL_of S r1 r2 e
  obtain ⟨_, its, k1, q1, g1⟩ := I.hok a _ ha
  obtain ⟨_, its2, k2, q2, g2⟩ := I.hok b _ hb
  exact ⟨its.toArray, its2.toArray, k1, k2, g1, g2, by rw [List.size_toArray, ← q1.length, ru.length]; exact l1, by rw [List.size_toArray, ← q2.length, rv.length]; exact l2⟩
theorem lstE_two {n j N d i : Nat} {Q : Bool → Hp → Prop} (p : RP G W0 (BRel G) m H τ (lstE c g n j N d i h) Q) : ∃ xs ys, twoL n j N h = some (xs, ys) := by
  cases d with
  | zero =>
    unfold lstE at p
    cases e : twoL n j N h with
    | none => rw [e] at p; exact p.elim
    | some q => exact ⟨q.1, q.2, rfl⟩
  | succ d =>
    unfold lstE at p
    cases e : twoL n j N h with
    | none => rw [e] at p; exact p.elim
    | some q => exact ⟨q.1, q.2, rfl⟩
theorem lstE_rc {A : Around} (hK : X.K = G.K) (D : Dn X.prog X.w X.K X.mg X.base G f k ps 2 g) (hm : Meth X.K (G.cl c) "__eq__" f) (sb : Sub X (k + 2) A) {n j N : Nat} {a b : Addr} {Q : Bool → Hp → Prop} (I : Inv X pins σ H s) (S : Sim G m h H) (r1 : RV G m H (.ref n) (.ref a)) (r2 : RV G m H (.ref j) (.ref b))
    (p : RP G W0 (BRel G) m H τ (lstE c g n j N N 0 h) Q) : wpAny (model X.prog X.w) A (richCompare .Eq (.ref a) (.ref b)) (fun v s' => ∃ r, v = .bool r ∧ TP X pins σ Q r s') X.xe s := by
  obtain ⟨xs0, ys0, e0⟩ := lstE_two p
  obtain ⟨xs, ys, k1, k2, g1, g2, z1, z2⟩ := two_LR I S r1 r2 e0
  refine wpAny_richCompare_same_room (op := .Eq) ⟨_, g1, rfl⟩ ⟨_, g2, rfl⟩ F.slot_list_eq (GQ.call_here F.slot_list_eq ⟨_, g1, rfl⟩ F.entry_list_eq (F.args_list_eq_2 _ _) ?_) sb.room.units0
  refine KQ.list2 (N := N) (I := fun i s' => Mid X G pins σ τ m H (fun h' => lstE c g n j N (N - i) i h') Q s') (J := fun s' => TP X pins σ Q false s') ⟨fun i s' hI => ?_, fun i s' us vs c1 c2 hI f1 f2 h1 h2 => ?_, fun s' hI => ?_, fun s' hj => ⟨(fun x => nomatch x), false, rfl, hj⟩⟩ ⟨H, m, h, I, .refl, S, p⟩
  · obtain ⟨H1, m1, h1', I1, x1, S1, p1⟩ := hI
    obtain ⟨xs1, ys1, e1⟩ := lstE_two p1
    exact two_LR I1 S1 (r1.mono x1.toLe) (r2.mono x1.toLe) e1
  · obtain ⟨H1, m1, h1', I1, x1, S1, p1⟩ := hI
    have s1 := r1.mono x1.toLe
    have s2 := r2.mono x1.toLe
    obtain ⟨xs1, ys1, e1⟩ := lstE_two p1
    obtain ⟨us1, vs1, ha, hb, ru, rv, l1, l2⟩ := twoL_of S1 s1 s2 e1
    obtain ⟨_, its, q1, v1, t1⟩ := I1.hok a _ ha
    obtain ⟨_, its2, q2, v2, t2⟩ := I1.hok b _ hb
    rw [t1] at f1
    rw [t2] at f2
    cases f1
    cases f2
    have k1 : i < us1.length := by rw [v1.length]; simpa using h1
    have k2 : i < vs1.length := by rw [v2.length]; simpa using h2
    have j1 : i < xs1.length := by rw [← ru.length]; exact k1
    have j2 : i < ys1.length := by rw [← rv.length]; exact k2
    have hd : N - i = (N - (i + 1)) + 1 := by omega
    rw [hd] at p1
    unfold lstE at p1
    dsimp only at p1
    rw [e1] at p1
    dsimp only at p1
    rw [List.getElem?_eq_getElem j1, List.getElem?_eq_getElem j2] at p1
    dsimp only at p1
    obtain ⟨x', ex, rx'⟩ := ru.get (List.getElem?_eq_getElem j1)
    obtain ⟨y', ey, ry'⟩ := rv.get (List.getElem?_eq_getElem j2)
    obtain ⟨u, hu, wu⟩ := v1.get ex
    obtain ⟨v, hv, wv⟩ := v2.get ey
    have i1 : its[i]? = some its.toArray[i] := by
      have h1' : i < its.length := by simpa using h1
      rw [List.getElem?_eq_getElem h1'] <;> simp
    have i2 : its2[i]? = some its2.toArray[i] := by
      have h2' : i < its2.length := by simpa using h2
      rw [List.getElem?_eq_getElem h2'] <;> simp
    rw [i1] at hu
    rw [i2] at hv
    rw [Option.some.inj hu, Option.some.inj hv]
    refine wpAny_mono (itE_ok hK D hm (A := A.in1) sb.in1 I1 S1 rx' ry' wu wv (RP.bind (Rel := BRel G) p1)) (fun t s2' z => ?_) fun _ _ x => x
    obtain ⟨H2, I2, m2, h2', t2, x2, S2, et, p3⟩ := z
    subst et
    cases t with
    | true => exact ⟨H2, m2, h2', I2, x1.trans x2, S2, p3⟩
    | false =>
      dsimp only at p3
      cases e3 : twoL n j N h2' with
      | none => rw [e3] at p3; exact p3.elim
      | some q =>
        rw [e3] at p3
        exact ⟨two_LR I2 S2 (s1.mono x2.toLe) (s2.mono x2.toLe) e3, H2, I2, RP.now p3 S2 rfl⟩
  · obtain ⟨H1, m1, h1', I1, x1, S1, p1⟩ := hI
    rw [Nat.sub_self] at p1
    unfold lstE at p1
    dsimp only at p1
    cases e : twoL n j N h1' with
    | none => rw [e] at p1; exact p1.elim
    | some q =>
      rw [e] at p1
      exact ⟨(fun x => nomatch x), true, rfl, H1, I1, RP.now (y := true) p1 S1 rfl⟩
/-- a == b of lists: what is said of the mini heap -/
def rEqDp (G : GC) (c : Nat) (g : FM) : R2 := fun x y H Q => ∃ m h n j N a b τ, x = .ref a ∧ y = .ref b ∧ Sim G m h H ∧ RV G m H (.ref n) (.ref a) ∧ RV G m H (.ref j) (.ref b) ∧ RP G W0 (BRel G) m H τ (lstE c g n j N N 0 h) fun t H' => Q (.bl t) H'
theorem op_eqDp (hK : X.K = G.K) (D : Dn X.prog X.w X.K X.mg X.base G f k ps 2 g) (hm : Meth X.K (G.cl c) "__eq__" f) (hr : Room (k + 2) X.A) : OpR X (compareOp .Eq) (rEqDp G c g) := by
  intro pins s σ H x y v u Q I rx ry hq
  obtain ⟨m, h, n, j, N, a, b, τ, rfl, rfl, S, r1, r2, p⟩ := hq
  cases (show v = Value.ref a from rx)
  cases (show u = Value.ref b from ry)
  show wpAny (model X.prog X.w) X.A (richCompare .Eq (.ref a) (.ref b)) (EP X pins σ Q) X.xe s
  refine wpAny_mono (lstE_rc hK D hm (sub_here hr) I S r1 r2 p) (fun r s' z => ?_) fun _ _ x => x
  obtain ⟨t, rfl, H', I', q⟩ := z
  exact ⟨.bl t, H', I', rfl, q⟩
theorem o_eqDp : Op20 G (rEqDp G c g) (qEqD c g) := by
  intro m h H σ v w x y Q S r1 r2 p
  unfold qEqD at p
  cases v with
  | ref n =>
    cases w with
    | ref j =>
      dsimp only at p
      cases e : h.get n with
      | none => rw [e] at p; exact p.elim
      | some o =>
        rw [e] at p
        cases o with
        | lst xs =>
          have q1 := r1
          have q2 := r2
          simp only [RV] at r1 r2
          obtain ⟨a, _, rfl⟩ := r1
          obtain ⟨b, _, rfl⟩ := r2
          exact ⟨m, h, n, j, xs.length, a, b, σ, rfl, rfl, S, q1, q2, (RP.bind (Rel := BRel G) p).imp fun t H2 ⟨m2, h2, t2, x2, S2, et, p2⟩ => by
            subst et
            exact RP.now p2 S2 (by simp [RV])⟩
        | _ => exact p.elim
    | _ => exact p.elim
  | _ => exact p.elim
end
section
variable {X : Cx} {G : GC} {a b : Expr} {fa fb : EM} {pos : Pos} {k c : Nat} {f : Addr} {ps : List PySem.Str} {g : FM}
theorem x_deq (D : Dn X.prog X.w X.K X.mg X.base G f k ps 2 g) (hm : Meth G.K (G.cl c) "__eq__" f) (hr : Room (k + 2) X.A) (ha : PE X a (tM G W0 fa)) (hb : PE X b (tM G W0 fb)) (hK : X.K = G.K := by rfl) (hb2 : behindInMarks .Eq b = false := by first | exact nomark _ | rfl) : PE X (.Compare a [.Eq] [b] pos) (tM G W0 (e2 (qEqD c g) fa fb)) := k_op0 o_eqDp (pe_cmpR (op_eqDp hK D (hK ▸ hm) hr) ha hb hb2)
end
end KA

set_option Elab.async false
set_option autoImplicit false
set_option linter.all false
set_option maxRecDepth 100000
set_option maxHeartbeats 1000000
/-! KDc2: {k: v for p in w if t for q in u if r}: a dict comprehension with two fors. -/
namespace KA
open PySem PySem.Spec PyProof.Rows L2
/-- the tests of a comprehension, one by one -/
def oksC (ifs : List Expr) (env : Env) : Sem Bool := forIn ifs true fun c r => if r = true then do let ok ← isTrue c env (eval c env); pure (ForInStep.yield ok) else pure (ForInStep.yield r)
/-- a comprehension's loop, read: J the walk, B what the kept turns do -/
def LoopT (J : It) (g : TG) (tt : TT) (σ : L2.St) (vs : List Nat) (B : L2.St → Hp → (Hp → Prop) → Prop) (Stop : Hp → Prop) (H0 : Hp) : Prop :=
  ∃ W : Nat → Nat → Hp → Prop, (∃ n, W 0 n H0) ∧ ∀ i n H, W i n H → (J.stop i H ∧ Stop H) ∨ (J.go i H ∧ ∃ Nx : Hp → Prop, (∀ H', Nx H' → ∃ n', n' < n ∧ W (i + 1) n' H') ∧ ∀ x H', J.yld i H x H' → g x (wipe σ vs) H' fun σ2 H2 => wipe σ2 vs = wipe σ vs ∧ tt σ2 H2 fun c H3 => if c = true then B σ2 H3 Nx else Nx H3)
/-- one turn of a loop whose kept turns run act -/
def turnC (e : Expr) (d : Nat) (it acc : Value) (env : Env) (tg ix : Expr) (ifs : List Expr) (act : Sem Fin → Sem Fin) : Sem Fin := do
  standAt ix.pos
  let r ← pyNext it
  match r with
  | none => pure (.done .next)
  | some y => (do
    letOwnedTupleGo tg it y
    assign tg env y
    let yes ← oksC ifs env
    if yes = true then act (again (.compLoop e d it acc env)) else again (.compLoop e d it acc env))
/-- slots that know no less -/
def KnowS (σ τ : L2.St) : Prop := σ.length = τ.length ∧ ∀ (j : Nat) v, σ[j]? = some (some v) → τ[j]? = some (some v)
theorem know_of_wipe {σ τ : L2.St} {vs : List Nat} (e : wipe τ vs = σ) : KnowS σ τ := by
  subst e
  exact ⟨wipe_length _ _, fun j v q => (wipe_some q).1⟩
/-- a loop by its turns, in any block -/
theorem loopC {Y : Cx} {e : Expr} {d : Nat} {it : Addr} {acc : Value} {tg ix : Expr} {ifs : List Expr} {act : Sem Fin → Sem Fin} {J : It} {tn : Nat → Heap → Prop} {fp : List Addr} {pins : List (Addr × Obj)} {σ : L2.St} {vs : List Nat} {H0 : Hp} {s : Shared} {g : TG} {tt : TT} {B : L2.St → Hp → (Hp → Prop) → Prop} {Stop : Hp → Prop} {R : Result → Shared → Prop}
    (hy : Y.xe = fun _ _ => False) (hc : Y.calm = true) (eq : compTurn e d (.ref it) acc Y.env = turnC e d (.ref it) acc Y.env tg ix ifs act) (T : Turn Y.prog Y.w Y.K tg J fp it tn) (pg : PG Y tg g) (pt : PTs Y ifs tt)
    (fpk : ∀ {τ : L2.St} {H : Hp} {s : Shared}, Inv Y pins τ H s → (∀ b ∈ fp, H b = none) → ∀ b ∈ fp, FpOk Y pins H b)
    (I0 : Inv Y pins (wipe σ vs) H0 s) (t0 : tn 0 s.heap) (n0 : ∀ b ∈ fp, H0 b = none) (L : LoopT J g tt σ vs B Stop H0)
    (hact : ∀ (ps : List (Addr × Obj)) (τ : L2.St) (H : Hp) (s : Shared) (Nx : Hp → Prop) (kk : Sem Fin) (Qf : Fin → Shared → Prop), Inv Y ps τ H s → wipe τ vs = wipe σ vs → B τ H Nx → (∀ s' τ' H', Inv Y ps τ' H' s' → KnowS (wipe σ vs) τ' → Nx H' → wpAny (model Y.prog Y.w) Y.A kk Qf (fun _ _ => False) s') → wpAny (model Y.prog Y.w) Y.A (act kk) Qf (fun _ _ => False) s)
    (hend : ∀ s' H', Inv Y pins (wipe σ vs) H' s' → Stop H' → R (.ok .next) s')
    (hq : (Code.compLoop e d (.ref it) acc Y.env).quiet = true := by rfl) (hf : (Code.compLoop e d (.ref it) acc Y.env).isFrame = false := by rfl) (hA : Y.A.under (Code.compLoop e d (.ref it) acc Y.env) = Y.A := by rfl) :
    codeAny (model Y.prog Y.w) Y.A (.compLoop e d (.ref it) acc Y.env) R s := by
  obtain ⟨W, ⟨m0, w0⟩, turn⟩ := L
  refine codeAny_loop hq (fun n s' => ∃ i H', Inv Y pins (wipe σ vs) H' s' ∧ tn i s'.heap ∧ (∀ b ∈ fp, H' b = none) ∧ W i n H') (fun n s1 hI => ?_) m0 ⟨0, H0, I0, t0, n0, w0⟩
  obtain ⟨i, H1, I1, t1, n1, w1⟩ := hI
  rw [hA]
  have hd : (model Y.prog Y.w).den (Code.compLoop e d (.ref it) acc Y.env) = (compTurn e d (.ref it) acc Y.env).onRaise (fun x => do noteFrame x Y.env; theTreesLotGoes x) := by
    show (if (Code.compLoop e d (.ref it) acc Y.env).isFrame = true then _ else _) = _
    rw [hf]
    rfl
  rw [hd]
  refine wpAny_noted (thnF (Q := fun fin s' => match fin with | .done f => R (.ok f) s' | .again c' => c' = Code.compLoop e d (.ref it) acc Y.env ∧ ∃ m, m < n ∧ ∃ i H', Inv Y pins (wipe σ vs) H' s' ∧ tn i s'.heap ∧ (∀ b ∈ fp, H' b = none) ∧ W i m H') ?_ fun _ _ q => q)
  rw [eq]
  unfold turnC
  refine wpAny_bind (wpAny_standAt (wpAny_bind ?_))
  rcases turn i n H1 w1 with ⟨st, fin⟩ | ⟨go, Nx, hNx, step⟩
  · refine thnF (T.done Y rfl rfl rfl hc i pins s1 _ H1 (fun _ _ => False) I1 (fpk I1 n1) t1 st) fun r s2 ⟨hr, I2⟩ => ?_
    subst hr
    exact wpAny_pure (hend s2 H1 I2 fin)
  · refine thnF (T.item Y rfl rfl rfl hc i pins s1 _ H1 (fun _ _ => False) I1 (fpk I1 n1) t1 go) fun r s2 ⟨u, hr, h2⟩ => ?_
    subst hr
    refine wpAny_bind (thnF h2 fun _ s3 ⟨x, H3, I3, r3, y3, t3, n3⟩ => ?_)
    have J3 := I3.pinned (fpk I3 n3) (T.obj _ _ t3)
    have pgr := pg.run _ s3 _ H3 x u _ J3 r3 (step x H3 y3)
    rw [hy] at pgr
    refine wpAny_bind (thnF pgr fun _ s4 ⟨σ4, H4, I4, hw4, q4⟩ => ?_)
    have ptr := pt.run _ s4 σ4 H4 _ I4 q4
    rw [hy] at ptr
    refine wpAny_bind (thnF ptr fun b s5 ⟨H5, I5, q5⟩ => ?_)
    -- the turn's end
    have back : ∀ {τ : L2.St} {H' : Hp} {s' : Shared}, Inv Y (pins ++ pinsAt fp s3.heap) τ H' s' → KnowS (wipe σ vs) τ → Nx H' → ∃ m, m < n ∧ ∃ i H', Inv Y pins (wipe σ vs) H' s' ∧ tn i s'.heap ∧ (∀ b ∈ fp, H' b = none) ∧ W i m H' := fun {τ H' s'} I' kn nx => by
      obtain ⟨m', lt, w'⟩ := hNx H' nx
      have stay : ∀ b ∈ fp, ∀ o, s3.heap.get? b = some o → s'.heap.get? b = some o ∧ H' b = none := fun b hb o eo => by
        have z := I'.pin (b, o) (List.mem_append_right _ (List.mem_append_right _ (mem_pinsAt hb eo)))
        exact ⟨z.1, z.2.1⟩
      refine ⟨m', lt, i + 1, H', I'.unpinned.weak kn.1 kn.2, T.keep _ _ _ t3 fun b hb o eo => (stay b hb o eo).1, fun b hb => ?_, w'⟩
      obtain ⟨o, eo, _⟩ := T.obj _ _ t3 b hb
      exact (stay b hb o eo).2
    cases b with
    | false =>
      simp only [Bool.false_eq_true, if_false] at q5 ⊢
      exact wpAny_pure ⟨rfl, back I5 (know_of_wipe hw4) q5⟩
    | true =>
      simp only [if_true] at q5 ⊢
      exact hact _ σ4 H5 s5 Nx _ _ I5 hw4 q5 fun s6 τ H6 I6 kn nx => wpAny_pure ⟨rfl, back I6 kn nx⟩
/-- what the block of such a comprehension reads as -/
structure Dc2B (Y : Cx) (ta tb ib kx vx : Expr) (fa fb : List Expr) (g g1 : TG) (wi1 : TI) (tt tt1 : TT) (tk tv : TE) : Prop where
  ga : PG Y ta g
  oa : PTs Y fa tt
  wb : PI Y tb ib wi1
  gb : PG Y tb g1
  ob : PTs Y fb tt1
  k : PE Y kx tk
  v : PE Y vx tv
/-- one entry more -/
def putT (D : Addr) (tk tv : TE) : L2.St → Hp → (Hp → Prop) → Prop := fun τ H Nx => tk τ H fun y H1 => tv τ H1 fun z H2 => ∃ kvs k, y = kV k ∧ H2 D = some (.dK kvs) ∧ kvs.length < sizeLine ∧ Nx (upd H2 D (.dK (putK kvs k z)))
def tDc2 (wi : TI) (g : TG) (tt : TT) (wi1 : TI) (g1 : TG) (tt1 : TT) (tk tv : TE) (vs vs1 : List Nat) : TE := fun σ H Q => wi σ H fun J H1 => ∀ D, H1 D = none →
  LoopT J g tt σ vs (fun τ H3 Nx => wi1 τ H3 fun J1 H4 => LoopT J1 g1 tt1 τ vs1 (putT D tk tv) Nx H4) (Q (.ref D)) (upd H1 D (.dK []))
section
variable {kx vx ta ia tb ib : Expr} {fa fb : List Expr} {sc : Scope} {ps : Pos} {env : Env}
/-- an entry is put -/
def actIn (kx vx : Expr) (D : Addr) (env : Env) (kk : Sem Fin) : Sem Fin := do
  (do
    let y ← eval kx env
    let z ← holding [y] (eval vx env)
    standAt { kx.pos with endLine := vx.pos.endLine, endCol := vx.pos.endCol }
    holding [y, z] (dictSet D y z))
  kk
/-- the second clause runs -/
def actOut (e ib : Expr) (acc : Value) (env : Env) (kk : Sem Fin) : Sem Fin := do
  let z ← eval ib env
  standAt ib.pos
  let z ← foldedSetIterable ib env z
  let jt ← holding [z] (pyIter z)
  let _ ← runOwn (.compStart e 1 jt acc env) env
  kk
theorem turn_a (it acc : Value) : compTurn (.DictComp kx vx [⟨ta, ia, fa, 0⟩, ⟨tb, ib, fb, 0⟩] sc ps) 0 it acc env = turnC (.DictComp kx vx [⟨ta, ia, fa, 0⟩, ⟨tb, ib, fb, 0⟩] sc ps) 0 it acc env ta ia fa (actOut (.DictComp kx vx [⟨ta, ia, fa, 0⟩, ⟨tb, ib, fb, 0⟩] sc ps) ib acc env) := by rfl
theorem turn_b (it : Value) (D : Addr) : compTurn (.DictComp kx vx [⟨ta, ia, fa, 0⟩, ⟨tb, ib, fb, 0⟩] sc ps) 1 it (.ref D) env = turnC (.DictComp kx vx [⟨ta, ia, fa, 0⟩, ⟨tb, ib, fb, 0⟩] sc ps) 1 it (.ref D) env tb ib fb (actIn kx vx D env) := by rfl
/-- the second clause's start: its iterator is taken once more, or not -/
theorem start_b {prog : Program} {w : World} {A : Around} {R : Result → Shared → Prop} {s : Shared} {it acc : Value}
    (l0 : codeAny (model prog w) A (.compLoop (.DictComp kx vx [⟨ta, ia, fa, 0⟩, ⟨tb, ib, fb, 0⟩] sc ps) 1 it acc env) R s)
    (l1 : wpAny (model prog w) A (pyIter it) (fun j s' => codeAny (model prog w) A (.compLoop (.DictComp kx vx [⟨ta, ia, fa, 0⟩, ⟨tb, ib, fb, 0⟩] sc ps) 1 j acc env) R s') (fun _ _ => False) s) :
    codeAny (model prog w) A (.compStart (.DictComp kx vx [⟨ta, ia, fa, 0⟩, ⟨tb, ib, fb, 0⟩] sc ps) 1 it acc env) R s := by
  have q : wpAny (model prog w) A (compStart (.DictComp kx vx [⟨ta, ia, fa, 0⟩, ⟨tb, ib, fb, 0⟩] sc ps) 1 it acc env) (fun fin s' => match fin with | .done f => R (.ok f) s' | .again c => c.quiet = true ∧ codeAny (model prog w) A c R s') (fun _ _ => False) s := by
    unfold compStart
    show wpAny _ _ (ask >>= _) _ _ s
    refine wpAny_bind (wpAny_askSetting (wpAny_ite ?_))
    split
    · first
        | exact wpAny_pure ⟨rfl, l0⟩
        | exact wpAny_bind (wpAny_pure (wpAny_pure ⟨rfl, l0⟩))
    · refine wpAny_bind (wpAny_rule ?_)
      show wpAny _ _ (standAt ib.pos >>= _) _ _ s
      exact wpAny_bind (wpAny_standAt (wpAny_bind (thnF l1 fun _ _ h => wpAny_pure ⟨rfl, h⟩)))
  refine codeAny_of_tree ?_
  show wpAny _ _ ((compStart (.DictComp kx vx [⟨ta, ia, fa, 0⟩, ⟨tb, ib, fb, 0⟩] sc ps) 1 it acc env).onRaise (fun x => do noteFrame x env; standAt theWindowsPlace)) _ _ s
  exact wpAny_notedAt (thnF q fun _ _ h => h)
end
theorem know_out {σ τ : L2.St} {vs vs1 : List Nat} (e : wipe τ vs = wipe σ vs) (hv : ∀ i ∈ vs1, i ∈ vs) : KnowS (wipe σ vs) (wipe τ vs1) := by
  rw [← e]
  refine ⟨by rw [wipe_length, wipe_length], fun j v q => ?_⟩
  obtain ⟨q1, q2⟩ := wipe_some q
  rw [wipe_out fun z => q2 (hv j z)]
  exact q1
theorem pe_dc2 {X : Cx} {kx vx ta ia tb ib : Expr} {fa fb : List Expr} {scope : Scope} {own : List (PySem.Str × Nat)} {vs1 : List Nat} {pos : Pos} {wi wi1 : TI} {g g1 : TG} {tt tt1 : TT} {tk tv : TE}
    (hc : X.calm = true) (hN : X.N.Nodup) (hi : PI X ta ia wi) (ok : BlkOk X.N X.env.scope scope own) (hv : ∀ i ∈ vs1, i ∈ own.map (·.2))
    (hB : ∀ (s : Shared) (H : Hp) (C : Addr) (cl : List (PySem.Str × Addr)) (fp : List Addr), Dc2B (X.blk s H scope (compEnvC scope cl C X.env) fp) ta tb ib kx vx fa fb g g1 wi1 tt tt1 tk tv)
    (hs : ∀ x, foldedSetIterable ia X.env x = pure x := by intro _; rfl) (hs1 : ∀ env x, foldedSetIterable ib env x = pure x := by intro _ _; rfl) :
    PE X (.DictComp kx vx [⟨ta, ia, fa, 0⟩, ⟨tb, ib, fb, 0⟩] scope pos) (tDc2 wi g tt wi1 g1 tt1 tk tv (own.map (·.2)) vs1) := by
  refine ⟨fun pins s σ H Q I h => ?_⟩
  rw [arm_eval_DictComp]
  have cells : ∀ y ∈ scope.names, y.2 = .free → ∃ c, X.env.cells.lookup y.1 = some c := fun y hy e => (ok.free y hy e).elim (fun z => I.ok.has _ (.inl z)) fun z => I.ok.has _ (.inr z)
  refine wpAny_comprehension_free (use := none) rfl hs (closure_ok cells) ok.kind (fun y hy e => by rw [ok.uniq y hy, e]) (thn (hi.run pins s σ H _ I h) fun _ s1 hx => thn hx fun _ s2 ⟨it, fp, tn, J, H2, e, I2, T, t2, f2, q⟩ => ?_)
  subst e
  refine wpAny_newObj_type (newEnv_comp ?_)
  have L := q s2.heap.objs.size (I2.hok.fresh (Nat.le_refl _))
  have fresh : ∀ b ∈ fp, b < s2.heap.objs.size := fun b hb => (T.obj _ _ t2 b hb).elim fun _ z => Heap.lt_size z.1
  have I3 : Inv X pins σ (upd H2 s2.heap.objs.size (.dK [])) { s2 with heap := s2.heap.push { cls := .type "dict", data := .dict #[] } } :=
    I2.laid (t' := s2.toks) (fun b o e => Heap.get?_push_of_some _ e) (Nat.le_refl _) (dk_empty s2.heap I2.big)
  have t3 : tn 0 (s2.heap.push { cls := .type "dict", data := .dict #[] }) := T.keep _ _ _ t2 fun b _ o e => Heap.get?_push_of_some _ e
  have f3 : ∀ b ∈ fp, FpOk X pins (upd H2 s2.heap.objs.size (.dK [])) b ∧ b < (s2.heap.push { cls := .type "dict", data := .dict #[] }).objs.size := fun b hb =>
    ⟨⟨(upd_ne (Nat.ne_of_lt (fresh b hb))).trans (f2 b hb).1, (f2 b hb).2⟩, by rw [Heap.size_push]; exact Nat.lt_succ_of_lt (fresh b hb)⟩
  generalize hh : s2.heap.push { cls := .type "dict", data := .dict #[] } = h3 at I3 t3 f3 ⊢
  generalize hD : s2.heap.objs.size = D at I3 f3 L ⊢
  generalize hH : upd H2 D (.dK []) = H3 at I3 f3 L
  have I4 := block_start I3 ok hN f3
  have Bk := hB { s2 with heap := h3 } H3 h3.objs.size (cellsFrom (h3.objs.size + 1) scope.names (cloFrom X.env.cells scope.names [])) fp
  generalize hce : compEnvC scope (cellsFrom (h3.objs.size + 1) scope.names (cloFrom X.env.cells scope.names [])) h3.objs.size X.env = ce at I4 Bk
  have cL : ce.locals = h3.objs.size := by rw [← hce]; rfl
  show codeAny _ _ (.compStart (.DictComp kx vx [⟨ta, ia, fa, 0⟩, ⟨tb, ib, fb, 0⟩] scope pos) 0 (.ref it) (.ref D) (compEnvC scope (cellsFrom (h3.objs.size + 1) scope.names (cloFrom X.env.cells scope.names [])) h3.objs.size X.env)) _ { s2 with heap := pushCells (h3.push { cls := .type "dict", data := .dict #[] }) scope.names }
  rw [hce]
  have I4' : Inv (X.blk { s2 with heap := h3 } H3 scope ce fp) [] (wipe σ (own.map (·.2))) H3 { s2 with heap := pushCells (h3.push { cls := .type "dict", data := .dict #[] }) scope.names } := I4
  have t4 : tn 0 (pushCells (h3.push { cls := .type "dict", data := .dict #[] }) scope.names) := T.keep _ _ _ t3 fun b _ o e => pushCells_keeps _ _ _ _ (Heap.get?_push_of_some _ e)
  generalize hs4 : ({ s2 with heap := pushCells (h3.push { cls := .type "dict", data := .dict #[] }) scope.names } : Shared) = s4 at I4'
  have t4' : tn 0 s4.heap := by rw [← hs4]; exact t4
  have fpk : ∀ {τ : L2.St} {H' : Hp} {s' : Shared}, Inv (X.blk { s2 with heap := h3 } H3 scope ce fp) [] τ H' s' → (∀ b ∈ fp, H' b = none) → ∀ b ∈ fp, FpOk (X.blk { s2 with heap := h3 } H3 scope ce fp) [] H' b := fun {τ H' s'} I' hn b hb =>
    ⟨hn b hb, (I'.ok.exf b hb).1, I'.ok.exfs b hb, .inl hb, fun x c e => (I'.ok.exf b hb).2 x c e, fun p hp => absurd (show p ∈ ([] : List (Addr × Obj)) ++ [] from hp) (by simp)⟩
  refine (fun loop => codeAny_compStart_dict loop (T.self X.A 0 _ _ _ t4' loop)) ?_
  refine loopC (Y := X.blk { s2 with heap := h3 } H3 scope ce fp) (pins := []) rfl hc (turn_a _ _) T Bk.ga Bk.oa fpk I4' t4' (fun b hb => (f3 b hb).1.1) L (fun pl τ H5 s5 Nx kk Qf I5 hw q5 hk => ?_) fun s' H' I' q' => ?_
  · unfold actOut
    refine wpAny_bind (thnF (Bk.wb.run _ s5 τ H5 _ I5 q5) fun _ s6 hx => ?_)
    refine wpAny_bind (wpAny_standAt (wpAny_bind (wpAny_of_eq (hs1 _ _) (wpAny_bind (wpAny_holding (thnF hx fun _ s7 ⟨it1, fp1, tn1, J1, H7, e1, I7, T1, t7, f7, L1⟩ => ?_))))))
    subst e1
    refine wpAny_bind (wpAny_runOwn ?_)
    rw [Around.mark_none]
    have lp : ∀ (R : Result → Shared → Prop), (∀ s' τ' H', Inv (X.blk { s2 with heap := h3 } H3 scope ce fp) pl τ' H' s' ∧ KnowS (wipe σ (own.map (·.2))) τ' ∧ Nx H' → R (.ok .next) s') → codeAny (model X.prog X.w) X.A (.compLoop (.DictComp kx vx [⟨ta, ia, fa, 0⟩, ⟨tb, ib, fb, 0⟩] scope pos) 1 (.ref it1) (.ref D) ce) R s7 := fun R hR => by
      refine loopC (Y := X.blk { s2 with heap := h3 } H3 scope ce fp) (pins := pl) rfl hc (turn_b _ _) T1 Bk.gb Bk.ob (fun {τ' H' s'} _ hn b hb => ⟨hn b hb, (f7 b hb).2⟩) (I7.weak (wipe_length _ _) (fun j v e => (wipe_some e).1)) t7 (fun b hb => (f7 b hb).1) L1 (fun pl2 τ2 H8 s8 Nx1 k2 Q2 I8 hw8 q8 hk2 => ?_) fun s' H' I' q' => hR s' _ H' ⟨I', know_out hw hv, q'⟩
      unfold actIn
      refine wpAny_bind (wpAny_bind (thnF (Bk.k.run _ s8 τ2 H8 _ I8 q8) fun y s9 ⟨yk, H9, I9, r9, q9⟩ => wpAny_bind (wpAny_holding (thnF (Bk.v.run _ s9 τ2 H9 _ I9 q9) fun z s10 ⟨zv, H10, I10, r10, kvs, k, ek, eD, lt, nx⟩ => ?_))))
      subst ek
      exact wpAny_bind (wpAny_standAt (wpAny_holding (d_dictSet I10 eD lt r9 r10 fun s11 I11 => hk2 s11 τ2 _ I11 (know_of_wipe hw8) nx)))
    have all := lp (fun r s' => match r with | .ok f => wpAny (model X.prog X.w) X.A kk Qf (fun _ _ => False) s' | .error _ => False) fun s' τ' H' z => hk s' τ' H' z.1 z.2.1 z.2.2
    refine codeAny_mono (start_b all (T1.self X.A 0 _ _ _ t7 all)) fun r s' hr => ?_
    cases r with
    | ok f => exact hr
    | error e => exact hr.elim
  · have I7 : Inv X pins σ H' s' := I3.call' (ch := fp) I'.os I'.base I'.hok I'.bare fun b hb => ⟨(f3 b hb).1.2.2.2.1, (f3 b hb).1.2.1, (f3 b hb).1.2.2.2.2.1, (f3 b hb).1.2.2.2.2.2⟩
    have nC : H' h3.objs.size = none := cL ▸ I'.free
    obtain ⟨m, hn, _⟩ := I'.loc
    have hn : s'.heap.Ns ce.locals m := hn
    rw [cL] at hn
    refine ⟨m, hn, fun h'' sb => ?_⟩
    obtain ⟨z0, z1, z2, z3, z4, z5⟩ := I3.fpOk (Nat.le_refl _) nC
    exact ⟨.ref D, H', I7.turned (t' := s'.toks) (fun b o hb e => (sb.2 b hb).trans e) z0 z1 z3 z4 z5, rfl, q'⟩
end KA

set_option Elab.async false
set_option autoImplicit false
set_option linter.all false
set_option maxRecDepth 100000
set_option maxHeartbeats 1000000
/-! KDc3: .. read off the mini semantics. -/
namespace KA
open PySem PySem.Spec PyProof.Rows L2
section
variable {X : Cx} {G : GC} {e : Expr} {fe fk : EM} {tt tt1 : TM} {w w1 : WM} {p p1 : Pt}
theorem bD_of {m1 : List Addr} {H1 : Hp} {D : Addr} (hD : H1 D = none) {σ0 : L2.St} {Q : VK} (σ2 : L2.St) (m : List Addr) (h : MH) (H : Hp) (acc : Nat × List (MV × MV)) (σ3 : Sl) (Kc : Nat × List (MV × MV) → MH → Res MV) (Nx : Hp → Prop) (L : LI G (DctC G) m1 H1 D acc h m H) (R : RS G m H σ3 σ2) (p : RP G W0 (RV G) m1 H1 σ0 ((bD fk fe σ3 acc h).bind Kc) Q)
    (hN : ∀ m' h' H' acc', LI G (DctC G) m1 H1 D acc' h' m' H' → Ef G m H m' H' → RP G W0 (RV G) m1 H1 σ0 (Kc acc' h') Q → Nx H') : putT D (tM G W0 fk) (tM G W0 fe) σ2 H Nx := by
  unfold bD at p
  rw [Res.bind_assoc] at p
  refine ⟨m, h, σ3, L.S, R, (RP.part (Rel := RV G) p L.x).imp fun y H5 ⟨m5, h5, y', x5, S5, r5, p5⟩ => ?_⟩
  have L5 := L.step dct_ok x5 S5
  rw [Res.bind_assoc] at p5
  refine ⟨m5, h5, σ3, S5, R.mono x5.toLe, (RP.part (Rel := RV G) p5 L5.x).imp fun z H6 ⟨m6, h6, z', x6, S6, r6, p6⟩ => ?_⟩
  have L6 := L5.step dct_ok x6 S6
  cases ek : keyA y' with
  | false => rw [ek] at p6; exact False.elim p6
  | true =>
    rw [ek] at p6
    dsimp only at p6
    rcases lim_cases (acc.1 + 1) (Res.ok (acc.1 + 1, dput y' z' acc.2) h6) with ⟨hl, el⟩ | el
    · rw [el] at p6
      obtain ⟨w, ew, ⟨ps, rfl, pr⟩, la⟩ := L6.at_
      obtain ⟨kk, rk⟩ := keyA_kr ek
      have yk := kr_rv' rk r5
      subst yk
      have r' : DctC G m6 H6 (acc.1 + 1, dput y' z' acc.2) (.dK (putK ps kk z)) := ⟨⟨_, rfl, dput_of keyB_eq rk r6 pr⟩, by have := dput_len y' z' acc.2; show (dput y' z' acc.2).length ≤ acc.1 + 1; omega⟩
      obtain ⟨L7, e7⟩ := L6.put dct_ok hD ew r'
      exact ⟨ps, kk, rfl, ew, by rw [← pr.length, sizeLine_eq]; omega, hN m6 h6 _ _ L7 ((x5.ef.trans x6.ef).trans e7) p6⟩
    · rw [el] at p6; exact False.elim p6
theorem k_dc2 {vs vs1 : List Nat} (hp : ∀ i ∈ p.slots, i ∈ vs) (hp1 : ∀ i ∈ p1.slots, i ∈ vs1) (h : PE X e (tDc2 (tMI G W0 w) (gP G p) (tMT G W0 tt) (tMI G W0 w1) (gP G p1) (tMT G W0 tt1) (tM G W0 fk) (tM G W0 fe) vs vs1)) : PE X e (tM G W0 (eDc2 w p tt w1 p1 tt1 fk fe vs vs1)) := h.wk fun σ H Q q => by
  refine (tMR.bind (Rel := WkR G) (f := w) (k := fun σ k h1 => (accL k p tt (b2D w1 p1 tt1 fk fe vs1) (wipeM σ vs) k.n 0 (0, []) h1).bind kDct) q).imp fun J H1 ⟨m1, h1, k, σm, S1, R1, r1, p1'⟩ => ?_
  intro D hD
  have L0 : LI G (DctC G) m1 H1 D (0, []) h1 m1 (upd H1 D (.dK [])) := LI.new S1 hD ⟨⟨[], rfl, .nil⟩, Nat.le_refl _⟩
  refine acc_loop dct_ok hD r1 hp R1 L0 L0.x.ef p1' (fun σ2 m h H acc σ3 Kc Nx L R p hN => ?_) fun m h H acc L _ p => ?_
  · unfold b2D at p
    rw [Res.bind_assoc] at p
    refine ⟨m, h, σ3, L.S, R, (RP.part (Rel := WkR G) p L.x).imp fun J1 H5 ⟨m5, h5, k1, x5, S5, r5, p5⟩ => ?_⟩
    have L5 := L.step dct_ok x5 S5
    exact acc_loop dct_ok hD r5 hp1 (R.mono x5.toLe) L5 .refl p5 (bD_of hD) fun m' h' H' acc' L' e' p' => hN m' h' H' acc' L' (x5.ef.trans e') p'
  · obtain ⟨w, ew, r, la⟩ := L.at_
    have x3 : Ex G m1 H1 (m ++ [D]) H := L.x.app hD
    refine p (m ++ [D]) H (.ref D) x3 (L.S.adopt L.nD (by rw [ew]; exact ⟨w, r.mono ⟨⟨[D], rfl⟩, fun _ _ h => h, fun _ _ _ h => h⟩, rfl⟩) (by rw [ew]; exact fun q => nomatch q)) ?_
    simp only [RV]
    exact ⟨D, by rw [← L.S.len]; simp, rfl⟩
end
end KA

set_option Elab.async false
set_option autoImplicit false
set_option linter.all false
set_option maxRecDepth 100000
set_option maxHeartbeats 400000
/-! KCls: a class method that makes an instance of its class; its call. -/
namespace KA
open PySem PySem.Spec PyProof.Rows L2
/-- cls(..), cls a parameter -/
def tMakeL (i : Nat) (C : Addr) (sp : Sp) (dvs : List V) (E : XK) (t : TA) : TE := fun σ H Q => σ[i]? = some (some (.ref C)) ∧ L2.tMake C sp dvs E t σ H Q
section
variable {X : Cx} {CX : CXT} {k i : Nat} {f C : Addr} {fd : FuncData} {ps : List PySem.Str} {ds : List Value} {dvs : List V} {sp : Sp} {E : XK} {x : PySem.Str} {e : Expr} {es : List Expr} {t : TA} {p pos : Pos}
theorem pe_makeL (M : Mk X.K C f) (F : FnOk X.prog X.w X.K X.mg X.base CX k f fd ps sp) (hr : Room (k + 1) X.A) (hb : Binds X.K fd ps ds) (hd : Vals dvs ds) (hx : Passes CX X E) (hN : X.N[i]? = some x) (hv : Vis X.env.scope x) (ha : PA X (e :: es) t)
    (h1 : (x == ("__debug__" : PySem.Str)) = false := by decide) (h2 : (x == ("__classdict__" : PySem.Str)) = false := by decide)
    (he : starEach (e :: es) X.env = (false, eval e X.env) :: starEach es X.env := by rfl) (hpl : (backTo pos (starEach es X.env)).any (·.1) = false := by rfl) : PE X (.Call (.Name x p) (e :: es) [] pos) (tMakeL i C sp dvs E t) := by
  refine ⟨fun pins s σ H Q I ⟨hs, h⟩ => ?_⟩
  have nm := (pe_var (pos := p) (i := i) hN hv h1 h2).run pins s σ H (fun v H1 => v = .ref C ∧ H1 = H) I ⟨.ref C, hs, rfl, rfl⟩
  refine wpAny_Call_Name_kw (thn nm fun u s1 ⟨v, H1, I1, r1, ev, eH⟩ => ?_)
  subst ev
  rw [eH] at I1
  cases r1
  exact PySem.W.callWith_K (h₀ := X.base) I.ok.mod.kin M.kp (thn (ha.run pos pins s1 σ H _ I1 h) fun us s2 ⟨vs, H2, I2, r, q⟩ => ⟨I2.kIn, run_make M F hr hb hd hx I2 r q⟩) he hpl
end
/-- what a class method is for: its class ahead, then np values -/
def spC (G : GC) (c np : Nat) (g : FM) : Sp := fun vs H Q _ => ∃ us, vs = .ref (G.cl c) :: us ∧ us.length = np ∧ ∃ m h ms, Sim G m h H ∧ RVs G m H ms us ∧ RP G W0 (RV G) m H [] (g ms h) Q
def Cm (P : Program) (w : World) (K : PySem.W.Frag) (mg : PySem.Str → Option Value) (base : Heap) (G : GC) (f : Addr) (k c np : Nat) (g : FM) : Prop := FnR P w K mg base CX0 k f (spC G c np g)
/-- a suite that knows its first slot -/
def tCl (C : Addr) (t : TS) : TS := fun D σ H => σ[0]? = some (some (.ref C)) ∧ t D σ H
theorem RS.ahead {G : GC} {m : List Addr} {H : Hp} {σm : Sl} {σ : L2.St} (r : RS G m H σm σ) (u : Option V) : RS G m H (none :: σm) (u :: σ) := by
  refine ⟨by simp [r.len], fun i v e => ?_⟩
  cases i with
  | zero => cases e
  | succ i => exact r.at_ i v (by simpa using e)
theorem cm_of {P : Program} {w : World} {K : PySem.W.Frag} {mg : PySem.Str → Option Value} {base : Heap} {x qual y : PySem.Str} {params : Arguments} {body : List Stmt} {scope : Scope} {dvs : List V} {kws : List (PySem.Str × V)} {f : Addr} {fd : FuncData} {N ps : List PySem.Str} {k n np c : Nat} {G : GC} {b : EM}
    (F : FunD K x qual params body scope dvs kws f fd) (S : FnScope (y :: N) ps scope) (hn : N.length = n) (hp : ps.length = np + 1) (hbi : Binds K fd ps [])
    (hb : ∀ (cdv : Value) (A : Around) (outer : List Env) (s : Shared) (H : Hp) (E : XK), Room k (A.deeper (envOfC qual scope s.heap.objs.size f cdv)) → PSs (cxOf CX0 P w K mg base (y :: N) qual scope f cdv A outer s H E).nox body (tCl (G.cl c) (tMS G W0 (jRet b)))) :
    Cm P w K mg base G f (k + 1) c np (fnC n b) := by
  have G0 : FnOk P w K mg base CX0 (k + 1) f fd ps (spC G c np (fnC n b)) := by
    refine F.ok S (fun vs H Q E h => ?_) fun cdv A outer s H vs Q E hr h => ⟨_, PSs.nox (hb cdv A outer s H E hr), ?_⟩
    · obtain ⟨us, rfl, hl, _⟩ := h
      simp [hl, hp]
    · obtain ⟨us, rfl, hl, m, h, ms, Sm, r, p⟩ := h
      have st : L2.start (y :: N) (.ref (G.cl c) :: us) = some (.ref (G.cl c)) :: L2.start N us := by
        unfold L2.start
        simp
      rw [st]
      refine ⟨rfl, m, h, none :: (ms.map some ++ List.replicate (n - ms.length) none), Sm, (RS.start r N n hn).ahead _, ?_⟩
      unfold fnC at p
      unfold jRet
      generalize none :: (ms.map some ++ List.replicate (n - ms.length) none) = σm at p
      cases e : b σm h with
      | bad => rw [e] at p; exact p.elim
      | exc c v h' => rw [e] at p; exact fun m' H' s d x S' R' q => p m' H' d x S' q
      | ok v h' => rw [e] at p; exact p
  have R := FnOk.raw G0 hbi .nil
  intro A outer s H us vs Q E hr e0 r h
  exact R A outer s H us vs Q E hr e0 r (by show spC G c np (fnC n b) (vs ++ []) H Q E; rw [List.append_nil]; exact h)
section
variable {X : Cx} {G : GC} {e : Expr} {es : List Expr} {am : AM} {p pos apos : Pos} {k c np : Nat} {x m : PySem.Str} {f : Addr}
/-- return cls(..) -/
theorem s_retCl {rp : Pos} {j n ni : Nat} {fi : Addr} {psi : List PySem.Str} {g : FM} {dm : List MV} (M : Mk G.K (G.cl c) fi) (D : Kd X.prog X.w X.K X.mg X.base G fi j psi ni n g dm) (hr : Room (j + 1) X.A) (hl : ∀ σ h vs h', am σ h = .ok vs h' → vs.length = n) (ha : PA X (e :: es) (tMA G W0 am)) (hN : X.N[0]? = some x := by rfl) (hv : Vis X.env.scope x := by first | exact Or.inl rfl | exact Or.inr (Or.inl rfl)) (hK : X.K = G.K := by rfl)
    (h1 : (x == ("__debug__" : PySem.Str)) = false := by decide) (h2 : (x == ("__classdict__" : PySem.Str)) = false := by decide)
    (he : starEach (e :: es) X.env = (false, eval e X.env) :: starEach es X.env := by rfl) (hpl : (backTo pos (starEach es X.env)).any (·.1) = false := by rfl) :
    PSs X [.Return (some (.Call (.Name x p) (e :: es) [] pos)) rp] (tCl (G.cl c) (tMS G W0 (jRet (eNewK c g (fun vs _ => vs ++ dm) am aNil)))) := by
  obtain ⟨fd, ds, dv, F, hb, hvd, hd, hn⟩ := D.ex
  refine (pss_one (ps_ret (pe_makeL (i := 0) (hK ▸ M) F hr hb hvd pass0 hN hv ha h1 h2 he hpl))).wk fun D σ H ⟨q0, q⟩ => ⟨q0, ?_⟩
  refine makeD_imp hd hl hn ?_
  obtain ⟨m, h, σm, S, R, p⟩ := q
  refine ⟨m, h, σm, S, R, ?_⟩
  unfold jRet at p
  cases ee : eNewK c g (fun vs _ => vs ++ dm) am aNil σm h with
  | bad => rw [ee] at p; exact p.elim
  | exc c v h' => rw [ee] at p; exact fun m' H' d x S' q => p m' H' σ d x S' (R.mono x.toLe) q
  | ok v h' => rw [ee] at p; exact p
/-- C.m(..), m a class method -/
theorem x_cm {mc : Value} {pr : Addr} {g : FM} (D : Cm X.prog X.w X.K X.mg X.base G f k c np g) (r : ClX.CRead G.K (G.cl c) mc ∧ ClX.CMet G.K (G.cl c) mc m pr f) (hr : Room k X.A) (hm : X.mg x = some (.ref (G.cl c))) (hl : ∀ σ h vs h', am σ h = .ok vs h' → vs.length = np) (ha : PA X (e :: es) (tMA G W0 am)) (hK : X.K = G.K := by rfl) (hg : Gl X x := by rfl) (hd : (x == ("__debug__" : PySem.Str)) = false := by decide)
    (hst : starEach (e :: es) X.env = (false, eval e X.env) :: starEach es X.env := by rfl) (hpl : (backTo pos (starEach es X.env)).any (·.1) = false := by rfl) {pl : Sem Bool}
    (ht : eval (.Call (.Attribute (.Name x p) m apos) (e :: es) [] pos) X.env = (do
      let ov ← eval (.Name x p) X.env
      standAt apos.atName
      let (f, first) ← holding [ov] (getMethod ov m pl)
      callWith pos f first (backTo pos (starEach (e :: es) X.env)) (backToKw pos (keywordEach [] X.env))) := by rfl) :
    PE X (.Call (.Attribute (.Name x p) m apos) (e :: es) [] pos) (tM G W0 (eA g am)) := by
  refine (ClX.pe_cmeth (pl := pl) (C := G.cl c) (E := E0) (x_cls (C := G.cl c) hm hg hd) (hK ▸ r.1) (hK ▸ r.2) D hr pass0 ha hst hpl ht).wk fun σ H Q q => ⟨rfl, ?_⟩
  obtain ⟨m, h, σm, S, R, p⟩ := q
  refine ⟨m, h, σm, S, R, ?_⟩
  have p2 : RP G W0 (RV G) m H σ ((am σm h).bind g) Q := p
  cases ea : am σm h with
  | bad => rw [ea] at p2; exact p2.elim
  | exc c v h' => rw [ea] at p2; exact p2
  | ok vs h' =>
    rw [ea] at p2
    intro m' H' xs x S' r'
    exact ⟨xs, rfl, by simp [r'.length, hl _ _ _ _ ea], m', h', vs, S', by simpa using r', (RP.later p2 x).w0⟩
end
end KA

set_option Elab.async false
set_option autoImplicit false
set_option linter.all false
set_option maxRecDepth 100000
set_option maxHeartbeats 400000
/-! KHead: what is known of the module's names; the hook by one more Bool. -/
namespace KA
open PySem PySem.Spec PyProof.Rows L2
abbrev AlK : Type := He.AlD × Bool
def obsKG (n : Nat) (fa : List He.Fa) (fn : List He.DefD) (ex : PySem.W.Frag → Bool) (g : Addr → Option Obj) : AlK := (He.obsD fa fn (He.frG g (He.asD g n)), ex (He.frG g (He.asD g n)))
def hookK (n : Nat) (fa : List He.Fa) (fn : List He.DefD) (ex : PySem.W.Frag → Bool) : PySem.W.Hook where
  α := AlK
  obs := fun s => obsKG n fa fn ex s.heap.get?
  val := fun _ => (He.valD fn, true)
  says := fun _ h => ∃ K : PySem.W.Frag, K.In h ∧ He.SaysD fa fn K ∧ ex K = true
  of := fun _ _ e => ⟨_, He.frG_in, congrArg (fun z : AlK => z.1) e, congrArg (fun z : AlK => z.2) e⟩
  keeps := fun _ _ _ ⟨K, hK, c⟩ k => ⟨K, PySem.W.Frag.In.keeps hK k, c⟩
theorem obsKG_eq {n : Nat} {fa : List He.Fa} {fn : List He.DefD} {ex : PySem.W.Frag → Bool} {g : Addr → Option Obj} {s : Shared} (h : ∀ a, g a = s.heap.get? a) : obsKG n fa fn ex g = (hookK n fa fn ex).obs s := by
  have e : g = s.heap.get? := funext h
  rw [e] <;> rfl
/-- what is known -/
structure EnvK (fa : List He.Fa) (fn : List He.DefD) (ex : PySem.W.Frag → Bool) (K : PySem.W.Frag) (mg : PySem.Str → Option Value) : Prop where
  c : He.SaysD fa fn K
  e : ex K = true
  h : ∃ h : Heap, K.In h ∧ h.Ns mainGlobals mg
section
variable {fa : List He.Fa} {fn : List He.DefD} {ex : PySem.W.Frag → Bool} {K : PySem.W.Frag} {mg : PySem.Str → Option Value}
theorem EnvK.glo (E : EnvK fa fn ex K mg) {x : PySem.Str} (i : Nat) (h : fa[i]? = some (.glo x)) : mg x = some (.ref (He.ga K x)) := by
  obtain ⟨hp, X, Gm⟩ := E.h
  exact He.glo_ok X Gm (E.c.fact i h)
theorem EnvK.free (E : EnvK fa fn ex K mg) {x : PySem.Str} (i : Nat) (h : fa[i]? = some (.free x)) : mg x = none := by
  obtain ⟨hp, X, Gm⟩ := E.h
  exact He.free_ok X Gm (E.c.fact i h)
theorem EnvK.int (E : EnvK fa fn ex K mg) {x : PySem.Str} {j : Int} (i : Nat) (h : fa[i]? = some (.int x j)) : ∃ t, mg x = some (.int j t) := by
  obtain ⟨hp, X, Gm⟩ := E.h
  exact He.int_ok X Gm (E.c.fact i h)
theorem EnvK.str (E : EnvK fa fn ex K mg) {x z : PySem.Str} (i : Nat) (h : fa[i]? = some (.str x z)) : ∃ t, mg x = some (.str z t) := by
  obtain ⟨hp, X, Gm⟩ := E.h
  exact He.str_ok X Gm (E.c.fact i h)
theorem EnvK.cls (E : EnvK fa fn ex K mg) {x : PySem.Str} (i : Nat) (h : fa[i]? = some (.cls x)) : Cls K (He.ga K x) := He.cls_ok (E.c.fact i h)
theorem EnvK.noat (E : EnvK fa fn ex K mg) {x f : PySem.Str} (i : Nat) (h : fa[i]? = some (.noat x f)) : NoAttr K (He.ga K x) f := He.noat_ok (E.c.fact i h)
theorem EnvK.meth (E : EnvK fa fn ex K mg) {x m : PySem.Str} (i : Nat) (h : fa[i]? = some (.meth x m)) : Meth K (He.ga K x) m (He.ma K (He.ga K x) m) := He.meth_ok (E.c.fact i h)
theorem EnvK.mkr (E : EnvK fa fn ex K mg) {x : PySem.Str} (i : Nat) (h : fa[i]? = some (.mkr x)) : Mk K (He.ga K x) (He.ma K (He.ga K x) "__init__") := He.mkr_ok (E.c.fact i h)
end
/-! ### isinstance -/
def insB (K : PySem.W.Frag) (C : Addr) : Bool := He.eqO (PySem.W.findIn K (.ref C) "__class__") (some (some (.builtin "object.__class__"))) && (He.eqO (PySem.W.specialIn K (.builtin "object.__class__") "__get__") (some (some (.builtin "getset_descriptor.__get__"))) && (decide (PySem.W.takesIn K (.builtin "object.__class__") = some true) && decide (PySem.W.mroIn K C (.type "object") = some true)))
theorem insB_ok {K : PySem.W.Frag} {C : Addr} (c : Cls K C) (h : insB K C = true) : InsOk K C := by
  obtain ⟨h1, h⟩ := He.ba h
  obtain ⟨h2, h⟩ := He.ba h
  obtain ⟨h3, h4⟩ := He.ba h
  exact ⟨c, He.eqO_ok h1, He.eqO_ok h2, of_decide_eq_true h3, of_decide_eq_true h4⟩
def isiB (G : GC) (nc k : Nat) (u : Value) : Bool := (List.range nc).all fun j => (Nat.ble 7 j && Nat.blt j 10) || decide (PySem.W.kitOne G.K (kty G j) u = some (isA j k))
theorem isiB_ok {G : GC} {nc k : Nat} {u : Value} (hi : ∀ c, c + 10 < nc → InsOk G.K (G.cl c)) (h : isiB G nc k u = true) : IsiOk G nc k u := by
  refine ⟨hi, fun j hj z => ?_⟩
  have h1 := List.all_eq_true.mp h j (List.mem_range.mpr hj)
  rcases Bool.or_eq_true_iff.mp h1 with q | q
  · obtain ⟨q1, q2⟩ := Bool.and_eq_true_iff.mp q
    have a1 : 7 ≤ j := Nat.le_of_ble_eq_true q1
    have a2 : j < 10 := Nat.le_of_ble_eq_true q2
    omega
  · exact of_decide_eq_true q
end KA

set_option Elab.async false
set_option autoImplicit false
set_option linter.all false
set_option maxRecDepth 100000
set_option maxHeartbeats 400000
/-! KHead2: what is known of own classes' operations, by Bools. -/
namespace KA
open PySem PySem.Spec PyProof.Rows L2
def neoB (K : PySem.W.Frag) (C : Addr) : Bool := He.eqO (PySem.W.findIn K (.ref C) "__ne__") (some (some (.builtin "object.__ne__"))) && decide (PySem.W.mroIn K C (.type "object") = some true)
theorem neoB_ok {K : PySem.W.Frag} {C : Addr} (h : neoB K C = true) : NeO K C := by
  obtain ⟨h1, h2⟩ := He.ba h
  exact ⟨He.eqO_ok h1, of_decide_eq_true h2⟩
def binIB (K : PySem.W.Frag) (C : Addr) (op : Operator) : Bool := PySem.W.selfFirst K C && (He.eqO (PySem.W.findIn K (.ref C) (dunderR op.info.2)) (some none) && ((PySem.W.findIn K (.type "int") (PySem.dunder op.info.2)).isSome && ((PySem.W.findIn K (.type "int") (dunderR op.info.2)).isSome && decide (PySem.W.subIn K (.type "int") (.ref C) = some false))))
theorem binIB_ok {K : PySem.W.Frag} {C : Addr} {op : Operator} (h : binIB K C op = true) : BinI K C op := by
  obtain ⟨h1, h⟩ := He.ba h
  obtain ⟨h2, h⟩ := He.ba h
  obtain ⟨h3, h⟩ := He.ba h
  obtain ⟨h4, h5⟩ := He.ba h
  exact ⟨h1, He.eqO_ok h2, Option.isSome_iff_exists.mp h3, Option.isSome_iff_exists.mp h4, of_decide_eq_true h5⟩
theorem callO_of' {K : PySem.W.Frag} {C f : Addr} (m : Meth K C "__call__" f) (h : PySem.W.fnIn K f = true) : StX.CallO K C f := ⟨m.at_, m.fn, h⟩
/-! ### getters of properties -/
/-- where the getter of the property p of the class C stands, or the def of its class method p -/
def gAd (K : PySem.W.Frag) (C p : PySem.Str) : Addr := match PySem.W.recIn K (He.ma K (He.ga K C) p) "property" with
  | some (.ref g :: _) => g
  | _ => He5.wf K (He.ga K C) "classmethod" p
def gOf (K : PySem.W.Frag) (d : He.DefD) : Addr := gAd K d.at_.1 (d.at_.2.getD "")
def wAt (K : PySem.W.Frag) (a : Addr) : He.FnW := match K.lookup a with
  | some ⟨_, _, .func fd, _⟩ => some (fd.name, fd.qualname, fd.params, fd.body, fd.scope, fd.globals, fd.closure, fd.builtins)
  | _ => none
def okAt (K : PySem.W.Frag) (a : Addr) (d : He.DefD) : Bool := match K.lookup a with
  | some ⟨_, _, .func fd, _⟩ => PySem.W.keepIn K (.ref a) && (PySem.W.codeIn K fd.code d.qual && (He.dflB K fd.defaults (d.dvs K) && He.kwdB K fd.kwdefaults (d.kws K)))
  | _ => false
theorem funD_at {K : PySem.W.Frag} {a : Addr} {d : He.DefD} (e : wAt K a = d.val) (c : okAt K a d = true) : ∃ fd, FunD K d.name d.qual d.params d.body d.scope (d.dvs K) (d.kws K) a fd := by
  unfold wAt at e
  unfold okAt at c
  cases q : K.lookup a with
  | none => rw [q] at c; cases c
  | some o =>
    obtain ⟨oc, od, dt, osl⟩ := o
    rw [q] at c e
    cases dt with
    | func fd =>
      obtain ⟨n1, n2, n3, n4, n5, n6, n7, n8, n9, n10, n11, n12, n13, n14, n15⟩ := fd
      have e2 : (some (n1, n2, n3, n4, n5, n6, n7, n15) : He.FnW) = some (d.name, d.qual, d.params, .stmts d.body, d.scope, mainGlobals, [], builtinsNs) := e
      simp only [Option.some.injEq, Prod.mk.injEq] at e2
      obtain ⟨h1, h2, h3, h4, h5, h6, h7, h8⟩ := e2
      subst h1 h2 h3 h4 h5 h6 h7 h8
      obtain ⟨kp, c2⟩ := He.ba (show (PySem.W.keepIn K (.ref a) && (PySem.W.codeIn K n13 d.qual && (He.dflB K n8 (d.dvs K) && He.kwdB K n9 (d.kws K)))) = true from c)
      obtain ⟨k1, k2⟩ := He.ba c2
      obtain ⟨k3, k4⟩ := He.ba k2
      exact ⟨_, ⟨oc, od, n8, n9, n10, n11, n12, n13, n14, osl, rfl, q, k1, He.dflB_ok k3, He.kwdB_ok k4⟩, kp⟩
    | _ => cases c
/-- what the names reach in n steps, and the interpreter's own statics -/
def asP (g : Addr → Option Obj) (n : Nat) : List Addr := He.asD g n ++ [PySem.cStatics]
abbrev AlP : Type := AlK × List He.FnW
def obsPG (n : Nat) (fa : List He.Fa) (fn gt : List He.DefD) (ex : PySem.W.Frag → Bool) (g : Addr → Option Obj) : AlP := ((He.obsD fa fn (He.frG g (asP g n)), ex (He.frG g (asP g n)) && gt.all fun d => okAt (He.frG g (asP g n)) (gOf (He.frG g (asP g n)) d) d), gt.map fun d => wAt (He.frG g (asP g n)) (gOf (He.frG g (asP g n)) d))
def hookP (n : Nat) (fa : List He.Fa) (fn gt : List He.DefD) (ex : PySem.W.Frag → Bool) : PySem.W.Hook where
  α := AlP
  obs := fun s => obsPG n fa fn gt ex s.heap.get?
  val := fun _ => ((He.valD fn, true), gt.map He.DefD.val)
  says := fun _ h => ∃ K : PySem.W.Frag, K.In h ∧ He.SaysD fa fn K ∧ (ex K && gt.all fun d => okAt K (gOf K d) d) = true ∧ (gt.map fun d => wAt K (gOf K d)) = gt.map He.DefD.val
  of := fun _ _ e => ⟨_, He.frG_in, congrArg (fun z : AlP => z.1.1) e, congrArg (fun z : AlP => z.1.2) e, congrArg (fun z : AlP => z.2) e⟩
  keeps := fun _ _ _ ⟨K, hK, c⟩ k => ⟨K, PySem.W.Frag.In.keeps hK k, c⟩
theorem obsPG_eq {n : Nat} {fa : List He.Fa} {fn gt : List He.DefD} {ex : PySem.W.Frag → Bool} {g : Addr → Option Obj} {s : Shared} (h : ∀ a, g a = s.heap.get? a) : obsPG n fa fn gt ex g = (hookP n fa fn gt ex).obs s := by
  have e : g = s.heap.get? := funext h
  rw [e] <;> rfl
/-- what is known, getters too -/
structure EnvP (fa : List He.Fa) (fn gt : List He.DefD) (ex : PySem.W.Frag → Bool) (K : PySem.W.Frag) (mg : PySem.Str → Option Value) : Prop extends EnvK fa fn ex K mg where
  go : (gt.all fun d => okAt K (gOf K d) d) = true
  gv : (gt.map fun d => wAt K (gOf K d)) = gt.map He.DefD.val
theorem EnvP.getter {fa : List He.Fa} {fn gt : List He.DefD} {ex : PySem.W.Frag → Bool} {K : PySem.W.Frag} {mg : PySem.Str → Option Value} (E : EnvP fa fn gt ex K mg) (i : Nat) {d : He.DefD} (h : gt[i]? = some d) : ∃ fd, FunD K d.name d.qual d.params d.body d.scope (d.dvs K) (d.kws K) (gOf K d) fd := by
  have e2 : (gt.map fun d => wAt K (gOf K d))[i]? = (gt.map He.DefD.val)[i]? := by rw [E.gv]
  rw [List.getElem?_map, List.getElem?_map, h] at e2
  exact funD_at (Option.some.inj e2) (List.all_eq_true.mp E.go d (List.mem_of_getElem? h))
def propB (K : PySem.W.Frag) (C f : PySem.Str) : Bool := He.eqO (PySem.W.findIn K (.ref (He.ga K C)) f) (some (some (.ref (He.ma K (He.ga K C) f)))) && (He.eqO (PySem.W.specialIn K (.ref (He.ma K (He.ga K C) f)) "__get__") (some (some (.builtin "property.__get__"))) && (decide (PySem.W.takesIn K (.ref (He.ma K (He.ga K C) f)) = some true) && (match PySem.W.recIn K (He.ma K (He.ga K C) f) "property" with
  | some (.ref _ :: _) => true
  | _ => false)))
theorem propB_ok {K : PySem.W.Frag} {C f : PySem.Str} (h : propB K C f = true) : PropOf K (He.ga K C) f (He.ma K (He.ga K C) f) (gAd K C f) := by
  obtain ⟨h1, h⟩ := He.ba h
  obtain ⟨h2, h⟩ := He.ba h
  obtain ⟨h3, h4⟩ := He.ba h
  refine ⟨He.eqO_ok h1, He.eqO_ok h2, of_decide_eq_true h3, ?_⟩
  unfold gAd
  cases e : PySem.W.recIn K (He.ma K (He.ga K C) f) "property" with
  | none => rw [e] at h4; cases h4
  | some vs =>
    rw [e] at h4
    cases vs with
    | nil => cases h4
    | cons v vs =>
      cases v with
      | ref g => exact ⟨vs, rfl⟩
      | _ => cases h4
/-- a class method -/
def clmB (K : PySem.W.Frag) (C m : PySem.Str) : Bool := He5.wrapB K (He.ga K C) "classmethod" "classmethod.__get__" m && (PySem.W.readsIn K (He.ga K C) (.type "type") && (PySem.W.fnIn K (He5.wf K (He.ga K C) "classmethod" m) && (He.eqO (PySem.W.specialIn K (.ref (He.ga K C)) "__getattribute__") (some (some (.builtin "type.__getattribute__"))) && (match PySem.W.recIn K (He.ma K (He.ga K C) m) "property" with
  | some (.ref _ :: _) => false
  | _ => true))))
theorem clmB_ok {K : PySem.W.Frag} {C m : PySem.Str} (h : clmB K C m = true) : ClX.CRead K (He.ga K C) (.type "type") ∧ ClX.CMet K (He.ga K C) (.type "type") m (He.ma K (He.ga K C) m) (gAd K C m) := by
  obtain ⟨h1, h⟩ := He.ba h
  obtain ⟨h2, h⟩ := He.ba h
  obtain ⟨h3, h⟩ := He.ba h
  obtain ⟨h4, h5⟩ := He.ba h
  obtain ⟨w1, w2⟩ := He5.wrapB_ok h1
  have e : gAd K C m = He5.wf K (He.ga K C) "classmethod" m := by
    unfold gAd
    cases q : PySem.W.recIn K (He.ma K (He.ga K C) m) "property" with
    | none => rfl
    | some vs =>
      rw [q] at h5
      cases vs with
      | nil => rfl
      | cons v vs =>
        cases v with
        | ref g => cases h5
        | _ => rfl
  rw [e]
  exact ⟨⟨h2, He.eqO_ok h4⟩, ⟨w1, w2, h3⟩⟩
end KA

set_option linter.all false
/-! KWp: what a mini program ends in: rules for its proofs. -/
namespace KA
/-- it ends well, so that Q -/
def Rt {α : Type} (r : Res α) (Q : α → MH → Prop) : Prop := match r with
  | .ok a h => Q a h
  | _ => False
@[simp] theorem rt_bind {α β : Type} (r : Res α) (k : α → MH → Res β) (Q : β → MH → Prop) : Rt (r.bind k) Q = Rt r fun a h => Rt (k a h) Q := by cases r <;> rfl
@[simp] theorem rt_ok {α : Type} (a : α) (h : MH) (Q : α → MH → Prop) : Rt (.ok a h) Q = Q a h := rfl
@[simp] theorem rt_bad {α : Type} (Q : α → MH → Prop) : Rt (.bad : Res α) Q = False := rfl
theorem Rt.imp {α : Type} {r : Res α} {Q Q' : α → MH → Prop} (p : Rt r Q) (k : ∀ a h, Q a h → Q' a h) : Rt r Q' := by
  cases r with
  | ok a h => exact k a h p
  | _ => exact p
theorem Rt.inv {α : Type} {r : Res α} {Q : α → MH → Prop} (p : Rt r Q) : ∃ a h, r = .ok a h ∧ Q a h := by
  cases r with
  | ok a h => exact ⟨a, h, rfl, p⟩
  | _ => exact False.elim p
theorem Rt.eq {α : Type} {r : Res α} {v : α} {h : MH} (p : Rt r fun a h' => a = v ∧ h' = h) : r = .ok v h := by
  obtain ⟨a, h', e, e1, e2⟩ := p.inv
  rw [e, e1, e2]
/-- how a statement ends -/
structure Po where
  n : Sl → MH → Prop
  r : MV → MH → Prop
  b : Sl → MH → Prop
  c : Sl → MH → Prop
def Oc (o : Out) (P : Po) : Prop := match o with
  | .nx σ h => P.n σ h
  | .rt v h => P.r v h
  | .bk σ h => P.b σ h
  | .ct σ h => P.c σ h
  | _ => False
@[simp] theorem oc_nx (σ : Sl) (h : MH) (P : Po) : Oc (.nx σ h) P = P.n σ h := rfl
@[simp] theorem oc_rt (v : MV) (h : MH) (P : Po) : Oc (.rt v h) P = P.r v h := rfl
@[simp] theorem oc_bk (σ : Sl) (h : MH) (P : Po) : Oc (.bk σ h) P = P.b σ h := rfl
@[simp] theorem oc_ct (σ : Sl) (h : MH) (P : Po) : Oc (.ct σ h) P = P.c σ h := rfl
@[simp] theorem oc_bad (P : Po) : Oc .bad P = False := rfl
theorem Oc.imp {o : Out} {P P' : Po} (p : Oc o P) (n : ∀ σ h, P.n σ h → P'.n σ h) (r : ∀ v h, P.r v h → P'.r v h) (b : ∀ σ h, P.b σ h → P'.b σ h) (c : ∀ σ h, P.c σ h → P'.c σ h) : Oc o P' := by
  cases o with
  | nx => exact n _ _ p
  | rt => exact r _ _ p
  | bk => exact b _ _ p
  | ct => exact c _ _ p
  | _ => exact p
@[simp] theorem oc_out {α : Type} (r : Res α) (σ : Sl) (k : α → MH → Out) (P : Po) : Oc (r.out σ k) P = Rt r fun a h => Oc (k a h) P := by cases r <;> rfl
/-! ### expressions -/
@[simp] theorem rt_eV (i : Nat) (σ : Sl) (h : MH) (Q : MV → MH → Prop) : Rt (eV i σ h) Q = (match σ[i]? with
  | some (some v) => Q v h
  | _ => False) := by
  unfold eV
  cases σ[i]? with
  | none => rfl
  | some u => cases u <;> rfl
@[simp] theorem rt_eC (v : MV) (σ : Sl) (h : MH) (Q : MV → MH → Prop) : Rt (eC v σ h) Q = Q v h := rfl
@[simp] theorem rt_e1 (g : MV → MH → Res MV) (a : EM) (σ : Sl) (h : MH) (Q : MV → MH → Prop) : Rt (e1 g a σ h) Q = Rt (a σ h) fun v h1 => Rt (g v h1) Q := rt_bind ..
@[simp] theorem rt_e2 (g : MV → MV → MH → Res MV) (a b : EM) (σ : Sl) (h : MH) (Q : MV → MH → Prop) : Rt (e2 g a b σ h) Q = Rt (a σ h) fun v h1 => Rt (b σ h1) fun w h2 => Rt (g v w h2) Q := by
  unfold e2; simp
@[simp] theorem rt_aNil (σ : Sl) (h : MH) (Q : List MV → MH → Prop) : Rt (aNil σ h) Q = Q [] h := rfl
@[simp] theorem rt_aCons (a : EM) (r : AM) (σ : Sl) (h : MH) (Q : List MV → MH → Prop) : Rt (aCons a r σ h) Q = Rt (a σ h) fun v h1 => Rt (r σ h1) fun vs h2 => Q (v :: vs) h2 := by
  unfold aCons; simp
@[simp] theorem rt_eA (g : FM) (a : AM) (σ : Sl) (h : MH) (Q : MV → MH → Prop) : Rt (eA g a σ h) Q = Rt (a σ h) fun vs h1 => Rt (g vs h1) Q := rt_bind ..
@[simp] theorem rt_eIf (c : TM) (a b : EM) (σ : Sl) (h : MH) (Q : MV → MH → Prop) : Rt (eIf c a b σ h) Q = Rt (c σ h) fun k h1 => if k = true then Rt (a σ h1) Q else Rt (b σ h1) Q := by
  unfold eIf; rw [rt_bind]; congr; funext k h1; cases k <;> simp
@[simp] theorem rt_qB (v : MV) (h : MH) (Q : Bool → MH → Prop) : Rt (qB v h) Q = (match v with
  | .bl b => Q b h
  | _ => False) := by cases v <;> rfl
@[simp] theorem rt_cB (a : EM) (σ : Sl) (h : MH) (Q : Bool → MH → Prop) : Rt (cB a σ h) Q = Rt (a σ h) fun v h1 => (match v with
  | .bl b => Q b h1
  | _ => False) := by unfold cB; simp
@[simp] theorem rt_cNot (t : TM) (σ : Sl) (h : MH) (Q : Bool → MH → Prop) : Rt (cNot t σ h) Q = Rt (t σ h) fun k h1 => Q (!k) h1 := by unfold cNot; simp
@[simp] theorem rt_cAnd (t u : TM) (σ : Sl) (h : MH) (Q : Bool → MH → Prop) : Rt (cAnd t u σ h) Q = Rt (t σ h) fun k h1 => if k = true then Rt (u σ h1) Q else Q false h1 := by
  unfold cAnd; rw [rt_bind]; congr; funext k h1; cases k <;> simp
@[simp] theorem rt_cOr (t u : TM) (σ : Sl) (h : MH) (Q : Bool → MH → Prop) : Rt (cOr t u σ h) Q = Rt (t σ h) fun k h1 => if k = true then Q true h1 else Rt (u σ h1) Q := by
  unfold cOr; rw [rt_bind]; congr; funext k h1; cases k <;> simp
@[simp] theorem rt_cYes (σ : Sl) (h : MH) (Q : Bool → MH → Prop) : Rt (cYes σ h) Q = Q true h := rfl
@[simp] theorem rt_eAnd (a b : EM) (σ : Sl) (h : MH) (Q : MV → MH → Prop) : Rt (eAnd a b σ h) Q = Rt (a σ h) fun v h1 => (match v with
  | .bl k => if k = true then Rt (b σ h1) Q else Q (.bl false) h1
  | _ => False) := by
  unfold eAnd; rw [rt_bind]; congr; funext v h1
  cases v with
  | bl k => cases k <;> simp
  | _ => rfl
@[simp] theorem rt_eOr (a b : EM) (σ : Sl) (h : MH) (Q : MV → MH → Prop) : Rt (eOr a b σ h) Q = Rt (a σ h) fun v h1 => (match v with
  | .bl k => if k = true then Q (.bl true) h1 else Rt (b σ h1) Q
  | _ => False) := by
  unfold eOr; rw [rt_bind]; congr; funext v h1
  cases v with
  | bl k => cases k <;> simp
  | _ => rfl
@[simp] theorem rt_eNot (a : EM) (σ : Sl) (h : MH) (Q : MV → MH → Prop) : Rt (eNot a σ h) Q = Rt (a σ h) fun v h1 => (match v with
  | .bl k => Q (.bl (!k)) h1
  | _ => False) := by
  unfold eNot; rw [rt_bind]; congr; funext v h1; cases v <;> rfl
@[simp] theorem rt_eChain (g g' : MV → MV → MH → Res MV) (a b c : EM) (σ : Sl) (h : MH) (Q : MV → MH → Prop) : Rt (eChain g g' a b c σ h) Q = Rt (a σ h) fun x h1 => Rt (b σ h1) fun y h2 => Rt (g x y h2) fun z h3 => (match z with
  | .bl k => if k = true then Rt (c σ h3) fun w h4 => Rt (g' y w h4) Q else Q (.bl false) h3
  | _ => False) := by
  unfold eChain; simp only [rt_bind]; congr; funext x h1; congr; funext y h2; congr; funext z h3
  cases z with
  | bl k => cases k <;> simp
  | _ => rfl
/-! ### operators -/
@[simp] theorem rt_lim {α : Type} (n : Nat) (r : Res α) (Q : α → MH → Prop) : Rt (lim n r) Q = (n ≤ 16777216 ∧ Rt r Q) := by
  rcases lim_cases n r with ⟨e, q⟩ | q
  · rw [q]; simp [e]
  · by_cases e : n ≤ 16777216
    · rw [lim_ok e]; simp [e]
    · rw [q]; simp [e]
@[simp] theorem add_int (i j : Int) (h : MH) : qAdd (.int i) (.int j) h = .ok (.int (i + j)) h := rfl
@[simp] theorem sub_int (i j : Int) (h : MH) : qSub (.int i) (.int j) h = .ok (.int (i - j)) h := rfl
@[simp] theorem lt_int (i j : Int) (h : MH) : qLt (.int i) (.int j) h = .ok (.bl (decide (i < j))) h := rfl
@[simp] theorem le_int (i j : Int) (h : MH) : qLe (.int i) (.int j) h = .ok (.bl (decide (i ≤ j))) h := rfl
@[simp] theorem gt_int (i j : Int) (h : MH) : qGt (.int i) (.int j) h = .ok (.bl (decide (j < i))) h := rfl
@[simp] theorem ge_int (i j : Int) (h : MH) : qGe (.int i) (.int j) h = .ok (.bl (decide (j ≤ i))) h := rfl
@[simp] theorem neg_int (i : Int) (h : MH) : qNeg (.int i) h = .ok (.int (-i)) h := rfl
theorem mod_int {i j : Int} (h : MH) (p : 0 < j) : qMod (.int i) (.int j) h = .ok (.int (i % j)) h := by unfold qMod; simp [p]
theorem small9_of {j : Int} (p : 0 ≤ j) (q : j < 2 ^ 8000) : small9 j = true := by
  unfold small9
  have h1 : j.natAbs < 2 ^ 8000 := by omega
  have h2 : Nat.log2 j.natAbs < 9000 := by
    by_cases z : j.natAbs = 0
    · rw [z]; decide
    · have := (Nat.log2_lt z).mpr h1; omega
  exact Nat.ble_eq_true_of_le h2
theorem div_int {i j : Int} (h : MH) (p : 0 < j) (q : j < 2 ^ 8000) : qDiv (.int i) (.int j) h = .ok (.int (i / j)) h := by unfold qDiv; simp [p, small9_of (Int.le_of_lt p) q]
theorem small64_of {i : Int} (h1 : -18446744073709551616 < i) (h2 : i < 18446744073709551616) : small64 i = true := by
  unfold small64
  exact Nat.ble_eq_true_of_le (by omega)
theorem mul_l {i j : Int} (h : MH) (h1 : -18446744073709551616 < i) (h2 : i < 18446744073709551616) : qMul (.int i) (.int j) h = .ok (.int (i * j)) h := by unfold qMul; simp [small64_of h1 h2]
theorem mul_r {i j : Int} (h : MH) (h1 : -18446744073709551616 < j) (h2 : j < 18446744073709551616) : qMul (.int i) (.int j) h = .ok (.int (i * j)) h := by unfold qMul; simp [small64_of h1 h2]
theorem mul_9 {i j : Int} (h : MH) (p : 0 ≤ i) (q : i < 2 ^ 8000) (p' : 0 ≤ j) (q' : j < 2 ^ 8000) : qMul (.int i) (.int j) h = .ok (.int (i * j)) h := by unfold qMul; simp [small9_of p q, small9_of p' q']
@[simp] theorem isN_eq (v : MV) (h : MH) : qIsN v .non h = .ok (.bl (match v with
  | .non => true
  | _ => false)) h := by cases v <;> rfl
@[simp] theorem notN_eq (v : MV) (h : MH) : qNotN v .non h = .ok (.bl (match v with
  | .non => false
  | _ => true)) h := by cases v <;> rfl
@[simp] theorem eq_int (i j : Int) (h : MH) : qEq (.int i) (.int j) h = .ok (.bl (decide (i = j))) h := rfl
@[simp] theorem ne_int (i j : Int) (h : MH) : qNe (.int i) (.int j) h = .ok (.bl (!decide (i = j))) h := rfl
@[simp] theorem ne_bl (i j : Bool) (h : MH) : qNe (.bl i) (.bl j) h = .ok (.bl (!(i == j))) h := rfl
@[simp] theorem eq_bl (i j : Bool) (h : MH) : qEq (.bl i) (.bl j) h = .ok (.bl (i == j)) h := rfl
/-! ### statements -/
@[simp] theorem rt_fn (N : Nat) (b : SM) (vs : List MV) (h : MH) (Q : MV → MH → Prop) : Rt (fn N b vs h) Q = Oc (b (vs.map some ++ List.replicate (N - vs.length) none) h) ⟨fun _ h => Q .non h, Q, fun _ _ => False, fun _ _ => False⟩ := by
  unfold fn
  cases b (vs.map some ++ List.replicate (N - vs.length) none) h <;> rfl
@[simp] theorem oc_nil (σ : Sl) (h : MH) (P : Po) : Oc (jNil σ h) P = P.n σ h := rfl
@[simp] theorem oc_pass (σ : Sl) (h : MH) (P : Po) : Oc (jPass σ h) P = P.n σ h := rfl
@[simp] theorem oc_break (σ : Sl) (h : MH) (P : Po) : Oc (jBreak σ h) P = P.b σ h := rfl
@[simp] theorem oc_cont (σ : Sl) (h : MH) (P : Po) : Oc (jCont σ h) P = P.c σ h := rfl
@[simp] theorem oc_jbad (σ : Sl) (h : MH) (P : Po) : Oc (jBad σ h) P = False := rfl
@[simp] theorem oc_seq (s t : SM) (σ : Sl) (h : MH) (P : Po) : Oc (jSeq s t σ h) P = Oc (s σ h) ⟨fun σ1 h1 => Oc (t σ1 h1) P, P.r, P.b, P.c⟩ := by
  unfold jSeq
  cases s σ h <;> rfl
@[simp] theorem oc_drop (a : EM) (σ : Sl) (h : MH) (P : Po) : Oc (jDrop a σ h) P = Rt (a σ h) fun _ h1 => P.n σ h1 := by unfold jDrop; simp
@[simp] theorem oc_ret (a : EM) (σ : Sl) (h : MH) (P : Po) : Oc (jRet a σ h) P = Rt (a σ h) P.r := by unfold jRet; simp
@[simp] theorem oc_retN (σ : Sl) (h : MH) (P : Po) : Oc (jRetN σ h) P = P.r .non h := rfl
@[simp] theorem oc_if (c : TM) (s t : SM) (σ : Sl) (h : MH) (P : Po) : Oc (jIf c s t σ h) P = Rt (c σ h) fun k h1 => if k = true then Oc (s σ h1) P else Oc (t σ h1) P := by
  unfold jIf; rw [oc_out]; congr; funext k h1; cases k <;> simp
@[simp] theorem oc_asg (a : EM) (p : Pt) (σ : Sl) (h : MH) (P : Po) : Oc (jAsg a p σ h) P = Rt (a σ h) fun v h1 => (match asg p v σ with
  | some σ1 => P.n σ1 h1
  | none => False) := by
  unfold jAsg; rw [oc_out]; congr; funext v h1
  cases asg p v σ <;> rfl
@[simp] theorem oc_par (i j : Nat) (a b : EM) (σ : Sl) (h : MH) (P : Po) : Oc (jPar i j a b σ h) P = Rt (a σ h) fun v h1 => Rt (b σ h1) fun w h2 => P.n ((σ.set i (some v)).set j (some w)) h2 := by unfold jPar; simp
/-- a for: an invariant by the turn -/
theorem for_inv {w : Wk} {p : Pt} {b : SM} {P : Po} {σ : Sl} {h : MH} (I : Nat → Sl → MH → Prop) (h0 : I 0 σ h)
    (step : ∀ i σ h, i < w.n → I i σ h → ∃ v σ1, w.at_ i h = some v ∧ asg p v σ = some σ1 ∧ Oc (b σ1 h) ⟨I (i + 1), P.r, P.n, I (i + 1)⟩)
    (fin : ∀ σ h, I w.n σ h → w.fin h = true ∧ P.n σ h) : Oc (forL w p b w.n 0 σ h) P := by
  have key : ∀ (r i : Nat) (σ : Sl) (h : MH), i + r = w.n → I i σ h → Oc (forL w p b r i σ h) P := by
    intro r
    induction r with
    | zero =>
      intro i σ h e q
      have : i = w.n := by omega
      subst this
      obtain ⟨f1, f2⟩ := fin σ h q
      unfold forL
      rw [f1]
      exact f2
    | succ r ih =>
      intro i σ h e q
      obtain ⟨v, σ1, e1, e2, o⟩ := step i σ h (by omega) q
      unfold forL
      rw [e1]
      dsimp only
      rw [e2]
      dsimp only
      cases eb : b σ1 h with
      | nx σ2 h2 => rw [eb] at o; exact ih (i + 1) σ2 h2 (by omega) o
      | ct σ2 h2 => rw [eb] at o; exact ih (i + 1) σ2 h2 (by omega) o
      | bk σ2 h2 => rw [eb] at o; exact o
      | rt v2 h2 => rw [eb] at o; exact o
      | exc c v σ2 h2 => rw [eb] at o; exact o
      | bad => rw [eb] at o; exact o
  exact key w.n 0 σ h (Nat.zero_add _) h0
/-- a while: an invariant, with so many turns left -/
theorem while_inv {c : TM} {b : SM} {P : Po} (I : Nat → Sl → MH → Prop) 
    (step : ∀ n σ h, I n σ h → Rt (c σ h) fun k h1 => if k = true then Oc (b σ h1) ⟨fun σ2 h2 => ∃ m, m < n ∧ I m σ2 h2, P.r, P.n, fun σ2 h2 => ∃ m, m < n ∧ I m σ2 h2⟩ else P.n σ h1) : ∀ (n k : Nat) (σ : Sl) (h : MH), n < k → I n σ h → Oc (jWhile k c b σ h) P := by
  unfold jWhile
  intro n k
  induction k generalizing n with
  | zero => intro σ h l; omega
  | succ k ih =>
    intro σ h l q
    have s := step n σ h q
    unfold whileL
    rw [oc_out]
    refine s.imp fun v h1 z => ?_
    cases v with
    | false => simpa using z
    | true =>
      rw [if_pos rfl] at z
      dsimp only
      cases eb : b σ h1 with
      | nx σ2 h2 => rw [eb] at z; obtain ⟨m, e, i⟩ := z; exact ih m σ2 h2 (by omega) i
      | ct σ2 h2 => rw [eb] at z; obtain ⟨m, e, i⟩ := z; exact ih m σ2 h2 (by omega) i
      | bk σ2 h2 => rw [eb] at z; exact z
      | rt v2 h2 => rw [eb] at z; exact z
      | exc c v σ2 h2 => rw [eb] at z; exact z
      | bad => rw [eb] at z; exact z
/-- the loop of a comprehension -/
theorem acc_inv {A : Type} {w : Wk} {p : Pt} {t : TM} {b : Sl → A → MH → Res A} {σ : Sl} {Q : A → MH → Prop} {h : MH} {a : A} (I : Nat → A → MH → Prop) (h0 : I 0 a h)
    (step : ∀ i a h, i < w.n → I i a h → ∃ v σ1, w.at_ i h = some v ∧ asg p v σ = some σ1 ∧ Rt (t σ1 h) fun k h1 => if k = true then Rt (b σ1 a h1) (I (i + 1)) else I (i + 1) a h1)
    (fin : ∀ a h, I w.n a h → w.fin h = true ∧ Q a h) : Rt (accL w p t b σ w.n 0 a h) Q := by
  have key : ∀ (r i : Nat) (a : A) (h : MH), i + r = w.n → I i a h → Rt (accL w p t b σ r i a h) Q := by
    intro r
    induction r with
    | zero =>
      intro i a h e q
      have : i = w.n := by omega
      subst this
      obtain ⟨f1, f2⟩ := fin a h q
      unfold accL
      rw [f1]
      exact f2
    | succ r ih =>
      intro i a h e q
      obtain ⟨v, σ1, e1, e2, o⟩ := step i a h (by omega) q
      unfold accL
      rw [e1]
      dsimp only
      rw [e2]
      dsimp only
      rw [rt_bind]
      refine o.imp fun k h1 z => ?_
      cases k with
      | true =>
        rw [if_pos rfl] at z
        dsimp only
        rw [rt_bind]
        exact z.imp fun a2 h2 z2 => ih (i + 1) a2 h2 (by omega) z2
      | false =>
        rw [if_neg Bool.false_ne_true] at z
        exact ih (i + 1) a h1 (by omega) z
  exact key w.n 0 a h (Nat.zero_add _) h0
@[simp] theorem oc_for (w : WM) (p : Pt) (b : SM) (σ : Sl) (h : MH) (P : Po) : Oc (jFor w p b σ h) P = Rt (w σ h) fun k h1 => Oc (forL k p b k.n 0 σ h1) P := by unfold jFor; simp
@[simp] theorem rt_eLc (w : WM) (p : Pt) (t : TM) (e : EM) (vs : List Nat) (σ : Sl) (h : MH) (Q : MV → MH → Prop) : Rt (eLc w p t e vs σ h) Q = Rt (w σ h) fun k h1 => Rt (accL k p t (bE e) (wipeM σ vs) k.n 0 (0, []) h1) fun acc h2 => Q (.ref h2.n) (h2.push (.lst acc.2.reverse)) := by
  unfold eLc kLst; simp
@[simp] theorem rt_eDc (w : WM) (p : Pt) (t : TM) (a b : EM) (vs : List Nat) (σ : Sl) (h : MH) (Q : MV → MH → Prop) : Rt (eDc w p t a b vs σ h) Q = Rt (w σ h) fun k h1 => Rt (accL k p t (bD a b) (wipeM σ vs) k.n 0 (0, []) h1) fun acc h2 => Q (.ref h2.n) (h2.push (.dct false false acc.2)) := by
  unfold eDc kDct; simp
@[simp] theorem rt_bE (e : EM) (σ : Sl) (acc : Nat × List MV) (h : MH) (Q : Nat × List MV → MH → Prop) : Rt (bE e σ acc h) Q = Rt (e σ h) fun y h1 => acc.1 + 1 ≤ 16777216 ∧ Q (acc.1 + 1, y :: acc.2) h1 := by
  unfold bE; simp
@[simp] theorem rt_bD (a b : EM) (σ : Sl) (acc : Nat × List (MV × MV)) (h : MH) (Q : Nat × List (MV × MV) → MH → Prop) : Rt (bD a b σ acc h) Q = Rt (a σ h) fun y h1 => Rt (b σ h1) fun z h2 => keyA y = true ∧ acc.1 + 1 ≤ 16777216 ∧ Q (acc.1 + 1, dput y z acc.2) h2 := by
  unfold bD; simp only [rt_bind]; congr; funext y h1; congr; funext z h2
  cases keyA y <;> simp
/-! ### places, by what stands there -/
theorem fld_eq {h : MH} {n c f : Nat} {fs : List (Nat × MV)} {v : MV} (e : h.get n = some (.ins c fs)) (e2 : fget f fs = some v) : qFld c f (.ref n) h = .ok v h := by
  unfold qFld
  simp [e, e2]
theorem dget_eq {h : MH} {n : Nat} {lk : Bool} {kvs : List (MV × MV)} {k v : MV} (e : h.get n = some (.dct false lk kvs)) (ek : keyA k = true) (e2 : dget k kvs = some v) : qDget (.ref n) k h = .ok v h := by
  unfold qDget dOf keyOk
  simp [e, ek, e2]
theorem din_eq {h : MH} {n : Nat} {lk neg : Bool} {kvs : List (MV × MV)} {k : MV} (e : h.get n = some (.dct false lk kvs)) (ek : keyA k = true) : qDin neg k (.ref n) h = .ok (.bl (match neg with
  | false => (dget k kvs).isSome
  | true => !(dget k kvs).isSome)) h := by
  unfold qDin dOf keyOk
  cases neg <;> simp [e, ek]
theorem isi_eq {h : MH} {nc k j : Nat} {v : MV} (e : kindOf h v = some j) (hj : j < nc) : qIsi nc k v h = .ok (.bl (isA j k)) h := by
  unfold qIsi
  rw [e]
  dsimp only
  rw [show Nat.blt j nc = true from Nat.ble_eq_true_of_le hj]
/-- h' has what h has -/
def Sub (h h' : MH) : Prop := ∀ a o, h.get a = some o → h'.get a = some o
theorem Sub.refl {h : MH} : Sub h h := fun _ _ e => e
theorem Sub.trans {h h1 h2 : MH} (a : Sub h h1) (b : Sub h1 h2) : Sub h h2 := fun x o e => b x o (a x o e)
theorem Sub.push {h : MH} {o : MO} : Sub h (h.push o) := fun a u e => MH.push_of e
/-- .. but at s -/
def Sx (s : Nat) (h h' : MH) : Prop := ∀ a o, a ≠ s → h.get a = some o → h'.get a = some o
theorem Sx.refl {s : Nat} {h : MH} : Sx s h h := fun _ _ _ e => e
theorem Sx.trans {s : Nat} {h h1 h2 : MH} (a : Sx s h h1) (b : Sx s h1 h2) : Sx s h h2 := fun x o n e => b x o n (a x o n e)
theorem Sub.sx {s : Nat} {h h' : MH} (a : Sub h h') : Sx s h h' := fun x o _ e => a x o e
theorem Sx.set {s : Nat} {h : MH} {o : MO} : Sx s h (h.set s o) := fun a u n e => by rw [MH.set_ne n]; exact e
/-- locking and unlocking -/
theorem rt_eLock {fp e : EM} {σ : Sl} {h : MH} {n : Nat} {tk : Bool} {kvs : List (MV × MV)} {Q : MV → MH → Prop} (ep : fp σ h = .ok (.ref n) h) (en : h.get n = some (.dct tk false kvs))
    (q : Rt (e σ (h.set n (.dct tk true kvs))) fun v h1 => ∃ kvs', h1.get n = some (.dct tk true kvs') ∧ Q v (h1.set n (.dct tk false kvs'))) : Rt (eLock fp e σ h) Q := by
  unfold eLock
  rw [ep]
  dsimp only
  rw [en]
  dsimp only
  obtain ⟨v, h1, e1, kvs', e2, q⟩ := q.inv
  rw [e1]
  unfold unlockR unlockH
  dsimp only
  rw [e2]
  exact q
theorem oc_lock {fp : EM} {s : SM} {σ : Sl} {h : MH} {n : Nat} {tk : Bool} {kvs : List (MV × MV)} {P : Po} (ep : fp σ h = .ok (.ref n) h) (en : h.get n = some (.dct tk false kvs))
    (q : Oc (s σ (h.set n (.dct tk true kvs))) ⟨fun σ1 h1 => ∃ kvs', h1.get n = some (.dct tk true kvs') ∧ P.n σ1 (h1.set n (.dct tk false kvs')), fun v h1 => ∃ kvs', h1.get n = some (.dct tk true kvs') ∧ P.r v (h1.set n (.dct tk false kvs')),
      fun σ1 h1 => ∃ kvs', h1.get n = some (.dct tk true kvs') ∧ P.b σ1 (h1.set n (.dct tk false kvs')), fun σ1 h1 => ∃ kvs', h1.get n = some (.dct tk true kvs') ∧ P.c σ1 (h1.set n (.dct tk false kvs'))⟩) : Oc (jLock fp s σ h) P := by
  unfold jLock
  rw [ep]
  dsimp only
  rw [en]
  dsimp only
  cases es : s σ (h.set n (.dct tk true kvs)) with
  | nx σ1 h1 => rw [es] at q; obtain ⟨kvs', e2, q⟩ := q; unfold unlockO unlockH; dsimp only; rw [e2]; exact q
  | rt v h1 => rw [es] at q; obtain ⟨kvs', e2, q⟩ := q; unfold unlockO unlockH; dsimp only; rw [e2]; exact q
  | bk σ1 h1 => rw [es] at q; obtain ⟨kvs', e2, q⟩ := q; unfold unlockO unlockH; dsimp only; rw [e2]; exact q
  | ct σ1 h1 => rw [es] at q; obtain ⟨kvs', e2, q⟩ := q; unfold unlockO unlockH; dsimp only; rw [e2]; exact q
  | exc c v σ1 h1 => rw [es] at q; exact q
  | bad => rw [es] at q; exact q
/-! ### numbers, tests of naturals -/
@[simp] theorem kblt (a b : Nat) : Nat.blt a b = decide (a < b) := by
  rw [Bool.eq_iff_iff, decide_eq_true_eq]
  exact ⟨fun h => Nat.le_of_ble_eq_true h, fun h => Nat.ble_eq_true_of_le h⟩
@[simp] theorem kble (a b : Nat) : Nat.ble a b = decide (a ≤ b) := by
  rw [Bool.eq_iff_iff, decide_eq_true_eq]
  exact ⟨fun h => Nat.le_of_ble_eq_true h, fun h => Nat.ble_eq_true_of_le h⟩
@[simp] theorem kbeq (a b : Nat) : Nat.beq a b = decide (a = b) := by
  rw [Bool.eq_iff_iff, decide_eq_true_eq]
  exact ⟨Nat.eq_of_beq_eq_true, fun h => by rw [h]; exact Nat.beq_refl b⟩
theorem beqN_eq : ∀ (a b : List Nat), beqN a b = decide (a = b)
  | [], [] => rfl
  | [], _ :: _ => rfl
  | _ :: _, [] => rfl
  | a :: r, b :: s => by
    unfold beqN
    rw [beqN_eq r s]
    by_cases c : a = b
    · subst c; simp
    · simp [c]
/-! ### kinds -/
@[simp] theorem isi_int (k : Nat) (i : Int) (h : MH) : qIsi 12 k (.int i) h = .ok (.bl (isA 2 k)) h := rfl
@[simp] theorem isi_str (k : Nat) (s : List Nat) (h : MH) : qIsi 12 k (.str s) h = .ok (.bl (isA 3 k)) h := rfl
@[simp] theorem isi_tup (k : Nat) (xs : List MV) (h : MH) : qIsi 12 k (.tup xs) h = .ok (.bl (isA 5 k)) h := rfl
@[simp] theorem isi_bl (k : Nat) (b : Bool) (h : MH) : qIsi 12 k (.bl b) h = .ok (.bl (isA 1 k)) h := rfl
@[simp] theorem isi_non (k : Nat) (h : MH) : qIsi 12 k .non h = .ok (.bl (isA 0 k)) h := rfl
theorem isi_ins {h : MH} {n c k : Nat} {fs : List (Nat × MV)} (e : h.get n = some (.ins c fs)) (hc : c < 2) : qIsi 12 k (.ref n) h = .ok (.bl (isA (c + 10) k)) h := isi_eq (by unfold kindOf; simp [e]) (by omega)
theorem isi_dct {h : MH} {n k : Nat} {lk : Bool} {kvs : List (MV × MV)} (e : h.get n = some (.dct false lk kvs)) : qIsi 12 k (.ref n) h = .ok (.bl (isA 6 k)) h := isi_eq (by unfold kindOf; simp [e]) (by omega)
theorem isi_lst {h : MH} {n k : Nat} {xs : List MV} (e : h.get n = some (.lst xs)) : qIsi 12 k (.ref n) h = .ok (.bl (isA 4 k)) h := isi_eq (by unfold kindOf; simp [e]) (by omega)
@[simp] theorem isA_eq (j k : Nat) : isA j k = (decide (j = k) || (decide (j = 1) && decide (k = 2))) := by unfold isA; simp
/-! ### places in rows, slices, lengths -/
@[simp] theorem rt_ix_tup (xs : List MV) (i : Int) (h : MH) (Q : MV → MH → Prop) : Rt (qIx (.tup xs) (.int i) h) Q = (match atM xs i with
  | some x => Q x h
  | none => False) := by
  unfold qIx
  dsimp only
  cases atM xs i <;> rfl
theorem rt_ix_seq {v : MV} {xs : List MV} {h : MH} {i : Int} {x : MV} {Q : MV → MH → Prop} (e : seqOf h v = some xs) (e2 : atM xs i = some x) (q : Q x h) : Rt (qIx v (.int i) h) Q := by
  unfold qIx
  dsimp only
  cases v with
  | tup ys => cases e
  | _ => dsimp only; rw [e]; dsimp only; rw [e2]; exact q
theorem atM_nat {xs : List MV} {i : Nat} (hi : i < xs.length) : atM xs i = some xs[i] := by
  unfold atM ixM
  simp [hi]
theorem atM_int {xs : List MV} {i : Int} (h0 : 0 ≤ i) (hi : i < xs.length) : atM xs i = xs[i.toNat]? := by
  unfold atM ixM
  have : i.toNat < xs.length := by omega
  simp [h0, this]
theorem seq_ref {h : MH} {n : Nat} {xs : List MV} (e : h.get n = some (.lst xs)) : seqOf h (.ref n) = some xs := by unfold seqOf; simp [e]
@[simp] theorem seq_flst (h : MH) (xs : List MV) : seqOf h (.flst xs) = some xs := rfl
@[simp] theorem rt_len_str (s : List Nat) (h : MH) (Q : MV → MH → Prop) : Rt (qLen [.str s] h) Q = (s.length ≤ 16777216 ∧ Q (.int s.length) h) := by show Rt (lim _ _) Q = _; simp
@[simp] theorem len_tup (xs : List MV) (h : MH) : qLen [.tup xs] h = .ok (.int xs.length) h := rfl
@[simp] theorem len_flst (xs : List MV) (h : MH) : qLen [.flst xs] h = .ok (.int xs.length) h := rfl
theorem len_lst {h : MH} {n : Nat} {xs : List MV} (e : h.get n = some (.lst xs)) : qLen [.ref n] h = .ok (.int xs.length) h := by show qLen1 (.ref n) h = _; unfold qLen1; simp [e]
theorem len_dct {h : MH} {n : Nat} {tk : Bool} {kvs : List (MV × MV)} (e : h.get n = some (.dct tk false kvs)) : qLen [.ref n] h = .ok (.int kvs.length) h := by show qLen1 (.ref n) h = _; unfold qLen1; simp [e]
def slP (Q : MV → MH → Prop) (v : MV) (l u : Option Int) (h : MH) : Prop := match v with
  | .tup xs => Q (.tup (cutM xs l u)) h
  | v => (match seqOf h v with
    | some xs => Q (.ref h.n) (h.push (.lst (cutM xs l u)))
    | none => False)
theorem rt_slP (v : MV) (l u : Option Int) (h : MH) (Q : MV → MH → Prop) : Rt (match v with
    | .tup xs => .ok (.tup (cutM xs l u)) h
    | v => (match seqOf h v with
      | some xs => .ok (.ref h.n) (h.push (.lst (cutM xs l u)))
      | none => .bad)) Q = slP Q v l u h := by
  unfold slP
  cases v with
  | tup xs => rfl
  | flst xs => rfl
  | ref n => dsimp only; cases seqOf h (.ref n) <;> rfl
  | _ => rfl
@[simp] theorem rt_sl_hi (a e : EM) (σ : Sl) (h : MH) (Q : MV → MH → Prop) : Rt (eSl a none (some e) σ h) Q = Rt (a σ h) fun v h1 => Rt (e σ h1) fun x h2 => (match x with
  | .int i => slP Q v none (some i) h2
  | _ => False) := by
  unfold eSl; rw [rt_bind]; congr; funext v h1
  simp only [rt_bind, rt_ok]; congr; funext x h2
  cases x with
  | int i => simp only [rt_ok]; exact rt_slP ..
  | _ => rfl
@[simp] theorem rt_sl_lo (a e : EM) (σ : Sl) (h : MH) (Q : MV → MH → Prop) : Rt (eSl a (some e) none σ h) Q = Rt (a σ h) fun v h1 => Rt (e σ h1) fun x h2 => (match x with
  | .int i => slP Q v (some i) none h2
  | _ => False) := by
  unfold eSl; rw [rt_bind]; congr; funext v h1
  simp only [rt_bind]; congr; funext x h2
  cases x with
  | int i => simp only [rt_ok]; exact rt_slP ..
  | _ => rfl
@[simp] theorem rt_sl_both (a e f : EM) (σ : Sl) (h : MH) (Q : MV → MH → Prop) : Rt (eSl a (some e) (some f) σ h) Q = Rt (a σ h) fun v h1 => Rt (e σ h1) fun x h2 => (match x with
  | .int i => Rt (f σ h2) fun y h3 => (match y with
    | .int j => slP Q v (some i) (some j) h3
    | _ => False)
  | _ => False) := by
  unfold eSl; rw [rt_bind]; congr; funext v h1
  simp only [rt_bind]; congr; funext x h2
  cases x with
  | int i =>
    simp only [rt_ok, rt_bind]; congr; funext y h3
    cases y with
    | int j => simp only [rt_ok]; exact rt_slP ..
    | _ => rfl
  | _ => rfl
@[simp] theorem rt_qTup (vs : List MV) (h : MH) (Q : MV → MH → Prop) : Rt (qTup vs h) Q = (vs.length ≤ 16777216 ∧ Q (.tup vs) h) := by unfold qTup; simp
@[simp] theorem rt_qLst (vs : List MV) (h : MH) (Q : MV → MH → Prop) : Rt (qLst vs h) Q = (vs.length ≤ 16777216 ∧ Q (.ref h.n) (h.push (.lst vs))) := by unfold qLst; simp
/-! ### walks -/
@[simp] theorem rt_wTup (a : EM) (σ : Sl) (h : MH) (Q : Wk → MH → Prop) : Rt (wTup a σ h) Q = Rt (a σ h) fun v h1 => (match v with
  | .tup xs => Q (wkT xs) h1
  | _ => False) := by unfold wTup; rw [rt_bind]; congr; funext v h1; cases v <;> rfl
@[simp] theorem rt_wFst (a : EM) (σ : Sl) (h : MH) (Q : Wk → MH → Prop) : Rt (wFst a σ h) Q = Rt (a σ h) fun v h1 => (match v with
  | .flst xs => Q (wkT xs) h1
  | _ => False) := by unfold wFst; rw [rt_bind]; congr; funext v h1; cases v <;> rfl
@[simp] theorem rt_wStr (a : EM) (σ : Sl) (h : MH) (Q : Wk → MH → Prop) : Rt (wStr a σ h) Q = Rt (a σ h) fun v h1 => (match v with
  | .str s => Q (wkS s) h1
  | _ => False) := by unfold wStr; rw [rt_bind]; congr; funext v h1; cases v <;> rfl
@[simp] theorem rt_wSeq (a : EM) (σ : Sl) (h : MH) (Q : Wk → MH → Prop) : Rt (wSeq a σ h) Q = Rt (a σ h) fun v h1 => ∃ n xs, v = .ref n ∧ h1.get n = some (.lst xs) ∧ Q (wkL n xs.length) h1 := by
  unfold wSeq; rw [rt_bind]; congr; funext v h1
  cases v with
  | ref n =>
    dsimp only
    cases e : h1.get n with
    | none => simp [e]
    | some o => cases o <;> simp [e]
  | _ => simp
@[simp] theorem rt_wEnum (a : EM) (σ : Sl) (h : MH) (Q : Wk → MH → Prop) : Rt (wEnum a σ h) Q = Rt (a σ h) fun v h1 => ∃ n xs, v = .ref n ∧ h1.get n = some (.lst xs) ∧ Q (wkE (wkL n xs.length)) h1 := by
  unfold wEnum; rw [rt_bind]; congr; funext v h1
  cases v with
  | ref n =>
    dsimp only
    cases e : h1.get n with
    | none => simp [e]
    | some o => cases o <;> simp [e]
  | _ => simp
@[simp] theorem rt_wDct (k : Nat) (a : EM) (σ : Sl) (h : MH) (Q : Wk → MH → Prop) : Rt (wDct k a σ h) Q = Rt (a σ h) fun v h1 => ∃ n kvs, v = .ref n ∧ h1.get n = some (.dct false true kvs) ∧ Q (wkD k n kvs.length) h1 := by
  unfold wDct; rw [rt_bind]; congr; funext v h1
  cases v with
  | ref n =>
    dsimp only
    cases e : h1.get n with
    | none => simp [e]
    | some o =>
      cases o with
      | dct tk lk kvs => cases tk <;> cases lk <;> simp [e]
      | _ => simp [e]
  | _ => simp
theorem rgOk_of {i : Int} (h1 : -4611686018427387904 < i) (h2 : i < 4611686018427387904) : rgOk i = true := by
  unfold rgOk rg62
  simp
  omega
@[simp] theorem rt_wRng1 (a : EM) (σ : Sl) (h : MH) (Q : Wk → MH → Prop) : Rt (wRng1 a σ h) Q = Rt (a σ h) fun v h1 => ∃ j, v = .int j ∧ rgOk j = true ∧ Q (wkR 0 j.toNat) h1 := by
  unfold wRng1; rw [rt_bind]; congr; funext v h1
  cases v with
  | int j => dsimp only; cases e : rgOk j <;> simp [e]
  | _ => simp
@[simp] theorem rt_wRng2 (a b : EM) (σ : Sl) (h : MH) (Q : Wk → MH → Prop) : Rt (wRng2 a b σ h) Q = Rt (a σ h) fun v h1 => Rt (b σ h1) fun w h2 => ∃ i j, v = .int i ∧ w = .int j ∧ rgOk i = true ∧ rgOk j = true ∧ Q (wkR i (j - i).toNat) h2 := by
  unfold wRng2; simp only [rt_bind]; congr; funext v h1; congr; funext w h2
  cases v with
  | int i =>
    cases w with
    | int j => dsimp only; cases e : rgOk i <;> cases e2 : rgOk j <;> simp [e, e2]
    | _ => simp
  | _ => simp
@[simp] theorem rt_wRng3 (a b c : EM) (σ : Sl) (h : MH) (Q : Wk → MH → Prop) : Rt (wRng3 a b c σ h) Q = Rt (a σ h) fun v h1 => Rt (b σ h1) fun w h2 => Rt (c σ h2) fun u h3 => ∃ i j k, v = .int i ∧ w = .int j ∧ u = .int k ∧ rg62 i = true ∧ rg62 j = true ∧ 0 < k ∧ k < 1073741824 ∧ Q (wkC i k (stepN i j k)) h3 := by
  unfold wRng3; simp only [rt_bind]; congr; funext v h1; congr; funext w h2; congr; funext u h3
  cases v with
  | int i =>
    cases w with
    | int j =>
      cases u with
      | int k =>
        dsimp only
        cases e : rg62 i <;> cases e2 : rg62 j <;> simp [e, e2]
        by_cases p : 0 < k
        · by_cases q : k < 1073741824
          · simp [p, q]
          · simp [p, q]
        · simp [p]
      | _ => simp
    | _ => simp
  | _ => simp
@[simp] theorem rt_wZip (a b : EM) (σ : Sl) (h : MH) (Q : Wk → MH → Prop) : Rt (wZip a b σ h) Q = Rt (a σ h) fun v h1 => Rt (b σ h1) fun w h2 => (match v, w with
  | .tup xs, .tup ys => Q (wkZT xs ys) h2
  | _, _ => (match seqOf h2 v, seqOf h2 w with
    | some xs, some ys => Q (wkZL v w (Nat.min xs.length ys.length)) h2
    | _, _ => False)) := by
  unfold wZip; simp only [rt_bind]; congr; funext v h1; congr; funext w h2
  cases v <;> cases w <;> simp only [rt_ok] <;> (first | rfl | (split <;> first | rfl | simp_all))
/-! ### new instances, fields -/
theorem rt_eNewK (c : Nat) (g : FM) (f : List MV → List MV → List MV) (a k : AM) (σ : Sl) (h : MH) (Q : MV → MH → Prop) : Rt (eNewK c g f a k σ h) Q = Rt (a σ h) fun vs h1 => Rt (k σ h1) fun zs h2 => Rt (g (f (.ref h2.n :: vs) zs) (h2.push (.ins c []))) fun v h3 => v = .non ∧ Q (.ref h2.n) h3 := by
  unfold eNewK; simp only [rt_bind]; congr; funext vs h1; congr; funext zs h2; congr; funext v h3
  cases v <;> simp
theorem rt_eNew (c : Nat) (g : FM) (a : AM) (σ : Sl) (h : MH) (Q : MV → MH → Prop) : Rt (eNew c g a σ h) Q = Rt (a σ h) fun vs h1 => Rt (g (.ref h1.n :: vs) (h1.push (.ins c []))) fun v h2 => v = .non ∧ Q (.ref h1.n) h2 := by
  unfold eNew; simp only [rt_bind]; congr; funext vs h1; congr; funext v h2
  cases v <;> simp
@[simp] theorem oc_fld (c f : Nat) (a v : EM) (σ : Sl) (h : MH) (P : Po) : Oc (jFld c f a v σ h) P = Rt (v σ h) fun y h1 => Rt (a σ h1) fun x h2 => ∃ n fs, x = .ref n ∧ h2.get n = some (.ins c fs) ∧ fs.length < 100 ∧ P.n σ (h2.set n (.ins c (fput f y fs))) := by
  unfold jFld; simp only [oc_out]; congr; funext y h1; congr; funext x h2
  cases x with
  | ref n =>
    dsimp only
    cases e : h2.get n with
    | none => simp [e]
    | some o =>
      cases o with
      | ins d fs =>
        by_cases q : d = c
        · subst q
          by_cases l : fs.length < 100
          · simp [e, l]
          · simp [e, l]
        · simp [e, q]
      | _ => simp [e]
  | _ => simp
@[simp] theorem oc_dput (d k e : EM) (σ : Sl) (h : MH) (P : Po) : Oc (jDput d k e σ h) P = Rt (e σ h) fun v h1 => Rt (d σ h1) fun x h2 => Rt (k σ h2) fun y h3 => ∃ n tk kvs, x = .ref n ∧ h3.get n = some (.dct tk false kvs) ∧ keyOk tk y = true ∧ kvs.length < 16777216 ∧ P.n σ (h3.set n (.dct tk false (dput y v kvs))) := by
  unfold jDput; simp only [oc_out]; congr; funext v h1; congr; funext x h2; congr; funext y h3
  cases x with
  | ref n =>
    dsimp only
    cases eg : h3.get n with
    | none => simp [eg]
    | some o =>
      cases o with
      | dct tk lk kvs =>
        cases lk with
        | true => simp [eg]
        | false =>
          cases tk with
          | false =>
            cases ek : keyOk false y
            · simp [eg, ek]
            · by_cases l : kvs.length < 16777216
              · simp [eg, ek, l]
              · simp [eg, ek, l]
          | true =>
            cases ek : keyOk true y
            · simp [eg, ek]
            · by_cases l : kvs.length < 16777216
              · simp [eg, ek, l]
              · simp [eg, ek, l]
      | _ => simp [eg]
  | _ => simp
@[simp] theorem oc_setL (a i e : EM) (σ : Sl) (h : MH) (P : Po) : Oc (jSetL a i e σ h) P = Rt (e σ h) fun y h1 => Rt (a σ h1) fun x h2 => Rt (i σ h2) fun k h3 => ∃ n j xs m, x = .ref n ∧ k = .int j ∧ h3.get n = some (.lst xs) ∧ ixM xs.length j = some m ∧ P.n σ (h3.set n (.lst (xs.set m y))) := by
  unfold jSetL; simp only [oc_out]; congr; funext y h1; congr; funext x h2; congr; funext k h3
  cases x with
  | ref n =>
    cases k with
    | int j =>
      dsimp only
      cases eg : h3.get n with
      | none => simp [eg]
      | some o =>
        cases o with
        | lst xs => cases e1 : ixM xs.length j <;> simp [eg, e1]
        | _ => simp [eg]
    | _ => simp
  | _ => simp
@[simp] theorem rt_dnew (tk : Bool) (σ : Sl) (h : MH) (Q : MV → MH → Prop) : Rt (eDNew tk σ h) Q = Q (.ref h.n) (h.push (.dct tk false [])) := rfl
@[simp] theorem wipeM_nil (σ : Sl) : wipeM σ [] = σ := rfl
@[simp] theorem wipeM_cons (σ : Sl) (v : Nat) (vs : List Nat) : wipeM σ (v :: vs) = (wipeM σ vs).set v none := rfl
/-- a turn, unrolled -/
theorem forL_succ (w : Wk) (p : Pt) (b : SM) (r i : Nat) (σ : Sl) (h : MH) (P : Po) : Oc (forL w p b (r + 1) i σ h) P = ∃ v σ1, w.at_ i h = some v ∧ asg p v σ = some σ1 ∧ Oc (b σ1 h) ⟨fun σ2 h2 => Oc (forL w p b r (i + 1) σ2 h2) P, P.r, P.n, fun σ2 h2 => Oc (forL w p b r (i + 1) σ2 h2) P⟩ := by
  rw [forL]
  cases e : w.at_ i h with
  | none => simp
  | some v =>
    dsimp only
    cases e2 : asg p v σ with
    | none => simp [e2]
    | some σ1 =>
      dsimp only
      cases e3 : b σ1 h <;> simp [e2, e3, Oc]
theorem forL_zero (w : Wk) (p : Pt) (b : SM) (i : Nat) (σ : Sl) (h : MH) (P : Po) : Oc (forL w p b 0 i σ h) P = (w.fin h = true ∧ P.n σ h) := by
  rw [forL]
  cases w.fin h <;> simp
/-! ### comprehensions that change nothing -/
theorem acc_pure {w : Wk} {p : Pt} {t : TM} {e : EM} {σ : Sl} {h : MH} {Q : Nat × List MV → MH → Prop} (vs : List MV) (tb : MV → Bool) (fe : MV → MV) (hn : w.n = vs.length) (hl : vs.length ≤ 16777216) (hat : ∀ i v, vs[i]? = some v → w.at_ i h = some v) (hfin : w.fin h = true)
    (hs : ∀ v, v ∈ vs → ∃ σ1, asg p v σ = some σ1 ∧ (Rt (t σ1 h) fun k h1 => k = tb v ∧ h1 = h) ∧ (tb v = true → Rt (e σ1 h) fun y h1 => y = fe v ∧ h1 = h))
    (hq : ∀ k, Q (k, ((vs.filter tb).map fe).reverse) h) : Rt (accL w p t (bE e) σ w.n 0 (0, []) h) Q := by
  refine acc_inv (fun i a h' => h' = h ∧ a.1 ≤ i ∧ a.2 = (((vs.take i).filter tb).map fe).reverse) ⟨rfl, Nat.le_refl _, rfl⟩ ?_ ?_
  · rintro i ⟨k, l⟩ h' hi ⟨rfl, hk, rfl⟩
    have hi' : i < vs.length := by omega
    have hv : vs[i]? = some vs[i] := List.getElem?_eq_getElem hi'
    obtain ⟨σ1, e1, e2, e3⟩ := hs vs[i] (List.getElem_mem hi')
    have tk : vs.take (i + 1) = vs.take i ++ [vs[i]] := by rw [List.take_add_one, hv]; rfl
    refine ⟨_, σ1, hat i _ hv, e1, e2.imp ?_⟩
    rintro b h1 ⟨rfl, rfl⟩
    cases q : tb vs[i] with
    | false =>
      rw [if_neg Bool.false_ne_true]
      exact ⟨rfl, by simpa using (show k ≤ i + 1 from Nat.le_succ_of_le hk), by simp only [tk, List.filter_append, List.filter_cons, q]; simp⟩
    | true =>
      rw [if_pos rfl, rt_bE]
      refine (e3 q).imp ?_
      rintro y h2 ⟨rfl, rfl⟩
      exact ⟨by simp only at hk ⊢; omega, rfl, by simp only at hk ⊢; omega, by simp only [tk, List.filter_append, List.filter_cons, q]; simp⟩
  · rintro ⟨k, l⟩ h' ⟨rfl, hk, rfl⟩
    rw [hn, List.take_length]
    exact ⟨hfin, hq k⟩
@[simp] theorem wkT_n (xs : List MV) : (wkT xs).n = xs.length := rfl
@[simp] theorem wkS_n (xs : List Nat) : (wkS xs).n = xs.length := rfl
@[simp] theorem wkR_n (lo : Int) (n : Nat) : (wkR lo n).n = n := rfl
@[simp] theorem wkL_n (a n : Nat) : (wkL a n).n = n := rfl
@[simp] theorem wkD_n (k a n : Nat) : (wkD k a n).n = n := rfl
theorem wkL_at {h : MH} {a n i : Nat} {xs : List MV} {v : MV} (e : h.get a = some (.lst xs)) (ev : xs[i]? = some v) : (wkL a n).at_ i h = some v := by unfold wkL; simp [e, ev]
theorem wkL_fin {h : MH} {a : Nat} {xs : List MV} (e : h.get a = some (.lst xs)) : (wkL a xs.length).fin h = true := by unfold wkL; simp [e]
theorem wkD_at {h : MH} {k a n i : Nat} {tk : Bool} {kvs : List (MV × MV)} {p : MV × MV} (e : h.get a = some (.dct tk true kvs)) (ev : kvs[i]? = some p) : (wkD k a n).at_ i h = some (entM k p) := by unfold wkD; simp [e, ev]
theorem wkD_fin {h : MH} {k a : Nat} {tk : Bool} {kvs : List (MV × MV)} (e : h.get a = some (.dct tk true kvs)) : (wkD k a kvs.length).fin h = true := by unfold wkD; simp [e]
theorem fld_fp {c f i n : Nat} {fs : List (Nat × MV)} {v : MV} {σ : Sl} {h : MH} (es : σ[i]? = some (some (.ref n))) (e : h.get n = some (.ins c fs)) (e2 : fget f fs = some v) : e1 (qFld c f) (eV i) σ h = .ok v h := by
  unfold e1 eV
  rw [es]
  exact fld_eq e e2
theorem qBls_eq {g : List Bool → Bool} {h : MH} {v : MV} {xs : List MV} {bs : List Bool} (e : seqOf h v = some xs) (e2 : bls? xs = some bs) : qBls g [v] h = .ok (.bl (g bs)) h := by
  unfold qBls seq1
  simp [e, e2]
theorem bls_map (bs : List Bool) : bls? (bs.map MV.bl) = some bs := by
  induction bs with
  | nil => rfl
  | cons b bs ih => simp [bls?, ih]
end KA

set_option linter.all false
/-! KWp2: what the further combinators end in. -/
namespace KA
@[simp] theorem oc_par3 (i j l : Nat) (a b c : EM) (σ : Sl) (h : MH) (P : Po) : Oc (jPar3 i j l a b c σ h) P = Rt (a σ h) fun v h1 => Rt (b σ h1) fun w h2 => Rt (c σ h2) fun u h3 => P.n (((σ.set i (some v)).set j (some w)).set l (some u)) h3 := by
  unfold jPar3; simp
@[simp] theorem isB_bl (n a b : Bool) (h : MH) : qIsB n (.bl a) (.bl b) h = .ok (.bl (match n with
  | false => decide (a = b)
  | true => !decide (a = b))) h := rfl
@[simp] theorem rt_wEnumT (a : EM) (σ : Sl) (h : MH) (Q : Wk → MH → Prop) : Rt (wEnumT a σ h) Q = Rt (a σ h) fun v h1 => (match v with
  | .tup xs => Q (wkE (wkT xs)) h1
  | _ => False) := by unfold wEnumT; rw [rt_bind]; congr; funext v h1; cases v <;> rfl
end KA

set_option linter.all false
/-! KWp3: what the combinators of zip, own operations, second fors end in. -/
namespace KA
theorem rt_wZipG (k j : Nat) (a b : EM) (σ : Sl) (h : MH) (Q : Wk → MH → Prop) : Rt (wZipG k j a b σ h) Q = Rt (a σ h) fun v h1 => (∃ p, srcM k v h1 = some p) ∧ Rt (b σ h1) fun w h2 => ∃ p q, srcM k v h2 = some p ∧ srcM j w h2 = some q ∧ Q (wkZ p q) h2 := by
  unfold wZipG
  rw [rt_bind]
  congr; funext v h1
  cases e : srcM k v h1 with
  | none => simp
  | some p =>
    dsimp only
    rw [rt_bind]
    simp only [Option.some.injEq, exists_eq', true_and]
    congr; funext w h2
    cases e1 : srcM k v h2 with
    | none => simp
    | some p1 =>
      cases e2 : srcM j w h2 with
      | none => simp
      | some p2 => simp
theorem wkZ_at {a b : Wk} {i : Nat} {h : MH} {x y : MV} (e1 : a.at_ i h = some x) (e2 : b.at_ i h = some y) : (wkZ a b).at_ i h = some (.tup [x, y]) := by
  unfold wkZ
  dsimp only
  rw [e1, e2]
theorem wkZ_fin {a b : Wk} {h : MH} (hn : a.n = b.n) (e : a.fin h = true) : (wkZ a b).fin h = true := by
  unfold wkZ
  dsimp only
  rw [hn, show Nat.ble b.n b.n = true from Nat.ble_eq_true_of_le (Nat.le_refl _)]
  exact e
theorem wkZ_n {a b : Wk} (hn : a.n = b.n) : (wkZ a b).n = a.n := by
  show Nat.min a.n b.n = a.n
  rw [← hn]; exact Nat.min_self _
theorem srcM_tup (xs : List MV) (h : MH) : srcM 0 (.tup xs) h = some (wkT xs) := rfl
theorem srcM_lst {n : Nat} {xs : List MV} {h : MH} (e : h.get n = some (.lst xs)) : srcM 0 (.ref n) h = some (wkL n xs.length) := by
  unfold srcM; simp [e]
theorem srcM_dct {k n : Nat} {kvs : List (MV × MV)} {h : MH} (e : h.get n = some (.dct false true kvs)) : srcM (k + 1) (.ref n) h = some (wkD k n kvs.length) := by
  unfold srcM; simp [e]
@[simp] theorem rt_aStar (a : EM) (r : AM) (σ : Sl) (h : MH) (Q : List MV → MH → Prop) : Rt (aStar a r σ h) Q = Rt (a σ h) fun v h1 => ∃ xs, v = .tup xs ∧ Rt (r σ h1) fun ys h2 => Q (xs ++ ys) h2 := by
  unfold aStar
  rw [rt_bind]
  congr; funext v h1
  cases v <;> simp
@[simp] theorem rt_eLc2 (w : WM) (p : Pt) (t : TM) (w1 : WM) (p1 : Pt) (t1 : TM) (e : EM) (vs vs1 : List Nat) (σ : Sl) (h : MH) (Q : MV → MH → Prop) : Rt (eLc2 w p t w1 p1 t1 e vs vs1 σ h) Q = Rt (w σ h) fun k h1 => Rt (accL k p t (b2 w1 p1 t1 e vs1) (wipeM σ vs) k.n 0 (0, []) h1) fun acc h2 => Q (.ref h2.n) (h2.push (.lst acc.2.reverse)) := by
  unfold eLc2 kLst; simp
@[simp] theorem rt_b2 (w : WM) (p : Pt) (t : TM) (e : EM) (vs : List Nat) (σ : Sl) (acc : Nat × List MV) (h : MH) (Q : Nat × List MV → MH → Prop) : Rt (b2 w p t e vs σ acc h) Q = Rt (w σ h) fun k h1 => Rt (accL k p t (bE e) (wipeM σ vs) k.n 0 acc h1) Q := by
  unfold b2; simp
@[simp] theorem rt_eMeth (c : Nat) (g : FM) (o : EM) (a : AM) (σ : Sl) (h : MH) (Q : MV → MH → Prop) : Rt (eMeth c g o a σ h) Q = Rt (o σ h) fun x h1 => isIns c h1 x = true ∧ Rt (a σ h1) fun vs h2 => Rt (g (x :: vs) h2) Q := by
  unfold eMeth
  rw [rt_bind]
  congr; funext x h1
  cases isIns c h1 x <;> simp
@[simp] theorem rt_eCallO (c : Nat) (g : FM) (o : EM) (a : AM) (σ : Sl) (h : MH) (Q : MV → MH → Prop) : Rt (eCallO c g o a σ h) Q = Rt (o σ h) fun x h1 => ∃ n, x = .ref n ∧ Rt (a σ h1) fun vs h2 => isIns c h2 (.ref n) = true ∧ Rt (g (.ref n :: vs) h2) Q := by
  unfold eCallO
  rw [rt_bind]
  congr; funext x h1
  cases x with
  | ref n =>
    dsimp only
    rw [rt_bind]
    simp only [MV.ref.injEq, exists_eq_left']
    congr; funext vs h2
    cases isIns c h2 (.ref n) <;> simp
  | _ => simp
theorem isIns_of_get {c n : Nat} {h : MH} {fs : List (Nat × MV)} (e : h.get n = some (.ins c fs)) : isIns c h (.ref n) = true := by
  unfold isIns; simp [e]
theorem rt_qOwB {c : Nat} {g : FM} {n j : Nat} {h : MH} {fs gs : List (Nat × MV)} {Q : MV → MH → Prop} (e1 : h.get n = some (.ins c fs)) (e2 : h.get j = some (.ins c gs)) (q : Rt (g [.ref n, .ref j] h) Q) : Rt (qOwB c g (.ref n) (.ref j) h) Q := by
  unfold qOwB
  rw [isIns_of_get e1, isIns_of_get e2]
  exact q
theorem rt_qOwNe {c : Nat} {g : FM} {n j : Nat} {h : MH} {fs gs : List (Nat × MV)} {Q : MV → MH → Prop} (e1 : h.get n = some (.ins c fs)) (e2 : h.get j = some (.ins c gs)) (q : Rt (g [.ref n, .ref j] h) fun v h' => ∃ b, v = .bl b ∧ Q (.bl (!b)) h') : Rt (qOwNe c g (.ref n) (.ref j) h) Q := by
  unfold qOwNe
  rw [rt_bind]
  refine (rt_qOwB e1 e2 q).imp ?_
  rintro v h' ⟨b, rfl, q⟩
  exact q
theorem listItems_eq {n : Nat} {h : MH} {kvs : List (MV × MV)} (e : h.get n = some (.dct false false kvs)) : qListItems (.ref n) h = .ok (.ref h.n) (h.push (.lst (kvs.map fun p => .tup [p.1, p.2]))) := by
  unfold qListItems; simp [e]
/-! ### comprehensions that lay objects -/
theorem acc_sub {w : Wk} {p : Pt} {t : TM} {e : EM} {σ : Sl} {h : MH} {k0 : Nat} {l0 : List MV} {Q : Nat × List MV → MH → Prop} (vs : List MV) (tb : MV → Bool) (fe : MV → MV) (hn : w.n = vs.length) (hl : k0 + vs.length ≤ 16777216) (hat : ∀ h', Sub h h' → ∀ i v, vs[i]? = some v → w.at_ i h' = some v) (hfin : ∀ h', Sub h h' → w.fin h' = true)
    (hs : ∀ v, v ∈ vs → ∀ h', Sub h h' → ∃ σ1, asg p v σ = some σ1 ∧ Rt (t σ1 h') fun k h1 => k = tb v ∧ Sub h' h1 ∧ (tb v = true → Rt (e σ1 h1) fun y h2 => y = fe v ∧ Sub h1 h2))
    (hq : ∀ k h', k ≤ k0 + vs.length → Sub h h' → Q (k, ((vs.filter tb).map fe).reverse ++ l0) h') : Rt (accL w p t (bE e) σ w.n 0 (k0, l0) h) Q := by
  refine acc_inv (fun i a h' => Sub h h' ∧ a.1 ≤ k0 + i ∧ a.2 = (((vs.take i).filter tb).map fe).reverse ++ l0) ⟨.refl, Nat.le_refl _, rfl⟩ ?_ ?_
  · rintro i ⟨k, l⟩ h' hi ⟨sb, hk, rfl⟩
    have hi' : i < vs.length := by omega
    have hv : vs[i]? = some vs[i] := List.getElem?_eq_getElem hi'
    obtain ⟨σ1, e1, e2⟩ := hs vs[i] (List.getElem_mem hi') h' sb
    have tk : vs.take (i + 1) = vs.take i ++ [vs[i]] := by rw [List.take_add_one, hv]; rfl
    refine ⟨_, σ1, hat h' sb i _ hv, e1, e2.imp ?_⟩
    rintro b h1 ⟨rfl, sb1, e3⟩
    cases q : tb vs[i] with
    | false =>
      rw [if_neg Bool.false_ne_true]
      exact ⟨sb.trans sb1, by simp only at hk ⊢; omega, by simp only [tk, List.filter_append, List.filter_cons, q]; simp⟩
    | true =>
      rw [if_pos rfl, rt_bE]
      refine (e3 q).imp ?_
      rintro y h2 ⟨rfl, sb2⟩
      exact ⟨by simp only at hk ⊢; omega, (sb.trans sb1).trans sb2, by simp only at hk ⊢; omega, by simp only [tk, List.filter_append, List.filter_cons, q]; simp⟩
  · rintro ⟨k, l⟩ h' ⟨sb, hk, rfl⟩
    rw [hn, List.take_length]
    exact ⟨hfin h' sb, hq k h' (by simp only at hk; omega) sb⟩
/-- .. told by the places -/
theorem acc_ix {w : Wk} {p : Pt} {t : TM} {e : EM} {σ : Sl} {h : MH} {k0 : Nat} {l0 : List MV} {Q : Nat × List MV → MH → Prop} (n : Nat) (tb : Nat → Bool) (fe : Nat → MV) (hn : w.n = n) (hl : k0 + n ≤ 16777216) (hfin : ∀ h', Sub h h' → w.fin h' = true)
    (hs : ∀ i, i < n → ∀ h', Sub h h' → ∃ v σ1, w.at_ i h' = some v ∧ asg p v σ = some σ1 ∧ Rt (t σ1 h') fun k h1 => k = tb i ∧ Sub h' h1 ∧ (tb i = true → Rt (e σ1 h1) fun y h2 => y = fe i ∧ Sub h1 h2))
    (hq : ∀ k h', k ≤ k0 + n → Sub h h' → Q (k, (((List.range n).filter tb).map fe).reverse ++ l0) h') : Rt (accL w p t (bE e) σ w.n 0 (k0, l0) h) Q := by
  refine acc_inv (fun i a h' => Sub h h' ∧ a.1 ≤ k0 + i ∧ a.2 = (((List.range i).filter tb).map fe).reverse ++ l0) ⟨.refl, Nat.le_refl _, rfl⟩ ?_ ?_
  · rintro i ⟨k, l⟩ h' hi ⟨sb, hk, rfl⟩
    obtain ⟨v, σ1, e0, e1, e2⟩ := hs i (by omega) h' sb
    refine ⟨v, σ1, e0, e1, e2.imp ?_⟩
    rintro b h1 ⟨rfl, sb1, e3⟩
    cases q : tb i with
    | false =>
      rw [if_neg Bool.false_ne_true]
      exact ⟨sb.trans sb1, by simp only at hk ⊢; omega, by simp only [List.range_succ, List.filter_append, List.filter_cons, q]; simp⟩
    | true =>
      rw [if_pos rfl, rt_bE]
      refine (e3 q).imp ?_
      rintro y h2 ⟨rfl, sb2⟩
      exact ⟨by simp only at hk ⊢; omega, (sb.trans sb1).trans sb2, by simp only at hk ⊢; omega, by simp only [List.range_succ, List.filter_append, List.filter_cons, q]; simp⟩
  · rintro ⟨k, l⟩ h' ⟨sb, hk, rfl⟩
    rw [hn]
    exact ⟨hfin h' sb, hq k h' (by simp only at hk; omega) sb⟩
theorem range_map {α β : Type} (xs : List α) (f : Nat → β) (g : α → β) (hf : ∀ i x, xs[i]? = some x → f i = g x) : (List.range xs.length).map f = xs.map g := by
  apply List.ext_getElem?
  intro i
  rw [List.getElem?_map, List.getElem?_map]
  by_cases c : i < xs.length
  · rw [List.getElem?_range c, List.getElem?_eq_getElem c]
    simp [hf i _ (List.getElem?_eq_getElem c)]
  · rw [List.getElem?_eq_none (by simpa using c), List.getElem?_eq_none (by omega)]; rfl
theorem filter_map_opt {α β : Type} (t : α → Bool) (g : α → β) : ∀ l : List α, (l.filter t).map g = (l.map fun x => if t x = true then some (g x) else none).filterMap id
  | [] => rfl
  | x :: l => by
    rw [List.map_cons, List.filter_cons]
    cases q : t x with
    | true => simp [filter_map_opt t g l]
    | false => simp [filter_map_opt t g l]
theorem range_filter {α β : Type} (xs : List α) (tb : Nat → Bool) (f : Nat → β) (t : α → Bool) (g : α → β) (ht : ∀ i x, xs[i]? = some x → tb i = t x) (hf : ∀ i x, xs[i]? = some x → f i = g x) : ((List.range xs.length).filter tb).map f = (xs.filter t).map g := by
  rw [filter_map_opt, filter_map_opt]
  congr 1
  exact range_map xs _ _ fun i x e => by rw [ht i x e, hf i x e]
/-- .. that change nothing, told by the places, from some items on -/
theorem acc_pix {w : Wk} {p : Pt} {t : TM} {e : EM} {σ : Sl} {h : MH} {k0 : Nat} {l0 : List MV} {Q : Nat × List MV → MH → Prop} (n : Nat) (tb : Nat → Bool) (fe : Nat → MV) (hn : w.n = n) (hl : k0 + n ≤ 16777216) (hfin : w.fin h = true)
    (hs : ∀ i, i < n → ∃ v σ1, w.at_ i h = some v ∧ asg p v σ = some σ1 ∧ Rt (t σ1 h) fun k h1 => k = tb i ∧ h1 = h ∧ (tb i = true → Rt (e σ1 h) fun y h2 => y = fe i ∧ h2 = h))
    (hq : ∀ k, k ≤ k0 + n → Q (k, (((List.range n).filter tb).map fe).reverse ++ l0) h) : Rt (accL w p t (bE e) σ w.n 0 (k0, l0) h) Q := by
  refine acc_inv (fun i a h' => h' = h ∧ a.1 ≤ k0 + i ∧ a.2 = (((List.range i).filter tb).map fe).reverse ++ l0) ⟨rfl, Nat.le_refl _, rfl⟩ ?_ ?_
  · rintro i ⟨k, l⟩ h' hi ⟨rfl, hk, rfl⟩
    obtain ⟨v, σ1, e0, e1, e2⟩ := hs i (by omega)
    refine ⟨v, σ1, e0, e1, e2.imp ?_⟩
    rintro b h1 ⟨rfl, rfl, e3⟩
    cases q : tb i with
    | false =>
      rw [if_neg Bool.false_ne_true]
      exact ⟨rfl, by simp only at hk ⊢; omega, by simp only [List.range_succ, List.filter_append, List.filter_cons, q]; simp⟩
    | true =>
      rw [if_pos rfl, rt_bE]
      refine (e3 q).imp ?_
      rintro y h2 ⟨rfl, rfl⟩
      exact ⟨by simp only at hk ⊢; omega, rfl, by simp only at hk ⊢; omega, by simp only [List.range_succ, List.filter_append, List.filter_cons, q]; simp⟩
  · rintro ⟨k, l⟩ h' ⟨rfl, hk, rfl⟩
    rw [hn]
    exact ⟨hfin, hq k (by simp only at hk; omega)⟩
end KA

set_option linter.all false
/-! KLaw: the laws' own functions (printed by gen.py). -/
namespace KA
def m__law_pairs_0 : FM := fn 6 ((jSeq (jPar 1 2 (eA qListOf (aCons (eV 0) aNil)) (eA qLst aNil))
    (jSeq (jFor (wEnum (eV 1)) (.cons (.nm 3) (.cons (.nm 4) .nil)) (jAsg (e2 qAdd (eV 2) (eLc (wSeq (eSl (eV 1) (some (e2 qAdd (eV 3) (eC (.int 1)))) none)) (.nm 5) cYes (eA qTup (aCons (eV 4) (aCons (eV 5) aNil))) [5])) (.nm 2)))
    (jRet (eV 2)))))
def m__law_runs_0 : FM := fn 2 ((jRet (e2 qLt (e2 qMod (e2 qSub (e2 qAdd (eV 1) (e2 qMul (eC (.int 12)) (e2 qIx (eV 0) (eC (.int 0))))) (e2 qIx (eV 0) (eC (.int 2)))) (e2 qIx (eV 0) (eC (.int 0)))) (e2 qIx (eV 0) (eC (.int 1))))))
def m__law_moved_0 : FM := fn 2 ((jRet (eA qTup (aCons (e2 qIx (eV 0) (eC (.int 0))) (aCons (e2 qIx (eV 0) (eC (.int 1))) (aCons (e2 qMod (e2 qAdd (e2 qIx (eV 0) (eC (.int 2))) (eV 1)) (e2 qIx (eV 0) (eC (.int 0)))) (aCons (e2 qIx (eV 0) (eC (.int 3))) aNil)))))))
def m__law_is_meeting_0 : FM := fn 7 ((jSeq (jAsg (eV 1) (.cons (.nm 2) (.cons (.nm 3) (.cons (.nm 4) (.cons (.nm 5) (.cons (.nm 6) .nil))))))
    (jSeq (jIf (cNot (cB (eA m__law_runs_0 (aCons (eA m__law_moved_0 (aCons (e2 qDget (eV 0) (eV 2)) (aCons (eV 4) aNil))) (aCons (eV 6) aNil))))) (jRet (eC (.bl false))) jNil)
    (jRet (eA m__law_runs_0 (aCons (eA m__law_moved_0 (aCons (e2 qDget (eV 0) (eV 3)) (aCons (eV 5) aNil))) (aCons (eV 6) aNil)))))))
def m__law_draw_0 : FM := fn 4 ((jSeq (jAsg (eA qTup (aCons (eC (.int 1000003)) (aCons (eC (.int 1000033)) (aCons (eC (.int 1000037)) (aCons (eC (.int 1000039)) (aCons (eC (.int 1000081)) (aCons (eC (.int 1000099)) (aCons (eC (.int 1000117)) (aCons (eC (.int 1000121)) (aCons (eC (.int 1000133)) (aCons (eC (.int 1000151)) (aCons (eC (.int 1000159)) (aCons (eC (.int 1000171)) (aCons (eC (.int 1000183)) (aCons (eC (.int 1000187)) (aCons (eC (.int 1000193)) (aCons (eC (.int 1000199)) aNil))))))))))))))))) (.nm 3))
    (jRet (e2 qMod (e2 qMod (e2 qAdd (e2 qMul (eV 0) (eC (.int 48271))) (e2 qMul (eV 1) (eC (.int 69621)))) (e2 qIx (eV 3) (e2 qMod (eV 1) (eC (.int 16))))) (eV 2)))))
def m__law_number_0 : FM := fn 7 ((jSeq (jAsg (eC (.int 1)) (.nm 3))
    (jSeq (jFor (wRng1 (e2 qMod (eV 1) (eC (.int 24)))) (.nm 4) (jAsg (e2 qMul (eV 3) (eC (.int 1009))) (.nm 3)))
    (jSeq (jAsg (e2 qDiv (e2 qSub (eV 0) (e2 qPow (eC (.int 10)) (eC (.int 18)))) (eV 3)) (.nm 5))
    (jSeq (jIf (cB (e2 qGt (eV 5) (eC (.int 0)))) (jRet (e2 qMod (e2 qMod (eV 5) (eC (.int 1009))) (eV 2))) jNil)
    (jSeq (jAsg (e2 qMod (eV 0) (eC (.int 1000003))) (.nm 6))
    (jRet (e2 qMod (eA m__law_draw_0 (aCons (e2 qMul (e2 qAdd (eV 6) (e2 qMul (eC (.int 977)) (eV 1))) (e2 qAdd (e2 qAdd (eV 6) (e2 qMul (eC (.int 31)) (eV 1))) (eC (.int 5)))) (aCons (e2 qAdd (e2 qMod (eV 1) (eC (.int 9))) (eC (.int 1))) (aCons (eC (.int 999983)) aNil)))) (eV 2)))))))))
def m__law_cell_at_0 : FM := fn 2 ((jSeq (jIf (cB (e2 qLt (eV 1) (eA qLen (aCons (eV 0) aNil)))) (jRet (e2 qIx (eV 0) (eV 1))) jNil)
    (jRet (eC (.int 0)))))
def m__law_next_0 : FM := fn 4 ((jSeq (jSetL (eV 0) (eC (.int 2)) (e2 qAdd (e2 qIx (eV 0) (eC (.int 2))) (eC (.int 1))))
    (jSeq (jAsg (e2 qDiv (e2 qIx (eV 0) (eC (.int 2))) (eC (.int 12))) (.nm 2))
    (jSeq (jAsg (e2 qAdd (eA m__law_cell_at_0 (aCons (e2 qIx (eV 0) (eC (.int 0))) (aCons (e2 qAdd (e2 qIx (eV 0) (eC (.int 1))) (eV 2)) aNil))) (e2 qMul (eC (.int 31)) (eV 2))) (.nm 3))
    (jRet (eA m__law_number_0 (aCons (eV 3) (aCons (e2 qAdd (e2 qMod (e2 qIx (eV 0) (eC (.int 2))) (eC (.int 12))) (eC (.int 1))) (aCons (eV 1) aNil)))))))))
def m__law_pick_0 : FM := fn 2 ((jRet (e2 qIx (eV 1) (eA m__law_next_0 (aCons (eV 0) (aCons (eA qLen (aCons (eV 1) aNil)) aNil))))))
def m__law_far_0 : FM := fn 3 ((jRet (e2 qMod (e2 qSub (e2 qAdd (e2 qIx (eV 1) (eC (.int 2))) (e2 qMul (eC (.int 12)) (eV 2))) (e2 qIx (eV 0) (eC (.int 2)))) (eV 2))))
def m__law_is_reason_0 : FM := fn 5 ((jSeq (jAsg (eV 2) (.cons (.nm 3) (.cons (.nm 4) .nil)))
    (jSeq (jIf (cOr (cB (e2 qLt (eV 3) (eC (.int 1)))) (cOr (cB (e2 qNe (e2 qMod (e2 qIx (eV 0) (eC (.int 0))) (eV 3)) (eC (.int 0)))) (cB (e2 qNe (e2 qMod (e2 qIx (eV 1) (eC (.int 0))) (eV 3)) (eC (.int 0)))))) (jRet (eC (.bl false))) jNil)
    (jSeq (jIf (cB (e2 qNe (eV 4) (eA m__law_far_0 (aCons (eV 0) (aCons (eV 1) (aCons (eV 3) aNil)))))) (jRet (eC (.bl false))) jNil)
    (jRet (eAnd (e2 qLe (e2 qIx (eV 0) (eC (.int 1))) (eV 4)) (e2 qLe (e2 qAdd (eV 4) (e2 qIx (eV 1) (eC (.int 1)))) (eV 3))))))))
def m__law_meet_0 : FM := fn 3 ((jSeq (jFor (wRng1 (e2 qMul (e2 qIx (eV 0) (eC (.int 0))) (e2 qIx (eV 1) (eC (.int 0))))) (.nm 2) (jIf (cAnd (cB (eA m__law_runs_0 (aCons (eV 0) (aCons (eV 2) aNil)))) (cB (eA m__law_runs_0 (aCons (eV 1) (aCons (eV 2) aNil))))) (jRet (eV 2)) jNil))
    (jRet (eC .non))))
def m__law_job_0 : FM := fn 1 ((jRet (eNewK 0 m_Job___init__ kfJob_2_start_cost (aCons (e2 qIx (eV 0) (eC (.int 0))) (aCons (e2 qIx (eV 0) (eC (.int 1))) aNil)) (aCons (e2 qIx (eV 0) (eC (.int 2))) (aCons (e2 qIx (eV 0) (eC (.int 3))) aNil)))))
def m__law_table_0 : FM := fn 3 ((jSeq (jAsg (eDNew false) (.nm 1))
    (jSeq (jLock (eV 0) (jFor (wDct 0 (eV 0)) (.nm 2) (jDput (eV 1) (eV 2) (eA m__law_job_0 (aCons (e2 qDget (eV 0) (eV 2)) aNil)))))
    (jRet (eNew 1 m_Timetable___init__ (aCons (eV 1) aNil))))))
def m__law_drawn_0 : FM := fn 7 ((jSeq (jPar 2 3 (eDNew false) (eC (.int 1)))
    (jSeq (jFor (wSeq (eSl (eA qLst (aCons (eC (.str [109, 97, 105, 108])) (aCons (eC (.str [98])) (aCons (eC (.str [108, 111, 103])) (aCons (eC (.str [97])) aNil))))) none (some (e2 qAdd (eC (.int 1)) (eA m__law_next_0 (aCons (eV 0) (aCons (eC (.int 4)) aNil))))))) (.nm 4) (jSeq (jAsg (eA m__law_pick_0 (aCons (eV 0) (aCons (eA qLst (aCons (eC (.int 2)) (aCons (eC (.int 3)) (aCons (eC (.int 4)) (aCons (eC (.int 6)) (aCons (eC (.int 8)) (aCons (eC (.int 9)) (aCons (eC (.int 12)) (aCons (e2 qAdd (eC (.int 1)) (eA m__law_next_0 (aCons (eV 0) (aCons (eC (.int 12)) aNil)))) (aCons (eC (.int 4)) (aCons (eC (.int 6)) aNil))))))))))) aNil))) (.nm 5))
    (jSeq (jWhile 1000 (cB (e2 qGt (e2 qMul (eV 3) (eV 5)) (eV 1))) (jSeq (jAsg (eIf (cB (e2 qGt (eV 5) (eC (.int 2)))) (e2 qAdd (eC (.int 1)) (e2 qDiv (eV 5) (eC (.int 2)))) (eC (.int 1))) (.nm 5))
    (jIf (cB (e2 qGt (e2 qMul (eV 3) (eV 5)) (eV 1))) (jAsg (eC (.int 1)) (.nm 5)) jNil)))
    (jSeq (jAsg (e2 qMul (eV 3) (eV 5)) (.nm 3))
    (jSeq (jAsg (e2 qAdd (eC (.int 1)) (eIf (cB (e2 qEq (eA m__law_next_0 (aCons (eV 0) (aCons (eC (.int 3)) aNil))) (eC (.int 0)))) (eA m__law_next_0 (aCons (eV 0) (aCons (eV 5) aNil))) (eC (.int 0)))) (.nm 6))
    (jDput (eV 2) (eV 4) (eA qTup (aCons (eV 5) (aCons (eV 6) (aCons (eA m__law_next_0 (aCons (eV 0) (aCons (eV 5) aNil))) (aCons (e2 qAdd (eC (.int 1)) (eA m__law_next_0 (aCons (eV 0) (aCons (eC (.int 4)) aNil)))) aNil)))))))))))
    (jRet (eV 2)))))
def m__law_pairs_1 : FM := fn 5 ((jSeq (jAsg (eA qLst aNil) (.nm 1))
    (jSeq (jFor (wEnum (eV 0)) (.cons (.nm 2) (.cons (.nm 3) .nil)) (jAsg (e2 qAdd (eV 1) (eLc (wSeq (eSl (eV 0) (some (e2 qAdd (eV 2) (eC (.int 1)))) none)) (.nm 4) cYes (eA qTup (aCons (eV 3) (aCons (eV 4) aNil))) [4])) (.nm 1)))
    (jRet (eV 1)))))
def m__law_runs_1 : FM := fn 2 ((jRet (e2 qLt (e2 qMod (e2 qSub (eV 1) (e2 qIx (eV 0) (eC (.int 3)))) (e2 qIx (eV 0) (eC (.int 1)))) (e2 qIx (eV 0) (eC (.int 2))))))
def m__law_meeting_0 : FM := fn 3 ((jSeq (jFor (wRng1 (e2 qMul (e2 qIx (eV 0) (eC (.int 1))) (e2 qIx (eV 1) (eC (.int 1))))) (.nm 2) (jIf (cAnd (cB (eA m__law_runs_1 (aCons (eV 0) (aCons (eV 2) aNil)))) (cB (eA m__law_runs_1 (aCons (eV 1) (aCons (eV 2) aNil))))) (jRet (eV 2)) jNil))
    (jRet (eC .non))))
def m__law_moved_1 : FM := fn 4 ((jRet (eLc (wZip (eV 0) (eV 1)) (.cons (.nm 2) (.cons (.nm 3) .nil)) cYes (e2 qAdd (e2 qAdd (eSl (eV 2) none (some (eC (.int 3)))) (eA qTup (aCons (e2 qMod (e2 qAdd (e2 qIx (eV 2) (eC (.int 3))) (eV 3)) (e2 qIx (eV 2) (eC (.int 1)))) aNil))) (eSl (eV 2) (some (eC (.int 4))) none)) [2, 3])))
def m__law_take_0 : FM := fn 2 ((jRet (eIf (cB (e2 qNe (eV 0) (eA qLst aNil))) (e2 qMod (eBmL qPopAt (eV 0) (aCons (eC (.int 0)) aNil)) (eV 1)) (eC (.int 0)))))
def m__law_is_reason_1 : FM := fn 5 ((jSeq (jAsg (eV 2) (.cons (.nm 3) (.cons (.nm 4) .nil)))
    (jSeq (jIf (cOr (cB (e2 qLt (eV 3) (eC (.int 1)))) (cOr (cB (e2 qGt (e2 qMod (e2 qIx (eV 0) (eC (.int 1))) (eV 3)) (eC (.int 0)))) (cB (e2 qGt (e2 qMod (e2 qIx (eV 1) (eC (.int 1))) (eV 3)) (eC (.int 0)))))) (jRet (eC (.bl false))) jNil)
    (jRet (eAnd (e2 qEq (eV 4) (e2 qMod (e2 qSub (e2 qIx (eV 1) (eC (.int 3))) (e2 qIx (eV 0) (eC (.int 3)))) (eV 3))) (eAnd (e2 qLe (e2 qIx (eV 0) (eC (.int 2))) (eV 4)) (e2 qLe (e2 qAdd (eV 4) (e2 qIx (eV 1) (eC (.int 2)))) (eV 3))))))))
def m__law_job_1 : FM := fn 1 ((jRet (eNewK 0 m_Job___init__ kfJob_2_start_cost (aCons (e2 qIx (eV 0) (eC (.int 1))) (aCons (e2 qIx (eV 0) (eC (.int 2))) aNil)) (aCons (e2 qIx (eV 0) (eC (.int 3))) (aCons (e2 qIx (eV 0) (eC (.int 4))) aNil)))))
def m__law_built_0 : FM := fn 3 ((jSeq (jAsg (eDNew false) (.nm 1))
    (jSeq (jFor (wSeq (eV 0)) (.nm 2) (jDput (eV 1) (e2 qIx (eV 2) (eC (.int 0))) (eA m__law_job_1 (aCons (eV 2) aNil))))
    (jRet (eNew 1 m_Timetable___init__ (aCons (eV 1) aNil))))))
def m__law_drawn_1 : FM := fn 8 ((jSeq (jPar 3 4 (eA qLst aNil) (eV 2))
    (jSeq (jFor (wTup (eSl (eA qTup (aCons (eC (.str [115, 121, 110, 99])) (aCons (eC (.str [109, 97, 105, 108])) (aCons (eC (.str [108, 111, 103])) (aCons (eC (.str [97])) aNil))))) none (some (eV 1)))) (.nm 5) (jSeq (jAsg (e2 qIx (eA qTup (aCons (eC (.int 4)) (aCons (eC (.int 6)) (aCons (eC (.int 2)) (aCons (eC (.int 12)) (aCons (eC (.int 3)) (aCons (eC (.int 8)) (aCons (eC (.int 9)) (aCons (eC (.int 10)) (aCons (eC (.int 5)) (aCons (eC (.int 7)) (aCons (eC (.int 1)) (aCons (eC (.int 11)) aNil))))))))))))) (e2 qDiv (e2 qMul (eA m__law_take_0 (aCons (eV 0) (aCons (eC (.int 12)) aNil))) (eA m__law_take_0 (aCons (eV 0) (aCons (eC (.int 12)) aNil)))) (eC (.int 12)))) (.nm 6))
    (jSeq (jAsg (eIf (cB (e2 qLe (eV 6) (eV 4))) (eV 6) (eC (.int 1))) (.nm 6))
    (jSeq (jAsg (e2 qDiv (eV 4) (eV 6)) (.nm 4))
    (jSeq (jAsg (e2 qAdd (eC (.int 1)) (eIf (cB (e2 qEq (eA m__law_take_0 (aCons (eV 0) (aCons (eC (.int 3)) aNil))) (eC (.int 0)))) (eA m__law_take_0 (aCons (eV 0) (aCons (eV 6) aNil))) (eC (.int 0)))) (.nm 7))
    (jDrop (eBmL qAppend (eV 3) (aCons (eA qTup (aCons (eV 5) (aCons (eV 6) (aCons (eV 7) (aCons (eA m__law_take_0 (aCons (eV 0) (aCons (eV 6) aNil))) (aCons (e2 qAdd (eC (.int 1)) (eA m__law_take_0 (aCons (eV 0) (aCons (eC (.int 9)) aNil)))) aNil)))))) aNil))))))))
    (jRet (eV 3)))))
def m__law_cell_at_1 : FM := fn 2 ((jSeq (jIf (cB (e2 qLt (eV 1) (eA qLen (aCons (eV 0) aNil)))) (jRet (eA qAbs (aCons (e2 qIx (eV 0) (eV 1)) aNil))) jNil)
    (jRet (eA m__law_draw_0 (aCons (e2 qAdd (eA qAbs (aCons (eA (qInts sumI) (aCons (eV 0) aNil)) aNil)) (e2 qMul (eC (.int 7919)) (eV 1))) (aCons (eV 1) (aCons (eC (.int 999983)) aNil)))))))
def m__law_digits_0 : FM := fn 10 ((jSeq (jPar 4 5 (eA m__law_cell_at_1 (aCons (eV 0) (aCons (eV 1) aNil))) (eA qLst aNil))
    (jSeq (jAsg (e2 qSub (eV 4) (e2 qPow (eC (.int 10)) (eC (.int 18)))) (.nm 6))
    (jSeq (jFor (wRng1 (eV 2)) (.nm 7) (jIf (cB (e2 qGe (eV 4) (e2 qPow (eC (.int 10)) (eC (.int 18))))) (jSeq (jDrop (eBmL qAppend (eV 5) (aCons (e2 qMod (eV 6) (eV 3)) aNil)))
    (jAsg (e2 qDiv (eV 6) (eV 3)) (.nm 6))) (jSeq (jAsg (eA m__law_draw_0 (aCons (e2 qMul (e2 qAdd (eV 4) (e2 qMul (eC (.int 977)) (eV 7))) (e2 qAdd (e2 qAdd (eV 4) (e2 qMul (eC (.int 31)) (eV 7))) (eC (.int 5)))) (aCons (e2 qAdd (e2 qMod (eV 7) (eC (.int 9))) (eC (.int 1))) (aCons (eC (.int 999983)) aNil)))) (.nm 8))
    (jSeq (jAsg (eA m__law_draw_0 (aCons (e2 qAdd (e2 qMul (e2 qAdd (eV 4) (e2 qMul (eC (.int 31)) (eV 7))) (e2 qAdd (eV 4) (eC (.int 7)))) (e2 qMul (eC (.int 977)) (eV 7))) (aCons (e2 qAdd (e2 qMod (eV 7) (eC (.int 7))) (eC (.int 2))) (aCons (eC (.int 1000003)) aNil)))) (.nm 9))
    (jDrop (eBmL qAppend (eV 5) (aCons (e2 qMod (e2 qAdd (e2 qMul (eV 8) (eC (.int 1000003))) (eV 9)) (eV 3)) aNil)))))))
    (jRet (eV 5))))))
def m__law_pool_0 : FM := fn 5 ((jSeq (jAsg (eA qLst aNil) (.nm 2))
    (jSeq (jFor (wEnumT (eV 1)) (.cons (.nm 3) (.cons (.nm 4) .nil)) (jAsg (e2 qAdd (eV 2) (eA m__law_digits_0 (aCons (eV 0) (aCons (eV 3) (aCons (eC (.int 150)) (aCons (eV 4) aNil)))))) (.nm 2)))
    (jRet (eV 2)))))
def m__law_is_free_0 : FM := fn 3 ((jRet (eA (qBls allB) (aCons (eLc (wSeq (eA m__law_pairs_1 (aCons (eV 0) aNil))) (.cons (.nm 1) (.cons (.nm 2) .nil)) cYes (e2 qIsN (eA m__law_meeting_0 (aCons (eV 1) (aCons (eV 2) aNil))) (eC .non)) [1, 2]) aNil))))
def m__law_moved_2 : FM := fn 4 ((jRet (eLc (wZipG 0 0 (eV 0) (eV 1)) (.cons (.nm 2) (.cons (.nm 3) .nil)) cYes (e2 qAdd (e2 qAdd (eSl (eV 2) none (some (eC (.int 3)))) (eA qTup (aCons (e2 qMod (e2 qAdd (e2 qIx (eV 2) (eC (.int 3))) (eV 3)) (e2 qIx (eV 2) (eC (.int 1)))) aNil))) (eSl (eV 2) (some (eC (.int 4))) none)) [2, 3])))
def m__law_price_1 : FM := fn 4 ((jRet (eA (qInts sumI) (aCons (eLc (wZipG 0 0 (eV 0) (eV 1)) (.cons (.nm 2) (.cons (.nm 3) .nil)) cYes (e2 qMul (e2 qIx (eV 2) (eC (.int 4))) (eV 3)) [2, 3]) aNil))))
def m__law_after_0 : FM := fn 5 ((jSeq (jAsg (eDNew false) (.nm 2))
    (jSeq (jLock (eV 0) (jFor (wZipG 1 0 (eV 0) (eV 1)) (.cons (.nm 3) (.cons (.nm 4) .nil)) (jDput (eV 2) (eV 3) (eA m__law_moved_0 (aCons (e2 qDget (eV 0) (eV 3)) (aCons (eV 4) aNil))))))
    (jRet (eV 2)))))
def m__law_free_0 : FM := fn 5 ((jSeq (jAsg (eA m__law_after_0 (aCons (eV 0) (aCons (eV 1) aNil))) (.nm 2))
    (jRet (eA (qBls allB) (aCons (eLc (wSeq (eA m__law_pairs_0 (aCons (eV 0) aNil))) (.cons (.nm 3) (.cons (.nm 4) .nil)) cYes (e2 qIsN (eA m__law_meet_0 (aCons (e2 qDget (eV 2) (eV 3)) (aCons (e2 qDget (eV 2) (eV 4)) aNil))) (eC .non)) [3, 4]) aNil)))))
def m__law_with_0 : FM := fn 7 ((jSeq (jAsg (eA qLst aNil) (.nm 4))
    (jSeq (jLock (eV 0) (jFor (wZipG 1 0 (eV 0) (eV 1)) (.cons (.nm 5) (.cons (.nm 6) .nil)) (jDrop (eBmL qAppend (eV 4) (aCons (eIf (cB (e2 qEq (eV 5) (eV 2))) (e2 qMod (e2 qAdd (eV 6) (eV 3)) (e2 qIx (e2 qDget (eV 0) (eV 5)) (eC (.int 0)))) (eV 6)) aNil)))))
    (jRet (eA qTupOf (aCons (eV 4) aNil))))))
def m__law_price_2 : FM := fn 4 ((jRet (eA (qInts sumI) (aCons (eLock (eV 0) (eLc (wZipG 1 0 (eV 0) (eV 1)) (.cons (.nm 2) (.cons (.nm 3) .nil)) cYes (e2 qMul (eV 3) (e2 qIx (e2 qDget (eV 0) (eV 2)) (eC (.int 3)))) [2, 3])) aNil))))
def m__law_stands_0 : FM := fn 7 ((jSeq (jIf (cB (e2 qNe (e1 (qOw1 4 m_Desk_now) (eV 1)) (eV 2))) (jRet (eC (.bl false))) jNil)
    (jSeq (jIf (cB (e2 qNe (e1 (qOw1 4 m_Desk_spent) (eV 1)) (eA m__law_price_2 (aCons (eV 0) (aCons (eV 2) aNil))))) (jRet (eC (.bl false))) jNil)
    (jSeq (jIf (cNot (cB (e2 (qOwB 1 m_Timetable___eq__) (e1 (qOw1 4 m_Desk_table) (eV 1)) (eA m__law_table_0 (aCons (eA m__law_after_0 (aCons (eV 0) (aCons (eV 2) aNil))) aNil))))) (jRet (eC (.bl false))) jNil)
    (jSeq (jIf (cB (e2 qNe (eA (qOwBool 4 m_Desk___bool__) (aCons (eV 1) aNil)) (eA m__law_free_0 (aCons (eV 0) (aCons (eV 2) aNil))))) (jRet (eC (.bl false))) jNil)
    (jSeq (jIf (cB (e2 qNe (eA (qOwLen 4 m_Desk___len__) (aCons (eV 1) aNil)) (eA qLen (aCons (eLc (wTup (eV 2)) (.nm 5) (cB (e2 qGt (eV 5) (eC (.int 0)))) (eV 5) [5]) aNil)))) (jRet (eC (.bl false))) jNil)
    (jSeq (jAsg (eA qLst aNil) (.nm 3))
    (jSeq (jLock (eV 0) (jFor (wZipG 1 0 (eV 0) (eV 2)) (.cons (.nm 4) (.cons (.nm 5) .nil)) (jSeq (jIf (cOr (cB (e2 qNe (e2 (qOw2 4 m_Desk___getitem__) (eV 1) (eV 4)) (eV 5))) (cB (e2 qNe (e2 (qOwIn false 4 m_Desk___contains__) (eV 4) (eV 1)) (e2 qGt (eV 5) (eC (.int 0)))))) (jRet (eC (.bl false))) jNil)
    (jFor (wRng2 (eC (.int 1)) (e2 qIx (e2 qDget (eV 0) (eV 4)) (eC (.int 0)))) (.nm 6) (jIf (cB (eA m__law_free_0 (aCons (eV 0) (aCons (eA m__law_with_0 (aCons (eV 0) (aCons (eV 2) (aCons (eV 4) (aCons (eV 6) aNil))))) aNil)))) (jDrop (eBmL qAppend (eV 3) (aCons (eA qTup (aCons (eV 4) (aCons (eV 6) aNil))) aNil))) jNil)))))
    (jRet (e2 qEq (eGenM 4 m_Desk_cures (eV 1)) (eV 3)))))))))))
def m__law_one_right_1 : FM := fn 10 ((jSeq (jAsg (eA m__law_drawn_0 (aCons (eV 0) (aCons (eC (.int 200)) aNil))) (.nm 1))
    (jSeq (jPar3 2 3 4 (eNew 4 m_Desk___init__ (aCons (eA m__law_table_0 (aCons (eV 1) aNil)) aNil)) (eA qLst (aCons (e2 qRepT (eA qTup (aCons (eC (.int 0)) aNil)) (eA qLen (aCons (eV 1) aNil))) aNil)) (eA qLst aNil))
    (jSeq (jLock (eV 1) (jAsg (eLc (wDct 0 (eV 1)) (.nm 7) (cB (e2 qGt (e2 qIx (e2 qDget (eV 1) (eV 7)) (eC (.int 0))) (eC (.int 1)))) (eV 7) [7]) (.nm 5)))
    (jSeq (jIf (cNot (cB (eA m__law_stands_0 (aCons (eV 1) (aCons (eV 2) (aCons (e2 qIx (eV 3) (eC (.int 0))) aNil)))))) (jRet (eC (.bl false))) jNil)
    (jSeq (jFor (wRng1 (eC (.int 4))) (.nm 6) (jSeq (jIf (cAnd (cB (e2 qEq (eA m__law_next_0 (aCons (eV 0) (aCons (eC (.int 4)) aNil))) (eC (.int 0)))) (cB (e2 qNe (eV 4) (eA qLst aNil)))) (jSeq (jDrop (eBmL qPop0 (eV 3) aNil))
    (jIf (cB (e2 qNe (eMeth 4 m_Desk_undo (eV 2) aNil) (eBmL qPop0 (eV 4) aNil))) (jRet (eC (.bl false))) jNil)) (jIf (cB (e2 qNe (eV 5) (eA qLst aNil))) (jSeq (jAsg (eA m__law_pick_0 (aCons (eV 0) (aCons (eV 5) aNil))) (.nm 7))
    (jSeq (jAsg (e2 qAdd (eC (.int 1)) (eA m__law_next_0 (aCons (eV 0) (aCons (e2 qSub (e2 qIx (e2 qDget (eV 1) (eV 7)) (eC (.int 0))) (eC (.int 1))) aNil)))) (.nm 8))
    (jSeq (jAsg (eA m__law_with_0 (aCons (eV 1) (aCons (e2 qIx (eV 3) (e1 qNeg (eC (.int 1)))) (aCons (eV 7) (aCons (eV 8) aNil))))) (.nm 9))
    (jSeq (jIf (cB (e2 qNe (eMeth 4 m_Desk_move (eV 2) (aCons (eV 7) (aCons (eV 8) aNil))) (eA m__law_free_0 (aCons (eV 1) (aCons (eV 9) aNil))))) (jRet (eC (.bl false))) jNil)
    (jSeq (jDrop (eBmL qAppend (eV 3) (aCons (eV 9) aNil)))
    (jDrop (eBmL qAppend (eV 4) (aCons (eV 7) aNil)))))))) jNil))
    (jIf (cNot (cB (eA m__law_stands_0 (aCons (eV 1) (aCons (eV 2) (aCons (e2 qIx (eV 3) (e1 qNeg (eC (.int 1)))) aNil)))))) (jRet (eC (.bl false))) jNil)))
    (jRet (eC (.bl true)))))))))
def m_law_4 : FM := fn 2 ((jSeq (jFor (wRng3 (eC (.int 0)) (eA qMax2 (aCons (eC (.int 1)) (aCons (eA qMin2 (aCons (eC (.int 24)) (aCons (eA qLen (aCons (eV 0) aNil)) aNil))) aNil))) (eC (.int 6))) (.nm 1) (jIf (cNot (cB (eA m__law_one_right_1 (aCons (eA qLst (aCons (eV 0) (aCons (eV 1) (aCons (eC (.int 0)) aNil)))) aNil)))) (jRet (eC (.bl false))) jNil))
    (jRet (eC (.bl true)))))
end KA

set_option linter.all false
/-! PSpec: what the program's mini functions compute. -/
namespace KA
/-- a job: its cycle, length, begin, charge -/
structure Row where
  c : Int
  l : Int
  b : Int
  g : Int
structure Row.Ok (r : Row) : Prop where
  c1 : 1 ≤ r.c
  c2 : r.c ≤ 12
  l1 : 1 ≤ r.l
  l2 : r.l ≤ r.c
  b1 : 0 ≤ r.b
  b2 : r.b < r.c
  g1 : 1 ≤ r.g
  g2 : r.g ≤ 9
def jobO (r : Row) : MO := .ins 0 [(0, .int r.c), (1, .int r.l), (2, .int r.b), (3, .int r.g)]
section
variable {h : MH} {n n' : Nat} {r r' : Row}
theorem j_c (e : h.get n = some (jobO r)) : qFld 0 0 (.ref n) h = .ok (.int r.c) h := fld_eq e rfl
theorem j_l (e : h.get n = some (jobO r)) : qFld 0 1 (.ref n) h = .ok (.int r.l) h := fld_eq e rfl
theorem j_b (e : h.get n = some (jobO r)) : qFld 0 2 (.ref n) h = .ok (.int r.b) h := fld_eq e rfl
theorem j_g (e : h.get n = some (jobO r)) : qFld 0 3 (.ref n) h = .ok (.int r.g) h := fld_eq e rfl
def runsB (r : Row) (t : Int) : Bool := decide ((t - r.b) % r.c < r.l)
theorem runs_eq {t : Int} (e : h.get n = some (jobO r)) (hc : 0 < r.c) : m_runs [.ref n, .int t] h = .ok (.bl (runsB r t)) h := by
  apply Rt.eq
  unfold m_runs
  simp [j_c e, j_l e, j_b e, mod_int h hc, runsB]
theorem whole_int {i : Int} : m_is_whole [.int i] h = .ok (.bl true) h := by
  apply Rt.eq
  unfold m_is_whole
  simp
theorem integer_eq {i a b : Int} : m_is_integer [.int i, .int a, .int b] h = .ok (.bl (decide (a ≤ i) && decide (i ≤ b))) h := by
  apply Rt.eq
  unfold m_is_integer
  simp [whole_int]
  by_cases q : a ≤ i
  · simp [q]
  · simp [q]
/-! ### the greatest common divisor -/
theorem common_eq {a b : Int} (ha : 0 < a) (hb : 0 ≤ b) (hb2 : b < 1000) : m_common [.int a, .int b] h = .ok (.int (Int.gcd a b)) h := by
  apply Rt.eq
  unfold m_common
  simp
  refine while_inv (fun m σ h' => h' = h ∧ ∃ x y : Int, σ = [some (.int x), some (.int y)] ∧ 0 < x ∧ 0 ≤ y ∧ y.toNat = m ∧ Int.gcd x y = Int.gcd a b) ?_ b.toNat 1000 _ _ (by omega) ⟨rfl, a, b, rfl, ha, hb, rfl, rfl⟩
  rintro m σ h' ⟨rfl, x, y, rfl, hx, hy, hm, hg⟩
  by_cases q : y = 0
  · subst q
    simp at hg ⊢
    rw [← hg]
    omega
  · have hy' : 0 < y := by omega
    simp [q, mod_int h' hy']
    have h1 := Int.emod_nonneg x q
    have h2 := Int.emod_lt_of_pos x hy'
    have h3 : Int.gcd y (x % y) = Int.gcd a b := by rw [Int.emod_def, Int.gcd_sub_mul_left_right, Int.gcd_comm, hg]
    refine ⟨_, ?_, _, _, ⟨rfl, rfl⟩, hy', h1, rfl, h3⟩
    omega
theorem gap_eq (e : h.get n = some (jobO r)) (e' : h.get n' = some (jobO r')) (o : r.Ok) (o' : r'.Ok) : m_gap_of [.ref n, .ref n'] h = .ok (.tup [.int (Int.gcd r.c r'.c), .int ((r'.b - r.b) % (Int.gcd r.c r'.c))]) h := by
  apply Rt.eq
  unfold m_gap_of
  have h1 := o.c1
  have h2 := o'.c1
  have h3 := o'.c2
  have hg : (0 : Int) < Int.gcd r.c r'.c := by
    have : Int.gcd r.c r'.c ≠ 0 := fun z => by rw [Int.gcd_eq_zero_iff] at z; omega
    omega
  simp [j_c e, j_c e', j_b e, j_b e', common_eq (h := h) (a := r.c) (b := r'.c) (by omega) (by omega) (by omega), asg, mod_int h hg]
def neverB (r r' : Row) : Bool := decide (r.l ≤ (r'.b - r.b) % (Int.gcd r.c r'.c)) && decide ((r'.b - r.b) % (Int.gcd r.c r'.c) + r'.l ≤ Int.gcd r.c r'.c)
theorem never_eq (e : h.get n = some (jobO r)) (e' : h.get n' = some (jobO r')) (o : r.Ok) (o' : r'.Ok) : m_never_meet [.ref n, .ref n'] h = .ok (.bl (neverB r r')) h := by
  apply Rt.eq
  unfold m_never_meet
  simp [gap_eq e e' o o', asg, asgs, j_l e, j_l e', neverB]
  split <;> simp_all <;> omega
def firstT (f : Int → Bool) : Nat → Nat → Option Nat
  | 0, _ => none
  | k + 1, i => if f i then some i else firstT f k (i + 1)
def optV : Option Nat → MV
  | some t => .int t
  | none => .non
/-- for t in range(k): if f(t): return t -/
theorem for_first {f : Int → Bool} {b : SM} {P : Po} {σ0 : Sl} {i0 : Nat} {h : MH} {k : Nat} (hb : ∀ (i : Nat) σ, (∃ v, σ = σ0.set i0 v) → i < k → Oc (b (σ.set i0 (some (.int i))) h) ⟨fun σ' h' => f i = false ∧ (∃ v, σ' = σ0.set i0 v) ∧ h' = h, fun v h' => f i = true ∧ v = .int i ∧ h' = h, fun _ _ => False, fun _ _ => False⟩)
    (hr : ∀ t, firstT f k 0 = some t → P.r (.int t) h) (hn : firstT f k 0 = none → ∀ v, P.n (σ0.set i0 v) h) (hs : ∃ v, σ0 = σ0.set i0 v) : Oc (forL (wkR 0 k) (.nm i0) b k 0 σ0 h) P := by
  have key : ∀ (r i : Nat) (σ : Sl), i + r = k → (∃ v, σ = σ0.set i0 v) → firstT f r i = firstT f k 0 → Oc (forL (wkR 0 k) (.nm i0) b r i σ h) P := by
    intro r
    induction r with
    | zero =>
      rintro i σ e ⟨v, rfl⟩ q
      exact hn q.symm v
    | succ r ih =>
      intro i σ e hσ q
      unfold forL
      have e1 : (wkR 0 k).at_ i h = some (.int i) := by show some (MV.int (0 + (i : Int))) = _; rw [Int.zero_add]
      rw [e1]
      dsimp only [asg]
      have z := hb i σ hσ (by omega)
      cases eb : b (σ.set i0 (some (.int i))) h with
      | nx σ2 h2 =>
        rw [eb] at z
        obtain ⟨z1, z2, rfl⟩ := z
        refine ih (i + 1) σ2 (by omega) z2 ?_
        rw [show firstT f (r + 1) i = if f i then some i else firstT f r (i + 1) from rfl, z1] at q
        simpa using q
      | rt v h2 =>
        rw [eb] at z
        obtain ⟨z1, rfl, rfl⟩ := z
        rw [show firstT f (r + 1) i = if f i then some i else firstT f r (i + 1) from rfl, z1] at q
        exact hr i q.symm
      | bk _ _ => rw [eb] at z; exact False.elim z
      | ct _ _ => rw [eb] at z; exact False.elim z
      | exc _ _ _ _ => rw [eb] at z; exact False.elim z
      | bad => rw [eb] at z; exact False.elim z
  exact key k 0 σ0 (Nat.zero_add _) hs rfl
def meetB (r r' : Row) (t : Int) : Bool := runsB r t && runsB r' t
theorem meeting_eq (e : h.get n = some (jobO r)) (e' : h.get n' = some (jobO r')) (o : r.Ok) (o' : r'.Ok) : m_meeting_time [.ref n, .ref n'] h = .ok (optV (firstT (meetB r r') (r.c * r'.c / Int.gcd r.c r'.c).toNat 0)) h := by
  apply Rt.eq
  unfold m_meeting_time
  have h1 := o.c1
  have h1' := o.c2
  have h2 := o'.c1
  have h3 := o'.c2
  have hg : (0 : Int) < Int.gcd r.c r'.c := by
    have : Int.gcd r.c r'.c ≠ 0 := fun z => by rw [Int.gcd_eq_zero_iff] at z; omega
    omega
  have hg2 : (Int.gcd r.c r'.c : Int) ≤ 12 := Int.le_trans (Int.le_of_dvd (by omega) (Int.gcd_dvd_left r.c r'.c)) h1'
  have hp : 0 ≤ r.c * r'.c := Int.mul_nonneg (by omega) (by omega)
  have hp2 : r.c * r'.c ≤ 144 := by
    have : r.c * r'.c ≤ 12 * 12 := Int.mul_le_mul h1' h3 (by omega) (by omega)
    omega
  have hd : 0 ≤ r.c * r'.c / Int.gcd r.c r'.c := Int.ediv_nonneg hp (by omega)
  have hd2 : r.c * r'.c / Int.gcd r.c r'.c ≤ r.c * r'.c := Int.ediv_le_self _ hp
  have rg : rgOk (r.c * r'.c / Int.gcd r.c r'.c) = true := rgOk_of (by omega) (by omega)
  simp [j_c e, j_c e', common_eq (h := h) (a := r.c) (b := r'.c) (by omega) (by omega) (by omega), mul_l (i := r.c) (j := r'.c) h (by omega) (by omega), div_int (i := r.c * r'.c) h hg (by omega), rg]
  refine for_first (f := meetB r r') ?_ ?_ ?_ ⟨none, rfl⟩
  · rintro i σ ⟨v, rfl⟩ hi
    simp [runs_eq e (show 0 < r.c by omega), runs_eq e' (show 0 < r'.c by omega), meetB]
    cases runsB r i <;> cases runsB r' i <;> simp
    all_goals exact ⟨_, rfl⟩
  · intro t et
    simp [et, optV]
  · intro et v
    simp [et, optV]
/-! ### parts_them -/
def partsB (r r' : Row) (d f : Int) : Bool := decide (1 ≤ d) && (decide (r.c % d = 0) && (decide (r'.c % d = 0) && (decide (f = (r'.b - r.b) % d) && (decide (r.l ≤ f) && decide (f + r'.l ≤ d)))))
theorem parts_eq {d f : Int} (e : h.get n = some (jobO r)) (e' : h.get n' = some (jobO r')) : m_parts_them [.ref n, .ref n', .tup [.int d, .int f]] h = .ok (.bl (partsB r r' d f)) h := by
  apply Rt.eq
  unfold m_parts_them
  by_cases hd : d < 1
  · simp [asg, asgs, hd, partsB]
    intro z; omega
  · have hd0 : 0 < d := by omega
    have hd1 : 1 ≤ d := by omega
    simp [asg, asgs, hd, hd1, j_c e, j_c e', j_b e, j_b e', j_l e, j_l e', mod_int h hd0, partsB]
    by_cases q1 : r.c % d = 0
    · by_cases q2 : r'.c % d = 0
      · by_cases q3 : f = (r'.b - r.b) % d
        · by_cases q4 : r.l ≤ f
          · simp [q1, q2, ← q3, q4]
          · simp [q1, q2, ← q3, q4]
        · simp [q1, q2, q3]
      · simp [q1, q2]
    · simp [q1]
/-! ### new jobs -/
theorem job_init {c l b g : Int} (e : h.get n = some (.ins 0 [])) (o : Row.Ok ⟨c, l, b, g⟩) : Rt (m_Job___init__ [.ref n, .int c, .int l, .int b, .int g] h) fun v h' => v = .non ∧ h'.get n = some (jobO ⟨c, l, b, g⟩) ∧ Sx n h h' ∧ h'.n = h.n := by
  have h1 := o.c1
  have h2 := o.c2
  have h3 := o.l1
  have h4 := o.l2
  have h5 := o.b1
  have h6 := o.b2
  have h7 := o.g1
  have h8 := o.g2
  dsimp only at h1 h2 h3 h4 h5 h6 h7 h8
  have hlt := MH.get_lt e
  unfold m_Job___init__
  simp [integer_eq, h1, h2, h3, h4, h5, h7, h8, show b ≤ c - 1 by omega, e, MH.get_set, hlt, fput, jobO]
  intro a u ne ea
  simp [MH.get_set, ne, ea]
theorem make_job {c l b g : Int} {a k : AM} {σ : Sl} {Q : MV → MH → Prop} {vs zs : List MV} {h1 : MH} (o : Row.Ok ⟨c, l, b, g⟩) (ea : Rt (a σ h) fun vs' h2 => vs' = vs ∧ h2 = h1) (ek : Rt (k σ h1) fun zs' h2 => zs' = zs ∧ h2 = h1) (ev : ∀ u, kfJob_2_start_cost (u :: vs) zs = [u, .int c, .int l, .int b, .int g])
    (q : ∀ h2, Sub h1 h2 → h2.get h1.n = some (jobO ⟨c, l, b, g⟩) → h2.n = h1.n + 1 → Q (.ref h1.n) h2) : Rt (eNewK 0 m_Job___init__ kfJob_2_start_cost a k σ h) Q := by
  rw [rt_eNewK]
  refine ea.imp ?_
  rintro vs' h2 ⟨rfl, rfl⟩
  refine ek.imp ?_
  rintro zs' h3 ⟨rfl, rfl⟩
  rw [ev]
  refine (job_init (MH.push_same _ _) o).imp ?_
  rintro v h4 ⟨rfl, e1, sx, en⟩
  refine ⟨rfl, q h4 (fun x u ex => ?_) e1 en⟩
  exact sx x u (Nat.ne_of_lt (MH.get_lt ex)) (MH.push_of ex)
def shiftR (r : Row) (k : Int) : Row := ⟨r.c, r.l, (r.b + k) % r.c, r.g⟩
theorem shift_ok (o : r.Ok) (k : Int) : (shiftR r k).Ok := ⟨o.c1, o.c2, o.l1, o.l2, Int.emod_nonneg _ (by have := o.c1; show r.c ≠ 0; omega), Int.emod_lt_of_pos _ (by have := o.c1; show 0 < r.c; omega), o.g1, o.g2⟩
theorem moved_rt {k : Int} (e : h.get n = some (jobO r)) (o : r.Ok) (hk : 0 ≤ k) : Rt (m_moved [.ref n, .int k] h) fun v h' => v = .ref h.n ∧ h'.get h.n = some (jobO (shiftR r k)) ∧ Sub h h' ∧ h'.n = h.n + 1 := by
  unfold m_moved
  have hc : 0 < r.c := by have := o.c1; omega
  have hk' : ¬ k < 0 := by omega
  simp [whole_int, hk']
  refine make_job (h1 := h) (vs := [.int r.c, .int r.l]) (zs := [.int ((r.b + k) % r.c), .int r.g]) (c := r.c) (l := r.l) (b := (r.b + k) % r.c) (g := r.g) (shift_ok o k) ?_ ?_ (fun u => rfl) ?_
  · simp [j_c e, j_l e]
  · simp [j_b e, j_c e, j_g e, mod_int h hc]
  · intro h2 s e2 en
    exact ⟨rfl, e2, s, en⟩
/-! ### timetables -/
/-- in the timetable at t the name s is the job at j, r -/
structure At (h : MH) (t : Nat) (s : List Nat) (j : Nat) (r : Row) : Prop where
  tab : ∃ q kvs, h.get t = some (.ins 1 [(4, .ref q)]) ∧ h.get q = some (.dct false false kvs) ∧ dget (.str s) kvs = some (.ref j)
  job : h.get j = some (jobO r)
theorem At.mono {t j : Nat} {s : List Nat} {h' : MH} (a : At h t s j r) (x : Sub h h') : At h' t s j r := by
  obtain ⟨q, kvs, e1, e2, e3⟩ := a.tab
  exact ⟨⟨q, kvs, x _ _ e1, x _ _ e2, e3⟩, x _ _ a.job⟩
theorem At.get {t j : Nat} {s : List Nat} {i k : Nat} {σ : Sl} (a : At h t s j r) (e1_ : σ[i]? = some (some (.ref t))) (e2_ : σ[k]? = some (some (.str s))) : e2 qDget (e1 (qFld 1 4) (eV i)) (eV k) σ h = .ok (.ref j) h := by
  obtain ⟨q, kvs, e1, e2, e3⟩ := a.tab
  apply Rt.eq
  simp [e1_, e2_, fld_eq (f := 4) e1 rfl, dget_eq (k := .str s) e2 rfl e3]
theorem at_get {t j : Nat} {s : List Nat} {i k : Nat} {σ : Sl} {Q : MV → MH → Prop} (a : At h t s j r) (e1_ : σ[i]? = some (some (.ref t))) (e2_ : σ[k]? = some (some (.str s))) (q : Q (.ref j) h) : Rt (e1 (qFld 1 4) (eV i) σ h) fun v h1 => Rt (eV k σ h1) fun w h2 => Rt (qDget v w h2) Q := by
  have := a.get e1_ e2_
  have z : Rt (e2 qDget (e1 (qFld 1 4) (eV i)) (eV k) σ h) Q := by rw [this]; exact q
  rwa [rt_e2] at z
theorem check_tab {t : Nat} {fs : List (Nat × MV)} (e : h.get t = some (.ins 1 fs)) : m_check_timetable [.ref t] h = .ok .non h := by
  apply Rt.eq
  unfold m_check_timetable
  simp [isi_ins e (show 1 < 2 by decide)]
theorem eq_str {a b : List Nat} (ha : sOk a = true) (hb : sOk b = true) : qEq (.str a) (.str b) h = .ok (.bl (decide (a = b))) h := by
  unfold qEq
  rw [show dataB 9 h (.str a) = true from ha, show dataB 9 h (.str b) = true from hb, show eqB 9 h (.str a) (.str b) = beqN a b from rfl, beqN_eq]
  rfl
variable {t j j' : Nat} {s s' : List Nat}
theorem check_two_eq (a : At h t s j r) (a' : At h t s' j' r') (hs : sOk s = true) (hs' : sOk s' = true) (ne : s ≠ s') : m_check_two [.ref t, .str s, .str s'] h = .ok .non h := by
  apply Rt.eq
  unfold m_check_two
  obtain ⟨q, kvs, e1, e2, e3⟩ := a.tab
  obtain ⟨q', kvs', e1', e2', e3'⟩ := a'.tab
  rw [e1] at e1'
  cases e1'
  rw [e2] at e2'
  cases e2'
  simp [check_tab e1, eq_str hs hs', ne, fld_eq (f := 4) e1 rfl, din_eq (k := .str s) e2 rfl, din_eq (k := .str s') e2 rfl, e3, e3']
theorem first_eq (a : At h t s j r) (a' : At h t s' j' r') (hs : sOk s = true) (hs' : sOk s' = true) (ne : s ≠ s') (o : r.Ok) (o' : r'.Ok) : m_first_meeting [.ref t, .str s, .str s'] h = .ok (optV (firstT (meetB r r') (r.c * r'.c / Int.gcd r.c r'.c).toNat 0)) h := by
  apply Rt.eq
  unfold m_first_meeting
  simp [check_two_eq a a' hs hs' ne]
  obtain ⟨q, kvs, e1, e2, e3⟩ := a.tab
  obtain ⟨q', kvs', e1', e2', e3'⟩ := a'.tab
  rw [e1] at e1'
  cases e1'
  rw [e2] at e2'
  cases e2'
  simp [fld_eq (f := 4) e1 rfl, dget_eq (k := .str s) e2 rfl e3, dget_eq (k := .str s') e2 rfl e3', meeting_eq a.job a'.job o o']
theorem apart_eq (a : At h t s j r) (a' : At h t s' j' r') (hs : sOk s = true) (hs' : sOk s' = true) (ne : s ≠ s') (o : r.Ok) (o' : r'.Ok) : m_are_apart [.ref t, .str s, .str s'] h = .ok (.bl (neverB r r')) h := by
  apply Rt.eq
  unfold m_are_apart
  simp [check_two_eq a a' hs hs' ne]
  obtain ⟨q, kvs, e1, e2, e3⟩ := a.tab
  obtain ⟨q', kvs', e1', e2', e3'⟩ := a'.tab
  rw [e1] at e1'
  cases e1'
  rw [e2] at e2'
  cases e2'
  simp [fld_eq (f := 4) e1 rfl, dget_eq (k := .str s) e2 rfl e3, dget_eq (k := .str s') e2 rfl e3', never_eq a.job a'.job o o']
theorem reason_eq {d f : Int} (a : At h t s j r) (a' : At h t s' j' r') (hs : sOk s = true) (hs' : sOk s' = true) (ne : s ≠ s') : m_is_reason [.ref t, .str s, .str s', .tup [.int d, .int f]] h = .ok (.bl (partsB r r' d f)) h := by
  apply Rt.eq
  unfold m_is_reason
  simp [check_two_eq a a' hs hs' ne]
  obtain ⟨q, kvs, e1, e2, e3⟩ := a.tab
  obtain ⟨q', kvs', e1', e2', e3'⟩ := a'.tab
  rw [e1] at e1'
  cases e1'
  rw [e2] at e2'
  cases e2'
  simp [fld_eq (f := 4) e1 rfl, dget_eq (k := .str s) e2 rfl e3, dget_eq (k := .str s') e2 rfl e3', parts_eq a.job a'.job]
/-! ### meetings -/
theorem sound_rt {x y z : Int} (a : At h t s j r) (a' : At h t s' j' r') (o : r.Ok) (o' : r'.Ok) (hx : 0 ≤ x) (hy : 0 ≤ y) : Rt (m_is_sound [.ref t, .tup [.str s, .str s', .int x, .int y, .int z]] h) fun v h' => v = .bl (runsB (shiftR r x) z && runsB (shiftR r' y) z) ∧ Sub h h' := by
  unfold m_is_sound
  obtain ⟨q, kvs, e1, e2, e3⟩ := a.tab
  obtain ⟨q', kvs', e1', e2', e3'⟩ := a'.tab
  rw [e1] at e1'
  cases e1'
  rw [e2] at e2'
  cases e2'
  simp [asg, asgs, fld_eq (f := 4) e1 rfl, dget_eq (k := .str s) e2 rfl e3]
  refine (moved_rt a.job o hx).imp ?_
  rintro v h1 ⟨rfl, ej, sb, en⟩
  have hc := (shift_ok o x).c1
  simp [runs_eq ej (show 0 < (shiftR r x).c by omega)]
  cases q1 : runsB (shiftR r x) z with
  | false => simp [sb]
  | true =>
    simp [fld_eq (f := 4) (sb _ _ e1) rfl, dget_eq (k := .str s') (sb _ _ e2) rfl e3']
    refine (moved_rt (sb _ _ a'.job) o' hy).imp ?_
    rintro v h2 ⟨rfl, ej', sb', en'⟩
    have hc' := (shift_ok o' y).c1
    simp [runs_eq ej' (show 0 < (shiftR r' y).c by omega)]
    exact sb.trans sb'
def inTwo (s s' : List Nat) : MV → Bool
  | .str x => decide (s = x) || decide (s' = x)
  | _ => false
theorem inT_two {x : List Nat} : qInT false (.str x) (.tup [.str s, .str s']) h = .ok (.bl (inTwo s s' (.str x))) h := by
  unfold qInT
  simp [flatM, eqB, beqN_eq, inTwo]
theorem ne_two {a b : Nat} (ea : h.get a = some (.lst [.str s, .str s'])) (eb : h.get b = some (.lst [.str s, .str s'])) (hs : sOk s = true) (hs' : sOk s' = true) : qNe (.ref a) (.ref b) h = .ok (.bl false) h := by
  unfold qNe
  have d : ∀ n, h.get n = some (.lst [.str s, .str s']) → dataB 9 h (.ref n) = true := fun n en => by
    unfold dataB
    simp [en, dataB, hs, hs']
  rw [d a ea, d b eb]
  have e : eqB 9 h (.ref a) (.ref b) = true := by
    unfold eqB
    simp [seq_ref ea, seq_ref eb, all2, eqB, beqN_eq]
  rw [e]
  rfl
theorem check_meeting_rt {x y z : Int} {q : Nat} {kvs : List (MV × MV)} (a : At h t s j r) (a' : At h t s' j' r') (e1 : h.get t = some (.ins 1 [(4, .ref q)])) (e2 : h.get q = some (.dct false false kvs)) (hl : kvs.length ≤ 4) (hs : sOk s = true) (hs' : sOk s' = true)
    (hk : ∀ p ∈ kvs, ∃ w, p.1 = .str w) (ho : (kvs.map (·.1)).filter (inTwo s s') = [.str s, .str s']) (hx : 0 ≤ x) (hx2 : x < r.c) (hy : 0 ≤ y) (hy2 : y < r'.c) (hz : 0 ≤ z) : Rt (m_check_meeting [.ref t, .tup [.str s, .str s', .int x, .int y, .int z]] h) fun v h' => v = .non ∧ Sub h h' := by
  obtain ⟨q1, kvs1, e1', e2', e3⟩ := a.tab
  rw [e1] at e1'
  cases e1'
  rw [e2] at e2'
  cases e2'
  obtain ⟨q1, kvs1, e1', e2', e3'⟩ := a'.tab
  rw [e1] at e1'
  cases e1'
  rw [e2] at e2'
  cases e2'
  have z1 : ¬ z < 0 := by omega
  unfold m_check_meeting
  simp [slP, cutM, sIxM]
  refine acc_pure [.str s, .str s'] (fun _ => true) (fun _ => .bl true) rfl (by simp) (fun i v e => e) rfl ?_ ?_
  · intro v hv
    simp at hv
    rcases hv with rfl | rfl <;> exact ⟨_, rfl, by simp, fun _ => by simp⟩
  intro k
  have c1 : Sub h (h.push (.lst [.bl true, .bl true])) := Sub.push
  simp [qBls_eq (g := allB) (seq_ref (MH.push_same h (.lst [.bl true, .bl true]))) (bls_map [true, true]), allB]
  -- the names in their order
  generalize hh1 : h.push (.lst [.bl true, .bl true]) = h1 at c1
  have t1 := c1 _ _ e1
  have d1 := c1 _ _ e2
  refine rt_eLock (fld_fp (i := 0) rfl t1 rfl) d1 ?_
  have nt : t ≠ q := fun w => by rw [w, d1] at t1; cases t1
  have dl : (h1.set q (.dct false true kvs)).get q = some (.dct false true kvs) := MH.set_same d1
  have tl : (h1.set q (.dct false true kvs)).get t = some (.ins 1 [(4, .ref q)]) := by rw [MH.set_ne nt]; exact t1
  simp [fld_eq (f := 4) tl rfl]
  refine ⟨kvs, dl, ?_⟩
  refine acc_pure (kvs.map (·.1)) (inTwo s s') id (by simp) (by simp; omega) (fun i v e => ?_) (wkD_fin dl) ?_ ?_
  · simp at e
    obtain ⟨p, e⟩ := e
    exact wkD_at dl e
  · intro v hv
    simp at hv
    obtain ⟨w, hv⟩ := hv
    obtain ⟨u, eu⟩ := hk _ hv
    simp only at eu
    subst eu
    exact ⟨_, rfl, by simp [slP, cutM, sIxM, inT_two], fun _ => by simp⟩
  intro k
  rw [ho]
  simp only [List.map_cons, List.map_nil, id]
  refine ⟨kvs, MH.push_of dl, ?_⟩
  simp [slP, cutM, sIxM]
  generalize hh2 : (((h1.set q (.dct false true kvs)).push (.lst [.str s, .str s'])).set q (.dct false false kvs)) = h2
  have c2 : Sub h1 h2 := fun n o en => by
    rw [← hh2]
    by_cases w : n = q
    · subst w
      rw [d1] at en
      cases en
      exact MH.set_same (MH.push_of dl)
    · rw [MH.set_ne w]
      exact MH.push_of (by rw [MH.set_ne w]; exact en)
  have l2 : h2.get h1.n = some (.lst [.str s, .str s']) := by
    rw [← hh2]
    have w : h1.n ≠ q := Nat.ne_of_gt (MH.get_lt d1)
    rw [MH.set_ne w]
    exact MH.push_same (h1.set q (.dct false true kvs)) _
  rw [show qListOf [.tup [.str s, .str s']] h2 = .ok (.ref h2.n) (h2.push (.lst [.str s, .str s'])) from rfl, rt_ok, ne_two (MH.push_of l2) (MH.push_same _ _) hs hs']
  have c3 : Sub h2 (h2.push (.lst [.str s, .str s'])) := Sub.push
  generalize hh3 : h2.push (.lst [.str s, .str s']) = h3 at c3
  have c := (c1.trans c2).trans c3
  have t3 := c _ _ e1
  have d3 := c _ _ e2
  have j3 := c _ _ a.job
  have j3' := c _ _ a'.job
  simp [wkZT, forL_succ, forL_zero, asg, asgs, fld_eq (f := 4) t3 rfl, dget_eq (k := .str s) d3 rfl e3, dget_eq (k := .str s') d3 rfl e3', j_c j3, j_c j3', integer_eq, hx, hy, show x ≤ r.c - 1 by omega, show y ≤ r'.c - 1 by omega, atM, ixM, whole_int, z1]
  exact c
theorem meeting_rt {x y z : Int} {q : Nat} {kvs : List (MV × MV)} (a : At h t s j r) (a' : At h t s' j' r') (e1 : h.get t = some (.ins 1 [(4, .ref q)])) (e2 : h.get q = some (.dct false false kvs)) (hl : kvs.length ≤ 4) (hs : sOk s = true) (hs' : sOk s' = true)
    (hk : ∀ p ∈ kvs, ∃ w, p.1 = .str w) (ho : (kvs.map (·.1)).filter (inTwo s s') = [.str s, .str s']) (o : r.Ok) (o' : r'.Ok) (hx : 0 ≤ x) (hx2 : x < r.c) (hy : 0 ≤ y) (hy2 : y < r'.c) (hz : 0 ≤ z) :
    Rt (m_is_meeting [.ref t, .tup [.str s, .str s', .int x, .int y, .int z]] h) fun v h' => v = .bl (runsB (shiftR r x) z && runsB (shiftR r' y) z) ∧ Sub h h' := by
  unfold m_is_meeting
  simp [check_tab e1]
  refine (check_meeting_rt a a' e1 e2 hl hs hs' hk ho hx hx2 hy hy2 hz).imp ?_
  rintro v h1 ⟨rfl, c1⟩
  refine (sound_rt (a.mono c1) (a'.mono c1) o o' hx hy).imp ?_
  rintro v h2 ⟨rfl, c2⟩
  exact ⟨rfl, c1.trans c2⟩
/-! ### names, new timetables -/
structure NameOk (s : List Nat) : Prop where
  l1 : 1 ≤ s.length
  l2 : s.length ≤ 8
  cs : ∀ c ∈ s, 97 ≤ c ∧ c ≤ 122
theorem NameOk.sok {s : List Nat} (o : NameOk s) : sOk s = true := by
  unfold sOk
  rw [List.all_eq_true]
  intro c hc
  have := o.cs c hc
  simp
  omega
theorem name_rt (o : NameOk s) : Rt (m_is_name [.str s] h) fun v h' => v = .bl true ∧ Sub h h' := by
  unfold m_is_name
  have h1 := o.l1
  have h2 := o.l2
  have h3 : s.length ≤ 16777216 := by omega
  have h4 : (1 : Int) ≤ s.length := by omega
  have h5 : (s.length : Int) ≤ 8 := by omega
  simp [h3, h4, h5]
  refine acc_pure (s.map fun c => .str [c]) (fun _ => true) (fun _ => .bl true) (by simp) (by simp; omega) (fun i v e => ?_) rfl ?_ ?_
  · simp at e
    obtain ⟨c, e, rfl⟩ := e
    show (match s[i]? with | some c => some (MV.str [c]) | none => none) = _
    rw [e]
  · intro v hv
    simp at hv
    obtain ⟨c, hc, rfl⟩ := hv
    have := o.cs c hc
    refine ⟨_, rfl, by simp, fun _ => ?_⟩
    simp [qInS]
    omega
  intro k
  have e1 : ((List.map (fun c => MV.str [c]) s).filter fun _ => true).map (fun _ => MV.bl true) = (s.map fun _ => true).map MV.bl := by rw [List.filter_eq_self.mpr (by simp)]; simp
  rw [e1]
  have e2 : (List.map MV.bl (s.map fun _ => true)).reverse.reverse = List.map MV.bl (s.map fun _ => true) := by rw [List.reverse_reverse]
  rw [e2, qBls_eq (g := allB) (seq_ref (MH.push_same h _)) (bls_map _)]
  exact ⟨by simp [allB], Sub.push⟩
theorem dput_new {k v : MV} {kvs : List (MV × MV)} (e : ∀ p ∈ kvs, keyB p.1 k = false) : dput k v kvs = kvs ++ [(k, v)] := by
  unfold dput
  have : (kvs.any fun p => keyB p.1 k) = false := by
    rw [List.any_eq_false]
    intro p hp
    rw [e p hp]
    exact Bool.false_ne_true
  rw [this]
@[simp] theorem keyB_str (a b : List Nat) : keyB (.str a) (.str b) = decide (a = b) := beqN_eq a b
/-- entries: names and where their jobs stand -/
abbrev Ent := List Nat × Nat
def entK (e : Ent) : MV × MV := (.str e.1, .ref e.2)
def prodC (rw_ : Ent → Row) : List Ent → Int
  | [] => 1
  | e :: es => (rw_ e).c * prodC rw_ es
theorem prodC_app (rw_ : Ent → Row) : ∀ (a b : List Ent), prodC rw_ (a ++ b) = prodC rw_ a * prodC rw_ b
  | [], b => by simp [prodC]
  | e :: a, b => by simp [prodC, prodC_app rw_ a b, Int.mul_assoc]
theorem prodC_bd {rw_ : Ent → Row} : ∀ (es : List Ent), es.length ≤ 4 → (∀ e ∈ es, (rw_ e).Ok) → 1 ≤ prodC rw_ es ∧ prodC rw_ es ≤ 12 ^ es.length
  | [], _, _ => by simp [prodC]
  | e :: es, hl, ho => by
    have h1 := ho e (List.mem_cons_self ..)
    obtain ⟨h2, h3⟩ := prodC_bd es (by simp at hl; omega) fun x hx => ho x (List.mem_cons_of_mem _ hx)
    have c1 := h1.c1
    have c2 := h1.c2
    refine ⟨?_, ?_⟩
    · have : 1 * 1 ≤ (rw_ e).c * prodC rw_ es := Int.mul_le_mul c1 h2 (by omega) (by omega)
      simpa [prodC] using this
    · have : (rw_ e).c * prodC rw_ es ≤ 12 * 12 ^ es.length := Int.mul_le_mul c2 h3 (by omega) (by omega)
      simp only [prodC, List.length_cons]
      rw [Int.pow_succ]
      omega
theorem table_init {d : Nat} {es : List Ent} {rw_ : Ent → Row} (et : h.get t = some (.ins 1 [])) (ed : h.get d = some (.dct false false (es.map entK))) (h1 : 1 ≤ es.length) (h4 : es.length ≤ 4) (hn : ∀ e ∈ es, NameOk e.1) (hj : ∀ e ∈ es, h.get e.2 = some (jobO (rw_ e))) (ho : ∀ e ∈ es, (rw_ e).Ok) (hp : prodC rw_ es ≤ 2000) (nd : (es.map (·.1)).Nodup) :
    Rt (m_Timetable___init__ [.ref t, .ref d] h) fun v h' => v = .non ∧ (∃ q, h'.get t = some (.ins 1 [(4, .ref q)]) ∧ h'.get q = some (.dct false false (es.map entK))) ∧ Sx t h h' := by
  unfold m_Timetable___init__
  have l1 : (1 : Int) ≤ es.length := by omega
  have l4 : (es.length : Int) ≤ 4 := by omega
  have nt : t ≠ d := fun w => by rw [w, ed] at et; cases et
  simp [isi_dct ed, len_dct ed, l1, l4]
  -- the names and jobs
  refine oc_lock (n := d) rfl ed ?_
  have dl : (h.set d (.dct false true (es.map entK))).get d = some (.dct false true (es.map entK)) := MH.set_same ed
  simp
  refine ⟨_, dl, ?_⟩
  rw [List.length_map]
  refine for_inv (w := wkD 2 d es.length) (fun i σ h' => (∃ v2 v3 v4, σ = [some (.ref t), some (.ref d), v2, v3, v4]) ∧ Sub (h.set d (.dct false true (es.map entK))) h') ⟨⟨_, _, _, rfl⟩, .refl⟩ ?_ ?_
  · rintro i σ h' hi ⟨⟨v2, v3, v4, rfl⟩, sb⟩
    have hi' : i < es.length := hi
    have ev : (es.map entK)[i]? = some (entK es[i]) := by rw [List.getElem?_map, List.getElem?_eq_getElem hi']; rfl
    have jm := List.getElem_mem hi'
    refine ⟨_, _, wkD_at (sb _ _ dl) ev, rfl, ?_⟩
    simp
    refine (name_rt (hn _ jm)).imp ?_
    rintro v h2 ⟨rfl, sb2⟩
    have ej : (h.set d (.dct false true (es.map entK))).get es[i].2 = some (jobO (rw_ es[i])) := by
      have w : es[i].2 ≠ d := fun w => by have := hj _ jm; rw [w, ed] at this; cases this
      rw [MH.set_ne w]; exact hj _ jm
    simp [entK, isi_ins (k := 10) (sb2 _ _ (sb _ _ ej)) (by decide)]
    exact sb.trans sb2
  · rintro σ h' ⟨⟨v2, v3, v4, rfl⟩, sb⟩
    refine ⟨by have := wkD_fin (k := 2) (sb _ _ dl); rwa [List.length_map] at this, es.map entK, sb _ _ dl, ?_⟩
    try simp
    -- the product
    generalize hh2 : h'.set d (.dct false false (es.map entK)) = h2
    have c2 : Sub h h2 := fun n o en => by
      rw [← hh2]
      by_cases w : n = d
      · subst w; rw [ed] at en; cases en; exact MH.set_same (sb _ _ dl)
      · rw [MH.set_ne w]; exact sb _ _ (by rw [MH.set_ne w]; exact en)
    have ed2 := c2 _ _ ed
    refine oc_lock (n := d) rfl ed2 ?_
    have dl2 : (h2.set d (.dct false true (es.map entK))).get d = some (.dct false true (es.map entK)) := MH.set_same ed2
    simp
    refine ⟨_, dl2, ?_⟩
    rw [List.length_map]
    refine for_inv (w := wkD 1 d es.length) (fun i σ h' => (∃ v2 v3, σ = [some (.ref t), some (.ref d), v2, v3, some (.int (prodC rw_ (es.take i)))]) ∧ h' = h2.set d (.dct false true (es.map entK))) ⟨⟨_, _, rfl⟩, rfl⟩ ?_ ?_
    · rintro i σ h3 hi ⟨⟨v2, v3, rfl⟩, rfl⟩
      have hi' : i < es.length := hi
      have ev : (es.map entK)[i]? = some (entK es[i]) := by rw [List.getElem?_map, List.getElem?_eq_getElem hi']; rfl
      have jm := List.getElem_mem hi'
      refine ⟨_, _, wkD_at dl2 ev, rfl, ?_⟩
      have ej : (h2.set d (.dct false true (es.map entK))).get es[i].2 = some (jobO (rw_ es[i])) := by
        have w : es[i].2 ≠ d := fun w => by have := hj _ jm; rw [w, ed] at this; cases this
        rw [MH.set_ne w]; exact c2 _ _ (hj _ jm)
      have c1 := (ho _ jm).c1
      have c12 := (ho _ jm).c2
      obtain ⟨b1, b2⟩ := prodC_bd (rw_ := rw_) (es.take i) (by rw [List.length_take]; omega) fun x hx => ho x (List.mem_of_mem_take hx)
      simp [asg, entM, entK, j_c ej, mul_r (j := (rw_ es[i]).c) _ (show _ < (rw_ es[i]).c by omega) (by omega)]
      rw [List.take_add_one, List.getElem?_eq_getElem hi', prodC_app]
      simp [prodC]
    · rintro σ h3 ⟨⟨v2, v3, rfl⟩, rfl⟩
      refine ⟨by have := wkD_fin (k := 1) dl2; rwa [List.length_map] at this, es.map entK, dl2, ?_⟩
      have hp' : ¬ 2000 < prodC rw_ es := by omega
      have et2 : es.take (wkD 1 d es.length).n = es := List.take_length ..
      rw [et2]
      simp [hp']
      -- the copy
      have e3 : ((h2.set d (.dct false true (es.map entK))).set d (.dct false false (es.map entK))).get d = some (.dct false false (es.map entK)) := MH.set_same dl2
      refine rt_eLock (n := d) rfl e3 ?_
      generalize hh4 : ((h2.set d (.dct false true (es.map entK))).set d (.dct false false (es.map entK))).set d (.dct false true (es.map entK)) = h4
      have dl4 : h4.get d = some (.dct false true (es.map entK)) := by rw [← hh4]; exact MH.set_same e3
      have o4 : ∀ n, n ≠ d → h4.get n = h2.get n := fun n w => by rw [← hh4, MH.set_ne w, MH.set_ne w, MH.set_ne w]
      simp
      refine ⟨_, dl4, ?_⟩
      rw [List.length_map]
      refine acc_inv (w := wkD 2 d es.length) (fun i (a : Nat × List (MV × MV)) h' => h' = h4 ∧ a = (i, (es.map entK).take i)) ⟨rfl, rfl⟩ ?_ ?_
      · rintro i a h' hi ⟨rfl, rfl⟩
        have hi' : i < es.length := hi
        have ev : (es.map entK)[i]? = some (entK es[i]) := by rw [List.getElem?_map, List.getElem?_eq_getElem hi']; rfl
        refine ⟨_, _, wkD_at dl4 ev, rfl, ?_⟩
        have kk : dput (entK es[i]).1 (entK es[i]).2 ((es.map entK).take i) = (es.map entK).take (i + 1) := by
          rw [dput_new, List.take_add_one, ev]
          · rfl
          intro p hp
          rw [← List.map_take] at hp
          obtain ⟨x, hm, rfl⟩ := List.mem_map.mp hp
          simp [entK]
          intro w
          have z := nd
          rw [show es = es.take i ++ es[i] :: es.drop (i + 1) by simp, List.map_append, List.nodup_append] at z
          exact z.2.2 x.1 (List.mem_map_of_mem (f := (·.1)) hm) es[i].1 (List.mem_map_of_mem (f := fun (e : Ent) => e.1) (List.mem_cons_self ..)) w
        have ka : keyA (entK es[i]).1 = true := rfl
        simp [ka, show i + 1 ≤ 16777216 by omega, kk]
      · rintro a h' ⟨rfl, rfl⟩
        refine ⟨by have := wkD_fin (k := 2) dl4; rwa [List.length_map] at this, es.map entK, ?_, ?_⟩
        · exact MH.push_of dl4
        · have et3 : (es.map entK).take (wkD 2 d es.length).n = es.map entK := by rw [wkD_n, ← List.length_map (f := entK), List.take_length]
          rw [et3]
          have w2 : h'.n ≠ d := Nat.ne_of_gt (MH.get_lt dl4)
          have tt : h'.get t = some (.ins 1 []) := by rw [o4 t nt]; exact c2 _ _ et
          have w3 : h'.n ≠ t := Nat.ne_of_gt (MH.get_lt tt)
          have e5 : ((h'.push (.dct false false (es.map entK))).set d (.dct false false (es.map entK))).get t = some (.ins 1 []) := by rw [MH.set_ne nt]; exact MH.push_of tt
          simp [e5, fput]
          refine ⟨⟨h'.n, MH.set_same e5, ?_⟩, ?_⟩
          · rw [MH.set_ne w3, MH.set_ne w2]; exact MH.push_same _ _
          · intro n o wn en
            rw [MH.set_ne wn]
            by_cases w4 : n = d
            · subst w4; rw [ed] at en; cases en; exact MH.set_same (MH.push_of dl4)
            · rw [MH.set_ne w4]; exact MH.push_of (by rw [o4 n w4]; exact c2 _ _ en)
end
end KA

set_option linter.all false
/-! PNum: numbers: when two jobs meet. -/
namespace KA
theorem firstT_some {f : Int → Bool} : ∀ {k i t : Nat}, firstT f k i = some t → i ≤ t ∧ t < i + k ∧ f t = true ∧ ∀ u : Nat, i ≤ u → u < t → f u = false
  | 0, i, t, e => by cases e
  | k + 1, i, t, e => by
    unfold firstT at e
    by_cases c : f i = true
    · rw [if_pos c] at e
      cases e
      exact ⟨Nat.le_refl _, by omega, c, fun u a b => by omega⟩
    · rw [if_neg c] at e
      obtain ⟨h1, h2, h3, h4⟩ := firstT_some e
      refine ⟨by omega, by omega, h3, fun u a b => ?_⟩
      by_cases z : u = i
      · subst z; simpa using c
      · exact h4 u (by omega) b
theorem firstT_none {f : Int → Bool} : ∀ {k i : Nat}, firstT f k i = none → ∀ u : Nat, i ≤ u → u < i + k → f u = false
  | 0, i, e => fun u a b => by omega
  | k + 1, i, e => fun u a b => by
    unfold firstT at e
    by_cases c : f i = true
    · rw [if_pos c] at e; cases e
    · rw [if_neg c] at e
      by_cases z : u = i
      · subst z; simpa using c
      · exact firstT_none e u (by omega) (by omega)
theorem firstT_ext {f g : Int → Bool} (e : ∀ t, f t = g t) (k i : Nat) : firstT f k i = firstT g k i := by
  have : f = g := funext e
  rw [this]
/-- a period is enough -/
theorem firstT_period {f : Int → Bool} {L M : Nat} (hL : 0 < L) (hM : L ≤ M) (hp : ∀ t : Int, f (t + L) = f t) : firstT f L 0 = firstT f M 0 := by
  have hmod : ∀ t : Nat, f ((t % L : Nat) : Int) = f t := by
    intro t
    have key : ∀ q : Nat, f ((t % L : Nat) + (L * q : Nat) : Int) = f ((t % L : Nat) : Int) := by
      intro q
      induction q with
      | zero => simp
      | succ q ih =>
        have : ((t % L : Nat) + (L * (q + 1) : Nat) : Int) = ((t % L : Nat) + (L * q : Nat) : Int) + (L : Int) := by rw [Nat.mul_succ]; omega
        rw [this, hp, ih]
    rw [← key (t / L)]
    congr 1
    have := Nat.mod_add_div t L
    omega
  cases e1 : firstT f M 0 with
  | none =>
    cases e2 : firstT f L 0 with
    | none => rfl
    | some t =>
      obtain ⟨a, b, c, d⟩ := firstT_some e2
      have := firstT_none e1 t (by omega) (by omega)
      rw [this] at c; cases c
  | some t =>
    obtain ⟨a, b, c, d⟩ := firstT_some e1
    have hlt : t % L < L := Nat.mod_lt _ hL
    have htl : t < L := by
      by_cases z : t < L
      · exact z
      · have := d (t % L) (by omega) (by omega)
        rw [hmod, c] at this; cases this
    cases e2 : firstT f L 0 with
    | none =>
      have := firstT_none e2 t (by omega) (by omega)
      rw [this] at c; cases c
    | some u =>
      obtain ⟨a2, b2, c2, d2⟩ := firstT_some e2
      by_cases z : u < t
      · have := d u (by omega) z
        rw [this] at c2; cases c2
      · by_cases z2 : t < u
        · have := d2 t (by omega) z2
          rw [this] at c; cases c
        · have : u = t := by omega
          rw [this]
section
variable {r r' : Row}
theorem runs_period (o : r.Ok) (t k : Int) : runsB r (t + r.c * k) = runsB r t := by
  unfold runsB
  rw [show t + r.c * k - r.b = t - r.b + r.c * k by omega, Int.add_mul_emod_self_left]
theorem gcd_pos (o : r.Ok) : (0 : Int) < Int.gcd r.c r'.c := by
  have := o.c1
  have : Int.gcd r.c r'.c ≠ 0 := fun z => by rw [Int.gcd_eq_zero_iff] at z; omega
  omega
/-- what there is to know of two numbers up to 12 -/
def numB (p q : Int) : Bool := decide (0 < p * q / Int.gcd p q) && (decide (p * q / Int.gcd p q ≤ p * q) && (decide ((p * q / Int.gcd p q) % p = 0) && (decide ((p * q / Int.gcd p q) % q = 0) && (decide (p % (Int.gcd p q : Int) = 0) && (decide (q % (Int.gcd p q : Int) = 0) && (List.range 12).any fun k => decide (((k : Int) * p - Int.gcd p q) % q = 0))))))
theorem num_all : ((List.range 12).all fun i => (List.range 12).all fun j => numB ((i : Int) + 1) ((j : Int) + 1)) = true := by decide +kernel
theorem num_of {p q : Int} (p1 : 1 ≤ p) (p2 : p ≤ 12) (q1 : 1 ≤ q) (q2 : q ≤ 12) : 0 < p * q / Int.gcd p q ∧ p * q / Int.gcd p q ≤ p * q ∧ (p * q / Int.gcd p q) % p = 0 ∧ (p * q / Int.gcd p q) % q = 0 ∧ p % (Int.gcd p q : Int) = 0 ∧ q % (Int.gcd p q : Int) = 0 ∧ ∃ k : Int, 0 ≤ k ∧ (k * p - Int.gcd p q) % q = 0 := by
  have z := List.all_eq_true.mp (List.all_eq_true.mp num_all (p - 1).toNat (List.mem_range.mpr (by omega))) (q - 1).toNat (List.mem_range.mpr (by omega))
  rw [show (((p - 1).toNat : Nat) : Int) + 1 = p by omega, show (((q - 1).toNat : Nat) : Int) + 1 = q by omega] at z
  unfold numB at z
  simp only [Bool.and_eq_true, decide_eq_true_eq, List.any_eq_true] at z
  obtain ⟨a, b, c, d, e, f, k, _, g⟩ := z
  exact ⟨a, b, c, d, e, f, k, by omega, g⟩
theorem meet_period {L : Int} (o : r.Ok) (o' : r'.Ok) (h1 : L % r.c = 0) (h2 : L % r'.c = 0) (t : Int) : meetB r r' (t + L) = meetB r r' t := by
  have e1 : L = r.c * (L / r.c) := by have := Int.mul_ediv_add_emod L r.c; omega
  have e2 : L = r'.c * (L / r'.c) := by have := Int.mul_ediv_add_emod L r'.c; omega
  unfold meetB
  rw [show runsB r (t + L) = runsB r t by rw [e1]; exact runs_period o t _, show runsB r' (t + L) = runsB r' t by rw [e2]; exact runs_period o' t _]
/-- the program's time and the law's -/
theorem first_both (o : r.Ok) (o' : r'.Ok) : firstT (meetB r r') (r.c * r'.c / Int.gcd r.c r'.c).toNat 0 = firstT (meetB r r') (r.c * r'.c).toNat 0 := by
  obtain ⟨a, b, c, d, _⟩ := num_of o.c1 o.c2 o'.c1 o'.c2
  refine firstT_period (by omega) (by omega) fun t => ?_
  rw [show (((r.c * r'.c / Int.gcd r.c r'.c).toNat : Nat) : Int) = r.c * r'.c / Int.gcd r.c r'.c by omega]
  exact meet_period o o' c d t
theorem meet_comm : meetB r r' = meetB r' r := by
  funext t
  unfold meetB
  rw [Bool.and_comm]
theorem first_comm (o : r.Ok) (o' : r'.Ok) : firstT (meetB r' r) (r'.c * r.c / Int.gcd r'.c r.c).toNat 0 = firstT (meetB r r') (r.c * r'.c).toNat 0 := by
  rw [first_both o' o, meet_comm, Int.mul_comm]
/-- a divisor of both and a distance: they never meet -/
theorem apart_no {d : Int} (o : r.Ok) (o' : r'.Ok) (hd : 0 < d) (h1 : r.c % d = 0) (h2 : r'.c % d = 0) (g1 : r.l ≤ (r'.b - r.b) % d) (g2 : (r'.b - r.b) % d + r'.l ≤ d) (t : Int) : meetB r r' t = false := by
  unfold meetB runsB
  by_cases c1 : (t - r.b) % r.c < r.l
  · by_cases c2 : (t - r'.b) % r'.c < r'.l
    · exfalso
      obtain ⟨k, hk⟩ := Int.dvd_of_emod_eq_zero h1
      obtain ⟨k', hk'⟩ := Int.dvd_of_emod_eq_zero h2
      have e1 := Int.mul_ediv_add_emod (t - r.b) r.c
      have e2 := Int.mul_ediv_add_emod (t - r'.b) r'.c
      have e3 := Int.mul_ediv_add_emod (r'.b - r.b) d
      have p1 := o.c1
      have p2 := o'.c1
      have n1 := Int.emod_nonneg (t - r.b) (show r.c ≠ 0 by omega)
      have n2 := Int.emod_nonneg (t - r'.b) (show r'.c ≠ 0 by omega)
      have a1 : r.c * ((t - r.b) / r.c) = d * (k * ((t - r.b) / r.c)) := by
        conv => lhs; rw [hk]
        rw [Int.mul_assoc, ← hk]
      have a2 : r'.c * ((t - r'.b) / r'.c) = d * (k' * ((t - r'.b) / r'.c)) := by
        conv => lhs; rw [hk']
        rw [Int.mul_assoc, ← hk']
      have a3 : d * (k * ((t - r.b) / r.c) - k' * ((t - r'.b) / r'.c) - (r'.b - r.b) / d) = d * (k * ((t - r.b) / r.c)) - d * (k' * ((t - r'.b) / r'.c)) - d * ((r'.b - r.b) / d) := by rw [Int.mul_sub, Int.mul_sub]
      generalize hm : k * ((t - r.b) / r.c) - k' * ((t - r'.b) / r'.c) - (r'.b - r.b) / d = m at a3
      by_cases z : m ≤ 0
      · have := Int.mul_nonpos_of_nonneg_of_nonpos (show 0 ≤ d by omega) z
        omega
      · have := Int.mul_le_mul_of_nonneg_left (show 1 ≤ m by omega) (show 0 ≤ d by omega)
        omega
    · simp [c2]
  · simp [c1]
/-- no such: they meet -/
theorem meets (o : r.Ok) (o' : r'.Ok) (h : neverB r r' = false) : ∃ t : Nat, t < (r.c * r'.c).toNat ∧ meetB r r' t = true := by
  obtain ⟨a, b, c, d, e, f, k, k0, hk⟩ := num_of o.c1 o.c2 o'.c1 o'.c2
  have hg := gcd_pos (r' := r') o
  have c1 := o.c1
  have c1' := o'.c1
  generalize hG : (Int.gcd r.c r'.c : Int) = g at a b c d e f hk hg
  -- x, y: how far into each
  have key : ∃ x y : Int, 0 ≤ x ∧ x < r.l ∧ 0 ≤ y ∧ y < r'.l ∧ ((r'.b + y) - (r.b + x)) % g = 0 := by
    have n0 := Int.emod_nonneg (r'.b - r.b) (show g ≠ 0 by omega)
    have n1 := Int.emod_lt_of_pos (r'.b - r.b) hg
    have e3 := Int.mul_ediv_add_emod (r'.b - r.b) g
    by_cases q : (r'.b - r.b) % g < r.l
    · refine ⟨(r'.b - r.b) % g, 0, n0, q, by omega, by have := o'.l1; omega, ?_⟩
      rw [show r'.b + 0 - (r.b + (r'.b - r.b) % g) = g * ((r'.b - r.b) / g) by omega]
      exact Int.mul_emod_right ..
    · have q2 : g < (r'.b - r.b) % g + r'.l := by
        unfold neverB at h
        rw [hG] at h
        by_cases z : (r'.b - r.b) % g + r'.l ≤ g
        · rw [decide_eq_true (show r.l ≤ (r'.b - r.b) % g by omega), decide_eq_true z] at h
          cases h
        · omega
      refine ⟨0, g - (r'.b - r.b) % g, by omega, by have := o.l1; omega, by omega, by omega, ?_⟩
      rw [show r'.b + (g - (r'.b - r.b) % g) - (r.b + 0) = g * ((r'.b - r.b) / g + 1) by rw [Int.mul_add]; omega]
      exact Int.mul_emod_right ..
  obtain ⟨x, y, x0, xl, y0, yl, hxy⟩ := key
  obtain ⟨n, hn⟩ := Int.dvd_of_emod_eq_zero hxy
  obtain ⟨w, hw⟩ := Int.dvd_of_emod_eq_zero hk
  -- t ≡ b + x (c), t ≡ b' + y (c')
  have T0 : meetB r r' (r.b + x + r.c * (k * n)) = true := by
    unfold meetB runsB
    have e1 : (r.b + x + r.c * (k * n) - r.b) % r.c = x := by
      rw [show r.b + x + r.c * (k * n) - r.b = x + r.c * (k * n) by omega, Int.add_mul_emod_self_left]
      exact Int.emod_eq_of_lt x0 (by have := o.l2; omega)
    have e2 : (r.b + x + r.c * (k * n) - r'.b) % r'.c = y := by
      have z1 : r.c * (k * n) = (k * r.c - g) * n + g * n := by
        rw [Int.sub_mul, Int.mul_comm k r.c, Int.mul_assoc]; omega
      rw [hw, Int.mul_assoc] at z1
      rw [show r.b + x + r.c * (k * n) - r'.b = y + r'.c * (w * n) by omega, Int.add_mul_emod_self_left]
      exact Int.emod_eq_of_lt y0 (by have := o'.l2; omega)
    rw [e1, e2]
    simp [xl, yl]
  -- within the product
  have hL : 0 < r.c * r'.c := Int.mul_pos (by omega) (by omega)
  have m0 := Int.emod_nonneg (r.b + x + r.c * (k * n)) (show r.c * r'.c ≠ 0 by omega)
  have m1 := Int.emod_lt_of_pos (r.b + x + r.c * (k * n)) hL
  have e5 := Int.mul_ediv_add_emod (r.b + x + r.c * (k * n)) (r.c * r'.c)
  refine ⟨((r.b + x + r.c * (k * n)) % (r.c * r'.c)).toNat, by omega, ?_⟩
  rw [show ((((r.b + x + r.c * (k * n)) % (r.c * r'.c)).toNat : Nat) : Int) = (r.b + x + r.c * (k * n)) % (r.c * r'.c) by omega]
  rw [← T0]
  generalize (r.b + x + r.c * (k * n)) / (r.c * r'.c) = Q at e5
  have d1 : (r.c * r'.c * Q) % r.c = 0 := by rw [Int.mul_assoc]; exact Int.mul_emod_right ..
  have d2 : (r.c * r'.c * Q) % r'.c = 0 := by rw [Int.mul_comm r.c r'.c, Int.mul_assoc]; exact Int.mul_emod_right ..
  rw [← meet_period o o' d1 d2]
  congr 1
  omega
theorem none_never (o : r.Ok) (o' : r'.Ok) : neverB r r' = (firstT (meetB r r') (r.c * r'.c).toNat 0).isNone := by
  cases h : neverB r r' with
  | true =>
    obtain ⟨a, b, c, d, e, f, _⟩ := num_of o.c1 o.c2 o'.c1 o'.c2
    unfold neverB at h
    simp only [Bool.and_eq_true, decide_eq_true_eq] at h
    cases q : firstT (meetB r r') (r.c * r'.c).toNat 0 with
    | none => rfl
    | some t =>
      have := (firstT_some q).2.2.1
      rw [apart_no o o' (gcd_pos o) e f h.1 h.2] at this
      cases this
  | false =>
    obtain ⟨t, ht, hm⟩ := meets o o' h
    cases q : firstT (meetB r r') (r.c * r'.c).toNat 0 with
    | none =>
      rw [firstT_none q t (by omega) (by omega)] at hm
      cases hm
    | some t => rfl
theorem never_comm (o : r.Ok) (o' : r'.Ok) : neverB r' r = (firstT (meetB r r') (r.c * r'.c).toNat 0).isNone := by
  rw [none_never o' o, meet_comm, Int.mul_comm]
/-- some divisor up to 12 is a reason -/
theorem any_reason (o : r.Ok) (o' : r'.Ok) : ((List.range 12).any fun i => partsB r r' ((i : Int) + 1) ((r'.b - r.b) % ((i : Int) + 1))) = (firstT (meetB r r') (r.c * r'.c).toNat 0).isNone := by
  rw [← none_never o o', Bool.eq_iff_iff, List.any_eq_true]
  obtain ⟨a, b, c, d, e, f, _⟩ := num_of o.c1 o.c2 o'.c1 o'.c2
  have hg := gcd_pos (r' := r') o
  constructor
  · rintro ⟨i, hi, hp⟩
    unfold partsB at hp
    simp only [Bool.and_eq_true, decide_eq_true_eq] at hp
    obtain ⟨p1, p2, p3, _, p4, p5⟩ := hp
    cases q : neverB r r' with
    | true => rfl
    | false =>
      obtain ⟨t, ht, hm⟩ := meets o o' q
      rw [apart_no o o' (by omega) p2 p3 p4 p5] at hm
      cases hm
  · intro h
    unfold neverB at h
    simp only [Bool.and_eq_true, decide_eq_true_eq] at h
    have hg2 : (Int.gcd r.c r'.c : Int) ≤ 12 := Int.le_trans (Int.le_of_dvd (by have := o.c1; omega) (Int.gcd_dvd_left r.c r'.c)) o.c2
    refine ⟨Int.gcd r.c r'.c - 1, List.mem_range.mpr (by omega), ?_⟩
    rw [show ((Int.gcd r.c r'.c - 1 : Nat) : Int) + 1 = Int.gcd r.c r'.c by omega]
    unfold partsB
    simp only [Bool.and_eq_true, decide_eq_true_eq]
    exact ⟨by omega, e, f, trivial, h.1, h.2⟩
end
end KA

set_option linter.all false
/-! ASpec: what the laws' own functions compute (laws 11 to 13, 31 to 33, 54). -/
namespace KA
section
variable {h : MH} {s : Nat} {ns : List Int}
theorem pow_bd : ∀ i : Nat, i ≤ 23 → (1 : Int) ≤ 1009 ^ i ∧ (1009 : Int) ^ i ≤ 1009 ^ 23 := by decide +kernel
theorem draw_rt {c k m : Int} (hk : 0 ≤ k) (hm : 0 < m) : Rt (m__law_draw_0 [.int c, .int k, .int m] h) fun v h' => h' = h ∧ ∃ x, v = .int x ∧ 0 ≤ x ∧ x < m := by
  unfold m__law_draw_0
  have h16 : (0 : Int) < 16 := by decide
  have hx : ∀ x : Int, 0 ≤ x → x < 16 → ∃ p : Int, 0 < p ∧ atM [.int 1000003, .int 1000033, .int 1000037, .int 1000039, .int 1000081, .int 1000099, .int 1000117, .int 1000121, .int 1000133, .int 1000151, .int 1000159, .int 1000171, .int 1000183, .int 1000187, .int 1000193, .int 1000199] x = some (.int p) := by
    intro x h1 h2
    have : x = 0 ∨ x = 1 ∨ x = 2 ∨ x = 3 ∨ x = 4 ∨ x = 5 ∨ x = 6 ∨ x = 7 ∨ x = 8 ∨ x = 9 ∨ x = 10 ∨ x = 11 ∨ x = 12 ∨ x = 13 ∨ x = 14 ∨ x = 15 := by omega
    rcases this with rfl | rfl | rfl | rfl | rfl | rfl | rfl | rfl | rfl | rfl | rfl | rfl | rfl | rfl | rfl | rfl <;> exact ⟨_, by decide, rfl⟩
  simp [asg, mul_r (j := 48271) h (by decide) (by decide), mul_r (j := 69621) h (by decide) (by decide), mod_int (i := k) h h16]
  obtain ⟨p, hp, ep⟩ := hx (k % 16) (Int.emod_nonneg _ (by decide)) (Int.emod_lt_of_pos _ h16)
  rw [ep]
  simp [mod_int h hp, mod_int h hm]
  exact ⟨Int.emod_nonneg _ (by omega), Int.emod_lt_of_pos _ hm⟩
theorem number_rt {c k m : Int} (hk : 0 ≤ k) (hk2 : k < 1000) (hm : 0 < m) : Rt (m__law_number_0 [.int c, .int k, .int m] h) fun v h' => h' = h ∧ ∃ x, v = .int x ∧ 0 ≤ x ∧ x < m := by
  unfold m__law_number_0
  have h24 : (0 : Int) < 24 := by decide
  have a1 := Int.emod_nonneg k (show (24 : Int) ≠ 0 by decide)
  have a2 := Int.emod_lt_of_pos k h24
  simp [asg, mod_int (i := k) h h24, rgOk_of (i := k % 24) (by omega) (by omega)]
  refine for_inv (w := wkR 0 (k % 24).toNat) (fun i σ h' => h' = h ∧ ∃ v4 v5 v6, σ = [some (.int c), some (.int k), some (.int m), some (.int (1009 ^ i)), v4, v5, v6]) ⟨rfl, _, _, _, rfl⟩ ?_ ?_
  · rintro i σ h' hi ⟨rfl, v4, v5, v6, rfl⟩
    refine ⟨_, _, rfl, rfl, ?_⟩
    simp [asg, mul_r (i := 1009 ^ i) (j := 1009) h' (by decide) (by decide), Int.pow_succ]
  · rintro σ h' ⟨rfl, v4, v5, v6, rfl⟩
    refine ⟨rfl, ?_⟩
    obtain ⟨p1, p2⟩ := pow_bd (k % 24).toNat (by omega)
    have p3 : (1009 : Int) ^ (k % 24).toNat < 2 ^ 8000 := Int.lt_of_le_of_lt p2 (by decide +kernel)
    have ep : qPow (.int 10) (.int 18) h' = .ok (.int 1000000000000000000) h' := rfl
    simp [ep, asg, div_int (i := c - 1000000000000000000) h' (show 0 < (1009 : Int) ^ (k % 24).toNat by omega) p3]
    have h1009 : (0 : Int) < 1009 := by decide
    have hsm : (0 : Int) < 1000003 := by decide
    have h9 : (0 : Int) < 9 := by decide
    by_cases q : 0 < (c - 1000000000000000000) / 1009 ^ (k % 24).toNat
    · simp [q, mod_int h' h1009, mod_int h' hm]
      exact ⟨Int.emod_nonneg _ (by omega), Int.emod_lt_of_pos _ hm⟩
    · have b1 := Int.emod_nonneg c (show (1000003 : Int) ≠ 0 by decide)
      have b2 := Int.emod_lt_of_pos c hsm
      simp [q, mod_int h' hsm, mul_l (i := 977) (j := k) h' (by decide) (by decide), mul_l (i := 31) (j := k) h' (by decide) (by decide), mod_int (i := k) h' h9, mul_l (i := c % 1000003 + 977 * k) h' (by omega) (by omega)]
      refine (draw_rt (m := 999983) (by have := Int.emod_nonneg k (show (9 : Int) ≠ 0 by decide); omega) (by decide)).imp ?_
      rintro v h2 ⟨rfl, x, rfl, x1, x2⟩
      simp [mod_int h2 hm]
      exact ⟨Int.emod_nonneg _ (by omega), Int.emod_lt_of_pos _ hm⟩
/-- the state of the draws -/
def St (ns : List Int) (h : MH) (s : Nat) : Prop := ∃ by_ cnt : Int, 0 ≤ by_ ∧ 0 ≤ cnt ∧ h.get s = some (.lst [.flst (ns.map MV.int), .int by_, .int cnt])
theorem cell_eq {k : Int} (hk : 0 ≤ k) : Rt (m__law_cell_at_0 [.flst (ns.map MV.int), .int k] h) fun v h' => h' = h ∧ ∃ x, v = .int x := by
  unfold m__law_cell_at_0
  by_cases q : k < ns.length
  · simp [q]
    have hi : k.toNat < ns.length := by omega
    refine rt_ix_seq (xs := ns.map MV.int) rfl (x := .int ns[k.toNat]) ?_ ?_
    · rw [atM_int hk (by simpa using q)]
      simp [hi]
    · exact ⟨rfl, _, rfl⟩
  · simp [q]
theorem next_rt {m : Int} (S : St ns h s) (hm : 0 < m) : Rt (m__law_next_0 [.ref s, .int m] h) fun v h' => (∃ x, v = .int x ∧ 0 ≤ x ∧ x < m) ∧ Sx s h h' ∧ St ns h' s ∧ h'.n = h.n := by
  obtain ⟨b, c, hb, hc, e⟩ := S
  unfold m__law_next_0
  have ix : ∀ (h' : MH) (xs : List MV) (i : Int) (x : MV) (Q : MV → MH → Prop), h'.get s = some (.lst xs) → atM xs i = some x → Rt (qIx (.ref s) (.int i) h') Q = Q x h' := fun h' xs i x Q e1 e2 => by
    unfold qIx
    simp [seq_ref e1, e2]
  have i0 : ∀ a b c : MV, atM [a, b, c] 0 = some a := fun _ _ _ => rfl
  have i1 : ∀ a b c : MV, atM [a, b, c] 1 = some b := fun _ _ _ => rfl
  have i2 : ∀ a b c : MV, atM [a, b, c] 2 = some c := fun _ _ _ => rfl
  simp [ix h _ 2 _ _ e (i2 _ _ _)]
  refine ⟨_, e, 2, rfl, ?_⟩
  simp only [List.set_cons_succ, List.set_cons_zero]
  have e' : (h.set s (.lst [.flst (ns.map MV.int), .int b, .int (c + 1)])).get s = some (.lst [.flst (ns.map MV.int), .int b, .int (c + 1)]) := MH.set_same e
  have sx : Sx s h (h.set s (.lst [.flst (ns.map MV.int), .int b, .int (c + 1)])) := Sx.set
  have en : (h.set s (.lst [.flst (ns.map MV.int), .int b, .int (c + 1)])).n = h.n := rfl
  generalize h.set s (.lst [.flst (ns.map MV.int), .int b, .int (c + 1)]) = h1 at e' sx en
  have h12 : (0 : Int) < 12 := by decide
  have d1 := Int.ediv_nonneg (show 0 ≤ c + 1 by omega) (show (0 : Int) ≤ 12 by decide)
  simp [ix h1 _ 2 _ _ e' (i2 _ _ _), ix h1 _ 0 _ _ e' (i0 _ _ _), ix h1 _ 1 _ _ e' (i1 _ _ _), div_int (i := c + 1) h1 h12 (by decide +kernel), asg]
  refine (cell_eq (by omega)).imp ?_
  rintro v h2 ⟨rfl, x, rfl⟩
  simp [mul_l (i := 31) h2 (by decide) (by decide), ix h2 _ 2 _ _ e' (i2 _ _ _), mod_int (i := c + 1) h2 h12]
  have m1 := Int.emod_nonneg (c + 1) (show (12 : Int) ≠ 0 by decide)
  have m2 := Int.emod_lt_of_pos (c + 1) h12
  refine (number_rt (by omega) (by omega) hm).imp ?_
  rintro v h3 ⟨rfl, y, rfl, y1, y2⟩
  exact ⟨⟨y, rfl, y1, y2⟩, sx, ⟨b, c + 1, hb, by omega, e'⟩, en⟩
theorem pick_rt {a : Nat} {xs : List MV} (S : St ns h s) (ha : a ≠ s) (ea : h.get a = some (.lst xs)) (hl : 0 < xs.length) : Rt (m__law_pick_0 [.ref s, .ref a] h) fun v h' => v ∈ xs ∧ Sx s h h' ∧ St ns h' s ∧ h'.n = h.n := by
  unfold m__law_pick_0
  simp [len_lst ea]
  refine (next_rt S (show (0 : Int) < xs.length by omega)).imp ?_
  rintro v h1 ⟨⟨x, rfl, x1, x2⟩, sx, S1, en⟩
  have hi : x.toNat < xs.length := by omega
  refine rt_ix_seq (seq_ref (sx _ _ ha ea)) (x := xs[x.toNat]) ?_ ?_
  · rw [atM_int x1 x2]
    simp [hi]
  · exact ⟨List.getElem_mem hi, sx, S1, en⟩
/-! ### drawn rows -/
def rowV (r : Row) : MV := .tup [.int r.c, .int r.l, .int r.b, .int r.g]
def encR (x : List Nat × Row) : MV × MV := (.str x.1, rowV x.2)
def namesA : List (List Nat) := [[109, 97, 105, 108], [98], [108, 111, 103], [97]]
def prodR : List (List Nat × Row) → Int
  | [] => 1
  | x :: xs => x.2.c * prodR xs
theorem prodR_app : ∀ a b : List (List Nat × Row), prodR (a ++ b) = prodR a * prodR b
  | [], b => by simp [prodR]
  | x :: a, b => by simp [prodR, prodR_app a b, Int.mul_assoc]
theorem dput_enc {rows : List (List Nat × Row)} {k : List Nat} {v : MV} (e : k ∉ rows.map (·.1)) : dput (.str k) v (rows.map encR) = rows.map encR ++ [(.str k, v)] := by
  apply dput_new
  intro p hp
  obtain ⟨x, hx, rfl⟩ := List.mem_map.mp hp
  show keyB (.str x.1) (.str k) = false
  rw [keyB_str, decide_eq_false]
  intro w
  exact e (by rw [← w]; exact List.mem_map_of_mem (f := fun (x : List Nat × Row) => x.1) hx)
/-- what the draws made -/
structure Drawn (most : Int) (rows : List (List Nat × Row)) : Prop where
  l1 : 1 ≤ rows.length
  l4 : rows.length ≤ 4
  nm : rows.map (·.1) = namesA.take rows.length
  ok : ∀ x ∈ rows, x.2.Ok
  pr : prodR rows ≤ most
theorem namesA_nd : namesA.Nodup := by decide
theorem drawn_rt {most : Int} (S : St ns h s) (hm : 1 ≤ most) (hm2 : most ≤ 100000) : Rt (m__law_drawn_0 [.ref s, .int most] h) fun v h' => ∃ d rows, v = .ref d ∧ d ≠ s ∧ h'.get d = some (.dct false false (rows.map encR)) ∧ Drawn most rows ∧ Sx s h h' ∧ St ns h' s := by
  unfold m__law_drawn_0
  simp
  have S0 := S
  obtain ⟨b0, c0, _, _, es0⟩ := S
  have hs : s < h.n := MH.get_lt es0
  -- the new dict, the names
  have hd0 : (h.push (.dct false false [])).get h.n = some (.dct false false []) := MH.push_same _ _
  have sx0 : Sx s h (h.push (.dct false false [])) := Sub.push.sx
  have S1 : St ns (h.push (.dct false false [])) s := by obtain ⟨b, c, h1, h2, e⟩ := S0; exact ⟨b, c, h1, h2, MH.push_of e⟩
  have hn1 : (h.push (.dct false false [])).n = h.n + 1 := rfl
  generalize hdd : h.n = d at hd0 hn1 hs
  have nd : d ≠ s := by omega
  generalize h.push (.dct false false []) = h1 at hd0 sx0 S1 hn1
  have S2 : St ns (h1.push (.lst (namesA.map MV.str))) s := by obtain ⟨b, c, h1, h2, e⟩ := S1; exact ⟨b, c, h1, h2, MH.push_of e⟩
  have sx1 := sx0.trans (Sub.push (h := h1) (o := .lst (namesA.map MV.str))).sx
  have en2 : (h1.push (.lst (namesA.map MV.str))).get h1.n = some (.lst (namesA.map MV.str)) := MH.push_same _ _
  have hd2 := MH.push_of (o := .lst (namesA.map MV.str)) hd0
  have hn2 : (h1.push (.lst (namesA.map MV.str))).n = d + 2 := by show h1.n + 1 = _; omega
  show Rt (m__law_next_0 [.ref s, .int 4] (h1.push (.lst (namesA.map MV.str)))) _
  rw [hn1] at en2
  generalize h1.push (.lst (namesA.map MV.str)) = h2 at S2 sx1 en2 hd2 hn2
  refine (next_rt S2 (by decide)).imp ?_
  rintro v h3 ⟨⟨x, rfl, x1, x2⟩, sx, S3, hn3⟩
  have en3 := sx _ _ (by omega) en2
  have hd3 := sx _ _ nd hd2
  have sx3 := sx1.trans sx
  simp [slP, seq_ref en3]
  obtain ⟨k, hk⟩ : ∃ k : Nat, x = k := ⟨x.toNat, by omega⟩
  subst hk
  have cut : cutM (namesA.map MV.str) none (some (1 + (k : Int))) = (namesA.take (k + 1)).map MV.str := by
    have : k = 0 ∨ k = 1 ∨ k = 2 ∨ k = 3 := by omega
    rcases this with rfl | rfl | rfl | rfl <;> rfl
  rw [cut]
  refine ⟨_, MH.push_same _ _, ?_⟩
  have S4 : St ns (h3.push (.lst ((namesA.take (k + 1)).map MV.str))) s := by obtain ⟨b, c, h1, h2, e⟩ := S3; exact ⟨b, c, h1, h2, MH.push_of e⟩
  have sx4 := sx3.trans (Sub.push (h := h3) (o := .lst ((namesA.take (k + 1)).map MV.str))).sx
  have hd4 := MH.push_of (o := .lst ((namesA.take (k + 1)).map MV.str)) hd3
  have hl4 : (h3.push (.lst ((namesA.take (k + 1)).map MV.str))).get h3.n = some (.lst ((namesA.take (k + 1)).map MV.str)) := MH.push_same _ _
  rw [hn3, hn2] at hl4
  rw [hn3, hn2]
  have hn4 : (h3.push (.lst ((namesA.take (k + 1)).map MV.str))).n = d + 3 := by show h3.n + 1 = _; omega
  generalize h3.push (.lst ((namesA.take (k + 1)).map MV.str)) = h4 at S4 sx4 hd4 hl4 hn4
  have hlen : (namesA.take (k + 1)).length = k + 1 := by rw [List.length_take]; show min (k + 1) 4 = k + 1; omega
  rw [List.length_map, hlen]
  refine for_inv (w := wkL (d + 2) (k + 1)) (fun i σ h' => ∃ (rows : List (List Nat × Row)) (v4 v5 v6 : Option MV), σ = [some (.ref s), some (.int most), some (.ref d), some (.int (prodR rows)), v4, v5, v6] ∧ rows.length = i ∧ rows.map (·.1) = namesA.take i ∧ (∀ x ∈ rows, x.2.Ok) ∧ 1 ≤ prodR rows ∧ prodR rows ≤ most ∧
      h'.get d = some (.dct false false (rows.map encR)) ∧ h'.get (d + 2) = some (.lst ((namesA.take (k + 1)).map MV.str)) ∧ Sx s h h' ∧ St ns h' s) ⟨[], none, none, none, rfl, rfl, rfl, by simp, by simp [prodR], by simp [prodR]; omega, hd4, hl4, sx4, S4⟩ ?_ ?_
  · rintro i σ h5 hi ⟨rows, v4, v5, v6, rfl, hr, hnm, hok, p1, p2, ed, el, sx5, S5⟩
    have hi' : i < k + 1 := hi
    have hi4 : i < namesA.length := by show i < 4; omega
    have ev : ((namesA.take (k + 1)).map MV.str)[i]? = some (.str namesA[i]) := by
      rw [List.getElem?_map, List.getElem?_take_of_lt hi', List.getElem?_eq_getElem hi4]; rfl
    refine ⟨_, _, wkL_at el ev, rfl, ?_⟩
    simp
    refine (next_rt S5 (by decide)).imp ?_
    rintro v h6 ⟨⟨y, rfl, y1, y2⟩, sx, S6, hn6⟩
    have ed6 := sx _ _ nd ed
    have el6 := sx _ _ (by omega) el
    have sx6 := sx5.trans sx
    simp
    generalize hpl : [MV.int 2, .int 3, .int 4, .int 6, .int 8, .int 9, .int 12, .int (1 + y), .int 4, .int 6] = pl
    have plen : 0 < pl.length := by rw [← hpl]; simp
    have pin : ∀ v ∈ pl, ∃ p : Int, v = .int p ∧ 1 ≤ p ∧ p ≤ 12 := by
      rw [← hpl]
      intro v hv
      simp at hv
      rcases hv with rfl | rfl | rfl | rfl | rfl | rfl | rfl | rfl | rfl | rfl <;> exact ⟨_, rfl, by omega, by omega⟩
    have S7 : St ns (h6.push (.lst pl)) s := by obtain ⟨b, c, h1, h2, e⟩ := S6; exact ⟨b, c, h1, h2, MH.push_of e⟩
    have hs6 : h6.n ≠ s := by obtain ⟨b, c, _, _, e⟩ := S6; exact Nat.ne_of_gt (MH.get_lt e)
    refine (pick_rt S7 hs6 (MH.push_same _ _) plen).imp ?_
    rintro v h8 ⟨hv, sx, S8, hn8⟩
    obtain ⟨p, rfl, q1, q2⟩ := pin v hv
    have ed8 := sx _ _ nd (MH.push_of ed6)
    have el8 := sx _ _ (by omega) (MH.push_of el6)
    have sx8 := (sx6.trans Sub.push.sx).trans sx
    simp [asg]
    -- the while
    refine while_inv (fun m σ h' => h' = h8 ∧ ∃ p : Int, σ = [some (.ref s), some (.int most), some (.ref d), some (.int (prodR rows)), some (.str namesA[i]), some (.int p), v6] ∧ 1 ≤ p ∧ p ≤ 12 ∧ m ≤ 1 ∧ (m = 0 → prodR rows * p ≤ most)) ?_ 1 1000 _ _ (by decide) ⟨rfl, p, rfl, q1, q2, Nat.le_refl _, by omega⟩
    rintro m σ h' ⟨rfl, p, rfl, q1, q2, hm1, hm0⟩
    have h2p : (0 : Int) < 2 := by decide
    simp [mul_r (j := p) h' (by omega) (by omega)]
    by_cases w : most < prodR rows * p
    · have hm' : m = 1 := by
        have : m ≠ 0 := fun z => by have := hm0 z; omega
        omega
      subst hm'
      simp [w]
      have fin : ∀ p' : Int, 1 ≤ p' → p' ≤ 12 → Rt (qMul (.int (prodR rows)) (.int p') h') fun v h1 => Rt (qGt v (.int most) h1) fun v h1 => (match v with
          | .bl b => (b = true → h1 = h' ∧ prodR rows ≤ most) ∧ (b = false → h1 = h' ∧ prodR rows * p' ≤ most)
          | _ => False) := fun p' a1 a2 => by
        rw [mul_r (j := p') h' (by omega) (by omega)]
        simp
        omega
      by_cases w2 : 2 < p
      · have d1 := Int.ediv_nonneg (show 0 ≤ p by omega) (show (0 : Int) ≤ 2 by decide)
        have d2 : p / 2 ≤ 6 := by omega
        simp [w2, div_int (i := p) h' h2p (by decide +kernel), asg, mul_r (j := 1 + p / 2) h' (by omega) (by omega)]
        by_cases w3 : most < prodR rows * (1 + p / 2)
        · simp [w3, asg]
          omega
        · simp [w3]
          omega
      · simp [w2, asg, mul_r (j := 1) h' (by decide) (by decide)]
        omega
    · simp [w, asg, mul_r (j := p) h' (by omega) (by omega)]
      refine (next_rt S8 (by decide)).imp ?_
      rintro v h9 ⟨⟨y, rfl, y1, y2⟩, sx, S9, hn9⟩
      have ed9 := sx _ _ nd ed8
      have el9 := sx _ _ (by omega) el8
      have sx9 := sx8.trans sx
      -- the rest, the length once known
      have rest : ∀ (l : Int) (h10 : MH), 1 ≤ l → l ≤ p → h10.get d = some (.dct false false (rows.map encR)) → h10.get (d + 2) = some (.lst ((namesA.take (k + 1)).map MV.str)) → Sx s h h10 → St ns h10 s →
          Rt (m__law_next_0 [.ref s, .int p] h10) fun v h1 => Rt (m__law_next_0 [.ref s, .int 4] h1) fun w h2 => Rt (qAdd (.int 1) w h2) fun u h3 => ∃ kvs, h3.get d = some (.dct false false kvs) ∧ kvs.length < 16777216 ∧ ∃ (rows' : List (List Nat × Row)), prodR rows' = prodR rows * p ∧ rows'.length = i + 1 ∧ rows'.map (·.1) = namesA.take (i + 1) ∧ (∀ x ∈ rows', x.2.Ok) ∧ 1 ≤ prodR rows' ∧ prodR rows' ≤ most ∧
            (h3.set d (.dct false false (dput (.str namesA[i]) (.tup [.int p, .int l, v, u]) kvs))).get d = some (.dct false false (rows'.map encR)) ∧ (h3.set d (.dct false false (dput (.str namesA[i]) (.tup [.int p, .int l, v, u]) kvs))).get (d + 2) = some (.lst ((namesA.take (k + 1)).map MV.str)) ∧
            Sx s h (h3.set d (.dct false false (dput (.str namesA[i]) (.tup [.int p, .int l, v, u]) kvs))) ∧ St ns (h3.set d (.dct false false (dput (.str namesA[i]) (.tup [.int p, .int l, v, u]) kvs))) s := fun l h10 l1 l2 ed10 el10 sx10 S10 => by
        refine (next_rt S10 (by omega)).imp ?_
        rintro v h11 ⟨⟨b, rfl, b1, b2⟩, sx, S11, hn11⟩
        have ed11 := sx _ _ nd ed10
        have el11 := sx _ _ (by omega) el10
        have sx11 := sx10.trans sx
        refine (next_rt S11 (by decide)).imp ?_
        rintro w h12 ⟨⟨g, rfl, g1, g2⟩, sx, S12, hn12⟩
        have ed12 := sx _ _ nd ed11
        have el12 := sx _ _ (by omega) el11
        have sx12 := sx11.trans sx
        simp only [add_int, rt_ok]
        refine ⟨_, ed12, by rw [List.length_map]; omega, rows ++ [(namesA[i], ⟨p, l, b, 1 + g⟩)], ?_, by simp [hr], ?_, ?_, ?_, ?_, ?_, ?_, ?_, ?_⟩
        · rw [prodR_app]; simp [prodR]
        · rw [List.map_append, hnm, List.take_add_one, List.getElem?_eq_getElem hi4]; rfl
        · intro x hx
          rcases List.mem_append.mp hx with q | q
          · exact hok x q
          · have : x = (namesA[i], ⟨p, l, b, 1 + g⟩) := by simpa using q
            subst this
            exact ⟨q1, q2, l1, l2, b1, b2, by show 1 ≤ 1 + g; omega, by show 1 + g ≤ 9; omega⟩
        · rw [prodR_app]
          have : 1 * 1 ≤ prodR rows * p := Int.mul_le_mul p1 q1 (by omega) (by omega)
          simp [prodR]; omega
        · rw [prodR_app]; simp [prodR]; omega
        · rw [MH.set_same ed12, dput_enc]
          · simp [encR, rowV]
          · rw [hnm]
            intro z
            have nn := namesA_nd
            rw [show namesA = namesA.take i ++ namesA[i] :: namesA.drop (i + 1) by simp, List.nodup_append] at nn
            exact nn.2.2 _ z _ (List.mem_cons_self ..) rfl
        · rw [MH.set_ne (by omega)]; exact el12
        · intro n o wn en
          have wd : n ≠ d := fun z => by rw [z] at en; have := MH.get_lt en; omega
          rw [MH.set_ne wd]; exact sx12 _ _ wn en
        · obtain ⟨b', c', hb', hc', e'⟩ := S12
          exact ⟨b', c', hb', hc', by rw [MH.set_ne (Ne.symm nd)]; exact e'⟩
      have fin : ∀ (l : Int) (h10 : MH), 1 ≤ l → l ≤ p → h10.get d = some (.dct false false (rows.map encR)) → h10.get (d + 2) = some (.lst ((namesA.take (k + 1)).map MV.str)) → Sx s h h10 → St ns h10 s → True := fun _ _ _ _ _ _ _ _ => trivial
      by_cases yz : y = 0
      · simp [yz]
        refine (next_rt S9 (by omega)).imp ?_
        rintro v h10 ⟨⟨l, rfl, l1, l2⟩, sx, S10, hn10⟩
        simp [asg]
        refine (rest (1 + l) h10 (by omega) (by omega) (sx _ _ nd ed9) (sx _ _ (by omega) el9) (sx9.trans sx) S10).imp ?_
        intro v h11 z
        refine z.imp ?_
        intro w' h12 z2
        refine z2.imp ?_
        rintro u h13 ⟨kvs, f1, f2, rows', g1, g2, g3, g4, g5, g6, g7, g8, g9, g10⟩
        left
        exact ⟨kvs, f1, rfl, f2, rows', g1.symm, g2, g3, fun a b hab => g4 (a, b) hab, g5, g6, g7, by rw [← List.map_take]; exact g8, g9, g10⟩
      · simp [yz, asg]
        refine (rest 1 h9 (by omega) (by omega) ed9 el9 sx9 S9).imp ?_
        intro v h11 z
        refine z.imp ?_
        intro w' h12 z2
        refine z2.imp ?_
        rintro u h13 ⟨kvs, f1, f2, rows', g1, g2, g3, g4, g5, g6, g7, g8, g9, g10⟩
        left
        exact ⟨kvs, f1, rfl, f2, rows', g1.symm, g2, g3, fun a b hab => g4 (a, b) hab, g5, g6, g7, by rw [← List.map_take]; exact g8, g9, g10⟩
  · rintro σ h5 ⟨rows, v4, v5, v6, rfl, hr, hnm, hok, p1, p2, ed, el, sx5, S5⟩
    refine ⟨by have := wkL_fin el; rwa [List.length_map, hlen] at this, ?_⟩
    have hr' : rows.length = k + 1 := hr
    simp
    exact ⟨nd, rows, ed, ⟨by omega, by omega, by rw [hr']; exact hnm, hok, p2⟩, sx5, S5⟩
/-! ### rows: when they run, meet -/
theorem ix_row0 (r : Row) (Q : MV → MH → Prop) : Rt (qIx (rowV r) (.int 0) h) Q = Q (.int r.c) h := by unfold rowV; simp [atM, ixM]
theorem ix_row1 (r : Row) (Q : MV → MH → Prop) : Rt (qIx (rowV r) (.int 1) h) Q = Q (.int r.l) h := by unfold rowV; simp [atM, ixM]
theorem ix_row2 (r : Row) (Q : MV → MH → Prop) : Rt (qIx (rowV r) (.int 2) h) Q = Q (.int r.b) h := by unfold rowV; simp [atM, ixM]
theorem ix_row3 (r : Row) (Q : MV → MH → Prop) : Rt (qIx (rowV r) (.int 3) h) Q = Q (.int r.g) h := by unfold rowV; simp [atM, ixM]
theorem lruns_eq {r : Row} {t : Int} (o : r.Ok) : m__law_runs_0 [rowV r, .int t] h = .ok (.bl (runsB r t)) h := by
  apply Rt.eq
  unfold m__law_runs_0
  have c1 := o.c1
  have hc : 0 < r.c := by omega
  simp [ix_row0, ix_row1, ix_row2, mul_l (i := 12) h (by decide) (by decide), mod_int h hc]
  have : (t + 12 * r.c - r.b) % r.c = (t - r.b) % r.c := by
    rw [show t + 12 * r.c - r.b = t - r.b + 12 * r.c by omega, Int.add_mul_emod_self_right]
  rw [this]
  rfl
theorem lmoved_eq {r : Row} {k : Int} (o : r.Ok) : m__law_moved_0 [rowV r, .int k] h = .ok (rowV (shiftR r k)) h := by
  apply Rt.eq
  unfold m__law_moved_0
  have c1 := o.c1
  have hc : 0 < r.c := by omega
  simp [ix_row0, ix_row1, ix_row2, ix_row3, mod_int h hc]
  rfl
theorem lmeet_eq {r r' : Row} (o : r.Ok) (o' : r'.Ok) : m__law_meet_0 [rowV r, rowV r'] h = .ok (optV (firstT (meetB r r') (r.c * r'.c).toNat 0)) h := by
  apply Rt.eq
  unfold m__law_meet_0
  have h1 := o.c1
  have h1' := o.c2
  have h2 := o'.c1
  have h3 := o'.c2
  have hp : 0 ≤ r.c * r'.c := Int.mul_nonneg (by omega) (by omega)
  have hp2 : r.c * r'.c ≤ 144 := by
    have : r.c * r'.c ≤ 12 * 12 := Int.mul_le_mul h1' h3 (by omega) (by omega)
    omega
  simp [ix_row0, mul_l (i := r.c) (j := r'.c) h (by omega) (by omega), rgOk_of (i := r.c * r'.c) (by omega) (by omega)]
  refine for_first (f := meetB r r') ?_ ?_ ?_ ⟨none, rfl⟩
  · rintro i σ ⟨v, rfl⟩ hi
    simp [lruns_eq o, lruns_eq o', meetB]
    cases runsB r i <;> cases runsB r' i <;> simp
    all_goals exact ⟨_, rfl⟩
  · intro t et
    simp [et, optV]
  · intro et v
    simp [et, optV]
theorem lfar_eq {r r' : Row} {d : Int} (hd : 0 < d) : m__law_far_0 [rowV r, rowV r', .int d] h = .ok (.int ((r'.b - r.b) % d)) h := by
  apply Rt.eq
  unfold m__law_far_0
  simp [ix_row2, mul_l (i := 12) h (by decide) (by decide), mod_int h hd]
  rw [show r'.b + 12 * d - r.b = r'.b - r.b + 12 * d by omega, Int.add_mul_emod_self_right]
theorem lreason_eq {r r' : Row} {d f : Int} : m__law_is_reason_0 [rowV r, rowV r', .tup [.int d, .int f]] h = .ok (.bl (partsB r r' d f)) h := by
  apply Rt.eq
  unfold m__law_is_reason_0
  by_cases hd : d < 1
  · simp [asg, asgs, hd, partsB]
    intro z; omega
  · have hd0 : 0 < d := by omega
    have hd1 : 1 ≤ d := by omega
    simp [asg, asgs, hd, hd1, ix_row0, ix_row1, ix_row2, mod_int h hd0, lfar_eq hd0, partsB]
    by_cases q1 : r.c % d = 0
    · by_cases q2 : r'.c % d = 0
      · by_cases q3 : f = (r'.b - r.b) % d
        · by_cases q4 : r.l ≤ f
          · simp [q1, q2, ← q3, q4]
          · simp [q1, q2, ← q3, q4]
        · simp [q1, q2, q3]
      · simp [q1, q2]
    · simp [q1]
theorem lmeeting_eq {n : Nat} {kvs : List (MV × MV)} {a b : List Nat} {r r' : Row} {x y z : Int} (e : h.get n = some (.dct false false kvs)) (ea : dget (.str a) kvs = some (rowV r)) (eb : dget (.str b) kvs = some (rowV r')) (o : r.Ok) (o' : r'.Ok) :
    m__law_is_meeting_0 [.ref n, .tup [.str a, .str b, .int x, .int y, .int z]] h = .ok (.bl (runsB (shiftR r x) z && runsB (shiftR r' y) z)) h := by
  apply Rt.eq
  unfold m__law_is_meeting_0
  simp [asg, asgs, dget_eq (k := .str a) e rfl ea, dget_eq (k := .str b) e rfl eb, lmoved_eq o, lmoved_eq o', lruns_eq (shift_ok o x), lruns_eq (shift_ok o' y)]
  cases runsB (shiftR r x) z <;> simp
/-! ### the timetable of the rows -/
theorem ljob_rt {r : Row} (o : r.Ok) : Rt (m__law_job_0 [rowV r] h) fun v h' => v = .ref h.n ∧ h'.get h.n = some (jobO r) ∧ Sub h h' ∧ h'.n = h.n + 1 := by
  unfold m__law_job_0
  simp
  refine make_job (h1 := h) (vs := [.int r.c, .int r.l]) (zs := [.int r.b, .int r.g]) (c := r.c) (l := r.l) (b := r.b) (g := r.g) o ?_ ?_ (fun u => rfl) ?_
  · simp [ix_row0, ix_row1]
  · simp [ix_row2, ix_row3]
  · intro h2 s e2 en
    exact ⟨rfl, e2, s, en⟩
theorem dget_enc : ∀ {rows : List (List Nat × Row)} {x : List Nat × Row}, (rows.map (·.1)).Nodup → x ∈ rows → dget (.str x.1) (rows.map encR) = some (rowV x.2)
  | [], x, _, hx => by cases hx
  | y :: rows, x, nd, hx => by
    show (match keyB (.str y.1) (.str x.1) with | true => some (rowV y.2) | false => dget (.str x.1) (rows.map encR)) = _
    rw [keyB_str]
    rw [List.map_cons, List.nodup_cons] at nd
    by_cases c : y.1 = x.1
    · rw [decide_eq_true c]
      rcases List.mem_cons.mp hx with rfl | q
      · rfl
      · exact absurd (c ▸ List.mem_map_of_mem (f := fun (x : List Nat × Row) => x.1) q) nd.1
    · rw [decide_eq_false c]
      rcases List.mem_cons.mp hx with rfl | q
      · exact absurd rfl c
      · exact dget_enc nd.2 q
theorem dget_ent : ∀ {es : List Ent} {x : Ent}, (es.map (·.1)).Nodup → x ∈ es → dget (.str x.1) (es.map entK) = some (.ref x.2)
  | [], x, _, hx => by cases hx
  | y :: rows, x, nd, hx => by
    show (match keyB (.str y.1) (.str x.1) with | true => some (MV.ref y.2) | false => dget (.str x.1) (rows.map entK)) = _
    rw [keyB_str]
    rw [List.map_cons, List.nodup_cons] at nd
    by_cases c : y.1 = x.1
    · rw [decide_eq_true c]
      rcases List.mem_cons.mp hx with rfl | q
      · rfl
      · exact absurd (c ▸ List.mem_map_of_mem (f := fun (x : Ent) => x.1) q) nd.1
    · rw [decide_eq_false c]
      rcases List.mem_cons.mp hx with rfl | q
      · exact absurd rfl c
      · exact dget_ent nd.2 q
def rowOf : List (List Nat × Row) → List Nat → Row
  | [], _ => ⟨1, 1, 0, 1⟩
  | x :: xs, s => if x.1 = s then x.2 else rowOf xs s
theorem rowOf_mem : ∀ {rows : List (List Nat × Row)} {x : List Nat × Row}, (rows.map (·.1)).Nodup → x ∈ rows → rowOf rows x.1 = x.2
  | [], x, _, hx => by cases hx
  | y :: rows, x, nd, hx => by
    rw [List.map_cons, List.nodup_cons] at nd
    unfold rowOf
    by_cases c : y.1 = x.1
    · rw [if_pos c]
      rcases List.mem_cons.mp hx with rfl | q
      · rfl
      · exact absurd (c ▸ List.mem_map_of_mem (f := fun (x : List Nat × Row) => x.1) q) nd.1
    · rw [if_neg c]
      rcases List.mem_cons.mp hx with rfl | q
      · exact absurd rfl c
      · exact rowOf_mem nd.2 q
def prodN (f : List Nat → Row) : List (List Nat) → Int
  | [] => 1
  | s :: ss => (f s).c * prodN f ss
theorem prodC_N (f : List Nat → Row) : ∀ es : List Ent, prodC (fun e => f e.1) es = prodN f (es.map (·.1))
  | [] => rfl
  | e :: es => by simp [prodC, prodN, prodC_N f es]
theorem prodR_N {rows : List (List Nat × Row)} (f : List Nat → Row) (hf : ∀ x ∈ rows, f x.1 = x.2) : prodR rows = prodN f (rows.map (·.1)) := by
  induction rows with
  | nil => rfl
  | cons x xs ih => simp [prodR, prodN, ih fun y hy => hf y (List.mem_cons_of_mem _ hy), hf x (List.mem_cons_self ..)]
theorem namesA_ok : ∀ s ∈ namesA, NameOk s := by
  intro s hs
  simp [namesA] at hs
  rcases hs with rfl | rfl | rfl | rfl <;> exact ⟨by decide, by decide, by decide⟩
theorem Drawn.nd {most : Int} {rows : List (List Nat × Row)} (D : Drawn most rows) : (rows.map (·.1)).Nodup := by
  rw [D.nm]
  exact (List.take_sublist _ _).nodup namesA_nd
theorem Drawn.name {most : Int} {rows : List (List Nat × Row)} (D : Drawn most rows) {x : List Nat × Row} (hx : x ∈ rows) : NameOk x.1 := by
  have : x.1 ∈ rows.map (·.1) := List.mem_map_of_mem (f := fun (x : List Nat × Row) => x.1) hx
  rw [D.nm] at this
  exact namesA_ok _ (List.mem_of_mem_take this)
theorem ltable_rt {most : Int} {rows : List (List Nat × Row)} {n : Nat} (D : Drawn most rows) (hm : most ≤ 2000) (en : h.get n = some (.dct false false (rows.map encR))) :
    Rt (m__law_table_0 [.ref n] h) fun v h' => ∃ (t q : Nat) (es : List Ent), v = .ref t ∧ h'.get t = some (.ins 1 [(4, .ref q)]) ∧ h'.get q = some (.dct false false (es.map entK)) ∧ es.map (·.1) = rows.map (·.1) ∧ (∀ x ∈ rows, ∃ j, At h' t x.1 j x.2) ∧ Sub h h' := by
  unfold m__law_table_0
  simp [asg]
  have hn := MH.get_lt en
  have en1 := MH.push_of (o := .dct false false []) en
  have s1 : Sub h (h.push (.dct false false [])) := Sub.push
  have ed1 : (h.push (.dct false false [])).get h.n = some (.dct false false []) := MH.push_same _ _
  generalize hdd : h.n = d at ed1 hn
  generalize h.push (.dct false false []) = h1 at en1 s1 ed1
  refine oc_lock (n := n) rfl en1 ?_
  have nl : (h1.set n (.dct false true (rows.map encR))).get n = some (.dct false true (rows.map encR)) := MH.set_same en1
  have ndn : d ≠ n := by omega
  have dl : (h1.set n (.dct false true (rows.map encR))).get d = some (.dct false false []) := by rw [MH.set_ne ndn]; exact ed1
  simp
  refine ⟨_, nl, ?_⟩
  rw [List.length_map]
  refine for_inv (w := wkD 0 n rows.length) (fun i σ h' => ∃ (es : List Ent) (v2 : Option MV), σ = [some (.ref n), some (.ref d), v2] ∧ es.map (·.1) = (rows.map (·.1)).take i ∧ es.length = i ∧ (∀ e ∈ es, ∃ x ∈ rows, e.1 = x.1 ∧ h'.get e.2 = some (jobO x.2)) ∧ h'.get d = some (.dct false false (es.map entK)) ∧ h'.get n = some (.dct false true (rows.map encR)) ∧ Sx n h h')
    ⟨[], none, rfl, rfl, rfl, by simp, dl, nl, s1.sx.trans Sx.set⟩ ?_ ?_
  · rintro i σ h2 hi ⟨es, v2, rfl, hnm, hl, hj, ed, en2, sx⟩
    have hi' : i < rows.length := hi
    have ev : (rows.map encR)[i]? = some (encR rows[i]) := by rw [List.getElem?_map, List.getElem?_eq_getElem hi']; rfl
    have jm := List.getElem_mem hi'
    refine ⟨_, _, wkD_at en2 ev, rfl, ?_⟩
    have dg : dget (.str rows[i].1) (rows.map encR) = some (rowV rows[i].2) := dget_enc D.nd jm
    simp [entM, encR, dget_eq (k := .str rows[i].1) en2 rfl dg]
    refine (ljob_rt (D.ok _ jm)).imp ?_
    rintro v h3 ⟨rfl, ej, sb, en3⟩
    have ed3 := sb _ _ ed
    refine .inl ⟨_, ed3, rfl, by rw [List.length_map]; have := D.l4; omega, es ++ [(rows[i].1, h2.n)], ?_, ?_, ?_, ?_, ?_, ?_⟩
    · rw [List.map_append, hnm, List.take_add_one, List.getElem?_map, List.getElem?_eq_getElem hi']; rfl
    · simp [hl]
    · intro a b hab
      have w4 : ∀ a, (h3.get a = some (jobO rows[i].2) ∨ ∃ x : Row, h3.get a = some (jobO x)) → a ≠ d := fun a z w => by
        rw [w, ed3] at z
        rcases z with z | ⟨x, z⟩ <;> cases z
      rcases List.mem_append.mp hab with q | q
      · obtain ⟨x, hx, e1, e2⟩ := hj _ q
        refine ⟨x.1, x.2, hx, e1, ?_⟩
        rw [MH.set_ne (w4 b (.inr ⟨_, sb _ _ e2⟩))]
        exact sb _ _ e2
      · have : (a, b) = (rows[i].1, h2.n) := by simpa using q
        cases this
        refine ⟨_, _, jm, rfl, ?_⟩
        rw [MH.set_ne (w4 _ (.inl ej))]
        exact ej
    · rw [MH.set_same ed3, dput_new]
      · simp [entK]
      · intro p hp
        obtain ⟨x, hx, rfl⟩ := List.mem_map.mp hp
        show keyB (.str x.1) (.str rows[i].1) = false
        rw [keyB_str, decide_eq_false]
        intro w
        have z1 : x.1 ∈ (rows.map (·.1)).take i := hnm ▸ List.mem_map_of_mem (f := fun (x : Ent) => x.1) hx
        have nn := D.nd
        rw [show rows = rows.take i ++ rows[i] :: rows.drop (i + 1) by simp, List.map_append, List.nodup_append] at nn
        rw [← List.map_take] at z1
        exact nn.2.2 _ z1 rows[i].1 (List.mem_map_of_mem (f := fun (x : List Nat × Row) => x.1) (List.mem_cons_self ..)) w
    · rw [MH.set_ne (Ne.symm ndn)]; exact sb _ _ en2
    · intro a o wa ea
      have wd : a ≠ d := fun z => by rw [z] at ea; have := MH.get_lt ea; omega
      rw [MH.set_ne wd]; exact sb _ _ (sx _ _ wa ea)
  · rintro σ h2 ⟨es, v2, rfl, hnm, hl, hj, ed, en2, sx⟩
    refine ⟨by have := wkD_fin (k := 0) en2; rwa [List.length_map] at this, _, en2, ?_⟩
    have hl' : es.length = rows.length := hl
    have hnm' : es.map (·.1) = rows.map (·.1) := by rw [hnm, wkD_n, ← List.length_map (f := fun (x : List Nat × Row) => x.1), List.take_length]
    generalize hh3 : h2.set n (.dct false false (rows.map encR)) = h3
    have s3 : Sub h h3 := fun a o ea => by
      rw [← hh3]
      by_cases w : a = n
      · subst w; rw [en] at ea; cases ea; exact MH.set_same en2
      · rw [MH.set_ne w]; exact sx _ _ w ea
    have ed3 : h3.get d = some (.dct false false (es.map entK)) := by rw [← hh3, MH.set_ne ndn]; exact ed
    have hj3 : ∀ e ∈ es, ∃ x ∈ rows, e.1 = x.1 ∧ h3.get e.2 = some (jobO x.2) := fun e he => by
      obtain ⟨x, hx, e1, e2⟩ := hj e he
      refine ⟨x, hx, e1, ?_⟩
      have w : e.2 ≠ n := fun w => by rw [w, en2] at e2; cases e2
      rw [← hh3, MH.set_ne w]; exact e2
    try simp
    rw [rt_eNew]
    try simp
    have hr : ∀ e ∈ es, ∃ x ∈ rows, e.1 = x.1 ∧ rowOf rows e.1 = x.2 ∧ h3.get e.2 = some (jobO (rowOf rows e.1)) := fun e he => by
      obtain ⟨x, hx, e1, e2⟩ := hj3 e he
      have : rowOf rows e.1 = x.2 := by rw [e1]; exact rowOf_mem D.nd hx
      exact ⟨x, hx, e1, this, by rw [this]; exact e2⟩
    refine (table_init (es := es) (rw_ := fun e => rowOf rows e.1) (MH.push_same h3 (.ins 1 [])) (MH.push_of ed3) (by have := D.l1; omega) (by have := D.l4; omega) (fun e he => ?_) (fun e he => ?_) (fun e he => ?_) ?_ (hnm' ▸ D.nd)).imp ?_
    · obtain ⟨x, hx, e1, _⟩ := hr e he
      rw [e1]; exact D.name hx
    · obtain ⟨x, hx, e1, e2, e3⟩ := hr e he
      exact MH.push_of e3
    · obtain ⟨x, hx, e1, e2, e3⟩ := hr e he
      show (rowOf rows e.1).Ok
      rw [e2]; exact D.ok x hx
    · rw [prodC_N (rowOf rows) es, hnm', ← prodR_N (rowOf rows) fun x hx => rowOf_mem D.nd hx]
      have := D.pr; omega
    · rintro v h4 ⟨rfl, ⟨q, t1, t2⟩, sx4⟩
      have keep : Sub h3 h4 := fun a o ea => sx4 a o (Nat.ne_of_lt (MH.get_lt ea)) (MH.push_of ea)
      refine ⟨rfl, q, t1, es, t2, hnm', fun a r hx => ?_, s3.trans keep⟩
      have : a ∈ es.map (·.1) := by rw [hnm']; exact List.mem_map_of_mem (f := fun (x : List Nat × Row) => x.1) hx
      obtain ⟨e, he, rfl⟩ := List.mem_map.mp this
      obtain ⟨y, hy, e1, e2, e3⟩ := hr e he
      have er : rowOf rows e.1 = r := rowOf_mem D.nd hx
      refine ⟨e.2, ⟨q, _, t1, t2, dget_ent (hnm' ▸ D.nd) he⟩, keep _ _ ?_⟩
      rw [er] at e3
      exact e3
end
end KA

set_option linter.all false
/-! ASpec2: pairs. -/
namespace KA
section
variable {h : MH} {s : Nat} {ns : List Int}
def OrdP (names : List (List Nat)) (a b : List Nat) : Prop := ∃ i j : Nat, i < j ∧ names[i]? = some a ∧ names[j]? = some b
theorem cutM_lo (xs : List MV) (k : Nat) : cutM xs (some (k : Int)) none = xs.drop k := by
  unfold cutM sIxM
  simp only [show ¬ ((k : Int) < 0) by omega, decide_false, Int.toNat_natCast]
  rcases Nat.le_total k xs.length with c | c
  · rw [show Nat.min k xs.length = k from Nat.min_eq_left c, List.take_of_length_le]
    rw [List.length_drop]
    exact Nat.le_refl _
  · rw [show Nat.min k xs.length = xs.length from Nat.min_eq_right c, List.drop_eq_nil_of_le c]
    simp
theorem add_lst {a b : Nat} {xs ys : List MV} (ea : h.get a = some (.lst xs)) (eb : h.get b = some (.lst ys)) (Q : MV → MH → Prop) : Rt (qAdd (.ref a) (.ref b) h) Q = (xs.length + ys.length ≤ 16777216 ∧ Q (.ref h.n) (h.push (.lst (xs ++ ys)))) := by
  unfold qAdd
  simp [ea, eb]
theorem lpairs_rt {rows : List (List Nat × Row)} {n : Nat} (en : h.get n = some (.dct false false (rows.map encR))) (hl : rows.length ≤ 4) :
    Rt (m__law_pairs_0 [.ref n] h) fun v h' => ∃ (p : Nat) (L : List MV), v = .ref p ∧ h.n ≤ p ∧ h'.get p = some (.lst L) ∧ (∀ x ∈ L, ∃ a b, x = .tup [.str a, .str b] ∧ OrdP (rows.map (·.1)) a b) ∧ Sub h h' := by
  unfold m__law_pairs_0
  have el : qListOf [.ref n] h = .ok (.ref h.n) (h.push (.lst (rows.map fun x => MV.str x.1))) := by
    show qListOf1 (.ref n) h = _
    unfold qListOf1
    simp [en]
    rfl
  simp [el]
  have hk : ∀ (i : Nat) (v : MV), (rows.map fun x => MV.str x.1)[i]? = some v → ∃ a, v = .str a ∧ (rows.map (·.1))[i]? = some a := fun i v e => by
    rw [List.getElem?_map] at e
    cases q : rows[i]? with
    | none => rw [q] at e; cases e
    | some x => rw [q] at e; cases e; exact ⟨x.1, rfl, by rw [List.getElem?_map, q]; rfl⟩
  have hkl : (rows.map fun x => MV.str x.1).length ≤ 4 := by rw [List.length_map]; exact hl
  generalize (rows.map fun x => MV.str x.1) = ks at hk hkl
  have s2 : Sub h ((h.push (.lst ks)).push (.lst [])) := Sub.push.trans Sub.push
  have e2 : ((h.push (.lst ks)).push (.lst [])).get h.n = some (.lst ks) := MH.push_of (MH.push_same _ _)
  have f2 : ((h.push (.lst ks)).push (.lst [])).get (h.n + 1) = some (.lst []) := MH.push_same (h.push (.lst ks)) _
  refine ⟨_, e2, ?_⟩
  generalize (h.push (.lst ks)).push (.lst []) = h2 at s2 e2 f2
  refine for_inv (w := wkE (wkL h.n ks.length)) (fun i σ h' => ∃ (p : Nat) (L : List MV) (v3 v4 v5 : Option MV), σ = [some (.ref n), some (.ref h.n), some (.ref p), v3, v4, v5] ∧ h.n ≤ p ∧ h'.get p = some (.lst L) ∧ (∀ x ∈ L, ∃ a b, x = .tup [.str a, .str b] ∧ OrdP (rows.map (·.1)) a b) ∧ L.length ≤ 4 * i ∧ h'.get h.n = some (.lst ks) ∧ Sub h h')
    ⟨_, [], _, _, _, rfl, by omega, f2, by simp, by simp, e2, s2⟩ ?_ ?_
  · rintro i σ h3 hi ⟨p, L, v3, v4, v5, rfl, hp, eL, hL, hLl, ek, sb⟩
    have hi' : i < ks.length := hi
    have evi : ks[i]? = some ks[i] := List.getElem?_eq_getElem hi'
    obtain ⟨a, ea, na⟩ := hk i _ evi
    refine ⟨.tup [.int (i : Nat), ks[i]], _, ?_, rfl, ?_⟩
    · show (match (wkL h.n ks.length).at_ i h3 with | some v => some (MV.tup [.int (i : Nat), v]) | none => none) = _
      rw [wkL_at ek evi]
    simp [slP, seq_ref ek]
    have cut : cutM ks (some ((i : Int) + 1)) none = ks.drop (i + 1) := cutM_lo ks (i + 1)
    rw [cut]
    refine ⟨_, MH.push_same _ _, ?_⟩
    refine acc_pure (ks.drop (i + 1)) (fun _ => true) (fun v => .tup [ks[i], v]) rfl (by rw [List.length_drop]; omega) (fun j v e => wkL_at (MH.push_same _ _) e) (wkL_fin (MH.push_same _ _)) ?_ ?_
    · intro v hv
      exact ⟨_, rfl, by simp, fun _ => by simp⟩
    intro k
    rw [List.reverse_reverse, List.filter_eq_self.mpr (by simp)]
    rw [add_lst (MH.push_of (MH.push_of eL)) (MH.push_same _ _)]
    have dl : (List.map (fun v => MV.tup [ks[i], v]) (List.drop (i + 1) ks)).length ≤ 4 := by rw [List.length_map, List.length_drop]; omega
    refine ⟨by omega, _, ⟨_, _, _, rfl⟩, ?_, _, MH.push_same _ _, ?_, ?_, ?_, ?_⟩
    · show h.n ≤ h3.n + 1 + 1
      have := MH.get_lt ek
      omega
    · intro x hx
      rcases List.mem_append.mp hx with q | q
      · exact hL x q
      · obtain ⟨v, hv, rfl⟩ := List.mem_map.mp q
        obtain ⟨j, hj, ej⟩ := List.mem_iff_getElem.mp hv
        have ej' : ks[i + 1 + j]? = some v := by rw [← List.getElem?_drop, List.getElem?_eq_getElem hj, ej]
        obtain ⟨b, eb, nb⟩ := hk _ _ ej'
        exact ⟨a, b, by rw [ea, eb], i, i + 1 + j, by omega, na, nb⟩
    · rw [List.length_append]; omega
    · exact MH.push_of (MH.push_of (MH.push_of ek))
    · exact ((sb.trans Sub.push).trans Sub.push).trans Sub.push
  · rintro σ h3 ⟨p, L, v3, v4, v5, rfl, hp, eL, hL, hLl, ek, sb⟩
    refine ⟨wkL_fin ek, ?_⟩
    simp
    exact ⟨hp, L, eL, hL, sb⟩
/-! ### two names in their order -/
theorem filt_all : ((List.range 5).all fun k => (List.range 4).all fun i => (List.range 4).all fun j => !(decide (i < j) && decide (j < k)) || (decide (((namesA.take k).filter fun x => decide (namesA.getD i [] = x) || decide (namesA.getD j [] = x)) = [namesA.getD i [], namesA.getD j []]) && !decide (namesA.getD i [] = namesA.getD j []))) = true := by decide
theorem filt_names (k : Nat) (hk : k < 5) (i : Nat) (hi : i < 4) (j : Nat) (hj : j < 4) (h1 : i < j) (h2 : j < k) : ((namesA.take k).filter fun x => decide (namesA.getD i [] = x) || decide (namesA.getD j [] = x)) = [namesA.getD i [], namesA.getD j []] ∧ namesA.getD i [] ≠ namesA.getD j [] := by
  have z := List.all_eq_true.mp (List.all_eq_true.mp (List.all_eq_true.mp filt_all k (List.mem_range.mpr hk)) i (List.mem_range.mpr hi)) j (List.mem_range.mpr hj)
  rw [decide_eq_true h1, decide_eq_true h2] at z
  simp only [Bool.and_self, Bool.not_true, Bool.false_or, Bool.and_eq_true, decide_eq_true_eq, Bool.not_eq_true', decide_eq_false_iff_not] at z
  exact z
theorem ord_filter {most : Int} {rows : List (List Nat × Row)} (D : Drawn most rows) {a b : List Nat} (o : OrdP (rows.map (·.1)) a b) : ((rows.map (·.1)).map MV.str).filter (inTwo a b) = [.str a, .str b] ∧ a ≠ b := by
  obtain ⟨i, j, hij, ea, eb⟩ := o
  have nm := D.nm
  have l4 := D.l4
  have hj : j < rows.length := by
    have := (List.getElem?_eq_some_iff.mp eb).1
    rwa [List.length_map] at this
  rw [nm] at ea eb
  have ga : ∀ t v, t < rows.length → (namesA.take rows.length)[t]? = some v → namesA.getD t [] = v := fun t v ht e => by
    rw [List.getElem?_take_of_lt ht] at e
    rw [List.getD_eq_getElem?_getD, e]
    rfl
  obtain ⟨h1, h2⟩ := filt_names rows.length (by omega) i (by omega) j (by omega) hij hj
  rw [ga i a (by omega) ea, ga j b hj eb] at h1 h2
  refine ⟨?_, h2⟩
  rw [List.filter_map, nm]
  have : (inTwo a b ∘ MV.str) = fun x => decide (a = x) || decide (b = x) := rfl
  rw [this, h1]
  rfl
end
end KA

set_option linter.all false
/-! PTab: timetables as they stand. -/
namespace KA
abbrev NR := List Nat × Row
section
variable {h h' : MH} {t : Nat} {rows : List NR}
/-- the timetable at t has these jobs under these names -/
def Tab (h : MH) (t : Nat) (rows : List NR) : Prop := ∃ (q : Nat) (es : List Ent), h.get t = some (.ins 1 [(4, .ref q)]) ∧ h.get q = some (.dct false false (es.map entK)) ∧ es.length = rows.length ∧ ∀ (i : Nat) (e : Ent) (x : NR), es[i]? = some e → rows[i]? = some x → e.1 = x.1 ∧ h.get e.2 = some (jobO x.2)
structure TOk (rows : List NR) : Prop where
  l1 : 1 ≤ rows.length
  l4 : rows.length ≤ 4
  nm : ∀ x ∈ rows, NameOk x.1
  nd : (rows.map (·.1)).Nodup
  ok : ∀ x ∈ rows, x.2.Ok
  pr : prodR rows ≤ 2000
theorem Tab.sub (T : Tab h t rows) (s : Sub h h') : Tab h' t rows := by
  obtain ⟨q, es, e1, e2, e3, e4⟩ := T
  exact ⟨q, es, s _ _ e1, s _ _ e2, e3, fun i e x a b => ⟨(e4 i e x a b).1, s _ _ (e4 i e x a b).2⟩⟩
theorem Tab.sx {a : Nat} (T : Tab h t rows) (s : Sx a h h') (ha : ∃ xs, h.get a = some (.lst xs)) : Tab h' t rows := by
  obtain ⟨q, es, e1, e2, e3, e4⟩ := T
  obtain ⟨xs, ea⟩ := ha
  have ne : ∀ n o, h.get n = some o → (∀ xs, o ≠ .lst xs) → n ≠ a := fun n o e w z => by rw [z, ea] at e; cases e; exact w _ rfl
  exact ⟨q, es, s _ _ (ne _ _ e1 fun _ z => by cases z) e1, s _ _ (ne _ _ e2 fun _ z => by cases z) e2, e3, fun i e x b c => ⟨(e4 i e x b c).1, s _ _ (ne _ _ (e4 i e x b c).2 fun _ z => by cases z) (e4 i e x b c).2⟩⟩
theorem names_eq {es : List Ent} (hl : es.length = rows.length) (he : ∀ (i : Nat) (e : Ent) (x : NR), es[i]? = some e → rows[i]? = some x → e.1 = x.1 ∧ h.get e.2 = some (jobO x.2)) : es.map (·.1) = rows.map (·.1) := by
  apply List.ext_getElem? 
  intro i
  rw [List.getElem?_map, List.getElem?_map]
  by_cases c : i < rows.length
  · have c' : i < es.length := by omega
    rw [List.getElem?_eq_getElem c, List.getElem?_eq_getElem c']
    exact congrArg some (he i _ _ (List.getElem?_eq_getElem c') (List.getElem?_eq_getElem c)).1
  · rw [List.getElem?_eq_none (by omega), List.getElem?_eq_none (by omega)]; rfl
/-- one of its jobs -/
theorem Tab.at_ (T : Tab h t rows) (O : TOk rows) {x : NR} (hx : x ∈ rows) : ∃ j, At h t x.1 j x.2 := by
  obtain ⟨q, es, e1, e2, e3, e4⟩ := T
  obtain ⟨i, hi, rfl⟩ := List.mem_iff_getElem.mp hx
  have hi' : i < es.length := by omega
  obtain ⟨a, b⟩ := e4 i _ _ (List.getElem?_eq_getElem hi') (List.getElem?_eq_getElem hi)
  refine ⟨es[i].2, ⟨q, _, e1, e2, ?_⟩, b⟩
  rw [← a]
  exact dget_ent (names_eq e3 e4 ▸ O.nd) (List.getElem_mem hi')
theorem TOk.prod_le {rows : List NR} (O : TOk rows) : 1 ≤ prodR rows ∧ prodR rows ≤ 2000 := by
  refine ⟨?_, O.pr⟩
  have : ∀ rs : List NR, (∀ x ∈ rs, x.2.Ok) → 1 ≤ prodR rs := by
    intro rs
    induction rs with
    | nil => intro _; simp [prodR]
    | cons x xs ih =>
      intro ho
      have h1 := (ho x (List.mem_cons_self ..)).c1
      have h2 := ih fun y hy => ho y (List.mem_cons_of_mem _ hy)
      have : 1 * 1 ≤ x.2.c * prodR xs := Int.mul_le_mul h1 h2 (by decide) (by omega)
      simpa [prodR] using this
  exact this rows O.ok
theorem prodC_rows : ∀ (es : List Ent) (rows : List NR) (f : Ent → Row), es.length = rows.length → (∀ (i : Nat) (e : Ent) (x : NR), es[i]? = some e → rows[i]? = some x → f e = x.2) → prodC f es = prodR rows
  | [], [], f, _, _ => rfl
  | [], _ :: _, f, hl, _ => by simp at hl
  | _ :: _, [], f, hl, _ => by simp at hl
  | e :: es, x :: xs, f, hl, hf => by
    have h0 := hf 0 e x rfl rfl
    have := prodC_rows es xs f (by simpa using hl) fun i a b ha hb => hf (i + 1) a b (by simpa using ha) (by simpa using hb)
    simp [prodC, prodR, h0, this]
/-- Timetable(d) -/
theorem make_tab {d : Nat} {es : List Ent} {am : AM} {σ : Sl} {h0 : MH} {Q : MV → MH → Prop} (ea : Rt (am σ h0) fun vs h1 => vs = [.ref d] ∧ h1 = h) (ed : h.get d = some (.dct false false (es.map entK))) (hl : es.length = rows.length) (he : ∀ (i : Nat) (e : Ent) (x : NR), es[i]? = some e → rows[i]? = some x → e.1 = x.1 ∧ h.get e.2 = some (jobO x.2)) (O : TOk rows)
    (q : ∀ h2, Tab h2 h.n rows → Sub h h2 → h.n < h2.n → Q (.ref h.n) h2) : Rt (eNew 1 m_Timetable___init__ am σ h0) Q := by
  rw [rt_eNew]
  refine ea.imp ?_
  rintro vs h1 ⟨rfl, rfl⟩
  have nm := names_eq hl he
  have nd : (es.map (·.1)).Nodup := nm ▸ O.nd
  have ix : ∀ e ∈ es, ∃ x ∈ rows, e.1 = x.1 ∧ rowOf rows e.1 = x.2 ∧ h1.get e.2 = some (jobO x.2) := fun e hm => by
    obtain ⟨i, hi, rfl⟩ := List.mem_iff_getElem.mp hm
    have hi' : i < rows.length := by omega
    obtain ⟨a, b⟩ := he i _ _ (List.getElem?_eq_getElem hi) (List.getElem?_eq_getElem hi')
    exact ⟨_, List.getElem_mem hi', a, by rw [a]; exact rowOf_mem O.nd (List.getElem_mem hi'), b⟩
  refine (table_init (es := es) (rw_ := fun e => rowOf rows e.1) (MH.push_same h1 (.ins 1 [])) (MH.push_of ed) (by have := O.l1; omega) (by have := O.l4; omega) (fun e hm => ?_) (fun e hm => ?_) (fun e hm => ?_) ?_ nd).imp ?_
  · obtain ⟨x, hx, e1, _⟩ := ix e hm
    rw [e1]; exact O.nm x hx
  · obtain ⟨x, hx, e1, e2, e3⟩ := ix e hm
    rw [e2]; exact MH.push_of e3
  · obtain ⟨x, hx, e1, e2, e3⟩ := ix e hm
    show (rowOf rows e.1).Ok
    rw [e2]; exact O.ok x hx
  · rw [prodC_rows es rows _ hl fun i e x a b => ?_]
    · exact O.pr
    · have hx : x ∈ rows := List.mem_of_getElem? b
      show rowOf rows e.1 = x.2
      rw [(he i e x a b).1]; exact rowOf_mem O.nd hx
  · rintro v h4 ⟨rfl, ⟨p, t1, t2⟩, sx4⟩
    have keep : Sub h1 h4 := fun a o ea => sx4 a o (Nat.ne_of_lt (MH.get_lt ea)) (MH.push_of ea)
    refine ⟨rfl, q h4 ⟨p, es, t1, t2, hl, fun i e x a b => ⟨(he i e x a b).1, keep _ _ (he i e x a b).2⟩⟩ keep ?_⟩
    exact MH.get_lt t1
end
end KA

set_option linter.all false
/-! BSpec: what the laws' own functions compute (laws 1 to 4, 51): the pool of draws, rows. -/
namespace KA
section
variable {h : MH} {a p : Nat} {ns : List Int}
/-- ints of at least 0 -/
def Ds (xs : List MV) : Prop := ∀ x ∈ xs, ∃ i : Int, x = .int i ∧ 0 ≤ i
theorem Ds.nil : Ds [] := fun x hx => by cases hx
theorem Ds.app {xs ys : List MV} (a : Ds xs) (b : Ds ys) : Ds (xs ++ ys) := fun x hx => (List.mem_append.mp hx).elim (a x) (b x)
theorem Ds.snoc {xs : List MV} {i : Int} (a : Ds xs) (hi : 0 ≤ i) : Ds (xs ++ [.int i]) := a.app fun x hx => by simp at hx; exact ⟨i, hx, hi⟩
theorem Ds.tail {x : MV} {xs : List MV} (a : Ds (x :: xs)) : Ds xs := fun y hy => a y (List.mem_cons_of_mem _ hy)
theorem Ds.data {xs : List MV} (d : Ds xs) (f : Nat) (h : MH) : xs.all (dataB (f + 1) h) = true := by
  rw [List.all_eq_true]
  intro x hx
  obtain ⟨i, rfl, _⟩ := d x hx
  rfl
/-- the pool stands at a -/
def Dr (h : MH) (a : Nat) : Prop := ∃ xs, h.get a = some (.lst xs) ∧ Ds xs
theorem Dr.sub {h' : MH} (d : Dr h a) (s : Sub h h') : Dr h' a := by obtain ⟨xs, e, q⟩ := d; exact ⟨xs, s _ _ e, q⟩
theorem Dr.push {o : MO} (d : Dr h a) : Dr (h.push o) a := d.sub Sub.push
theorem Dr.lt (d : Dr h a) : a < h.n := by obtain ⟨xs, e, _⟩ := d; exact MH.get_lt e
theorem p8000 : (2 : Int) ^ 62 ≤ 2 ^ 8000 := by decide +kernel
theorem ne_nil {n m : Nat} {xs : List MV} (e : h.get n = some (.lst xs)) (e' : h.get m = some (.lst [])) (d : Ds xs) : qNe (.ref n) (.ref m) h = .ok (.bl (!xs.isEmpty)) h := by
  unfold qNe
  rw [show dataB 9 h (.ref n) = true by unfold dataB; simp only [e]; exact d.data 7 h, show dataB 9 h (.ref m) = true by unfold dataB; simp -implicitDefEqProofs [e']]
  rw [show eqB 9 h (.ref n) (.ref m) = xs.isEmpty by
    unfold eqB
    simp only [seq_ref e, seq_ref e']
    cases xs <;> rfl]
  rfl
theorem take_rt {m : Int} (d : Dr h a) (hm : 0 < m) : Rt (m__law_take_0 [.ref a, .int m] h) fun v h' => (∃ x, v = .int x ∧ 0 ≤ x ∧ x < m) ∧ Sx a h h' ∧ Dr h' a := by
  obtain ⟨xs, e, q⟩ := d
  unfold m__law_take_0
  simp -implicitDefEqProofs [ne_nil (MH.push_of e) (MH.push_same h (.lst [])) q]
  cases xs with
  | nil => simp; exact ⟨hm, Sub.push.sx, [], MH.push_of e, .nil⟩
  | cons x xs =>
    obtain ⟨i, rfl, hi⟩ := q x (List.mem_cons_self ..)
    have e2 : (h.push (.lst [])).get a = some (.lst (.int i :: xs)) := MH.push_of e
    have ep : qPopAt (.ref a) [.int 0] (h.push (.lst [])) = .ok (.int i) ((h.push (.lst [])).set a (.lst xs)) := by
      unfold qPopAt f1
      simp -implicitDefEqProofs [e2, rg62]
    simp -implicitDefEqProofs [eBmL, seq_ref e2, ep, mod_int _ hm]
    exact ⟨⟨Int.emod_nonneg _ (by omega), Int.emod_lt_of_pos _ hm⟩, Sub.push.sx.trans Sx.set, xs, MH.set_same e2, q.tail⟩
/-! ### the pool -/
theorem abs_rt {i : Int} {Q : MV → MH → Prop} (q : ∀ j : Int, 0 ≤ j → Q (.int j) h) : Rt (qAbs [.int i] h) Q := by
  show Rt (qAbs1 (.int i) h) Q
  unfold qAbs1
  simp -implicitDefEqProofs
  by_cases c : i < 0
  · simp -implicitDefEqProofs [c]; exact q _ (by omega)
  · simp -implicitDefEqProofs [c]; exact q _ (by omega)
theorem ints_map (is : List Int) : ints? (is.map MV.int) = some is := by
  induction is with
  | nil => rfl
  | cons b bs ih => simp -implicitDefEqProofs [ints?, ih]
theorem cellB_rt {k : Int} (e : h.get p = some (.lst (ns.map MV.int))) (hk : 0 ≤ k) : Rt (m__law_cell_at_1 [.ref p, .int k] h) fun v h' => h' = h ∧ ∃ x, v = .int x ∧ 0 ≤ x := by
  unfold m__law_cell_at_1
  by_cases q : k < ns.length
  · simp -implicitDefEqProofs [len_lst e, q]
    have hi : k.toNat < ns.length := by omega
    refine rt_ix_seq (xs := ns.map MV.int) (seq_ref e) (x := .int ns[k.toNat]) ?_ ?_
    · rw [atM_int hk (by simpa using q)]
      simp -implicitDefEqProofs [hi]
    · exact abs_rt fun j hj => ⟨rfl, j, rfl, hj⟩
  · have es : qInts sumI [.ref p] h = .ok (.int ns.sum) h := by
      unfold qInts seq1
      simp -implicitDefEqProofs [seq_ref e, ints_map, sumI]
    simp -implicitDefEqProofs [len_lst e, q, es]
    refine abs_rt fun j hj => ?_
    simp -implicitDefEqProofs [mul_l (i := 7919) h (by decide) (by decide)]
    refine (draw_rt hk (by decide)).imp ?_
    rintro v h' ⟨rfl, x, rfl, x1, x2⟩
    exact ⟨rfl, x, rfl, x1⟩
theorem append_rt {f : Nat} {xs : List MV} {v : MV} {am : AM} {o : EM} {σ : Sl} {Q : MV → MH → Prop} (eo : o σ h = .ok (.ref f) h) (e : h.get f = some (.lst xs)) (hl : xs.length + 1 ≤ 16777216) (ea : Rt (am σ h) fun vs h' => vs = [v] ∧ h' = h) (q : Q .non (h.set f (.lst (xs ++ [v])))) : Rt (eBmL qAppend o am σ h) Q := by
  unfold eBmL
  rw [eo]
  dsimp only [Res.bind]
  rw [seq_ref e]
  show Rt ((am σ h).bind fun vs h2 => qAppend (.ref f) vs h2) Q
  rw [rt_bind]
  refine ea.imp ?_
  rintro vs h' ⟨rfl, rfl⟩
  unfold qAppend f1
  simp -implicitDefEqProofs [e, hl]
  exact q
theorem digits_rt {k base : Int} {m : Nat} (e : h.get p = some (.lst (ns.map MV.int))) (hk : 0 ≤ k) (hm : m ≤ 1000) (hb : 0 < base) (hb2 : base < 2 ^ 62) : Rt (m__law_digits_0 [.ref p, .int k, .int m, .int base] h) fun v h' => ∃ f xs, v = .ref f ∧ h'.get f = some (.lst xs) ∧ Ds xs ∧ xs.length ≤ m ∧ Sub h h' := by
  unfold m__law_digits_0
  obtain ⟨B, hB, ep⟩ : ∃ B : Int, B = 1000000000000000000 ∧ ∀ h', qPow (.int 10) (.int 18) h' = .ok (.int B) h' := ⟨_, rfl, fun _ => rfl⟩
  have hm62 : rgOk (m : Int) = true := rgOk_of (by omega) (by omega)
  simp -implicitDefEqProofs [hm62, ep, asg]
  refine (cellB_rt e hk).imp ?_
  rintro v h' ⟨rfl, c, rfl, hc⟩
  simp -implicitDefEqProofs
  refine for_inv (w := wkR 0 m) (fun i σ h2 => ∃ xs left v7 v8 v9, σ = [some (.ref p), some (.int k), some (.int m), some (.int base), some (.int c), some (.ref h'.n), some (.int left), v7, v8, v9] ∧ (B ≤ c → 0 ≤ left) ∧ h2.get h'.n = some (.lst xs) ∧ Ds xs ∧ xs.length ≤ i ∧ Sub h' h2)
    ⟨[], _, _, _, _, rfl, fun z => by omega, MH.push_same _ _, .nil, Nat.le_refl _, Sub.push⟩ ?_ ?_
  · rintro i σ h2 hi ⟨xs, left, v7, v8, v9, rfl, hlf, ef, hd, hx, sb⟩
    have hi' : i < m := hi
    have sb2 : ∀ ys, Sub h' (h2.set h'.n (.lst ys)) := fun ys x o ex => by rw [MH.set_ne (Nat.ne_of_lt (MH.get_lt ex))]; exact sb _ _ ex
    refine ⟨.int (0 + (i : Nat)), _, rfl, rfl, ?_⟩
    by_cases cc : B ≤ c
    · have hl := hlf cc
      simp only [oc_if, rt_cB, rt_e2, rt_eV, rt_eC, List.set_cons_succ, List.set_cons_zero, List.getElem?_cons_succ, List.getElem?_cons_zero, ep, rt_ok, ge_int, cc, decide_true, decide_false, if_true, Bool.false_eq_true, if_false]
      simp -implicitDefEqProofs
      refine append_rt (f := h'.n) (xs := xs) (v := .int (left % base)) rfl ef (by omega) (by simp -implicitDefEqProofs [mod_int _ hb]) ?_
      simp -implicitDefEqProofs [asg, div_int (i := left) _ hb (Int.lt_of_lt_of_le hb2 p8000)]
      exact ⟨Int.ediv_nonneg hl (by omega), ⟨xs ++ [.int (left % base)], MH.set_same ef, hd.snoc (Int.emod_nonneg _ (by omega)), by simp; omega, sb2 _⟩⟩
    · simp only [oc_if, rt_cB, rt_e2, rt_eV, rt_eC, List.set_cons_succ, List.set_cons_zero, List.getElem?_cons_succ, List.getElem?_cons_zero, ep, rt_ok, ge_int, cc, decide_true, decide_false, if_true, Bool.false_eq_true, if_false]
      have i31 : -18446744073709551616 < c + 977 * (i : Int) ∧ c + 977 * (i : Int) < 18446744073709551616 := by omega
      have i32 : -18446744073709551616 < c + 31 * (i : Int) ∧ c + 31 * (i : Int) < 18446744073709551616 := by omega
      have h9 : (0 : Int) < 9 := by decide
      have h7 : (0 : Int) < 7 := by decide
      simp -implicitDefEqProofs [mul_l (i := 977) (j := (i : Int)) h2 (by decide) (by decide), mul_l (i := 31) (j := (i : Int)) h2 (by decide) (by decide), mul_l (i := c + 977 * (i : Int)) h2 i31.1 i31.2, mul_l (i := c + 31 * (i : Int)) h2 i32.1 i32.2, mod_int (i := (i : Int)) h2 h9, mod_int (i := (i : Int)) h2 h7]
      refine (draw_rt (by have := Int.emod_nonneg (i : Int) (show (9 : Int) ≠ 0 by decide); omega) (by decide)).imp ?_
      rintro v h3 ⟨rfl, x, rfl, x1, x2⟩
      simp -implicitDefEqProofs [asg, mul_l (i := 977) (j := (i : Int)) h3 (by decide) (by decide), mul_l (i := 31) (j := (i : Int)) h3 (by decide) (by decide), mul_l (i := c + 977 * (i : Int)) h3 i31.1 i31.2, mul_l (i := c + 31 * (i : Int)) h3 i32.1 i32.2, mod_int (i := (i : Int)) h3 h9, mod_int (i := (i : Int)) h3 h7]
      refine (draw_rt (by have := Int.emod_nonneg (i : Int) (show (7 : Int) ≠ 0 by decide); omega) (by decide)).imp ?_
      rintro v h4 ⟨rfl, y, rfl, y1, y2⟩
      refine append_rt (f := h'.n) (xs := xs) (v := .int ((x * 1000003 + y) % base)) rfl ef (by omega) (by simp -implicitDefEqProofs [mod_int _ hb, mul_r (j := 1000003) (i := x) h4 (by decide) (by decide)]) ?_
      exact ⟨xs ++ [.int ((x * 1000003 + y) % base)], MH.set_same ef, hd.snoc (Int.emod_nonneg _ (by omega)), by simp; omega, sb2 _⟩
  · rintro σ h2 ⟨xs, left, v7, v8, v9, rfl, hlf, ef, hd, hx, sb⟩
    refine ⟨rfl, ?_⟩
    simp -implicitDefEqProofs
    exact ⟨xs, ef, hd, hx, sb⟩
theorem pool_rt (e : h.get p = some (.lst (ns.map MV.int))) : Rt (m__law_pool_0 [.ref p, .tup [.int 1000003, .int 999983]] h) fun v h' => ∃ f, v = .ref f ∧ Dr h' f ∧ f ≠ p ∧ Sub h h' := by
  unfold m__law_pool_0
  simp -implicitDefEqProofs [asg, wEnumT, wkE]
  have e1 : (h.push (.lst [])).get h.n = some (.lst []) := MH.push_same _ _
  have en : (h.push (.lst [])).get p = some (.lst (ns.map MV.int)) := MH.push_of e
  refine for_inv (fun i σ h' => ∃ f xs v3 v4, σ = [some (.ref p), some (.tup [.int 1000003, .int 999983]), some (.ref f), v3, v4] ∧ h'.get f = some (.lst xs) ∧ Ds xs ∧ xs.length ≤ 150 * i ∧ f ≠ p ∧ Sub h h')
    ⟨h.n, [], _, _, rfl, e1, .nil, Nat.le_refl _, Nat.ne_of_gt (MH.get_lt e), Sub.push⟩ ?_ ?_
  · rintro i σ h2 hi ⟨f, xs, v3, v4, rfl, ef, hd, hx, hfp, sb⟩
    have hi' : i < 2 := hi
    obtain ⟨b, b1, b2, eb⟩ : ∃ b : Int, 0 < b ∧ b < 2 ^ 62 ∧ ([MV.int 1000003, .int 999983])[i]? = some (.int b) := by
      have : i = 0 ∨ i = 1 := by omega
      rcases this with rfl | rfl
      · exact ⟨_, by decide, by decide, rfl⟩
      · exact ⟨_, by decide, by decide, rfl⟩
    refine ⟨.tup [.int i, .int b], _, by simp [wkT, eb], rfl, ?_⟩
    simp -implicitDefEqProofs [asg, asgs]
    refine (digits_rt (m := 150) (sb _ _ e) (by omega) (by omega) b1 b2).imp ?_
    rintro v h3 ⟨g, ys, rfl, eg, hd2, hy, sb2⟩
    have ef3 := sb2 _ _ ef
    simp -implicitDefEqProofs [qAdd, ef3, eg, show xs.length + ys.length ≤ 16777216 by omega, asg]
    exact ⟨xs ++ ys, MH.push_same _ _, hd.app hd2, by simp; omega, Nat.ne_of_gt (MH.get_lt (sb2 _ _ (sb _ _ e))), (sb.trans sb2).trans Sub.push⟩
  · rintro σ h2 ⟨f, xs, v3, v4, rfl, ef, hd, hx, hfp, sb⟩
    refine ⟨rfl, ?_⟩
    simp
    exact ⟨⟨xs, ef, hd⟩, hfp, sb⟩
/-! ### rows: a name, a job -/

def rowB (x : NR) : MV := .tup [.str x.1, .int x.2.c, .int x.2.l, .int x.2.b, .int x.2.g]
def namesB : List (List Nat) := [[115, 121, 110, 99], [109, 97, 105, 108], [108, 111, 103], [97]]
theorem namesB_nd : namesB.Nodup := by decide
structure Plan (most : Int) (rows : List NR) : Prop where
  l4 : rows.length ≤ 4
  nm : rows.map (·.1) = namesB.take rows.length
  ok : ∀ x ∈ rows, x.2.Ok
  p1 : 1 ≤ prodR rows
  pr : prodR rows ≤ most
theorem drawnB_rt {most : Int} {j : Nat} (d : Dr h a) (hm : 1 ≤ most) (hm2 : most ≤ 100000) (hj : j ≤ 4) : Rt (m__law_drawn_1 [.ref a, .int j, .int most] h) fun v h' => ∃ q rows, v = .ref q ∧ h'.get q = some (.lst (rows.map rowB)) ∧ rows.length = j ∧ Plan most rows ∧ q ≠ a ∧ Sx a h h' ∧ Dr h' a := by
  unfold m__law_drawn_1
  simp -implicitDefEqProofs
  have cut : cutM [MV.str [115, 121, 110, 99], .str [109, 97, 105, 108], .str [108, 111, 103], .str [97]] none (some (j : Int)) = (namesB.take j).map MV.str := by
    have : j = 0 ∨ j = 1 ∨ j = 2 ∨ j = 3 ∨ j = 4 := by omega
    rcases this with rfl | rfl | rfl | rfl | rfl <;> rfl
  simp only [slP, cut]
  have hal : a < h.n := d.lt
  refine for_inv (w := wkT ((namesB.take j).map MV.str)) (fun i σ h' => ∃ (rows : List NR) (left : Int) (v5 v6 v7 : Option MV), σ = [some (.ref a), some (.int j), some (.int most), some (.ref h.n), some (.int left), v5, v6, v7] ∧ rows.length = i ∧ rows.map (·.1) = namesB.take i ∧ (∀ x ∈ rows, x.2.Ok) ∧ 1 ≤ prodR rows ∧ 1 ≤ left ∧ prodR rows * left ≤ most ∧
    h'.get h.n = some (.lst (rows.map rowB)) ∧ Sx a h h' ∧ Dr h' a) ⟨[], most, _, _, _, rfl, rfl, rfl, by simp, by simp [prodR], hm, by simp [prodR], MH.push_same _ _, Sub.push.sx, d.push⟩ ?_ ?_
  · rintro i σ h2 hi ⟨rows, left, v5, v6, v7, rfl, hr, hnm, hok, p1, l1, pl, eq, sx, d2⟩
    have hi' : i < j := by have : i < ((namesB.take j).map MV.str).length := hi; simp at this; omega
    have hi4 : i < namesB.length := by show i < 4; omega
    have ev : ((namesB.take j).map MV.str)[i]? = some (.str namesB[i]) := by
      rw [List.getElem?_map, List.getElem?_take_of_lt hi', List.getElem?_eq_getElem hi4]; rfl
    refine ⟨_, _, ev, rfl, ?_⟩
    simp -implicitDefEqProofs
    refine (take_rt d2 (by decide)).imp ?_
    rintro v h3 ⟨⟨x, rfl, x1, x2⟩, sx3, d3⟩
    try simp -implicitDefEqProofs
    refine (take_rt d3 (by decide)).imp ?_
    rintro v h4 ⟨⟨y, rfl, y1, y2⟩, sx4, d4⟩
    have h12 : (0 : Int) < 12 := by decide
    have xy : 0 ≤ x * y := Int.mul_nonneg x1 y1
    have xy2 : x * y ≤ 11 * 11 := Int.mul_le_mul (by omega) (by omega) y1 (by omega)
    have lim : most < 2 ^ 62 := by omega
    simp -implicitDefEqProofs [mul_l (i := x) (j := y) h4 (by omega) (by omega), div_int (i := x * y) h4 h12 (by decide +kernel)]
    have z1 : 0 ≤ x * y / 12 := Int.ediv_nonneg xy (by decide)
    have z2 : x * y / 12 ≤ 10 := by omega
    obtain ⟨c, ec, c1, c2⟩ : ∃ c : Int, atM [.int 4, .int 6, .int 2, .int 12, .int 3, .int 8, .int 9, .int 10, .int 5, .int 7, .int 1, .int 11] (x * y / 12) = some (.int c) ∧ 1 ≤ c ∧ c ≤ 12 := by
      generalize x * y / 12 = z at z1 z2
      have : z = 0 ∨ z = 1 ∨ z = 2 ∨ z = 3 ∨ z = 4 ∨ z = 5 ∨ z = 6 ∨ z = 7 ∨ z = 8 ∨ z = 9 ∨ z = 10 := by omega
      rcases this with rfl | rfl | rfl | rfl | rfl | rfl | rfl | rfl | rfl | rfl | rfl <;> exact ⟨_, rfl, by decide, by decide⟩
    simp -implicitDefEqProofs [ec, asg]
    -- the period that fits
    obtain ⟨c', ec', c1', c2', cl⟩ : ∃ c' : Int, (if c ≤ left then c else 1) = c' ∧ 1 ≤ c' ∧ c' ≤ 12 ∧ c' ≤ left := by
      by_cases w : c ≤ left
      · exact ⟨c, if_pos w, c1, c2, w⟩
      · exact ⟨1, if_neg w, by decide, by decide, l1⟩
    have fin : ∀ (l : Int) (h6 : MH), 1 ≤ l → l ≤ c' → h6.get h.n = some (.lst (rows.map rowB)) → Sx a h h6 → Dr h6 a →
        Rt (eBmL qAppend (eV 3) (aCons (eA qTup (aCons (eV 5) (aCons (eV 6) (aCons (eV 7) (aCons (eA m__law_take_0 (aCons (eV 0) (aCons (eV 6) aNil))) (aCons (e2 qAdd (eC (.int 1)) (eA m__law_take_0 (aCons (eV 0) (aCons (eC (.int 9)) aNil)))) aNil)))))) aNil)
          [some (.ref a), some (.int j), some (.int most), some (.ref h.n), some (.int (left / c')), some (.str namesB[i]), some (.int c'), some (.int l)] h6) fun v h7 => ∃ r : Row, r.Ok ∧ r.c = c' ∧ h7.get h.n = some (.lst ((rows ++ [(namesB[i], r)]).map rowB)) ∧ Sx a h h7 ∧ Dr h7 a := by
      intro l h6 hl1 hl2 e6 sx6 d6
      unfold eBmL
      simp -implicitDefEqProofs [seq_ref e6]
      refine (take_rt d6 (by omega)).imp ?_
      rintro v h7 ⟨⟨u, rfl, u1, u2⟩, sx7, d7⟩
      try simp -implicitDefEqProofs
      refine (take_rt d7 (by decide)).imp ?_
      rintro v h8 ⟨⟨w, rfl, w1, w2⟩, sx8, d8⟩
      have ne : h.n ≠ a := Nat.ne_of_gt hal
      have e8 := sx8 _ _ ne (sx7 _ _ ne e6)
      have hlen : rows.length + 1 ≤ 16777216 := by omega
      simp -implicitDefEqProofs [qAppend, f1, e8, hlen]
      refine ⟨⟨c', l, u, 1 + w⟩, ⟨c1', c2', hl1, hl2, u1, u2, by show 1 ≤ 1 + w; omega, by show 1 + w ≤ 9; omega⟩, rfl, ?_, ?_, ?_⟩
      · rw [MH.set_same e8]; rfl
      · intro x o nx ex
        rw [MH.set_ne (Nat.ne_of_lt (MH.get_lt ex))]
        exact sx8 _ _ nx (sx7 _ _ nx (sx6 _ _ nx ex))
      · obtain ⟨zs, ez, hz⟩ := d8
        exact ⟨zs, by rw [MH.set_ne (Ne.symm ne)]; exact ez, hz⟩
    have ne : h.n ≠ a := Nat.ne_of_gt hal
    have step : ∀ (r : Row) (h7 : MH), r.Ok → r.c = c' → h7.get h.n = some (.lst ((rows ++ [(namesB[i], r)]).map rowB)) → Sx a h h7 → Dr h7 a → ∀ v5 v6 v7, ∃ (rows' : List NR) (left' : Int) (v5' v6' v7' : Option MV), [some (MV.ref a), some (.int j), some (.int most), some (.ref h.n), some (.int (left / c')), v5, v6, v7] = [some (.ref a), some (.int j), some (.int most), some (.ref h.n), some (.int left'), v5', v6', v7'] ∧ rows'.length = i + 1 ∧ rows'.map (·.1) = namesB.take (i + 1) ∧ (∀ x ∈ rows', x.2.Ok) ∧ 1 ≤ prodR rows' ∧ 1 ≤ left' ∧ prodR rows' * left' ≤ most ∧
        h7.get h.n = some (.lst (rows'.map rowB)) ∧ Sx a h h7 ∧ Dr h7 a := by
      intro r h7 ro rc e7 sx7 d7 v5 v6 v7
      have q1 : 1 ≤ left / c' := (Int.le_ediv_iff_mul_le (by omega)).mpr (by omega)
      have q2 : c' * (left / c') ≤ left := Int.mul_ediv_self_le (by omega)
      have pp : prodR (rows ++ [(namesB[i], r)]) = prodR rows * c' := by rw [prodR_app]; simp [prodR, rc]
      refine ⟨rows ++ [(namesB[i], r)], left / c', v5, v6, v7, rfl, by simp [hr], ?_, ?_, ?_, q1, ?_, e7, sx7, d7⟩
      · rw [List.map_append, hnm, List.take_add_one, List.getElem?_eq_getElem hi4]; rfl
      · intro x hx
        rcases List.mem_append.mp hx with hx | hx
        · exact hok x hx
        · simp at hx; rw [hx]; exact ro
      · rw [pp]
        have : 1 * 1 ≤ prodR rows * c' := Int.mul_le_mul p1 c1' (by decide) (by omega)
        omega
      · rw [pp, Int.mul_assoc]
        have := Int.mul_le_mul_of_nonneg_left q2 (show 0 ≤ prodR rows by omega)
        omega
    have e4 := sx4 _ _ ne (sx3 _ _ ne eq)
    have sxx := (sx.trans sx3).trans sx4
    have lmx : left < 2 ^ 62 := by
      have : 1 * left ≤ prodR rows * left := Int.mul_le_mul_of_nonneg_right p1 (by omega)
      omega
    have dv : ∀ h', qDiv (.int left) (.int c') h' = .ok (.int (left / c')) h' := fun h' => div_int h' (by omega) (Int.lt_of_le_of_lt c2' (by decide +kernel))
    by_cases w : c ≤ left
    · rw [if_pos w] at ec'
      subst ec'
      simp -implicitDefEqProofs [w, dv]
      refine (take_rt d4 (by decide)).imp ?_
      rintro v h5 ⟨⟨t, rfl, t1, t2⟩, sx5, d5⟩
      have e5 := sx5 _ _ ne e4
      by_cases wt : t = 0
      · simp -implicitDefEqProofs [wt]
        refine (take_rt d5 (by omega)).imp ?_
        rintro v h6 ⟨⟨u, rfl, u1, u2⟩, sx6, d6⟩
        simp -implicitDefEqProofs
        refine (fin (1 + u) h6 (by omega) (by omega) (sx6 _ _ ne e5) ((sxx.trans sx5).trans sx6) d6).imp ?_
        rintro v h7 ⟨r, ro, rc, e7, sx7, d7⟩
        exact (by simpa using step r h7 ro rc e7 sx7 d7 none none none)
      · simp -implicitDefEqProofs [wt]
        refine (fin 1 h5 (by decide) c1' e5 (sxx.trans sx5) d5).imp ?_
        rintro v h7 ⟨r, ro, rc, e7, sx7, d7⟩
        exact (by simpa using step r h7 ro rc e7 sx7 d7 none none none)
    · rw [if_neg w] at ec'
      subst ec'
      simp -implicitDefEqProofs [w, dv]
      refine (take_rt d4 (by decide)).imp ?_
      rintro v h5 ⟨⟨t, rfl, t1, t2⟩, sx5, d5⟩
      have e5 := sx5 _ _ ne e4
      by_cases wt : t = 0
      · simp -implicitDefEqProofs [wt]
        refine (take_rt d5 (by omega)).imp ?_
        rintro v h6 ⟨⟨u, rfl, u1, u2⟩, sx6, d6⟩
        simp -implicitDefEqProofs
        refine (fin (1 + u) h6 (by omega) (by omega) (sx6 _ _ ne e5) ((sxx.trans sx5).trans sx6) d6).imp ?_
        rintro v h7 ⟨r, ro, rc, e7, sx7, d7⟩
        exact (by simpa using step r h7 ro rc e7 sx7 d7 none none none)
      · simp -implicitDefEqProofs [wt]
        refine (fin 1 h5 (by decide) c1' e5 (sxx.trans sx5) d5).imp ?_
        rintro v h7 ⟨r, ro, rc, e7, sx7, d7⟩
        exact (by simpa using step r h7 ro rc e7 sx7 d7 none none none)
  · rintro σ h2 ⟨rows, left, v5, v6, v7, rfl, hr, hnm, hok, p1, l1, pl, eq, sx, d2⟩
    refine ⟨rfl, ?_⟩
    simp
    have hl : ((namesB.take j).map MV.str).length = j := by simp; show min j 4 = j; omega
    have hr : rows.length = j := by rw [hr]; exact hl
    refine ⟨rows, eq, hr, ⟨by omega, by rw [hnm, hr]; simp [hl], hok, p1, ?_⟩, by omega, sx, d2⟩
    have := Int.mul_le_mul_of_nonneg_left l1 (show 0 ≤ prodR rows by omega)
    omega
end
end KA

set_option linter.all false
/-! BSpec2: .. jobs, timetables, pairs. -/
namespace KA
section
variable {h : MH} {a p : Nat} {rows : List NR}
theorem ixB (x : NR) (i : Nat) (Q : MV → MH → Prop) : Rt (qIx (rowB x) (.int (i : Int)) h) Q = (match [MV.str x.1, .int x.2.c, .int x.2.l, .int x.2.b, .int x.2.g][i]? with
  | some v => Q v h
  | none => False) := by
  unfold rowB qIx
  dsimp only
  by_cases c : i < 5
  · rw [atM_int (by omega) (by show ((i : Nat) : Int) < 5; omega), Int.toNat_natCast]
    cases [MV.str x.1, .int x.2.c, .int x.2.l, .int x.2.b, .int x.2.g][i]? <;> rfl
  · have : atM [MV.str x.1, .int x.2.c, .int x.2.l, .int x.2.b, .int x.2.g] (i : Int) = none := by
      unfold atM ixM
      simp [c]
    rw [this, List.getElem?_eq_none (by simp; omega)]
    rfl
@[simp] theorem ixB0 (x : NR) (Q : MV → MH → Prop) : Rt (qIx (rowB x) (.int 0) h) Q = Q (.str x.1) h := ixB x 0 Q
@[simp] theorem ixB1 (x : NR) (Q : MV → MH → Prop) : Rt (qIx (rowB x) (.int 1) h) Q = Q (.int x.2.c) h := ixB x 1 Q
@[simp] theorem ixB2 (x : NR) (Q : MV → MH → Prop) : Rt (qIx (rowB x) (.int 2) h) Q = Q (.int x.2.l) h := ixB x 2 Q
@[simp] theorem ixB3 (x : NR) (Q : MV → MH → Prop) : Rt (qIx (rowB x) (.int 3) h) Q = Q (.int x.2.b) h := ixB x 3 Q
@[simp] theorem ixB4 (x : NR) (Q : MV → MH → Prop) : Rt (qIx (rowB x) (.int 4) h) Q = Q (.int x.2.g) h := ixB x 4 Q
theorem brun_eq {x : NR} {t : Int} (o : x.2.Ok) : m__law_runs_1 [rowB x, .int t] h = .ok (.bl (runsB x.2 t)) h := by
  apply Rt.eq
  unfold m__law_runs_1
  have hc : 0 < x.2.c := by have := o.c1; omega
  simp [mod_int h hc, runsB]
theorem bmeet_eq {x y : NR} (o : x.2.Ok) (o' : y.2.Ok) : m__law_meeting_0 [rowB x, rowB y] h = .ok (optV (firstT (meetB x.2 y.2) (x.2.c * y.2.c).toNat 0)) h := by
  apply Rt.eq
  unfold m__law_meeting_0
  have h1 := o.c1
  have h1' := o.c2
  have h2 := o'.c1
  have h3 := o'.c2
  have hp : 0 ≤ x.2.c * y.2.c := Int.mul_nonneg (by omega) (by omega)
  have hp2 : x.2.c * y.2.c ≤ 144 := by
    have : x.2.c * y.2.c ≤ 12 * 12 := Int.mul_le_mul h1' h3 (by omega) (by omega)
    omega
  simp [mul_l (i := x.2.c) (j := y.2.c) h (by omega) (by omega), rgOk_of (i := x.2.c * y.2.c) (by omega) (by omega)]
  refine for_first (f := meetB x.2 y.2) ?_ ?_ ?_ ⟨none, rfl⟩
  · rintro i σ ⟨v, rfl⟩ hi
    simp [brun_eq o, brun_eq o', meetB]
    cases runsB x.2 i <;> cases runsB y.2 i <;> simp
    all_goals exact ⟨_, rfl⟩
  · intro t et
    simp [et, optV]
  · intro et v
    simp [et, optV]
theorem breason_eq {x y : NR} {d f : Int} : m__law_is_reason_1 [rowB x, rowB y, .tup [.int d, .int f]] h = .ok (.bl (partsB x.2 y.2 d f)) h := by
  apply Rt.eq
  unfold m__law_is_reason_1
  by_cases hd : d < 1
  · simp [asg, asgs, hd, partsB]
    intro z; omega
  · have hd0 : 0 < d := by omega
    have hd1 : 1 ≤ d := by omega
    have e1 := Int.emod_nonneg x.2.c (show d ≠ 0 by omega)
    have e2 := Int.emod_nonneg y.2.c (show d ≠ 0 by omega)
    have z1 : (0 < x.2.c % d) = ¬ (x.2.c % d = 0) := by apply propext; omega
    have z2 : (0 < y.2.c % d) = ¬ (y.2.c % d = 0) := by apply propext; omega
    simp [asg, asgs, hd, hd1, mod_int h hd0, partsB, z1, z2]
    by_cases q1 : x.2.c % d = 0
    · by_cases q2 : y.2.c % d = 0
      · by_cases q3 : f = (y.2.b - x.2.b) % d
        · by_cases q4 : x.2.l ≤ f
          · simp [q1, q2, ← q3, q4]
          · simp [q1, q2, ← q3, q4]
        · simp [q1, q2, q3]
      · simp [q1, q2]
    · simp [q1]
theorem bjob_rt {x : NR} (o : x.2.Ok) : Rt (m__law_job_1 [rowB x] h) fun v h' => v = .ref h.n ∧ h'.get h.n = some (jobO x.2) ∧ Sub h h' ∧ h'.n = h.n + 1 := by
  unfold m__law_job_1
  simp
  refine make_job (h1 := h) (vs := [.int x.2.c, .int x.2.l]) (zs := [.int x.2.b, .int x.2.g]) (c := x.2.c) (l := x.2.l) (b := x.2.b) (g := x.2.g) o ?_ ?_ (fun u => rfl) ?_
  · simp
  · simp
  · intro h2 s e2 en
    exact ⟨rfl, e2, s, en⟩
theorem namesB_ok : ∀ s ∈ namesB, NameOk s := by
  intro s hs
  simp [namesB] at hs
  rcases hs with rfl | rfl | rfl | rfl <;> exact ⟨by decide, by decide, by decide⟩
theorem Plan.tok {most : Int} (P : Plan most rows) (hl : 1 ≤ rows.length) (hm : most ≤ 2000) : TOk rows := by
  refine ⟨hl, P.l4, fun x hx => ?_, ?_, P.ok, by have := P.pr; omega⟩
  · have : x.1 ∈ rows.map (·.1) := List.mem_map_of_mem (f := fun (x : NR) => x.1) hx
    rw [P.nm] at this
    exact namesB_ok _ (List.mem_of_mem_take this)
  · rw [P.nm]
    exact (List.take_sublist _ _).nodup namesB_nd
/-- the timetable of rows -/
theorem built_rt (O : TOk rows) (ep : h.get p = some (.lst (rows.map rowB))) : Rt (m__law_built_0 [.ref p] h) fun v h' => ∃ t, v = .ref t ∧ Tab h' t rows ∧ Sub h h' ∧ h.n ≤ t := by
  unfold m__law_built_0
  simp [asg]
  have hp := MH.get_lt ep
  refine ⟨_, MH.push_of ep, ?_⟩
  rw [List.length_map]
  refine for_inv (w := wkL p rows.length) (fun i σ h' => ∃ (es : List Ent) (v2 : Option MV), σ = [some (.ref p), some (.ref h.n), v2] ∧ es.length = i ∧ (∀ (k : Nat) (e : Ent) (x : NR), es[k]? = some e → rows[k]? = some x → e.1 = x.1 ∧ h'.get e.2 = some (jobO x.2)) ∧ h'.get h.n = some (.dct false false (es.map entK)) ∧ Sub h h')
    ⟨[], none, rfl, rfl, by simp, MH.push_same _ _, Sub.push⟩ ?_ ?_
  · rintro i σ h2 hi ⟨es, v2, rfl, hl, hj, ed, sb⟩
    have hi' : i < rows.length := hi
    have ev : (rows.map rowB)[i]? = some (rowB rows[i]) := by rw [List.getElem?_map, List.getElem?_eq_getElem hi']; rfl
    have jm := List.getElem_mem hi'
    refine ⟨_, _, wkL_at (sb _ _ ep) ev, rfl, ?_⟩
    simp
    refine (bjob_rt (O.ok _ jm)).imp ?_
    rintro v h3 ⟨rfl, ej, sb3, en3⟩
    have ed3 := sb3 _ _ ed
    have nj : ∀ b (r : Row), h3.get b = some (jobO r) → b ≠ h.n := fun b r z w => by rw [w, ed3] at z; cases z
    refine .inl ⟨_, ed3, rfl, by have := O.l4; simp; omega, es ++ [(rows[i].1, h2.n)], by simp [hl], ?_, ?_, ?_⟩
    · intro k ea eb xa xb hk hx
      by_cases c : k < es.length
      · rw [List.getElem?_append_left c] at hk
        obtain ⟨q1, q2⟩ := hj k _ _ hk hx
        have q3 := sb3 _ _ q2
        exact ⟨q1, by rw [MH.set_ne (nj _ _ q3)]; exact q3⟩
      · have hkl : k < es.length + 1 := by have := (List.getElem?_eq_some_iff.mp hk).1; simpa using this
        have : k = i := by omega
        subst this
        rw [List.getElem?_append_right (by omega), hl] at hk
        simp at hk
        rw [List.getElem?_eq_getElem hi'] at hx
        have hx' := Option.some.inj hx
        rw [hx'] at hk ej
        obtain ⟨rfl, rfl⟩ := hk
        exact ⟨rfl, by rw [MH.set_ne (nj _ _ ej)]; exact ej⟩
    · rw [MH.set_same ed3, dput_new]
      · simp [entK]
      · intro q hq
        obtain ⟨x, hx, rfl⟩ := List.mem_map.mp hq
        show keyB (.str x.1) (.str rows[i].1) = false
        rw [keyB_str, decide_eq_false]
        intro w
        obtain ⟨k, hk, rfl⟩ := List.mem_iff_getElem.mp hx
        have hk' : k < rows.length := by omega
        have z := (hj k _ _ (List.getElem?_eq_getElem hk) (List.getElem?_eq_getElem hk')).1
        rw [w] at z
        have nd := O.nd
        have : (rows.map (·.1))[k]'(by simpa using hk') = (rows.map (·.1))[i]'(by simpa using hi') := by simp [z]
        have := (List.getElem_inj nd).mp this
        omega
    · intro b o eb
      have : b ≠ h.n := Nat.ne_of_lt (MH.get_lt eb)
      rw [MH.set_ne this]; exact sb3 _ _ (sb _ _ eb)
  · rintro σ h2 ⟨es, v2, rfl, hl, hj, ed, sb⟩
    refine ⟨by have := wkL_fin (sb _ _ ep); rwa [List.length_map] at this, ?_⟩
    simp
    refine make_tab (h := h2) (by simp) ed (by rw [hl]; rfl) hj O ?_
    intro h3 T sb3 _
    exact ⟨_, rfl, T, sb.trans sb3, Nat.le_of_lt (MH.get_lt ed)⟩
/-- pairs of rows -/
def OrdR (rows : List NR) (x y : NR) : Prop := ∃ i j : Nat, i < j ∧ rows[i]? = some x ∧ rows[j]? = some y
theorem bpairs_rt (ep : h.get p = some (.lst (rows.map rowB))) (hl : rows.length ≤ 4) : Rt (m__law_pairs_1 [.ref p] h) fun v h' => ∃ (q : Nat) (L : List MV), v = .ref q ∧ h.n ≤ q ∧ h'.get q = some (.lst L) ∧ (∀ z ∈ L, ∃ x y, z = .tup [rowB x, rowB y] ∧ OrdR rows x y) ∧ Sub h h' := by
  unfold m__law_pairs_1
  simp [asg, -Prod.exists]
  have e1 := MH.push_of (o := .lst []) ep
  refine ⟨_, e1, ?_⟩
  rw [List.length_map]
  refine for_inv (w := wkE (wkL p rows.length)) (fun i σ h' => ∃ (q : Nat) (L : List MV) (v2 v3 v4 : Option MV), σ = [some (.ref p), some (.ref q), v2, v3, v4] ∧ h.n ≤ q ∧ h'.get q = some (.lst L) ∧ (∀ z ∈ L, ∃ x y, z = .tup [rowB x, rowB y] ∧ OrdR rows x y) ∧ L.length ≤ 4 * i ∧ Sub h h')
    ⟨h.n, [], _, _, _, rfl, Nat.le_refl _, MH.push_same _ _, by simp, by simp, Sub.push⟩ ?_ ?_
  · rintro i σ h3 hi ⟨q, L, v2, v3, v4, rfl, hq, eL, hL, hLl, sb⟩
    have hi' : i < rows.length := hi
    have ek := sb _ _ ep
    have ev : (rows.map rowB)[i]? = some (rowB rows[i]) := by rw [List.getElem?_map, List.getElem?_eq_getElem hi']; rfl
    refine ⟨.tup [.int (i : Nat), rowB rows[i]], _, ?_, rfl, ?_⟩
    · show (match (wkL p rows.length).at_ i h3 with | some v => some (MV.tup [.int (i : Nat), v]) | none => none) = _
      rw [wkL_at ek ev]
    simp [slP, seq_ref ek, -Prod.exists]
    have cut : cutM (rows.map rowB) (some ((i : Int) + 1)) none = (rows.map rowB).drop (i + 1) := cutM_lo _ (i + 1)
    rw [cut]
    refine ⟨_, MH.push_same _ _, ?_⟩
    refine acc_pure ((rows.map rowB).drop (i + 1)) (fun _ => true) (fun v => .tup [rowB rows[i], v]) rfl (by simp; omega) (fun j v e => wkL_at (MH.push_same _ _) e) (wkL_fin (MH.push_same _ _)) ?_ ?_
    · intro v hv
      exact ⟨_, rfl, by simp, fun _ => by simp⟩
    intro k
    rw [List.reverse_reverse, List.filter_eq_self.mpr (by simp)]
    rw [add_lst (MH.push_of (MH.push_of eL)) (MH.push_same _ _)]
    have dl : (List.map (fun v => MV.tup [rowB rows[i], v]) ((rows.map rowB).drop (i + 1))).length ≤ 4 := by simp; omega
    refine ⟨by omega, _, ⟨_, _, _, rfl⟩, ?_, L ++ List.map (fun v => MV.tup [rowB rows[i], v]) ((rows.map rowB).drop (i + 1)), MH.push_same _ _, ?_, ?_, ?_⟩
    · show h.n ≤ h3.n + 1 + 1
      have := MH.get_lt eL
      omega
    · intro x hx
      rcases List.mem_append.mp hx with w | w
      · exact hL x w
      · obtain ⟨v, hv, rfl⟩ := List.mem_map.mp w
        rw [← List.map_drop] at hv
        obtain ⟨y, hy, rfl⟩ := List.mem_map.mp hv
        obtain ⟨j, hj, ej⟩ := List.mem_iff_getElem.mp hy
        refine ⟨_, _, rfl, i, i + 1 + j, by omega, List.getElem?_eq_getElem hi', ?_⟩
        rw [← List.getElem?_drop, List.getElem?_eq_getElem hj, ej]
    · rw [List.length_append]; omega
    · exact ((sb.trans Sub.push).trans Sub.push).trans Sub.push
  · rintro σ h3 ⟨q, L, v2, v3, v4, rfl, hq, eL, hL, hLl, sb⟩
    refine ⟨by show (wkL p rows.length).fin h3 = true; have := wkL_fin (sb _ _ ep); rwa [List.length_map] at this, ?_⟩
    simp [-Prod.exists]
    exact ⟨hq, L, eL, hL, sb⟩
/-- rows with other starts: one row -/
theorem bmoved1_rt {x : NR} {k : Int} {b c : Nat} (o : x.2.Ok) (eb : h.get b = some (.lst [rowB x])) (ec : h.get c = some (.lst [.int k])) : Rt (m__law_moved_1 [.ref b, .ref c] h) fun v h' => ∃ q, v = .ref q ∧ h'.get q = some (.lst [rowB (x.1, shiftR x.2 k)]) ∧ Sub h h' := by
  unfold m__law_moved_1
  have hc : 0 < x.2.c := by have := o.c1; omega
  simp [seq_ref eb, seq_ref ec]
  refine acc_pure [.tup [rowB x, .int k]] (fun _ => true) (fun _ => rowB (x.1, shiftR x.2 k)) rfl (by simp) (fun i v e => ?_) (by simp [wkZL, seq_ref eb, seq_ref ec]) ?_ ?_
  · have : i = 0 := by
      have := (List.getElem?_eq_some_iff.mp e).1
      simpa using this
    subst this
    simp at e
    subst e
    simp [wkZL, seq_ref eb, seq_ref ec]
  · intro v hv
    simp at hv
    subst hv
    refine ⟨_, rfl, by simp, fun _ => ?_⟩
    simp [rowB, slP, cutM, sIxM, qAdd, mod_int h hc, qIx, atM, ixM, shiftR]
  · intro k'
    simp
    exact ⟨MH.push_same _ _, Sub.push⟩
end
end KA

set_option linter.all false
/-! CSpec: shifts of timetables, what is free, costs, which jobs run, equality. -/
namespace KA
section
variable {h : MH} {t : Nat} {rows : List NR}
/-- a timetable whose lines are locked -/
structure TL (h : MH) (t q : Nat) (es : List Ent) (rows : List NR) : Prop where
  et : h.get t = some (.ins 1 [(4, .ref q)])
  eq : h.get q = some (.dct false true (es.map entK))
  len : es.length = rows.length
  at_ : ∀ (i : Nat) (e : Ent) (x : NR), es[i]? = some e → rows[i]? = some x → e.1 = x.1 ∧ h.get e.2 = some (jobO x.2)
theorem TL.sub {h' : MH} {q : Nat} {es : List Ent} (L : TL h t q es rows) (s : Sub h h') : TL h' t q es rows :=
  ⟨s _ _ L.et, s _ _ L.eq, L.len, fun i e x a b => ⟨(L.at_ i e x a b).1, s _ _ (L.at_ i e x a b).2⟩⟩
theorem Tab.lock (T : Tab h t rows) : ∃ q es, h.get t = some (.ins 1 [(4, .ref q)]) ∧ h.get q = some (.dct false false (es.map entK)) ∧ TL (h.set q (.dct false true (es.map entK))) t q es rows ∧
    ∀ h', Sub (h.set q (.dct false true (es.map entK))) h' → Sub h (h'.set q (.dct false false (es.map entK))) := by
  obtain ⟨q, es, e1, e2, e3, e4⟩ := T
  have nt : t ≠ q := fun w => by rw [w, e2] at e1; cases e1
  refine ⟨q, es, e1, e2, ⟨by rw [MH.set_ne nt]; exact e1, MH.set_same e2, e3, fun i e x a b => ⟨(e4 i e x a b).1, ?_⟩⟩, fun h' s n o en => ?_⟩
  · have w : e.2 ≠ q := fun w => by have := (e4 i e x a b).2; rw [w, e2] at this; cases this
    rw [MH.set_ne w]; exact (e4 i e x a b).2
  · by_cases w : n = q
    · subst w
      rw [e2] at en
      cases en
      exact MH.set_same (s _ _ (MH.set_same e2))
    · rw [MH.set_ne w]
      exact s _ _ (by rw [MH.set_ne w]; exact en)
/-- what the i-th entry is -/
theorem TL.ent {q : Nat} {es : List Ent} (L : TL h t q es rows) {i : Nat} {x : NR} (hx : rows[i]? = some x) : ∃ j, es[i]? = some (x.1, j) ∧ h.get j = some (jobO x.2) := by
  have hi := (List.getElem?_eq_some_iff.mp hx).1
  have hi' : i < es.length := by rw [L.len]; exact hi
  obtain ⟨a, b⟩ := L.at_ i _ _ (List.getElem?_eq_getElem hi') hx
  exact ⟨es[i].2, by rw [List.getElem?_eq_getElem hi', ← a], b⟩
theorem TL.walk {q k : Nat} {es : List Ent} (L : TL h t q es rows) {i : Nat} {x : NR} (hx : rows[i]? = some x) : ∃ j, (wkD k q (es.map entK).length).at_ i h = some (entM k (.str x.1, .ref j)) ∧ h.get j = some (jobO x.2) := by
  obtain ⟨j, e1, e2⟩ := L.ent hx
  refine ⟨j, wkD_at L.eq ?_, e2⟩
  rw [List.getElem?_map, e1]; rfl
/-- shifts as a tuple -/
def shV (l : List Int) : MV := .tup (l.map MV.int)
/-- shifts that fit -/
structure ShOk (rows : List NR) (l : List Int) : Prop where
  len : l.length = rows.length
  ok : ∀ (i : Nat) (x : NR) (s : Int), rows[i]? = some x → l[i]? = some s → 0 ≤ s ∧ s < x.2.c
/-! ### are_shifts, cost_of, __call__ -/
theorem ShOk.get {l : List Int} (S : ShOk rows l) {i : Nat} (hi : i < rows.length) : ∃ x s, rows[i]? = some x ∧ l[i]? = some s ∧ 0 ≤ s ∧ s < x.2.c := by
  have hl := S.len
  have e1 : rows[i]? = some rows[i] := List.getElem?_eq_getElem hi
  have e2 : l[i]? = some (l[i]'(by omega)) := List.getElem?_eq_getElem (by omega)
  exact ⟨_, _, e1, e2, S.ok i _ _ e1 e2⟩
theorem shV_at {l : List Int} {i : Nat} {s : Int} (e : l[i]? = some s) (h : MH) : (wkT (l.map MV.int)).at_ i h = some (.int s) := by
  show (l.map MV.int)[i]? = _
  rw [List.getElem?_map, e]; rfl
theorem are_shifts_rt (T : Tab h t rows) (O : TOk rows) {l : List Int} (S : ShOk rows l) : Rt (m_are_shifts [.ref t, shV l] h) fun v h' => v = .bl true ∧ Sub h h' := by
  unfold m_are_shifts
  obtain ⟨q, es, e1, e2, L, un⟩ := T.lock
  have l4 := O.l4
  have hl := S.len
  have le := L.len
  simp -implicitDefEqProofs [fld_eq (f := 4) e1 rfl, len_dct e2, shV, show l.length ≤ 16777216 by omega, show ((l.length : Int) = (es.length : Int)) by omega]
  refine rt_eLock (fld_fp (i := 0) rfl e1 rfl) e2 ?_
  generalize h.set q (.dct false true (es.map entK)) = hl0 at L un
  rw [rt_eLc, rt_wZipG]
  simp -implicitDefEqProofs [srcM_tup, fld_eq (f := 4) L.et rfl, srcM_dct (k := 1) L.eq]
  have hn : (wkT (l.map MV.int)).n = (wkD 1 q es.length).n := by simp; omega
  refine acc_ix rows.length (fun _ => true) (fun _ => .bl true) (by rw [wkZ_n hn]; simp; omega) (by omega) (fun h' s => wkZ_fin hn rfl) (fun i hi h' sb => ?_) ?_
  · obtain ⟨x, s, ex, es', s0, s1⟩ := S.get hi
    obtain ⟨j, w1, w2⟩ := (L.sub sb).walk (k := 1) ex
    rw [List.length_map] at w1
    refine ⟨_, _, wkZ_at (shV_at es' h') w1, rfl, ?_⟩
    simp -implicitDefEqProofs [entM, j_c w2, integer_eq, s0, show s ≤ x.2.c - 1 by omega]
    exact fun _ _ e => e
  · intro k h' hk sb
    rw [List.append_nil, List.reverse_reverse]
    refine ⟨_, MH.push_of (sb _ _ L.eq), ?_⟩
    have hb : ((List.range rows.length).filter (fun _ => true)).map (fun _ => MV.bl true) = (rows.map fun _ => true).map MV.bl := by
      rw [List.filter_eq_self.mpr (by simp)]
      rw [range_map rows _ (fun _ => MV.bl true) (fun _ _ _ => rfl), List.map_map]; rfl
    rw [hb]
    have nq : h'.n ≠ q := Nat.ne_of_gt (MH.get_lt (sb _ _ L.eq))
    rw [qBls_eq (g := allB) (seq_ref (by rw [MH.set_ne nq]; exact MH.push_same _ _)) (bls_map _)]
    exact ⟨by simp [allB], un _ (sb.trans Sub.push)⟩
theorem sum_list {n : Nat} {is : List Int} (e : h.get n = some (.lst (is.map MV.int))) : qInts sumI [.ref n] h = .ok (.int is.sum) h := by
  unfold qInts seq1
  simp -implicitDefEqProofs [seq_ref e, ints_map, sumI]
def costR (rows : List NR) (l : List Int) : Int := ((rows.zip l).map fun p => p.2 * p.1.2.g).sum
theorem zip_get {l : List Int} {i : Nat} {p : NR × Int} (e : (rows.zip l)[i]? = some p) : rows[i]? = some p.1 ∧ l[i]? = some p.2 := by
  rw [List.getElem?_zip_eq_some] at e
  exact e
theorem cost_of_rt (T : Tab h t rows) (O : TOk rows) {l : List Int} (S : ShOk rows l) : Rt (m_cost_of [.ref t, shV l] h) fun v h' => v = .int (costR rows l) ∧ Sub h h' := by
  unfold m_cost_of
  obtain ⟨q, es, e1, e2, L, un⟩ := T.lock
  have l4 := O.l4
  have hl := S.len
  have le := L.len
  simp -implicitDefEqProofs [shV]
  refine rt_eLock (fld_fp (i := 0) rfl e1 rfl) e2 ?_
  generalize h.set q (.dct false true (es.map entK)) = hl0 at L un
  rw [rt_eLc, rt_wZipG]
  simp -implicitDefEqProofs [srcM_tup, fld_eq (f := 4) L.et rfl, srcM_dct (k := 1) L.eq]
  have hn : (wkT (l.map MV.int)).n = (wkD 1 q es.length).n := by simp; omega
  refine acc_ix rows.length (fun _ => true) (fun i => match rows[i]?, l[i]? with
    | some x, some s => .int (s * x.2.g)
    | _, _ => .non) (by rw [wkZ_n hn]; simp; omega) (by omega) (fun h' s => wkZ_fin hn rfl) (fun i hi h' sb => ?_) ?_
  · obtain ⟨x, s, ex, es', s0, s1⟩ := S.get hi
    obtain ⟨j, w1, w2⟩ := (L.sub sb).walk (k := 1) ex
    rw [List.length_map] at w1
    have o := O.ok x (List.mem_of_getElem? ex)
    have c2 := o.c2
    refine ⟨_, _, wkZ_at (shV_at es' h') w1, rfl, ?_⟩
    rw [ex, es']
    simp -implicitDefEqProofs [entM, j_g w2, mul_l (i := s) (j := x.2.g) h' (by omega) (by omega)]
    exact fun _ _ e => e
  · intro k h' hk sb
    rw [List.append_nil, List.reverse_reverse]
    refine ⟨_, MH.push_of (sb _ _ L.eq), ?_⟩
    have hb : ((List.range rows.length).filter (fun _ => true)).map (fun i => match rows[i]?, l[i]? with
        | some x, some s => MV.int (s * x.2.g)
        | _, _ => .non) = ((rows.zip l).map fun p => p.2 * p.1.2.g).map MV.int := by
      rw [List.filter_eq_self.mpr (by simp), List.map_map]
      have := range_map (rows.zip l) (fun i => match rows[i]?, l[i]? with
        | some x, some s => MV.int (s * x.2.g)
        | _, _ => .non) (fun p => MV.int (p.2 * p.1.2.g)) fun i p e => by
          obtain ⟨a, b⟩ := zip_get e
          rw [a, b]
      rw [List.length_zip, hl, Nat.min_self] at this
      exact this
    rw [hb]
    have nq : h'.n ≠ q := Nat.ne_of_gt (MH.get_lt (sb _ _ L.eq))
    rw [sum_list (by rw [MH.set_ne nq]; exact MH.push_same _ _)]
    exact ⟨rfl, un _ (sb.trans Sub.push)⟩
theorem check_shifts_rt (T : Tab h t rows) (O : TOk rows) {l : List Int} (S : ShOk rows l) : Rt (m_check_shifts [.ref t, shV l] h) fun v h' => v = .non ∧ Sub h h' := by
  unfold m_check_shifts
  obtain ⟨q, es, e1, _⟩ := id T
  simp -implicitDefEqProofs [check_tab e1]
  refine (are_shifts_rt T O S).imp ?_
  rintro v h' ⟨rfl, sb⟩
  simp -implicitDefEqProofs
  exact sb
theorem shift_cost_rt (T : Tab h t rows) (O : TOk rows) {l : List Int} (S : ShOk rows l) : Rt (m_shift_cost [.ref t, shV l] h) fun v h' => v = .int (costR rows l) ∧ Sub h h' := by
  unfold m_shift_cost
  simp -implicitDefEqProofs
  refine (check_shifts_rt T O S).imp ?_
  rintro v h1 ⟨rfl, sb⟩
  refine (cost_of_rt (T.sub sb) O S).imp ?_
  rintro v h2 ⟨rfl, sb2⟩
  exact ⟨rfl, sb.trans sb2⟩
/-- which jobs run -/
theorem call_rt (T : Tab h t rows) (O : TOk rows) {z : Int} (hz : 0 ≤ z) : Rt (m_Timetable___call__ [.ref t, .int z] h) fun v h' => ∃ n, v = .ref n ∧ h'.get n = some (.lst ((rows.filter fun x => runsB x.2 z).map fun x => .str x.1)) ∧ Sub h h' := by
  unfold m_Timetable___call__ m_check_time
  obtain ⟨q, es, e1, e2, L, un⟩ := T.lock
  have l4 := O.l4
  have le := L.len
  have z1 : ¬ z < 0 := by omega
  simp -implicitDefEqProofs [whole_int, z1]
  refine rt_eLock (fld_fp (i := 0) rfl e1 rfl) e2 ?_
  generalize h.set q (.dct false true (es.map entK)) = hl0 at L un
  rw [rt_eLc]
  simp -implicitDefEqProofs [fld_eq (f := 4) L.et rfl]
  refine ⟨_, L.eq, ?_⟩
  rw [List.length_map]
  refine acc_ix rows.length (fun i => match rows[i]? with
    | some x => runsB x.2 z
    | none => false) (fun i => match rows[i]? with
    | some x => .str x.1
    | none => .non) (by simp; omega) (by omega) (fun h' s => by have := wkD_fin (k := 2) (s _ _ L.eq); rwa [List.length_map] at this) (fun i hi h' sb => ?_) ?_
  · have ex : rows[i]? = some rows[i] := List.getElem?_eq_getElem hi
    obtain ⟨j, w1, w2⟩ := (L.sub sb).walk (k := 2) ex
    rw [List.length_map] at w1
    have o := O.ok _ (List.mem_of_getElem? ex)
    refine ⟨_, _, w1, rfl, ?_⟩
    rw [ex]
    simp -implicitDefEqProofs [runs_eq w2 (show 0 < rows[i].2.c by have := o.c1; omega)]
    exact ⟨fun _ _ e => e, fun _ _ _ e => e⟩
  · intro k h' hk sb
    rw [List.append_nil, List.reverse_reverse]
    refine ⟨_, MH.push_of (sb _ _ L.eq), ?_, un _ (sb.trans Sub.push)⟩
    have nq : h'.n ≠ q := Nat.ne_of_gt (MH.get_lt (sb _ _ L.eq))
    rw [MH.set_ne nq, MH.push_same]
    rw [range_filter rows _ _ (fun x => runsB x.2 z) (fun x => MV.str x.1) (fun i x e => by simp only [e]) (fun i x e => by simp only [e])]
/-! ### shifted timetables -/
def shRows (rows : List NR) (l : List Int) : List NR := (rows.zip l).map fun p => (p.1.1, shiftR p.1.2 p.2)
theorem shRows_len {l : List Int} (S : ShOk rows l) : (shRows rows l).length = rows.length := by
  have := S.len
  simp [shRows]; omega
theorem shRows_at {l : List Int} {i : Nat} {x : NR} {s : Int} (e1 : rows[i]? = some x) (e2 : l[i]? = some s) : (shRows rows l)[i]? = some (x.1, shiftR x.2 s) := by
  unfold shRows
  rw [List.getElem?_map, List.getElem?_zip_eq_some.mpr (show rows[i]? = some (x, s).1 ∧ l[i]? = some (x, s).2 from ⟨e1, e2⟩)]
  rfl
theorem prod_sh : ∀ (rows : List NR) (l : List Int), l.length = rows.length → prodR (shRows rows l) = prodR rows
  | [], [], _ => rfl
  | [], _ :: _, h => by simp at h
  | _ :: _, [], h => by simp at h
  | x :: xs, s :: ss, h => by
    have := prod_sh xs ss (by simpa using h)
    unfold shRows at this ⊢
    simp only [List.zip_cons_cons, List.map_cons, prodR, this]
    rfl
theorem TOk.sh (O : TOk rows) {l : List Int} (S : ShOk rows l) : TOk (shRows rows l) := by
  have hl := shRows_len S
  have mem : ∀ y ∈ shRows rows l, ∃ x ∈ rows, ∃ s, y = (x.1, shiftR x.2 s) := fun y hy => by
    unfold shRows at hy
    obtain ⟨p, hp, rfl⟩ := List.mem_map.mp hy
    exact ⟨p.1, (List.of_mem_zip hp).1, p.2, rfl⟩
  refine ⟨by rw [hl]; exact O.l1, by rw [hl]; exact O.l4, fun y hy => ?_, ?_, fun y hy => ?_, by rw [prod_sh rows l S.len]; exact O.pr⟩
  · obtain ⟨x, hx, s, rfl⟩ := mem y hy
    exact O.nm x hx
  · have e : (shRows rows l).map (·.1) = rows.map (·.1) := by
      unfold shRows
      rw [List.map_map]
      show (rows.zip l).map ((·.1) ∘ Prod.fst) = _
      rw [← List.map_map, List.map_fst_zip (by have := S.len; omega)]
    rw [e]; exact O.nd
  · obtain ⟨x, hx, s, rfl⟩ := mem y hy
    exact shift_ok (O.ok x hx) s
theorem make_tabE {am : AM} {σ : Sl} {h0 : MH} {Q : MV → MH → Prop} (ea : Rt (am σ h0) fun vs h1 => ∃ (d : Nat) (es : List Ent), vs = [.ref d] ∧ h1.get d = some (.dct false false (es.map entK)) ∧ es.length = rows.length ∧ (∀ (i : Nat) (e : Ent) (x : NR), es[i]? = some e → rows[i]? = some x → e.1 = x.1 ∧ h1.get e.2 = some (jobO x.2)) ∧ Sub h h1) (O : TOk rows)
    (q : ∀ h2 u, Tab h2 u rows → Sub h h2 → Q (.ref u) h2) : Rt (eNew 1 m_Timetable___init__ am σ h0) Q := by
  obtain ⟨vs, h1, ev, d, es, rfl, ed, hl, he, sb⟩ := ea.inv
  exact make_tab (h := h1) (by rw [ev]; exact ⟨rfl, rfl⟩) ed hl he O fun h2 T s _ => q h2 _ T (sb.trans s)
theorem after_rt (T : Tab h t rows) (O : TOk rows) {l : List Int} (S : ShOk rows l) : Rt (m_after_shifts [.ref t, shV l] h) fun v h' => ∃ u, v = .ref u ∧ Tab h' u (shRows rows l) ∧ Sub h h' := by
  unfold m_after_shifts
  obtain ⟨q, es, e1_, e2_, L, un⟩ := T.lock
  have l4 := O.l4
  have hl := S.len
  have le := L.len
  have hsl := shRows_len S
  simp -implicitDefEqProofs [shV]
  refine make_tabE (h := h) (rows := shRows rows l) ?_ (O.sh S) fun h2 u T2 sb => ⟨u, rfl, T2, sb⟩
  rw [rt_aCons]
  refine rt_eLock (fld_fp (i := 0) rfl e1_ rfl) e2_ ?_
  generalize h.set q (.dct false true (es.map entK)) = hl0 at L un
  rw [rt_eDc, rt_wZipG]
  simp -implicitDefEqProofs [srcM_tup, fld_eq (f := 4) L.et rfl, srcM_dct (k := 2) L.eq, -Prod.forall, -Prod.exists]
  have hn : (wkD 2 q es.length).n = (wkT (l.map MV.int)).n := by simp; omega
  refine acc_inv (fun i (a : Nat × List (MV × MV)) h' => ∃ ns : List Ent, a = (i, ns.map entK) ∧ ns.length = i ∧ (∀ (k : Nat) (e : Ent) (x : NR), ns[k]? = some e → (shRows rows l)[k]? = some x → e.1 = x.1 ∧ h'.get e.2 = some (jobO x.2)) ∧ Sub hl0 h') ⟨[], rfl, rfl, by simp, .refl⟩ ?_ ?_
  · rintro i a h' hi ⟨ns, rfl, hns, hj, sb⟩
    have hi' : i < rows.length := by rw [wkZ_n hn] at hi; have : i < es.length := hi; omega
    obtain ⟨x, s, ex, es', s0, s1⟩ := S.get hi'
    obtain ⟨j, w1, w2⟩ := (L.sub sb).walk (k := 2) ex
    rw [List.length_map] at w1
    have o := O.ok x (List.mem_of_getElem? ex)
    have sx := shRows_at ex es'
    refine ⟨_, _, wkZ_at w1 (shV_at es' h'), rfl, ?_⟩
    simp -implicitDefEqProofs [entM, -Prod.forall, -Prod.exists]
    refine (moved_rt w2 o s0).imp ?_
    rintro v h3 ⟨rfl, ej, sb3, en3⟩
    refine ⟨rfl, by omega, ns ++ [(x.1, h'.n)], ?_, by simp [hns], fun k e y hk hy => ?_, sb.trans sb3⟩
    · rw [dput_new]
      · simp [entK]
      · intro p hp
        obtain ⟨y, hy, rfl⟩ := List.mem_map.mp hp
        show keyB (.str y.1) (.str x.1) = false
        rw [keyB_str, decide_eq_false]
        intro w
        obtain ⟨k, hk, rfl⟩ := List.mem_iff_getElem.mp hy
        have hk' : k < (shRows rows l).length := by rw [hsl]; omega
        have z := (hj k _ _ (List.getElem?_eq_getElem hk) (List.getElem?_eq_getElem hk')).1
        rw [w] at z
        have nd := (O.sh S).nd
        have hi2 : i < (shRows rows l).length := by rw [hsl]; exact hi'
        have z2 : (shRows rows l)[i].1 = x.1 := by
          have := sx
          rw [List.getElem?_eq_getElem hi2] at this
          rw [Option.some.inj this]
        have : ((shRows rows l).map (·.1))[k]'(by simpa using hk') = ((shRows rows l).map (·.1))[i]'(by simpa using hi2) := by
          rw [List.getElem_map, List.getElem_map, ← z, z2]
        have := (List.getElem_inj nd).mp this
        omega
    · by_cases c : k < ns.length
      · rw [List.getElem?_append_left c] at hk
        obtain ⟨q1, q2⟩ := hj k _ _ hk hy
        exact ⟨q1, sb3 _ _ q2⟩
      · have hkl : k < ns.length + 1 := by have := (List.getElem?_eq_some_iff.mp hk).1; simpa using this
        have : k = i := by omega
        subst this
        rw [List.getElem?_append_right (by omega), hns] at hk
        simp at hk
        subst hk
        rw [sx] at hy
        cases hy
        exact ⟨rfl, ej⟩
  · rintro a h' ⟨ns, rfl, hns, hj, sb⟩
    rw [wkZ_n hn] at hns
    have hns' : ns.length = es.length := hns
    refine ⟨wkZ_fin hn (by have := wkD_fin (k := 2) (sb _ _ L.eq); rwa [List.length_map] at this), _, MH.push_of (sb _ _ L.eq), ?_⟩
    have nq : h'.n ≠ q := Nat.ne_of_gt (MH.get_lt (sb _ _ L.eq))
    have un2 := un _ (sb.trans (Sub.push (h := h') (o := .dct false false (ns.map entK))))
    simp -implicitDefEqProofs [-Prod.forall, -Prod.exists]
    refine ⟨ns, by rw [MH.set_ne nq]; exact MH.push_same _ _, by rw [hsl]; omega, fun i e x a b => ?_, un2⟩
    obtain ⟨p1, p2⟩ := hj i e x a b
    refine ⟨p1, ?_⟩
    have w : e.2 ≠ q := fun w => by rw [w, sb _ _ L.eq] at p2; cases p2
    rw [MH.set_ne w]
    exact MH.push_of p2
theorem shifted_rt (T : Tab h t rows) (O : TOk rows) {l : List Int} (S : ShOk rows l) : Rt (m_shifted [.ref t, shV l] h) fun v h' => ∃ u, v = .ref u ∧ Tab h' u (shRows rows l) ∧ Sub h h' := by
  unfold m_shifted
  simp -implicitDefEqProofs
  refine (check_shifts_rt T O S).imp ?_
  rintro v h1 ⟨rfl, sb⟩
  refine (after_rt (T.sub sb) O S).imp ?_
  rintro v h2 ⟨u, rfl, T2, sb2⟩
  exact ⟨u, rfl, T2, sb.trans sb2⟩
end
end KA

set_option linter.all false
/-! CSpec2: equality of jobs and timetables. -/
namespace KA
section
variable {h : MH} {n n' t t' : Nat} {r r' : Row} {rows rows' : List NR}
/-- two jobs are the same -/
def sameJ (r r' : Row) : Bool := decide (r.c = r'.c) && (decide (r.l = r'.l) && (decide (r.b = r'.b) && decide (r.g = r'.g)))
theorem sameJ_self (r : Row) : sameJ r r = true := by simp [sameJ]
theorem four_eq {a b : Nat} {x1 x2 x3 x4 y1 y2 y3 y4 : Int} (ea : h.get a = some (.lst [.int x1, .int x2, .int x3, .int x4])) (eb : h.get b = some (.lst [.int y1, .int y2, .int y3, .int y4])) :
    qEq (.ref a) (.ref b) h = .ok (.bl (decide (x1 = y1) && (decide (x2 = y2) && (decide (x3 = y3) && decide (x4 = y4))))) h := by
  unfold qEq
  have d : ∀ n (z1 z2 z3 z4 : Int), h.get n = some (.lst [.int z1, .int z2, .int z3, .int z4]) → dataB 9 h (.ref n) = true := fun n z1 z2 z3 z4 en => by
    unfold dataB
    simp [en, dataB]
  rw [d a _ _ _ _ ea, d b _ _ _ _ eb]
  have e : eqB 9 h (.ref a) (.ref b) = (decide (x1 = y1) && (decide (x2 = y2) && (decide (x3 = y3) && decide (x4 = y4)))) := by
    unfold eqB
    simp [seq_ref ea, seq_ref eb, all2, eqB]
    cases decide (x1 = y1) <;> cases decide (x2 = y2) <;> cases decide (x3 = y3) <;> cases decide (x4 = y4) <;> rfl
  rw [e]
  rfl
theorem job_parts (e : h.get n = some (jobO r)) : m_Job_all_parts [.ref n] h = .ok (.ref h.n) (h.push (.lst [.int r.c, .int r.l, .int r.b, .int r.g])) := by
  apply Rt.eq
  unfold m_Job_all_parts
  simp [j_c e, j_l e, j_b e, j_g e]
theorem job_eq_rt (e : h.get n = some (jobO r)) (e' : h.get n' = some (jobO r')) : Rt (m_Job___eq__ [.ref n, .ref n'] h) fun v h' => v = .bl (sameJ r r') ∧ Sub h h' := by
  unfold m_Job___eq__
  simp -implicitDefEqProofs [isi_ins (k := 10) e' (by decide), job_parts e, isIns_of_get e]
  have s1 : Sub h (h.push (.lst [.int r.c, .int r.l, .int r.b, .int r.g])) := Sub.push
  have e2 := s1 _ _ e'
  simp -implicitDefEqProofs [job_parts e2, isIns_of_get e2]
  rw [four_eq (a := h.n) (b := h.n + 1) (MH.push_of (MH.push_same _ _)) (MH.push_same (h.push (.lst [.int r.c, .int r.l, .int r.b, .int r.g])) _)]
  exact ⟨rfl, s1.trans Sub.push⟩
/-! ### timetables -/
theorem elE_str (a b : List Nat) (g : FM) : elE 0 g (.str a) (.str b) h = .ok (decide (a = b)) h := by
  unfold elE
  simp [flatM, eqB, beqN_eq]
theorem elE_job (e : h.get n = some (jobO r)) (e' : h.get n' = some (jobO r')) : Rt (elE 0 m_Job___eq__ (.ref n) (.ref n') h) fun b h' => b = sameJ r r' ∧ Sub h h' := by
  unfold elE
  rw [show (flatM (.ref n) && flatM (.ref n')) = false from rfl]
  dsimp only
  rw [isIns_of_get e, isIns_of_get e']
  rw [show (true && true) = true from rfl]
  dsimp only
  cases q : Nat.beq n n' with
  | true =>
    have := Nat.eq_of_beq_eq_true q
    subst this
    rw [e] at e'
    have hr : r = r' := by
      have := Option.some.inj e'
      unfold jobO at this
      injection this with _ z
      simp at z
      cases r; cases r'
      simp_all
    subst hr
    exact ⟨(sameJ_self r).symm, .refl⟩
  | false =>
    dsimp only
    rw [rt_bind]
    refine (job_eq_rt e e').imp ?_
    rintro v h' ⟨rfl, sb⟩
    exact ⟨rfl, sb⟩
/-- an item of a timetable against another -/
theorem itE_rt {a b : List Nat} (e : h.get n = some (jobO r)) (e' : h.get n' = some (jobO r')) : Rt (itE 0 m_Job___eq__ (.tup [.str a, .ref n]) (.tup [.str b, .ref n']) h) fun z h' => z = (decide (a = b) && sameJ r r') ∧ Sub h h' := by
  unfold itE
  show Rt (seqE 0 m_Job___eq__ [.str a, .ref n] [.str b, .ref n'] h) _
  unfold seqE
  rw [elE_str]
  cases q : decide (a = b) with
  | false =>
    simp only [Res.bind, Bool.false_and]
    exact ⟨rfl, .refl⟩
  | true =>
    simp only [Res.bind, Bool.true_and]
    unfold seqE
    show Rt ((elE 0 m_Job___eq__ (.ref n) (.ref n') h).bind _) _
    rw [rt_bind]
    refine (elE_job e e').imp ?_
    rintro z h' ⟨rfl, sb⟩
    cases q2 : sameJ r r' with
    | false => exact ⟨rfl, sb⟩
    | true =>
      unfold seqE
      exact ⟨rfl, sb⟩
def sameT : List NR → List NR → Bool
  | x :: xs, y :: ys => (decide (x.1 = y.1) && sameJ x.2 y.2) && sameT xs ys
  | [], [] => true
  | _, _ => false
theorem sameT_self : ∀ rows : List NR, sameT rows rows = true
  | [] => rfl
  | x :: xs => by simp [sameT, sameJ_self, sameT_self xs]
theorem sameT_drop {i : Nat} {x y : NR} (ex : rows[i]? = some x) (ey : rows'[i]? = some y) : sameT (rows.drop i) (rows'.drop i) = ((decide (x.1 = y.1) && sameJ x.2 y.2) && sameT (rows.drop (i + 1)) (rows'.drop (i + 1))) := by
  obtain ⟨h1, e1⟩ := List.getElem?_eq_some_iff.mp ex
  obtain ⟨h2, e2⟩ := List.getElem?_eq_some_iff.mp ey
  rw [List.drop_eq_getElem_cons h1, List.drop_eq_getElem_cons h2, e1, e2]
  rfl
def entT (e : Ent) : MV := .tup [.str e.1, .ref e.2]
theorem lstE_rt {p q N : Nat} {es fs : List Ent} (hl : rows.length = N) (hl' : rows'.length = N) (le : es.length = N) (le' : fs.length = N) : ∀ (d i : Nat) (h : MH), i + d = N → h.get p = some (.lst (es.map entT)) → h.get q = some (.lst (fs.map entT)) →
    (∀ (k : Nat) (e : Ent) (x : NR), es[k]? = some e → rows[k]? = some x → e.1 = x.1 ∧ h.get e.2 = some (jobO x.2)) → (∀ (k : Nat) (e : Ent) (x : NR), fs[k]? = some e → rows'[k]? = some x → e.1 = x.1 ∧ h.get e.2 = some (jobO x.2)) →
    Rt (lstE 0 m_Job___eq__ p q N d i h) fun b h' => b = sameT (rows.drop i) (rows'.drop i) ∧ Sub h h' := by
  have two : ∀ h : MH, h.get p = some (.lst (es.map entT)) → h.get q = some (.lst (fs.map entT)) → twoL p q N h = some (es.map entT, fs.map entT) := fun h e1 e2 => by
    unfold twoL
    rw [e1, e2]
    dsimp only
    rw [List.length_map, List.length_map, le, le', Nat.beq_refl]
    rfl
  intro d
  induction d with
  | zero =>
    intro i h hi e1 e2 j1 j2
    unfold lstE
    rw [two h e1 e2]
    have : i = N := by omega
    subst this
    rw [List.drop_of_length_le (by omega), List.drop_of_length_le (by omega)]
    exact ⟨rfl, .refl⟩
  | succ d ih =>
    intro i h hi e1 e2 j1 j2
    unfold lstE
    rw [two h e1 e2]
    dsimp only
    have l1 : i < rows.length := by omega
    have l2 : i < rows'.length := by omega
    have l3 : i < es.length := by omega
    have l4 : i < fs.length := by omega
    obtain ⟨a1, a2⟩ := j1 i _ _ (List.getElem?_eq_getElem l3) (List.getElem?_eq_getElem l1)
    obtain ⟨b1, b2⟩ := j2 i _ _ (List.getElem?_eq_getElem l4) (List.getElem?_eq_getElem l2)
    rw [List.getElem?_map, List.getElem?_map, List.getElem?_eq_getElem l3, List.getElem?_eq_getElem l4]
    dsimp only [Option.map, entT]
    rw [rt_bind]
    refine (itE_rt a2 b2).imp ?_
    rintro z h1 ⟨rfl, sb⟩
    rw [sameT_drop (List.getElem?_eq_getElem l1) (List.getElem?_eq_getElem l2), a1, b1]
    cases w : (decide (rows[i].1 = rows'[i].1) && sameJ rows[i].2 rows'[i].2) with
    | true =>
      rw [Bool.true_and]
      refine (ih (i + 1) h1 (by omega) (sb _ _ e1) (sb _ _ e2) (fun k e x u v => ⟨(j1 k e x u v).1, sb _ _ (j1 k e x u v).2⟩) (fun k e x u v => ⟨(j2 k e x u v).1, sb _ _ (j2 k e x u v).2⟩)).imp ?_
      rintro b h2 ⟨rfl, sb2⟩
      exact ⟨rfl, sb.trans sb2⟩
    | false =>
      rw [Bool.false_and]
      show Rt (match twoL p q N h1 with
        | some _ => .ok false h1
        | none => .bad) _
      rw [two h1 (sb _ _ e1) (sb _ _ e2)]
      exact ⟨rfl, sb⟩
theorem tab_parts {q : Nat} {es : List Ent} (e1 : h.get t = some (.ins 1 [(4, .ref q)])) (e2 : h.get q = some (.dct false false (es.map entK))) : m_Timetable_all_parts [.ref t] h = .ok (.ref h.n) (h.push (.lst (es.map entT))) := by
  apply Rt.eq
  unfold m_Timetable_all_parts
  simp -implicitDefEqProofs [fld_eq (f := 4) e1 rfl, listItems_eq e2]
  refine congrArg (fun z => h.push (.lst z)) ?_
  simp [entK, entT]
/-- t == t' -/
theorem tab_eq_rt (T : Tab h t rows) (T' : Tab h t' rows') (hl : rows.length = rows'.length) : Rt (m_Timetable___eq__ [.ref t, .ref t'] h) fun v h' => v = .bl (sameT rows rows') ∧ Sub h h' := by
  obtain ⟨q, es, a1, a2, a3, a4⟩ := T
  obtain ⟨q', fs, b1, b2, b3, b4⟩ := T'
  unfold m_Timetable___eq__
  simp -implicitDefEqProofs [isi_ins (k := 11) b1 (by decide), tab_parts a1 a2, isIns_of_get a1]
  have s1 : Sub h (h.push (.lst (es.map entT))) := Sub.push
  simp -implicitDefEqProofs [tab_parts (s1 _ _ b1) (s1 _ _ b2), isIns_of_get (s1 _ _ b1)]
  have s2 : Sub h ((h.push (.lst (es.map entT))).push (.lst (fs.map entT))) := s1.trans Sub.push
  have p1 : ((h.push (.lst (es.map entT))).push (.lst (fs.map entT))).get h.n = some (.lst (es.map entT)) := MH.push_of (MH.push_same _ _)
  have p2 : ((h.push (.lst (es.map entT))).push (.lst (fs.map entT))).get (h.n + 1) = some (.lst (fs.map entT)) := MH.push_same _ _
  unfold qEqD
  dsimp only
  rw [p1]
  dsimp only
  rw [rt_bind, List.length_map]
  refine (lstE_rt (rows := rows) (rows' := rows') a3.symm (by omega) rfl (by omega) es.length 0 _ (by omega) p1 p2 (fun k e x u v => ⟨(a4 k e x u v).1, s2 _ _ (a4 k e x u v).2⟩) (fun k e x u v => ⟨(b4 k e x u v).1, s2 _ _ (b4 k e x u v).2⟩)).imp ?_
  rintro b h' ⟨rfl, sb⟩
  exact ⟨rfl, s2.trans sb⟩
end
end KA

set_option linter.all false
/-! CSpec3: pairs, what is free, all shifts, free shifts. -/
namespace KA
section
variable {h : MH} {t : Nat} {rows : List NR}
/-! ### pairs -/
/-- the pairs whose first one stands before i -/
def prsTo {α : Type} (rows : List α) (i : Nat) : List (α × α) := (List.range i).flatMap fun k => match rows[k]? with
  | some x => (rows.drop (k + 1)).map fun y => (x, y)
  | none => []
theorem prsTo_succ {α : Type} {rows : List α} {i : Nat} {x : α} (e : rows[i]? = some x) : prsTo rows (i + 1) = prsTo rows i ++ (rows.drop (i + 1)).map fun y => (x, y) := by
  unfold prsTo
  rw [List.range_succ, List.flatMap_append]
  simp [e]
def prs {α : Type} (rows : List α) : List (α × α) := prsTo rows rows.length
theorem prs_mem {α : Type} {rows : List α} {p : α × α} (hp : p ∈ prs rows) : ∃ i j : Nat, i < j ∧ rows[i]? = some p.1 ∧ rows[j]? = some p.2 := by
  unfold prs prsTo at hp
  obtain ⟨k, hk, hp⟩ := List.mem_flatMap.mp hp
  cases e : rows[k]? with
  | none => rw [e] at hp; cases hp
  | some x =>
    rw [e] at hp
    obtain ⟨y, hy, rfl⟩ := List.mem_map.mp hp
    obtain ⟨j, hj, ej⟩ := List.mem_iff_getElem.mp hy
    refine ⟨k, k + 1 + j, by omega, e, ?_⟩
    rw [← List.getElem?_drop, List.getElem?_eq_getElem hj, ej]
theorem prs_len {α : Type} (rows : List α) (h4 : rows.length ≤ 4) : (prs rows).length ≤ 16 := by
  have key : ∀ i, (prsTo rows i).length ≤ 4 * i := by
    intro i
    induction i with
    | zero => simp [prsTo]
    | succ i ih =>
      unfold prsTo at ih ⊢
      rw [List.range_succ, List.flatMap_append, List.length_append]
      have : ([i].flatMap fun k => match rows[k]? with
        | some x => (rows.drop (k + 1)).map fun y => (x, y)
        | none => []).length ≤ 4 := by
        simp only [List.flatMap_cons, List.flatMap_nil, List.append_nil]
        cases rows[i]? with
        | none => simp
        | some x => simp; omega
      omega
  have := key rows.length
  unfold prs
  omega
def namV (p : NR × NR) : MV := .tup [.str p.1.1, .str p.2.1]
theorem keys_eq {es : List Ent} (hl : es.length = rows.length) (he : ∀ (i : Nat) (e : Ent) (x : NR), es[i]? = some e → rows[i]? = some x → e.1 = x.1 ∧ h.get e.2 = some (jobO x.2)) : (es.map entK).map (·.1) = rows.map fun x => MV.str x.1 := by
  have := names_eq hl he
  have e2 : (es.map (·.1)).map MV.str = (rows.map (·.1)).map MV.str := by rw [this]
  rw [List.map_map, List.map_map] at e2
  rw [List.map_map]
  exact e2
theorem pairs_rt (T : Tab h t rows) (O : TOk rows) : Rt (m_pairs_of [.ref t] h) fun v h' => ∃ n, v = .ref n ∧ h'.get n = some (.lst ((prs rows).map namV)) ∧ Sub h h' := by
  unfold m_pairs_of
  obtain ⟨q, es, e1, e2, e3, e4⟩ := T
  have l4 := O.l4
  have ek := keys_eq e3 e4
  have el : qListOf [.ref q] h = .ok (.ref h.n) (h.push (.lst (rows.map fun x => .str x.1))) := by
    show qListOf1 (.ref q) h = _
    unfold qListOf1
    simp only [e2]
    rw [ek]
  simp -implicitDefEqProofs [fld_eq (f := 4) e1 rfl, el, asg, -Prod.exists, -Prod.forall]
  refine ⟨_, MH.push_same _ _, ?_⟩
  rw [List.length_map]
  have sb0 : Sub h (h.push (.lst (rows.map fun x => MV.str x.1))) := Sub.push
  have ep : (h.push (.lst (rows.map fun x => MV.str x.1))).get h.n = some (.lst (rows.map fun x => MV.str x.1)) := MH.push_same _ _
  generalize h.push (.lst (rows.map fun x => MV.str x.1)) = h1 at ep sb0
  refine acc_inv (w := wkE (wkL h.n rows.length)) (fun i (a : Nat × List MV) h' => Sub h1 h' ∧ a.1 ≤ 4 * i ∧ a.2 = ((prsTo rows i).map namV).reverse) ⟨.refl, by simp, rfl⟩ ?_ ?_
  · rintro i ⟨k, l⟩ h' hi ⟨sb, hk, rfl⟩
    have hi' : i < rows.length := hi
    have ex : rows[i]? = some rows[i] := List.getElem?_eq_getElem hi'
    have ev : (rows.map fun x => MV.str x.1)[i]? = some (.str rows[i].1) := by rw [List.getElem?_map, ex]; rfl
    refine ⟨.tup [.int (i : Nat), .str rows[i].1], _, ?_, rfl, ?_⟩
    · show (match (wkL h.n rows.length).at_ i h' with | some v => some (MV.tup [.int (i : Nat), v]) | none => none) = _
      rw [wkL_at (sb _ _ ep) ev]
    simp -implicitDefEqProofs [slP, seq_ref (sb _ _ ep), -Prod.exists, -Prod.forall]
    have cut : cutM (rows.map fun x => MV.str x.1) (some ((i : Int) + 1)) none = (rows.map fun x => MV.str x.1).drop (i + 1) := cutM_lo _ (i + 1)
    rw [cut]
    refine ⟨_, MH.push_same _ _, ?_⟩
    have ey := MH.push_same h' (.lst ((rows.map fun x => MV.str x.1).drop (i + 1)))
    refine acc_sub ((rows.map fun x => MV.str x.1).drop (i + 1)) (fun _ => true) (fun v => .tup [.str rows[i].1, v]) rfl (by simp at hk ⊢; omega) (fun h2 s j v e => wkL_at (s _ _ ey) e) (fun h2 s => wkL_fin (s _ _ ey)) ?_ ?_
    · intro v hv h2 s
      exact ⟨_, rfl, by simp; exact fun _ _ e => e⟩
    intro k2 h2 hk2 s2
    refine ⟨(sb.trans Sub.push).trans s2, by simp at hk hk2 ⊢; omega, ?_⟩
    rw [List.filter_eq_self.mpr (by simp), prsTo_succ ex, List.map_append, List.reverse_append]
    congr 2
    rw [← List.map_drop, List.map_map, List.map_map]
    rfl
  · rintro ⟨k, l⟩ h' ⟨sb, hk, rfl⟩
    refine ⟨by show (wkL h.n rows.length).fin h' = true; have := wkL_fin (sb _ _ ep); rwa [List.length_map] at this, ?_⟩
    simp -implicitDefEqProofs [-Prod.exists, -Prod.forall]
    exact ⟨MH.push_same _ _, (sb0.trans sb).trans Sub.push⟩
def freeB (rows : List NR) : Bool := (prs rows).all fun p => neverB p.1.2 p.2.2
theorem is_free_rt (T : Tab h t rows) (O : TOk rows) : Rt (m_is_free [.ref t] h) fun v h' => v = .bl (freeB rows) ∧ Sub h h' := by
  unfold m_is_free
  obtain ⟨q, es, e1, e2, e3, e4⟩ := id T
  simp -implicitDefEqProofs [fld_eq (f := 4) e1 rfl, asg, -Prod.exists, -Prod.forall]
  refine (pairs_rt T O).imp ?_
  rintro v h1 ⟨n, rfl, en, sb⟩
  refine ⟨n, rfl, _, en, ?_⟩
  have T1 := T.sub sb
  have lp := prs_len rows O.l4
  rw [List.length_map]
  refine acc_ix (prs rows).length (fun _ => true) (fun i => match (prs rows)[i]? with
    | some p => .bl (neverB p.1.2 p.2.2)
    | none => .non) rfl (by omega) (fun h' s => by have := wkL_fin (s _ _ en); rwa [List.length_map] at this) (fun i hi h' s => ?_) ?_
  · have ex : (prs rows)[i]? = some (prs rows)[i] := List.getElem?_eq_getElem hi
    obtain ⟨a, b, hab, ea, eb⟩ := prs_mem (List.getElem_mem hi)
    have T2 := T1.sub s
    obtain ⟨ja, Aa⟩ := T2.at_ O (List.mem_of_getElem? ea)
    obtain ⟨jb, Ab⟩ := T2.at_ O (List.mem_of_getElem? eb)
    have oa := O.ok _ (List.mem_of_getElem? ea)
    have ob := O.ok _ (List.mem_of_getElem? eb)
    refine ⟨namV (prs rows)[i], _, wkL_at (s _ _ en) (by rw [List.getElem?_map, ex]; rfl), rfl, ?_⟩
    obtain ⟨qa, ka, a1, a2, a3⟩ := Aa.tab
    have e1' := sb.trans s _ _ e1
    rw [e1'] at a1
    cases a1
    obtain ⟨qb, kb, b1, b2, b3⟩ := Ab.tab
    rw [e1'] at b1
    cases b1
    rw [ex]
    simp -implicitDefEqProofs [dget_eq (k := .str (prs rows)[i].1.1) a2 rfl a3, dget_eq (k := .str (prs rows)[i].2.1) b2 rfl b3, never_eq Aa.job Ab.job oa ob]
    exact fun _ _ e => e
  · intro k h' hk s
    rw [List.append_nil, List.reverse_reverse]
    have hb : ((List.range (prs rows).length).filter (fun _ => true)).map (fun i => match (prs rows)[i]? with
        | some p => MV.bl (neverB p.1.2 p.2.2)
        | none => .non) = ((prs rows).map fun p => neverB p.1.2 p.2.2).map MV.bl := by
      rw [List.filter_eq_self.mpr (by simp), List.map_map]
      exact range_map (prs rows) _ (fun p => MV.bl (neverB p.1.2 p.2.2)) fun i p e => by simp only [e]
    rw [hb, qBls_eq (g := allB) (seq_ref (MH.push_same _ _)) (bls_map _)]
    refine ⟨?_, (sb.trans s).trans Sub.push⟩
    simp [allB, freeB, List.all_map]
end
end KA

set_option linter.all false
/-! CSpec4: all shifts, free shifts. -/
namespace KA
section
variable {h : MH} {t : Nat} {rows : List NR}
def stepSh (found : List (List Int)) (c : Int) : List (List Int) := found.flatMap fun one => (List.range c.toNat).map fun s : Nat => one ++ [(s : Int)]
def allSh (rows : List NR) : List (List Int) := rows.foldl (fun f x => stepSh f x.2.c) [[]]
theorem allSh_succ {i : Nat} {x : NR} (e : rows[i]? = some x) : allSh (rows.take (i + 1)) = stepSh (allSh (rows.take i)) x.2.c := by
  unfold allSh
  rw [List.take_add_one, e, List.foldl_append]
  rfl
theorem stepSh_len (f : List (List Int)) {c : Int} (hc : c ≤ 12) : (stepSh f c).length ≤ f.length * 12 := by
  unfold stepSh
  induction f with
  | nil => simp
  | cons x xs ih =>
    rw [List.flatMap_cons, List.length_append, List.length_map, List.length_range, List.length_cons]
    omega
theorem allSh_len (O : TOk rows) : ∀ i, i ≤ rows.length → (allSh (rows.take i)).length ≤ 12 ^ i
  | 0, _ => by simp [allSh]
  | i + 1, hi => by
    have ex : rows[i]? = some rows[i] := List.getElem?_eq_getElem (by omega)
    rw [allSh_succ ex]
    have h1 := stepSh_len (allSh (rows.take i)) (O.ok _ (List.mem_of_getElem? ex)).c2
    have h2 := allSh_len O i (by omega)
    rw [Nat.pow_succ]
    omega
theorem allSh_len4 (O : TOk rows) : (allSh rows).length ≤ 20736 := by
  have := allSh_len O rows.length (Nat.le_refl _)
  rw [List.take_length] at this
  have h4 := O.l4
  have : rows.length = 0 ∨ rows.length = 1 ∨ rows.length = 2 ∨ rows.length = 3 ∨ rows.length = 4 := by omega
  rcases this with q | q | q | q | q <;> (rw [q] at this; omega)
theorem allSh_ok (O : TOk rows) : ∀ i, i ≤ rows.length → ∀ l ∈ allSh (rows.take i), ShOk (rows.take i) l
  | 0, _, l, hl => by
    simp [allSh] at hl
    subst hl
    exact ⟨by simp, fun i x s e => by simp at e⟩
  | i + 1, hi, l, hl => by
    have ex : rows[i]? = some rows[i] := List.getElem?_eq_getElem (by omega)
    rw [allSh_succ ex] at hl
    unfold stepSh at hl
    obtain ⟨one, ho, hl⟩ := List.mem_flatMap.mp hl
    obtain ⟨s, hs, rfl⟩ := List.mem_map.mp hl
    have S := allSh_ok O i (by omega) one ho
    have hs' := List.mem_range.mp hs
    have hlen : one.length = i := by have := S.len; rw [List.length_take] at this; omega
    have hc := (O.ok _ (List.mem_of_getElem? ex)).c1
    refine ⟨by rw [List.length_append, hlen, List.length_take]; simp; omega, fun k x z e1 e2 => ?_⟩
    have hk : k < i + 1 := by have := (List.getElem?_eq_some_iff.mp e1).1; rw [List.length_take] at this; omega
    rw [List.getElem?_take_of_lt hk] at e1
    by_cases c : k < i
    · rw [List.getElem?_append_left (by omega)] at e2
      exact S.ok k x z (by rw [List.getElem?_take_of_lt c]; exact e1) e2
    · have : k = i := by omega
      subst this
      rw [List.getElem?_append_right (by omega), hlen] at e2
      simp at e2
      subst e2
      rw [ex] at e1
      cases e1
      omega
theorem allSh_all (O : TOk rows) {l : List Int} (hl : l ∈ allSh rows) : ShOk rows l := by
  have := allSh_ok O rows.length (Nat.le_refl _) l (by rw [List.take_length]; exact hl)
  rwa [List.take_length] at this
theorem shV_snoc (l : List Int) (s : Int) : MV.tup (l.map MV.int ++ [.int s]) = shV (l ++ [s]) := by simp [shV]
/-- [(*one, shift) for one in found for shift in range(c)] -/
theorem step_rt {n : Nat} {found : List (List Int)} {c : Int} {w : EM} {s0 s2 s3 s4 : Option MV} {Q : MV → MH → Prop} (en : h.get n = some (.lst (found.map shV))) (hf : found.length ≤ 100000) (hfl : ∀ l ∈ found, l.length ≤ 100) (hc1 : 1 ≤ c) (hc : c ≤ 12) (ew : ∀ v3, w [s0, some (.ref n), s2, v3, none] h = .ok (.int c) h)
    (hq : Q (.ref h.n) (h.push (.lst ((stepSh found c).map shV)))) : Rt (eLc2 (wSeq (eV 1)) (.nm 3) cYes (wRng1 w) (.nm 4) cYes (eA qTup (aStar (eV 3) (aCons (eV 4) aNil))) [3, 4] [4] [s0, some (.ref n), s2, s3, s4] h) Q := by
  rw [rt_eLc2]
  simp -implicitDefEqProofs
  refine ⟨_, en, ?_⟩
  rw [List.length_map]
  refine acc_inv (w := wkL n found.length) (fun i (a : Nat × List MV) h' => h' = h ∧ a.1 ≤ 12 * i ∧ a.2 = ((stepSh (found.take i) c).map shV).reverse) ⟨rfl, by simp, by simp [stepSh]⟩ ?_ ?_
  · rintro i ⟨k, l⟩ h' hi ⟨rfl, hk, rfl⟩
    have hi' : i < found.length := hi
    have ex : found[i]? = some found[i] := List.getElem?_eq_getElem hi'
    have ev : (found.map shV)[i]? = some (shV found[i]) := by rw [List.getElem?_map, ex]; rfl
    refine ⟨shV found[i], _, wkL_at en ev, rfl, ?_⟩
    have rg : rgOk c = true := rgOk_of (by omega) (by omega)
    have hk' : k ≤ 12 * i := hk
    have hl1 := hfl _ (List.getElem_mem hi')
    simp -implicitDefEqProofs [ew, rg]
    refine acc_pix (w := wkR 0 c.toNat) (h := h') c.toNat (fun _ => true) (fun j => shV (found[i] ++ [(j : Int)])) rfl (by omega) rfl (fun j hj => ?_) fun k2 hk2 => ?_
    · refine ⟨.int (0 + (j : Int)), _, rfl, rfl, ?_⟩
      simp -implicitDefEqProofs [shV, show found[i].length ≤ 16777215 by omega]
    · refine ⟨rfl, by omega, ?_⟩
      rw [List.filter_eq_self.mpr (by simp), List.take_add_one, ex]
      unfold stepSh
      rw [List.flatMap_append, List.map_append, List.reverse_append]
      simp [List.map_map, Function.comp_def]
  · rintro ⟨k, l⟩ h' ⟨rfl, hk, rfl⟩
    have := wkL_fin en
    rw [List.length_map] at this
    refine ⟨this, ?_⟩
    rw [show (wkL n found.length).n = found.length from rfl, List.take_length, List.reverse_reverse]
    exact hq
theorem all_shifts_rt (T : Tab h t rows) (O : TOk rows) : Rt (m_all_shifts [.ref t] h) fun v h' => ∃ n, v = .ref n ∧ h'.get n = some (.lst ((allSh rows).map shV)) ∧ Sub h h' := by
  unfold m_all_shifts
  obtain ⟨q, es, e1, e2, L, un⟩ := T.lock
  have l4 := O.l4
  have le := L.len
  simp -implicitDefEqProofs [asg, -Prod.exists, -Prod.forall]
  have e1' : (h.push (.lst [.tup []])).get t = some (.ins 1 [(4, .ref q)]) := MH.push_of e1
  have T1 : Tab (h.push (.lst [.tup []])) t rows := T.sub Sub.push
  obtain ⟨q', es', e1'', e2', L', un'⟩ := T1.lock
  rw [e1'] at e1''
  cases e1''
  have le' := L'.len
  have en0 : (h.push (.lst [.tup []])).get h.n = some (.lst [.tup []]) := MH.push_same _ _
  have s0 : Sub h (h.push (.lst [.tup []])) := Sub.push
  generalize h.push (.lst [.tup []]) = h1 at e1' e2' L' un' en0 s0
  refine oc_lock (fld_fp (i := 0) rfl e1' rfl) e2' ?_
  have nq : h.n ≠ q := fun z => by rw [z, e2'] at en0; cases en0
  have en1 : (h1.set q (.dct false true (es'.map entK))).get h.n = some (.lst [.tup []]) := by rw [MH.set_ne nq]; exact en0
  generalize h1.set q (.dct false true (es'.map entK)) = hl0 at L' un' en1
  rw [oc_for]
  simp -implicitDefEqProofs [fld_eq (f := 4) L'.et rfl, -Prod.exists, -Prod.forall]
  refine ⟨_, L'.eq, ?_⟩
  rw [List.length_map]
  refine for_inv (w := wkD 1 q es'.length) (fun i σ h' => ∃ n v2 v3 v4, σ = [some (.ref t), some (.ref n), v2, v3, v4] ∧ h'.get n = some (.lst ((allSh (rows.take i)).map shV)) ∧ Sub hl0 h') ⟨h.n, _, _, _, rfl, by simpa [allSh, shV] using en1, .refl⟩ ?_ ?_
  · rintro i σ h' hi ⟨n, v2, v3, v4, rfl, en, sb⟩
    have hi' : i < rows.length := by have : i < es'.length := hi; omega
    have ex : rows[i]? = some rows[i] := List.getElem?_eq_getElem hi'
    obtain ⟨j, w1, w2⟩ := (L'.sub sb).walk (k := 1) ex
    rw [List.length_map] at w1
    have o := O.ok _ (List.mem_of_getElem? ex)
    refine ⟨_, _, w1, rfl, ?_⟩
    rw [oc_asg]
    have hlen := allSh_len O i (by omega)
    have h12 : 12 ^ i ≤ 20736 := by
      have : i = 0 ∨ i = 1 ∨ i = 2 ∨ i = 3 := by omega
      rcases this with z | z | z | z <;> (rw [z]; decide)
    refine step_rt (c := rows[i].2.c) en (by omega) (fun l hl => ?_) o.c1 o.c2 (fun v3 => ?_) ?_
    · have := (allSh_ok O i (by omega) l hl).len
      rw [List.length_take] at this
      omega
    · apply Rt.eq
      simp -implicitDefEqProofs [entM, j_c w2]
    · simp -implicitDefEqProofs [asg]
      refine ⟨?_, sb.trans Sub.push⟩
      rw [allSh_succ ex]
      exact MH.push_same _ _
  · rintro σ h' ⟨n, v2, v3, v4, rfl, en, sb⟩
    refine ⟨by have := wkD_fin (k := 1) (sb _ _ L'.eq); rwa [List.length_map] at this, es'.map entK, sb _ _ L'.eq, ?_⟩
    have et : rows.take (wkD 1 q es'.length).n = rows := by rw [wkD_n, le', List.take_length]
    rw [et] at en
    have nn : n ≠ q := fun z => by rw [z, sb _ _ L'.eq] at en; cases en
    simp -implicitDefEqProofs
    exact ⟨by rw [MH.set_ne nn]; exact en, s0.trans (un' _ sb)⟩
theorem free_shifts_rt (T : Tab h t rows) (O : TOk rows) : Rt (m_free_shifts [.ref t] h) fun v h' => ∃ n, v = .ref n ∧ h'.get n = some (.lst (((allSh rows).filter fun l => freeB (shRows rows l)).map shV)) ∧ Sub h h' := by
  unfold m_free_shifts
  obtain ⟨q, es, e1, _⟩ := id T
  simp -implicitDefEqProofs [check_tab e1, -Prod.exists, -Prod.forall]
  refine (all_shifts_rt T O).imp ?_
  rintro v h1 ⟨n, rfl, en, sb⟩
  refine ⟨n, rfl, _, en, ?_⟩
  have T1 := T.sub sb
  have lp := allSh_len4 O
  rw [List.length_map]
  refine acc_ix (allSh rows).length (fun i => match (allSh rows)[i]? with
    | some l => freeB (shRows rows l)
    | none => false) (fun i => match (allSh rows)[i]? with
    | some l => shV l
    | none => .non) rfl (by omega) (fun h' s => by have := wkL_fin (s _ _ en); rwa [List.length_map] at this) (fun i hi h' s => ?_) ?_
  · have ex : (allSh rows)[i]? = some (allSh rows)[i] := List.getElem?_eq_getElem hi
    have S := allSh_all O (List.getElem_mem hi)
    refine ⟨shV (allSh rows)[i], _, wkL_at (s _ _ en) (by rw [List.getElem?_map, ex]; rfl), rfl, ?_⟩
    rw [ex]
    simp -implicitDefEqProofs [-Prod.exists, -Prod.forall]
    refine (after_rt (T1.sub s) O S).imp ?_
    rintro v h2 ⟨u, rfl, T2, s2⟩
    refine (is_free_rt T2 (O.sh S)).imp ?_
    rintro v h3 ⟨rfl, s3⟩
    exact ⟨rfl, s2.trans s3, fun _ => .refl⟩
  · intro k h' hk s
    rw [List.append_nil, List.reverse_reverse]
    refine ⟨?_, (sb.trans s).trans Sub.push⟩
    rw [MH.push_same, range_filter (allSh rows) _ _ (fun l => freeB (shRows rows l)) shV (fun i x e => by simp only [e]) (fun i x e => by simp only [e])]
end
end KA

set_option linter.all false
/-! CSpec5: the laws' own functions: shifted rows, what is free, prices, all shifts; == of lists of data. -/
namespace KA
section
variable {h : MH} {p : Nat} {rows : List NR}
theorem all2_self {f : MV → MV → Bool} : ∀ {xs : List MV}, (∀ x ∈ xs, f x x = true) → all2 f xs xs = true
  | [], _ => rfl
  | x :: xs, hx => by
    unfold all2
    rw [hx x (List.mem_cons_self ..)]
    exact all2_self fun y hy => hx y (List.mem_cons_of_mem _ hy)
/-- plain data: a str, a tuple of ints -/
def PD (v : MV) : Prop := (∃ s, v = .str s ∧ sOk s = true) ∨ ∃ l : List Int, v = shV l
theorem PD.data {v : MV} (d : PD v) (f : Nat) (h : MH) : dataB (f + 2) h v = true := by
  rcases d with ⟨s, rfl, hs⟩ | ⟨l, rfl⟩
  · exact hs
  · show (l.map MV.int).all (dataB (f + 1) h) = true
    rw [List.all_eq_true]
    intro x hx
    obtain ⟨i, _, rfl⟩ := List.mem_map.mp hx
    rfl
theorem PD.self {v : MV} (d : PD v) (f : Nat) (h : MH) : eqB (f + 2) h v v = true := by
  rcases d with ⟨s, rfl, hs⟩ | ⟨l, rfl⟩
  · show beqN s s = true
    rw [beqN_eq]; simp
  · show all2 (eqB (f + 1) h) (l.map MV.int) (l.map MV.int) = true
    refine all2_self fun x hx => ?_
    obtain ⟨i, _, rfl⟩ := List.mem_map.mp hx
    simp [eqB]
/-- two lists of the same data -/
theorem ne_same {a b : Nat} {xs : List MV} (ea : h.get a = some (.lst xs)) (eb : h.get b = some (.lst xs)) (hx : ∀ x ∈ xs, PD x) : qNe (.ref a) (.ref b) h = .ok (.bl false) h := by
  unfold qNe
  have d : ∀ n, h.get n = some (.lst xs) → dataB 9 h (.ref n) = true := fun n en => by
    unfold dataB
    simp only [en]
    rw [List.all_eq_true]
    exact fun x m => (hx x m).data 6 h
  rw [d a ea, d b eb]
  have e : eqB 9 h (.ref a) (.ref b) = true := by
    unfold eqB
    simp only [seq_ref ea, seq_ref eb]
    exact all2_self fun x m => (hx x m).self 6 h
  rw [e]
  rfl
/-! ### rows with other starts -/
theorem bmoved_rt {l : List Int} (O : ∀ x ∈ rows, x.2.Ok) (h4 : rows.length ≤ 4) (S : ShOk rows l) (ep : h.get p = some (.lst (rows.map rowB))) : Rt (m__law_moved_2 [.ref p, shV l] h) fun v h' => ∃ q, v = .ref q ∧ h'.get q = some (.lst ((shRows rows l).map rowB)) ∧ Sub h h' := by
  unfold m__law_moved_2
  have hl := S.len
  simp -implicitDefEqProofs [shV]
  rw [rt_wZipG]
  simp -implicitDefEqProofs [srcM_tup, srcM_lst ep]
  have hn : (wkL p rows.length).n = (wkT (l.map MV.int)).n := by simp; omega
  refine acc_pix rows.length (fun _ => true) (fun i => match (shRows rows l)[i]? with
    | some y => rowB y
    | none => .non) (by rw [wkZ_n hn]; rfl) (by omega) (wkZ_fin hn (by have := wkL_fin ep; rwa [List.length_map] at this)) (fun i hi => ?_) fun k hk => ?_
  · obtain ⟨x, s, ex, es, s0, s1⟩ := S.get hi
    have o := O x (List.mem_of_getElem? ex)
    have hc : 0 < x.2.c := by have := o.c1; omega
    refine ⟨_, _, wkZ_at (wkL_at ep (by rw [List.getElem?_map, ex]; rfl)) (shV_at es h), rfl, ?_⟩
    rw [shRows_at ex es]
    simp [rowB, slP, cutM, sIxM, qAdd, mod_int h hc, qIx, atM, ixM, shiftR]
  · rw [List.append_nil, List.reverse_reverse, List.filter_eq_self.mpr (by simp)]
    refine ⟨?_, Sub.push⟩
    rw [MH.push_same]
    have := range_map (shRows rows l) (fun i => match (shRows rows l)[i]? with
      | some y => rowB y
      | none => .non) rowB fun i y e => by simp only [e]
    rw [shRows_len S] at this
    rw [this]
/-- the cost of shifts -/
theorem bprice_rt {l : List Int} (O : ∀ x ∈ rows, x.2.Ok) (h4 : rows.length ≤ 4) (S : ShOk rows l) (ep : h.get p = some (.lst (rows.map rowB))) : Rt (m__law_price_1 [.ref p, shV l] h) fun v h' => v = .int (costR rows l) ∧ Sub h h' := by
  unfold m__law_price_1
  have hl := S.len
  simp -implicitDefEqProofs [shV]
  rw [rt_wZipG]
  simp -implicitDefEqProofs [srcM_tup, srcM_lst ep]
  have hn : (wkL p rows.length).n = (wkT (l.map MV.int)).n := by simp; omega
  refine acc_pix rows.length (fun _ => true) (fun i => match (rows.zip l)[i]? with
    | some y => .int (y.2 * y.1.2.g)
    | none => .non) (by rw [wkZ_n hn]; rfl) (by omega) (wkZ_fin hn (by have := wkL_fin ep; rwa [List.length_map] at this)) (fun i hi => ?_) fun k hk => ?_
  · obtain ⟨x, s, ex, es, s0, s1⟩ := S.get hi
    have o := O x (List.mem_of_getElem? ex)
    have g1 := o.g1
    have g2 := o.g2
    refine ⟨_, _, wkZ_at (wkL_at ep (by rw [List.getElem?_map, ex]; rfl)) (shV_at es h), rfl, ?_⟩
    rw [List.getElem?_zip_eq_some.mpr (show rows[i]? = some (x, s).1 ∧ l[i]? = some (x, s).2 from ⟨ex, es⟩)]
    simp -implicitDefEqProofs [mul_l (i := x.2.g) (j := s) h (by omega) (by omega), Int.mul_comm]
  · rw [List.append_nil, List.reverse_reverse, List.filter_eq_self.mpr (by simp)]
    have := range_map (rows.zip l) (fun i => match (rows.zip l)[i]? with
      | some y => MV.int (y.2 * y.1.2.g)
      | none => .non) (fun y => MV.int (y.2 * y.1.2.g)) fun i y e => by simp only [e]
    rw [List.length_zip, hl, Nat.min_self] at this
    rw [this, show (rows.zip l).map (fun y => MV.int (y.2 * y.1.2.g)) = ((rows.zip l).map fun y => y.2 * y.1.2.g).map MV.int by rw [List.map_map]; rfl, sum_list (MH.push_same _ _)]
    exact ⟨rfl, Sub.push⟩
/-! ### pairs of rows, what is free -/
def twoB (q : NR × NR) : MV := .tup [rowB q.1, rowB q.2]
theorem bpairsX_rt (ep : h.get p = some (.lst (rows.map rowB))) (hl : rows.length ≤ 4) : Rt (m__law_pairs_1 [.ref p] h) fun v h' => ∃ q : Nat, v = .ref q ∧ h'.get q = some (.lst ((prs rows).map twoB)) ∧ Sub h h' := by
  unfold m__law_pairs_1
  simp -implicitDefEqProofs [asg, -Prod.exists, -Prod.forall]
  have e1 := MH.push_of (o := .lst []) ep
  refine ⟨_, e1, ?_⟩
  rw [List.length_map]
  refine for_inv (w := wkE (wkL p rows.length)) (fun i σ h' => ∃ (q : Nat) (v2 v3 v4 : Option MV), σ = [some (.ref p), some (.ref q), v2, v3, v4] ∧ h'.get q = some (.lst ((prsTo rows i).map twoB)) ∧ (prsTo rows i).length ≤ 4 * i ∧ Sub h h')
    ⟨h.n, _, _, _, rfl, MH.push_same _ _, by simp [prsTo], Sub.push⟩ ?_ ?_
  · rintro i σ h3 hi ⟨q, v2, v3, v4, rfl, eL, hLl, sb⟩
    have hi' : i < rows.length := hi
    have ex : rows[i]? = some rows[i] := List.getElem?_eq_getElem hi'
    have ek := sb _ _ ep
    have ev : (rows.map rowB)[i]? = some (rowB rows[i]) := by rw [List.getElem?_map, ex]; rfl
    refine ⟨.tup [.int (i : Nat), rowB rows[i]], _, ?_, rfl, ?_⟩
    · show (match (wkL p rows.length).at_ i h3 with | some v => some (MV.tup [.int (i : Nat), v]) | none => none) = _
      rw [wkL_at ek ev]
    simp -implicitDefEqProofs [slP, seq_ref ek, -Prod.exists, -Prod.forall]
    have cut : cutM (rows.map rowB) (some ((i : Int) + 1)) none = (rows.map rowB).drop (i + 1) := cutM_lo _ (i + 1)
    rw [cut]
    refine ⟨_, MH.push_same _ _, ?_⟩
    refine acc_pure ((rows.map rowB).drop (i + 1)) (fun _ => true) (fun v => .tup [rowB rows[i], v]) rfl (by simp; omega) (fun j v e => wkL_at (MH.push_same _ _) e) (wkL_fin (MH.push_same _ _)) ?_ ?_
    · intro v hv
      exact ⟨_, rfl, by simp, fun _ => by simp⟩
    intro k
    rw [List.reverse_reverse, List.filter_eq_self.mpr (by simp)]
    rw [add_lst (MH.push_of (MH.push_of eL)) (MH.push_same _ _)]
    have hd : List.map (fun v => MV.tup [rowB rows[i], v]) ((rows.map rowB).drop (i + 1)) = ((rows.drop (i + 1)).map fun y => (rows[i], y)).map twoB := by
      rw [← List.map_drop, List.map_map, List.map_map]; rfl
    rw [hd, ← List.map_append, ← prsTo_succ ex]
    have dl : (prsTo rows (i + 1)).length ≤ 4 * (i + 1) := by
      rw [prsTo_succ ex, List.length_append, List.length_map, List.length_drop]; omega
    refine ⟨?_, _, ⟨_, _, _, rfl⟩, MH.push_same _ _, dl, ?_⟩
    · rw [List.length_map, List.length_map, List.length_map, List.length_drop]; omega
    · exact ((sb.trans Sub.push).trans Sub.push).trans Sub.push
  · rintro σ h3 ⟨q, v2, v3, v4, rfl, eL, hLl, sb⟩
    refine ⟨by show (wkL p rows.length).fin h3 = true; have := wkL_fin (sb _ _ ep); rwa [List.length_map] at this, ?_⟩
    simp -implicitDefEqProofs [-Prod.exists, -Prod.forall]
    exact ⟨eL, sb⟩
theorem isN_optV (a : Option Nat) : qIsN (optV a) .non h = .ok (.bl a.isNone) h := by cases a <;> rfl
theorem bfree_rt (O : ∀ x ∈ rows, x.2.Ok) (hl : rows.length ≤ 4) (ep : h.get p = some (.lst (rows.map rowB))) : Rt (m__law_is_free_0 [.ref p] h) fun v h' => v = .bl (freeB rows) ∧ Sub h h' := by
  unfold m__law_is_free_0
  simp -implicitDefEqProofs [-Prod.exists, -Prod.forall]
  refine (bpairsX_rt ep hl).imp ?_
  rintro v h1 ⟨q, rfl, eq, sb⟩
  refine ⟨q, rfl, _, eq, ?_⟩
  have lp := prs_len rows hl
  rw [List.length_map]
  refine acc_pix (prs rows).length (fun _ => true) (fun i => match (prs rows)[i]? with
    | some z => .bl (neverB z.1.2 z.2.2)
    | none => .non) rfl (by omega) (by have := wkL_fin eq; rwa [List.length_map] at this) (fun i hi => ?_) fun k hk => ?_
  · have ex : (prs rows)[i]? = some (prs rows)[i] := List.getElem?_eq_getElem hi
    obtain ⟨a, b, hab, ea, eb⟩ := prs_mem (List.getElem_mem hi)
    have oa := O _ (List.mem_of_getElem? ea)
    have ob := O _ (List.mem_of_getElem? eb)
    refine ⟨twoB (prs rows)[i], _, wkL_at eq (by rw [List.getElem?_map, ex]; rfl), rfl, ?_⟩
    rw [ex]
    simp -implicitDefEqProofs [-isN_eq, bmeet_eq oa ob, isN_optV, none_never oa ob]
  · rw [List.append_nil, List.reverse_reverse, List.filter_eq_self.mpr (by simp)]
    have hb : (List.range (prs rows).length).map (fun i => match (prs rows)[i]? with
        | some z => MV.bl (neverB z.1.2 z.2.2)
        | none => .non) = ((prs rows).map fun z => neverB z.1.2 z.2.2).map MV.bl := by
      rw [List.map_map]
      exact range_map (prs rows) _ (fun z => MV.bl (neverB z.1.2 z.2.2)) fun i z e => by simp only [e]
    rw [hb, qBls_eq (g := allB) (seq_ref (MH.push_same _ _)) (bls_map _)]
    refine ⟨?_, sb.trans Sub.push⟩
    simp [allB, freeB, List.all_map]
end
end KA

set_option linter.all false
/-! DSpec: desks. -/
namespace KA
/-- a dict that is locked already -/
theorem rt_eLockL {fp e : EM} {σ : Sl} {h : MH} {n : Nat} {tk : Bool} {kvs : List (MV × MV)} {Q : MV → MH → Prop} (ep : fp σ h = .ok (.ref n) h) (en : h.get n = some (.dct tk true kvs)) (q : Rt (e σ h) Q) : Rt (eLock fp e σ h) Q := by
  unfold eLock
  rw [ep]
  dsimp only
  rw [en]
  exact q
theorem oc_lockL {fp : EM} {s : SM} {σ : Sl} {h : MH} {n : Nat} {tk : Bool} {kvs : List (MV × MV)} {P : Po} (ep : fp σ h = .ok (.ref n) h) (en : h.get n = some (.dct tk true kvs)) (q : Oc (s σ h) P) : Oc (jLock fp s σ h) P := by
  unfold jLock
  rw [ep]
  dsimp only
  rw [en]
  exact q
section
variable {h : MH} {t : Nat} {rows : List NR}
/-- locked or not: what holds of the locked heap holds -/
structure TX (h : MH) (t : Nat) (rows : List NR) : Prop where
  ex : ∃ (q : Nat) (es : List Ent) (lk : Bool), h.get t = some (.ins 1 [(4, .ref q)]) ∧ h.get q = some (.dct false lk (es.map entK)) ∧ es.length = rows.length ∧ ∀ (i : Nat) (e : Ent) (x : NR), es[i]? = some e → rows[i]? = some x → e.1 = x.1 ∧ h.get e.2 = some (jobO x.2)
theorem Tab.tx (T : Tab h t rows) : TX h t rows := by
  obtain ⟨q, es, a, b, c, d⟩ := T
  exact ⟨q, es, false, a, b, c, d⟩
theorem TL.tx {q : Nat} {es : List Ent} (L : TL h t q es rows) : TX h t rows := ⟨q, es, true, L.et, L.eq, L.len, L.at_⟩
theorem TX.sub {h' : MH} (T : TX h t rows) (s : Sub h h') : TX h' t rows := by
  obtain ⟨q, es, lk, a, b, c, d⟩ := T.ex
  exact ⟨q, es, lk, s _ _ a, s _ _ b, c, fun i e x u v => ⟨(d i e x u v).1, s _ _ (d i e x u v).2⟩⟩
/-- an expression over the locked lines -/
theorem rt_lines {fp e : EM} {σ : Sl} {Q : MV → MH → Prop} (T : TX h t rows) (ep : ∀ q, h.get t = some (.ins 1 [(4, .ref q)]) → fp σ h = .ok (.ref q) h)
    (k : ∀ h0 q es, TL h0 t q es rows → Rt (e σ h0) fun v h1 => Sub h0 h1 ∧ ∀ h3, Sub h h3 → (∀ a o, h1.get a = some o → a ≠ q → h3.get a = some o) → Q v h3) : Rt (eLock fp e σ h) Q := by
  obtain ⟨q, es, lk, a, b, c, d⟩ := T.ex
  cases lk with
  | true =>
    have L : TL h t q es rows := ⟨a, b, c, d⟩
    refine rt_eLockL (ep q a) b ((k h q es L).imp ?_)
    rintro v h1 ⟨sb, z⟩
    exact z h1 sb fun a o e _ => e
  | false =>
    obtain ⟨q', es', a', b', L, un⟩ := Tab.lock (rows := rows) ⟨q, es, a, b, c, d⟩
    refine rt_eLock (ep q' a') b' ((k _ q' es' L).imp ?_)
    rintro v h1 ⟨sb, z⟩
    refine ⟨es'.map entK, sb _ _ L.eq, z _ (un _ sb) fun a o e ne => ?_⟩
    rw [MH.set_ne ne]; exact e
/-- a statement over the locked lines that falls through -/
theorem oc_lines {fp : EM} {s : SM} {σ : Sl} {P : Po} (T : TX h t rows) (ep : ∀ q, h.get t = some (.ins 1 [(4, .ref q)]) → fp σ h = .ok (.ref q) h)
    (k : ∀ h0 q es, TL h0 t q es rows → (∃ lk, h.get q = some (.dct false lk (es.map entK))) → (∀ a o, a ≠ q → h.get a = some o → h0.get a = some o) → Oc (s σ h0) ⟨fun σ1 h1 => h1.get q = some (.dct false true (es.map entK)) ∧ ∀ h3, (∀ a o, a ≠ q → h1.get a = some o → h3.get a = some o) → (∀ o, h.get q = some o → h3.get q = some o) → P.n σ1 h3, fun _ _ => False, fun _ _ => False, fun _ _ => False⟩) : Oc (jLock fp s σ h) P := by
  obtain ⟨q, es, lk, a, b, c, d⟩ := T.ex
  cases lk with
  | true =>
    have L : TL h t q es rows := ⟨a, b, c, d⟩
    refine oc_lockL (ep q a) b ((k h q es L ⟨_, b⟩ fun _ _ _ e => e).imp ?_ (fun _ _ z => z.elim) (fun _ _ z => z.elim) (fun _ _ z => z.elim))
    rintro σ1 h1 ⟨eq, z⟩
    exact z h1 (fun a o _ e => e) fun o e => by rw [b] at e; cases e; exact eq
  | false =>
    obtain ⟨q', es', a', b', L, un⟩ := Tab.lock (rows := rows) ⟨q, es, a, b, c, d⟩
    refine oc_lock (ep q' a') b' ((k _ q' es' L ⟨_, b'⟩ fun a o ne e => by rw [MH.set_ne ne]; exact e).imp ?_ (fun _ _ z => z.elim) (fun _ _ z => z.elim) (fun _ _ z => z.elim))
    rintro σ1 h1 ⟨eq, z⟩
    refine ⟨es'.map entK, eq, z _ (fun a o ne e => by rw [MH.set_ne ne]; exact e) fun o e => ?_⟩
    rw [b'] at e
    cases e
    exact MH.set_same eq
/-- shifted, the lines locked or not -/
theorem after_rtX (T : TX h t rows) (O : TOk rows) {l : List Int} (S : ShOk rows l) : Rt (m_after_shifts [.ref t, shV l] h) fun v h' => ∃ u, v = .ref u ∧ Tab h' u (shRows rows l) ∧ Sub h h' := by
  unfold m_after_shifts
  have l4 := O.l4
  have hl := S.len
  have hsl := shRows_len S
  simp -implicitDefEqProofs [shV]
  refine make_tabE (h := h) (rows := shRows rows l) ?_ (O.sh S) fun h2 u T2 sb => ⟨u, rfl, T2, sb⟩
  rw [rt_aCons]
  refine rt_lines T (fun q e => fld_fp (i := 0) rfl e rfl) fun hl0 q es L => ?_
  have le := L.len
  rw [rt_eDc, rt_wZipG]
  simp -implicitDefEqProofs [srcM_tup, fld_eq (f := 4) L.et rfl, srcM_dct (k := 2) L.eq, -Prod.forall, -Prod.exists]
  have hn : (wkD 2 q es.length).n = (wkT (l.map MV.int)).n := by simp; omega
  refine acc_inv (fun i (a : Nat × List (MV × MV)) h' => ∃ ns : List Ent, a = (i, ns.map entK) ∧ ns.length = i ∧ (∀ (k : Nat) (e : Ent) (x : NR), ns[k]? = some e → (shRows rows l)[k]? = some x → e.1 = x.1 ∧ h'.get e.2 = some (jobO x.2)) ∧ Sub hl0 h') ⟨[], rfl, rfl, by simp, .refl⟩ ?_ ?_
  · rintro i a h' hi ⟨ns, rfl, hns, hj, sb⟩
    have hi' : i < rows.length := by rw [wkZ_n hn] at hi; have : i < es.length := hi; omega
    obtain ⟨x, s, ex, es', s0, s1⟩ := S.get hi'
    obtain ⟨j, w1, w2⟩ := (L.sub sb).walk (k := 2) ex
    rw [List.length_map] at w1
    have o := O.ok x (List.mem_of_getElem? ex)
    have sx := shRows_at ex es'
    refine ⟨_, _, wkZ_at w1 (shV_at es' h'), rfl, ?_⟩
    simp -implicitDefEqProofs [entM, -Prod.forall, -Prod.exists]
    refine (moved_rt w2 o s0).imp ?_
    rintro v h3 ⟨rfl, ej, sb3, en3⟩
    refine ⟨rfl, by omega, ns ++ [(x.1, h'.n)], ?_, by simp [hns], fun k e y hk hy => ?_, sb.trans sb3⟩
    · rw [dput_new]
      · simp [entK]
      · intro p hp
        obtain ⟨y, hy, rfl⟩ := List.mem_map.mp hp
        show keyB (.str y.1) (.str x.1) = false
        rw [keyB_str, decide_eq_false]
        intro w
        obtain ⟨k, hk, rfl⟩ := List.mem_iff_getElem.mp hy
        have hk' : k < (shRows rows l).length := by rw [hsl]; omega
        have z := (hj k _ _ (List.getElem?_eq_getElem hk) (List.getElem?_eq_getElem hk')).1
        rw [w] at z
        have nd := (O.sh S).nd
        have hi2 : i < (shRows rows l).length := by rw [hsl]; exact hi'
        have z2 : (shRows rows l)[i].1 = x.1 := by
          have := sx
          rw [List.getElem?_eq_getElem hi2] at this
          rw [Option.some.inj this]
        have : ((shRows rows l).map (·.1))[k]'(by simpa using hk') = ((shRows rows l).map (·.1))[i]'(by simpa using hi2) := by
          rw [List.getElem_map, List.getElem_map, ← z, z2]
        have := (List.getElem_inj nd).mp this
        omega
    · by_cases c : k < ns.length
      · rw [List.getElem?_append_left c] at hk
        obtain ⟨q1, q2⟩ := hj k _ _ hk hy
        exact ⟨q1, sb3 _ _ q2⟩
      · have hkl : k < ns.length + 1 := by have := (List.getElem?_eq_some_iff.mp hk).1; simpa using this
        have : k = i := by omega
        subst this
        rw [List.getElem?_append_right (by omega), hns] at hk
        simp at hk
        subst hk
        rw [sx] at hy
        cases hy
        exact ⟨rfl, ej⟩
  · rintro a h' ⟨ns, rfl, hns, hj, sb⟩
    rw [wkZ_n hn] at hns
    have hns' : ns.length = es.length := hns
    refine ⟨wkZ_fin hn (by have := wkD_fin (k := 2) (sb _ _ L.eq); rwa [List.length_map] at this), sb.trans Sub.push, fun h3 s3 keep => ?_⟩
    have nq : h'.n ≠ q := Nat.ne_of_gt (MH.get_lt (sb _ _ L.eq))
    refine ⟨ns, keep _ _ (MH.push_same _ _) nq, by rw [hsl]; omega, fun i e x a b => ?_, s3⟩
    obtain ⟨p1, p2⟩ := hj i e x a b
    refine ⟨p1, keep _ _ (MH.push_of p2) fun w => ?_⟩
    rw [w, sb _ _ L.eq] at p2; cases p2
theorem TL.sx {h' : MH} {q n : Nat} {es : List Ent} (L : TL h t q es rows) (s : Sx n h h') (hn : ∃ xs, h.get n = some (.lst xs)) : TL h' t q es rows := by
  obtain ⟨xs, en⟩ := hn
  have ne : ∀ a o, h.get a = some o → (∀ ys, o ≠ .lst ys) → a ≠ n := fun a o e w z => by rw [z, en] at e; cases e; exact w _ rfl
  exact ⟨s _ _ (ne _ _ L.et fun _ z => by cases z) L.et, s _ _ (ne _ _ L.eq fun _ z => by cases z) L.eq, L.len, fun i e x a b => ⟨(L.at_ i e x a b).1, s _ _ (ne _ _ (L.at_ i e x a b).2 fun _ z => by cases z) (L.at_ i e x a b).2⟩⟩
/-- shifts with a number added to one of them -/
def withSh (rows : List NR) (l : List Int) (a : List Nat) (k : Int) : List Int := (rows.zip l).map fun p => if p.1.1 = a then (p.2 + k) % p.1.2.c else p.2
theorem withSh_at {l : List Int} {a : List Nat} {k : Int} {i : Nat} {x : NR} {s : Int} (e1 : rows[i]? = some x) (e2 : l[i]? = some s) : (withSh rows l a k)[i]? = some (if x.1 = a then (s + k) % x.2.c else s) := by
  unfold withSh
  rw [List.getElem?_map, List.getElem?_zip_eq_some.mpr (show rows[i]? = some (x, s).1 ∧ l[i]? = some (x, s).2 from ⟨e1, e2⟩)]
  rfl
theorem withSh_len {l : List Int} (S : ShOk rows l) (a : List Nat) (k : Int) : (withSh rows l a k).length = rows.length := by
  have := S.len
  simp [withSh]; omega
theorem withSh_ok (O : TOk rows) {l : List Int} (S : ShOk rows l) (a : List Nat) (k : Int) : ShOk rows (withSh rows l a k) := by
  refine ⟨withSh_len S a k, fun i x s e1 e2 => ?_⟩
  obtain ⟨y, z, f1, f2, z0, z1⟩ := S.get (List.getElem?_eq_some_iff.mp e1).1
  rw [e1] at f1
  cases f1
  rw [withSh_at e1 f2] at e2
  have hc := (O.ok _ (List.mem_of_getElem? e1)).c1
  have := Option.some.inj e2
  subst this
  by_cases c : x.1 = a
  · rw [if_pos c]; exact ⟨Int.emod_nonneg _ (by omega), Int.emod_lt_of_pos _ (by omega)⟩
  · rw [if_neg c]; exact ⟨z0, z1⟩
theorem atM_last (xs : List MV) (v : MV) : atM (xs ++ [v]) (-1) = some v := by
  unfold atM ixM
  have h1 : (1 : Int) ≤ (xs.length : Int) + 1 := by omega
  have h2 : (-1 + ((xs.length : Int) + 1)).toNat = xs.length := by omega
  simp [h1, h2]
theorem ix_last {p : Nat} {xs : List MV} {v : MV} (e : h.get p = some (.lst (xs ++ [v]))) (Q : MV → MH → Prop) : Rt (qIx (.ref p) (.int (-1)) h) Q = Q v h := by
  refine propext ⟨fun z => ?_, fun z => rt_ix_seq (seq_ref e) (atM_last xs v) z⟩
  obtain ⟨w, h', e1, e2⟩ := z.inv
  have y : Rt (qIx (.ref p) (.int (-1)) h) fun a b => a = v ∧ b = h := rt_ix_seq (seq_ref e) (atM_last xs v) ⟨rfl, rfl⟩
  rw [e1] at y
  obtain ⟨rfl, rfl⟩ := y
  exact e2
theorem shifted_by_rt {d p r : Nat} {ps : List (List Int)} {l : List Int} {a : List Nat} {k : Int} (ed : h.get d = some (.ins 4 [(8, .ref t), (9, .ref p), (10, .ref r)])) (ep : h.get p = some (.lst (ps.map shV ++ [shV l]))) (T : TX h t rows) (O : TOk rows) (S : ShOk rows l) (ha : sOk a = true) :
    Rt (m_Desk_shifted_by [.ref d, .str a, .int k] h) fun v h' => v = shV (withSh rows l a k) ∧ Sub h h' := by
  unfold m_Desk_shifted_by
  have l4 := O.l4
  have hl := S.len
  simp -implicitDefEqProofs [asg, -Prod.forall, -Prod.exists]
  have en0 : (h.push (.lst [])).get h.n = some (.lst []) := MH.push_same _ _
  have s0 : Sub h (h.push (.lst [])) := Sub.push
  have hp : p ≠ h.n := Nat.ne_of_lt (MH.get_lt ep)
  have hd : d ≠ h.n := Nat.ne_of_lt (MH.get_lt ed)
  have lt : ∀ b o, h.get b = some o → b ≠ h.n := fun b o e => Nat.ne_of_lt (MH.get_lt e)
  generalize hn0 : h.n = n0 at en0 hp hd lt
  generalize h.push (.lst []) = h1 at en0 s0
  have ed1 := s0 _ _ ed
  have ep1 := s0 _ _ ep
  refine oc_lines (T.sub s0) (fun q e => ?_) fun h2 q es L hq keep => ?_
  · have z : Rt (e1 (qFld 1 4) (e1 (qFld 4 8) (eV 0)) [some (.ref d), some (.str a), some (.int k), some (.ref n0), none, none, none] h1) fun v h' => v = .ref q ∧ h' = h1 := by
      simp -implicitDefEqProofs [fld_eq (f := 8) ed1 rfl, fld_eq (f := 4) e rfl]
    obtain ⟨v, h', e1, rfl, rfl⟩ := z.inv
    exact e1
  have le := L.len
  obtain ⟨lk, hq⟩ := hq
  have dq : d ≠ q := fun w => by rw [w, hq] at ed1; cases ed1
  have pq : p ≠ q := fun w => by rw [w, hq] at ep1; cases ep1
  have nq : n0 ≠ q := fun w => by rw [w, hq] at en0; cases en0
  have ed2 := keep _ _ dq ed1
  have ep2 := keep _ _ pq ep1
  have en2 := keep _ _ nq en0
  rw [oc_for, rt_wZipG]
  have z : ∀ Q : MV → MH → Prop, Rt (e1 (qFld 1 4) (e1 (qFld 4 8) (eV 0)) [some (.ref d), some (.str a), some (.int k), some (.ref n0), none, none, none] h2) Q = Q (.ref q) h2 := fun Q => by
    simp -implicitDefEqProofs [fld_eq (f := 8) ed2 rfl, fld_eq (f := 4) L.et rfl]
  rw [z]
  simp -implicitDefEqProofs [srcM_dct (k := 2) L.eq, fld_eq (f := 9) ed2 rfl, ix_last ep2, shV, srcM_tup, -Prod.forall, -Prod.exists]
  have hn : (wkD 2 q es.length).n = (wkT (l.map MV.int)).n := by simp; omega
  refine for_inv (fun i σ h' => ∃ v4 v5 v6, σ = [some (.ref d), some (.str a), some (.int k), some (.ref n0), v4, v5, v6] ∧ h'.get n0 = some (.lst (((withSh rows l a k).take i).map MV.int)) ∧ Sx n0 h2 h') ⟨_, _, _, rfl, by simpa using en2, .refl⟩ ?_ ?_
  · rintro i σ h' hi ⟨v4, v5, v6, rfl, en, sx⟩
    have hi' : i < rows.length := by rw [wkZ_n hn] at hi; have : i < es.length := hi; omega
    obtain ⟨x, s, ex, es', s0', s1⟩ := S.get hi'
    obtain ⟨j, w1, w2⟩ := (L.sx sx ⟨_, en2⟩).walk (k := 2) ex
    rw [List.length_map] at w1
    have o := O.ok x (List.mem_of_getElem? ex)
    have hc : 0 < x.2.c := by have := o.c1; omega
    have wa := withSh_at (a := a) (k := k) ex es'
    have nx := (O.nm x (List.mem_of_getElem? ex)).sok
    refine ⟨_, _, wkZ_at w1 (shV_at es' h'), rfl, ?_⟩
    have step : ((withSh rows l a k).take i).map MV.int ++ [.int (if x.1 = a then (s + k) % x.2.c else s)] = ((withSh rows l a k).take (i + 1)).map MV.int := by
      rw [List.take_add_one, wa]; simp
    have fin : ∀ w, w = (if x.1 = a then (s + k) % x.2.c else s) → ∃ v4' v5' v6', ([some (.ref d), some (.str a), some (.int k), some (.ref n0), some (.str x.1), some (.ref j), some (.int s)] : Sl) = [some (.ref d), some (.str a), some (.int k), some (.ref n0), v4', v5', v6'] ∧ (h'.set n0 (.lst (((withSh rows l a k).take i).map MV.int ++ [.int w]))).get n0 = some (.lst (((withSh rows l a k).take (i + 1)).map MV.int)) ∧ Sx n0 h2 (h'.set n0 (.lst (((withSh rows l a k).take i).map MV.int ++ [.int w]))) := fun w ew => ⟨_, _, _, rfl, by rw [MH.set_same en, ew, step], sx.trans Sx.set⟩
    simp -implicitDefEqProofs [entM, -Prod.forall, -Prod.exists]
    refine append_rt (f := n0) (xs := ((withSh rows l a k).take i).map MV.int) (v := .int (if x.1 = a then (s + k) % x.2.c else s)) rfl en (by simp; omega) ?_ ?_
    · by_cases c : x.1 = a
      · simp -implicitDefEqProofs [eq_str nx ha, eq_str ha ha, c, j_c w2, mod_int h' hc]
      · simp -implicitDefEqProofs [eq_str nx ha, c]
    · obtain ⟨_, _, _, _, f1, f2⟩ := fin _ rfl
      exact ⟨by rw [← List.map_take]; exact f1, f2⟩
  · rintro σ h' ⟨v4, v5, v6, rfl, en, sx⟩
    have Lx := L.sx sx ⟨_, en2⟩
    refine ⟨wkZ_fin hn (by have := wkD_fin (k := 2) Lx.eq; rwa [List.length_map] at this), Lx.eq, fun h3 k1 k2 => ?_⟩
    rw [wkZ_n hn] at en
    have ew : (withSh rows l a k).take (wkD 2 q es.length).n = withSh rows l a k := by
      rw [wkD_n, le, ← withSh_len S a k, List.take_length]
    rw [ew] at en
    have en3 := k1 _ _ nq en
    show Rt (qTupOf [.ref n0] h3) fun v h' => v = MV.tup (List.map MV.int (withSh rows l a k)) ∧ Sub h h'
    have et : qTupOf [.ref n0] h3 = .ok (shV (withSh rows l a k)) h3 := by
      show qTupOf1 (.ref n0) h3 = _
      unfold qTupOf1
      simp only [en3]
      rfl
    rw [et]
    refine ⟨rfl, fun b ob eb => ?_⟩
    have eb1 := s0 _ _ eb
    by_cases c : b = q
    · subst c; exact k2 _ eb1
    · exact k1 _ _ c (sx _ _ (lt _ _ eb) (keep _ _ c eb1))
end
end KA

set_option linter.all false
/-! DSpec2: what a desk says. -/
namespace KA
section
variable {h : MH} {d t p r : Nat} {rows : List NR} {ps : List (List Int)} {l : List Int} {nm : List (List Nat)}
/-- a desk as it stands: the shifts so far (the last ones l), the names of the steps -/
structure Dk (h : MH) (d t p r : Nat) (ps : List (List Int)) (l : List Int) (nm : List (List Nat)) (rows : List NR) : Prop where
  ed : h.get d = some (.ins 4 [(8, .ref t), (9, .ref p), (10, .ref r)])
  ep : h.get p = some (.lst (ps.map shV ++ [shV l]))
  er : h.get r = some (.lst (nm.map MV.str))
  T : Tab h t rows
  npr : p ≠ r
theorem Dk.sub {h' : MH} (D : Dk h d t p r ps l nm rows) (s : Sub h h') : Dk h' d t p r ps l nm rows := ⟨s _ _ D.ed, s _ _ D.ep, s _ _ D.er, D.T.sub s, D.npr⟩
theorem now_rt (D : Dk h d t p r ps l nm rows) : Rt (m_Desk_now [.ref d] h) fun v h' => v = shV l ∧ h' = h := by
  unfold m_Desk_now
  simp -implicitDefEqProofs [fld_eq (f := 9) D.ed rfl, ix_last D.ep]
theorem spent_rt (D : Dk h d t p r ps l nm rows) (O : TOk rows) (S : ShOk rows l) : Rt (m_Desk_spent [.ref d] h) fun v h' => v = .int (costR rows l) ∧ Sub h h' := by
  unfold m_Desk_spent
  simp -implicitDefEqProofs [fld_eq (f := 9) D.ed rfl, fld_eq (f := 8) D.ed rfl, ix_last D.ep]
  exact cost_of_rt D.T O S
theorem dtable_rt (D : Dk h d t p r ps l nm rows) (O : TOk rows) (S : ShOk rows l) : Rt (m_Desk_table [.ref d] h) fun v h' => ∃ u, v = .ref u ∧ Tab h' u (shRows rows l) ∧ Sub h h' := by
  unfold m_Desk_table
  simp -implicitDefEqProofs [fld_eq (f := 9) D.ed rfl, fld_eq (f := 8) D.ed rfl, ix_last D.ep]
  exact after_rt D.T O S
theorem dbool_rt (D : Dk h d t p r ps l nm rows) (O : TOk rows) (S : ShOk rows l) : Rt (m_Desk___bool__ [.ref d] h) fun v h' => v = .bl (freeB (shRows rows l)) ∧ Sub h h' := by
  unfold m_Desk___bool__
  simp -implicitDefEqProofs [fld_eq (f := 9) D.ed rfl, fld_eq (f := 8) D.ed rfl, ix_last D.ep, -Prod.forall, -Prod.exists]
  refine (after_rt D.T O S).imp ?_
  rintro v h1 ⟨u, rfl, Tu, s1⟩
  refine (is_free_rt Tu (O.sh S)).imp ?_
  rintro v h2 ⟨rfl, s2⟩
  show Rt (qBoolB1 (.bl (freeB (shRows rows l))) h2) _
  exact ⟨rfl, s1.trans s2⟩
theorem dlen_rt (D : Dk h d t p r ps l nm rows) (hl : l.length ≤ 4) : Rt (m_Desk___len__ [.ref d] h) fun v h' => v = .int ((l.filter fun s => decide (s ≠ 0)).length) ∧ Sub h h' := by
  unfold m_Desk___len__
  simp -implicitDefEqProofs [fld_eq (f := 9) D.ed rfl, ix_last D.ep, shV, -List.length_map, -Prod.forall, -Prod.exists]
  refine acc_pix l.length (fun i => match l[i]? with
    | some s => decide (s ≠ 0)
    | none => false) (fun i => match l[i]? with
    | some s => .int s
    | none => .non) (by simp) (by omega) rfl (fun i hi => ?_) fun k hk => ?_
  · have ex : l[i]? = some l[i] := List.getElem?_eq_getElem hi
    refine ⟨_, _, shV_at ex h, rfl, ?_⟩
    rw [ex]
    simp -implicitDefEqProofs
  · rw [List.append_nil, List.reverse_reverse, range_filter l _ _ (fun s => decide (s ≠ 0)) MV.int (fun i x e => by simp only [e]) (fun i x e => by simp only [e])]
    rw [len_lst (MH.push_same _ _), List.length_map]
    exact ⟨by simp, Sub.push⟩
theorem indexM_at {a : List Nat} : ∀ {names : List (List Nat)} {i : Nat} (k : Nat), names.Nodup → names[i]? = some a → indexM (fun y => eqB 9 h y (.str a)) (names.map MV.str) k = some (k + i)
  | [], i, k, _, e => by simp at e
  | x :: xs, 0, k, _, e => by
    have : x = a := by simpa using e
    subst this
    have q : eqB 9 h (.str x) (.str x) = true := by show beqN x x = true; rw [beqN_eq]; simp
    unfold indexM
    rw [List.map_cons]
    simp [q]
  | x :: xs, i + 1, k, nd, e => by
    have e' : xs[i]? = some a := by simpa using e
    have nd' := List.nodup_cons.mp nd
    have ne : x ≠ a := fun w => nd'.1 (w ▸ List.mem_of_getElem? e')
    have q : eqB 9 h (.str x) (.str a) = false := by show beqN x a = false; rw [beqN_eq]; simp [ne]
    have ih := indexM_at (names := xs) (k + 1) nd'.2 e'
    rw [List.map_cons]
    unfold indexM
    simp only [q]
    rw [ih]
    congr 1
    omega
theorem index_at {n i : Nat} {a : List Nat} {names : List (List Nat)} (en : h.get n = some (.lst (names.map MV.str))) (nd : names.Nodup) (hs : ∀ s ∈ names, sOk s = true) (ea : names[i]? = some a) : qIndex (.ref n) [.str a] h = .ok (.int (i : Nat)) h := by
  have hd : (dataB 9 h (.str a) && (names.map MV.str).all (dataB 9 h)) = true := by
    rw [Bool.and_eq_true, List.all_eq_true]
    refine ⟨hs a (List.mem_of_getElem? ea), fun x hx => ?_⟩
    obtain ⟨s, hm, rfl⟩ := List.mem_map.mp hx
    exact hs s hm
  unfold qIndex f1
  simp only [seq_ref en, hd, indexM_at (h := h) 0 nd ea]
  simp
theorem check_name_eq (T : Tab h t rows) (O : TOk rows) {x : NR} (hx : x ∈ rows) : m_check_name [.ref t, .str x.1] h = .ok .non h := by
  obtain ⟨j, A⟩ := T.at_ O hx
  obtain ⟨q, kvs, e1, e2, e3⟩ := A.tab
  apply Rt.eq
  unfold m_check_name
  simp -implicitDefEqProofs [fld_eq (f := 4) e1 rfl, din_eq (k := .str x.1) e2 rfl, e3]
/-- past[-1][list(lines).index(name)] -/
theorem place_rt {x : NR} {s : Int} {i : Nat} {a2 : Option MV} {Q : MV → MH → Prop} (D : Dk h d t p r ps l nm rows) (O : TOk rows) (hl : l.length = rows.length) (hx : rows[i]? = some x) (hs : l[i]? = some s) (q : ∀ h', Sub h h' → Q (.int s) h') :
    Rt (e2 qIx (e2 qIx (e1 (qFld 4 9) (eV 0)) (e1 qNeg (eC (.int 1)))) (eBmL qIndex (eA qListOf (aCons (e1 (qFld 1 4) (e1 (qFld 4 8) (eV 0))) aNil)) (aCons (eV 1) aNil)) [some (.ref d), some (.str x.1)] h) Q := by
  obtain ⟨qd, es, t1, t2, t3, t4⟩ := id D.T
  have ek := keys_eq t3 t4
  have el : qListOf [.ref qd] h = .ok (.ref h.n) (h.push (.lst ((rows.map (·.1)).map MV.str))) := by
    show qListOf1 (.ref qd) h = _
    unfold qListOf1
    simp only [t2]
    rw [ek, List.map_map]
    rfl
  have en : (h.push (.lst ((rows.map (·.1)).map MV.str))).get h.n = some (.lst ((rows.map (·.1)).map MV.str)) := MH.push_same _ _
  have hsk : ∀ s ∈ rows.map (·.1), sOk s = true := fun s hs => by
    obtain ⟨y, hy, rfl⟩ := List.mem_map.mp hs
    exact (O.nm y hy).sok
  have hi := (List.getElem?_eq_some_iff.mp hs).1
  have ix := index_at (i := i) (a := x.1) en O.nd hsk (by rw [List.getElem?_map, hx]; rfl)
  simp -implicitDefEqProofs [fld_eq (f := 9) D.ed rfl, fld_eq (f := 8) D.ed rfl, fld_eq (f := 4) t1 rfl, ix_last D.ep]
  have z : Rt (eBmL qIndex (eA qListOf (aCons (e1 (qFld 1 4) (e1 (qFld 4 8) (eV 0))) aNil)) (aCons (eV 1) aNil) [some (.ref d), some (.str x.1)] h) fun v h' => v = .int (i : Nat) ∧ h' = h.push (.lst ((rows.map (·.1)).map MV.str)) := by
    have eo : eA qListOf (aCons (e1 (qFld 1 4) (e1 (qFld 4 8) (eV 0))) aNil) [some (.ref d), some (.str x.1)] h = .ok (.ref h.n) (h.push (.lst ((rows.map (·.1)).map MV.str))) := by
      apply Rt.eq
      simp -implicitDefEqProofs [fld_eq (f := 8) D.ed rfl, fld_eq (f := 4) t1 rfl, el]
    unfold eBmL
    rw [eo]
    dsimp only [Res.bind]
    rw [seq_ref en]
    show Rt ((aCons (eV 1) aNil [some (.ref d), some (.str x.1)] _).bind fun vs h2 => qIndex (.ref h.n) vs h2) _
    rw [rt_bind]
    simp -implicitDefEqProofs [ix, -List.map_map]
  refine z.imp ?_
  rintro v h' ⟨rfl, rfl⟩
  have et : Rt (qIx (shV l) (.int (i : Nat)) (h.push (.lst ((rows.map (·.1)).map MV.str)))) Q := by
    unfold shV qIx
    dsimp only
    rw [atM_int (by omega) (by rw [List.length_map]; omega), Int.toNat_natCast, List.getElem?_map, hs]
    exact q _ Sub.push
  exact et
theorem getitem_rt {x : NR} {s : Int} {i : Nat} (D : Dk h d t p r ps l nm rows) (O : TOk rows) (hl : l.length = rows.length) (hx : rows[i]? = some x) (hs : l[i]? = some s) : Rt (m_Desk___getitem__ [.ref d, .str x.1] h) fun v h' => v = .int s ∧ Sub h h' := by
  unfold m_Desk___getitem__
  simp -implicitDefEqProofs [fld_eq (f := 8) D.ed rfl, check_name_eq D.T O (List.mem_of_getElem? hx)]
  have := place_rt (a2 := none) (Q := fun v h' => v = .int s ∧ Sub h h') D O hl hx hs fun h' sb => ⟨rfl, sb⟩
  simpa -implicitDefEqProofs using this
theorem contains_rt {x : NR} {s : Int} {i : Nat} (D : Dk h d t p r ps l nm rows) (O : TOk rows) (hl : l.length = rows.length) (hx : rows[i]? = some x) (hs : l[i]? = some s) : Rt (m_Desk___contains__ [.ref d, .str x.1] h) fun v h' => v = .bl (decide (s ≠ 0)) ∧ Sub h h' := by
  unfold m_Desk___contains__
  simp -implicitDefEqProofs [fld_eq (f := 8) D.ed rfl, check_name_eq D.T O (List.mem_of_getElem? hx)]
  have := place_rt (a2 := none) (Q := fun v h' => Rt (qNe v (.int 0) h') fun v h' => v = .bl (decide (s ≠ 0)) ∧ Sub h h') D O hl hx hs fun h' sb => by
    simp
    exact sb
  simpa -implicitDefEqProofs using this
/-! ### steps -/
theorem append_rtE {f : Nat} {xs : List MV} {am : AM} {o : EM} {σ : Sl} {Q : MV → MH → Prop} (eo : o σ h = .ok (.ref f) h) (e : h.get f = some (.lst xs)) (hl : xs.length + 1 ≤ 16777216) (ea : Rt (am σ h) fun vs h' => ∃ v, vs = [v] ∧ h'.get f = some (.lst xs) ∧ Q .non (h'.set f (.lst (xs ++ [v])))) : Rt (eBmL qAppend o am σ h) Q := by
  unfold eBmL
  rw [eo]
  dsimp only [Res.bind]
  rw [seq_ref e]
  show Rt ((am σ h).bind fun vs h2 => qAppend (.ref f) vs h2) Q
  rw [rt_bind]
  refine ea.imp ?_
  rintro vs h' ⟨v, rfl, e', q⟩
  unfold qAppend f1
  simp -implicitDefEqProofs [e', hl]
  exact q
/-- all but two lists stands -/
def Sx2 (p r : Nat) (h h' : MH) : Prop := ∀ a o, a ≠ p → a ≠ r → h.get a = some o → h'.get a = some o
theorem Sx2.refl : Sx2 p r h h := fun _ _ _ _ e => e
theorem Sub.sx2 {h' : MH} (s : Sub h h') : Sx2 p r h h' := fun a o _ _ e => s a o e
theorem Sx2.trans {h1 h2 : MH} (a : Sx2 p r h h1) (b : Sx2 p r h1 h2) : Sx2 p r h h2 := fun x o n m e => b x o n m (a x o n m e)
theorem Tab.sx2 {h' : MH} (T : Tab h t rows) (s : Sx2 p r h h') (hp : ∃ xs, h.get p = some (.lst xs)) (hr : ∃ xs, h.get r = some (.lst xs)) : Tab h' t rows := by
  obtain ⟨xs, ep⟩ := hp
  obtain ⟨ys, er⟩ := hr
  have ne : ∀ n a o, (∃ zs, h.get n = some (.lst zs)) → h.get a = some o → (∀ ys, o ≠ .lst ys) → a ≠ n := fun n a o ⟨zs, en⟩ e w z => by rw [z, en] at e; cases e; exact w _ rfl
  have go : ∀ a o, h.get a = some o → (∀ ys, o ≠ .lst ys) → h'.get a = some o := fun a o e w => s a o (ne p a o ⟨xs, ep⟩ e w) (ne r a o ⟨ys, er⟩ e w) e
  obtain ⟨q, es, e1, e2, e3, e4⟩ := T
  exact ⟨q, es, go _ _ e1 (fun _ z => by cases z), go _ _ e2 (fun _ z => by cases z), e3, fun i e x b c => ⟨(e4 i e x b c).1, go _ _ (e4 i e x b c).2 (fun _ z => by cases z)⟩⟩
theorem move_rt {x : NR} {k : Int} (D : Dk h d t p r ps l nm rows) (O : TOk rows) (S : ShOk rows l) (hx : x ∈ rows) (k1 : 1 ≤ k) (k2 : k ≤ x.2.c - 1) (hps : ps.length ≤ 1000) (hnm : nm.length ≤ 1000) :
    Rt (m_Desk_move [.ref d, .str x.1, .int k] h) fun v h' => v = .bl (freeB (shRows rows (withSh rows l x.1 k))) ∧ Dk h' d t p r (ps ++ [l]) (withSh rows l x.1 k) (nm ++ [x.1]) rows ∧ Sx2 p r h h' := by
  unfold m_Desk_move
  obtain ⟨j, A⟩ := D.T.at_ O hx
  obtain ⟨q, kvs, a1, a2, a3⟩ := A.tab
  have S2 := withSh_ok O S x.1 k
  have dp : d ≠ p := fun z => by have := D.ed; rw [z, D.ep] at this; cases this
  have dr : d ≠ r := fun z => by have := D.ed; rw [z, D.er] at this; cases this
  simp -implicitDefEqProofs [fld_eq (f := 8) D.ed rfl, check_name_eq D.T O hx, fld_eq (f := 4) a1 rfl, dget_eq (k := .str x.1) a2 rfl a3, j_c A.job, integer_eq, k1, k2, -Prod.forall, -Prod.exists]
  refine append_rtE (f := p) (xs := ps.map shV ++ [shV l]) (fld_fp (i := 0) rfl D.ed rfl) D.ep (by simp; omega) ?_
  simp -implicitDefEqProofs [isIns_of_get D.ed, -Prod.forall, -Prod.exists]
  refine (shifted_by_rt D.ed D.ep D.T.tx O S (O.nm x hx).sok (a := x.1) (k := k)).imp ?_
  rintro v h1 ⟨rfl, s1⟩
  have D1 := D.sub s1
  refine ⟨D1.ep, ?_⟩
  have ep2 : (h1.set p (.lst (ps.map shV ++ [shV l, shV (withSh rows l x.1 k)]))).get p = some (.lst (ps.map shV ++ [shV l, shV (withSh rows l x.1 k)])) := MH.set_same D1.ep
  have ed2 : (h1.set p (.lst (ps.map shV ++ [shV l, shV (withSh rows l x.1 k)]))).get d = _ := (MH.set_ne dp).trans D1.ed
  have er2 : (h1.set p (.lst (ps.map shV ++ [shV l, shV (withSh rows l x.1 k)]))).get r = _ := (MH.set_ne (Ne.symm D.npr)).trans D1.er
  have sx2 : Sx2 p r h (h1.set p (.lst (ps.map shV ++ [shV l, shV (withSh rows l x.1 k)]))) := fun a o n m e => by rw [MH.set_ne n]; exact s1 _ _ e
  generalize h1.set p (.lst (ps.map shV ++ [shV l, shV (withSh rows l x.1 k)])) = h2 at ep2 ed2 er2 sx2
  refine append_rtE (f := r) (xs := nm.map MV.str) (fld_fp (i := 0) rfl ed2 rfl) er2 (by simp; omega) ?_
  simp -implicitDefEqProofs [-Prod.forall, -Prod.exists]
  refine ⟨er2, ?_⟩
  have ep3 : (h2.set r (.lst (nm.map MV.str ++ [.str x.1]))).get p = _ := (MH.set_ne D.npr).trans ep2
  have ed3 : (h2.set r (.lst (nm.map MV.str ++ [.str x.1]))).get d = _ := (MH.set_ne dr).trans ed2
  have er3 : (h2.set r (.lst (nm.map MV.str ++ [.str x.1]))).get r = _ := MH.set_same er2
  have sx3 : Sx2 p r h (h2.set r (.lst (nm.map MV.str ++ [.str x.1]))) := fun a o n m e => by rw [MH.set_ne m]; exact sx2 _ _ n m e
  generalize h2.set r (.lst (nm.map MV.str ++ [.str x.1])) = h3 at ep3 ed3 er3 sx3
  have T3 := D.T.sx2 sx3 ⟨_, D.ep⟩ ⟨_, D.er⟩
  have D3 : Dk h3 d t p r (ps ++ [l]) (withSh rows l x.1 k) (nm ++ [x.1]) rows := ⟨ed3, by rw [ep3]; simp, by rw [er3]; simp, T3, D.npr⟩
  simp -implicitDefEqProofs [fld_eq (f := 8) D3.ed rfl, fld_eq (f := 9) D3.ed rfl, ix_last D3.ep, -Prod.forall, -Prod.exists]
  refine (after_rt D3.T O S2).imp ?_
  rintro v h4 ⟨u, rfl, Tu, s4⟩
  refine (is_free_rt Tu (O.sh S2)).imp ?_
  rintro v h5 ⟨rfl, s5⟩
  exact ⟨rfl, D3.sub (s4.trans s5), sx3.trans (s4.trans s5).sx2⟩
theorem eq_nil {n m : Nat} {xs : List MV} (e : h.get n = some (.lst xs)) (e' : h.get m = some (.lst [])) (dx : ∀ x ∈ xs, PD x) : qEq (.ref n) (.ref m) h = .ok (.bl xs.isEmpty) h := by
  unfold qEq
  have d1 : dataB 9 h (.ref n) = true := by
    unfold dataB
    simp only [e]
    rw [List.all_eq_true]
    exact fun x m => (dx x m).data 6 h
  rw [d1, show dataB 9 h (.ref m) = true by unfold dataB; simp [e']]
  rw [show eqB 9 h (.ref n) (.ref m) = xs.isEmpty by
    unfold eqB
    simp only [seq_ref e, seq_ref e']
    cases xs <;> rfl]
  rfl
theorem pop_rt {f : Nat} {xs : List MV} {v : MV} {o : EM} {σ : Sl} {Q : MV → MH → Prop} (eo : o σ h = .ok (.ref f) h) (e : h.get f = some (.lst (xs ++ [v]))) (q : Q v (h.set f (.lst xs))) : Rt (eBmL qPop0 o aNil σ h) Q := by
  unfold eBmL
  rw [eo]
  dsimp only [Res.bind]
  rw [seq_ref e]
  show Rt ((aNil σ h).bind fun vs h2 => qPop0 (.ref f) vs h2) Q
  rw [rt_bind, rt_aNil]
  unfold qPop0
  simp -implicitDefEqProofs [e]
  exact q
theorem undo_rt {l' : List Int} {a : List Nat} (D : Dk h d t p r (ps ++ [l']) l (nm ++ [a]) rows) (hs : ∀ s ∈ nm ++ [a], sOk s = true) : Rt (m_Desk_undo [.ref d] h) fun v h' => v = .str a ∧ Dk h' d t p r ps l' nm rows ∧ Sx2 p r h h' := by
  unfold m_Desk_undo
  have dp : d ≠ p := fun z => by have := D.ed; rw [z, D.ep] at this; cases this
  have dr : d ≠ r := fun z => by have := D.ed; rw [z, D.er] at this; cases this
  have s0 : Sub h (h.push (.lst [])) := Sub.push
  have e0 : (h.push (.lst [])).get h.n = some (.lst []) := MH.push_same _ _
  have D0 := D.sub s0
  have q0 := eq_nil D0.er e0 fun x hx => by
    obtain ⟨s, hm, rfl⟩ := List.mem_map.mp hx
    exact .inl ⟨s, rfl, hs s hm⟩
  have q1 : ((nm ++ [a]).map MV.str).isEmpty = false := by simp
  rw [q1] at q0
  simp -implicitDefEqProofs [fld_eq (f := 10) D.ed rfl, q0, -Prod.forall, -Prod.exists]
  generalize h.push (.lst []) = h1 at s0 D0
  have ep0 : h1.get p = some (.lst ((ps.map shV ++ [shV l']) ++ [shV l])) := by have := D0.ep; rw [this]; simp
  refine pop_rt (f := p) (fld_fp (i := 0) rfl D0.ed rfl) ep0 ?_
  have ep2 : (h1.set p (.lst (ps.map shV ++ [shV l']))).get p = _ := MH.set_same ep0
  have ed2 : (h1.set p (.lst (ps.map shV ++ [shV l']))).get d = _ := (MH.set_ne dp).trans D0.ed
  have er2 : (h1.set p (.lst (ps.map shV ++ [shV l']))).get r = _ := (MH.set_ne (Ne.symm D.npr)).trans D0.er
  have sx2 : Sx2 p r h (h1.set p (.lst (ps.map shV ++ [shV l']))) := fun a o n m e => by rw [MH.set_ne n]; exact s0 _ _ e
  generalize h1.set p (.lst (ps.map shV ++ [shV l'])) = h2 at ep2 ed2 er2 sx2
  have er2' : h2.get r = some (.lst (nm.map MV.str ++ [.str a])) := by rw [er2]; simp
  refine pop_rt (f := r) (fld_fp (i := 0) rfl ed2 rfl) er2' ?_
  have sx3 : Sx2 p r h (h2.set r (.lst (nm.map MV.str))) := fun a o n m e => by rw [MH.set_ne m]; exact sx2 _ _ n m e
  exact ⟨rfl, ⟨(MH.set_ne dr).trans ed2, (MH.set_ne D.npr).trans ep2, MH.set_same er2', D.T.sx2 sx3 ⟨_, D.ep⟩ ⟨_, D.er⟩, D.npr⟩, sx3⟩
end
end KA

set_option linter.all false
/-! DSpec3: what cures a desk. -/
namespace KA
theorem rt_gSeq {b : SM} {f : Sl → MH → Res MV} {σ : Sl} {h : MH} {Q : MV → MH → Prop} (p : Oc (b σ h) ⟨fun σ1 h1 => Rt (f σ1 h1) Q, fun _ _ => False, fun _ _ => False, fun _ _ => False⟩) : Rt (gSeq b f σ h) Q := by
  unfold gSeq
  cases e : b σ h with
  | nx σ1 h1 => rw [e] at p; exact p
  | rt _ _ => rw [e] at p; exact p.elim
  | bk _ _ => rw [e] at p; exact p.elim
  | ct _ _ => rw [e] at p; exact p.elim
  | exc _ _ _ _ => rw [e] at p; exact p.elim
  | bad => rw [e] at p; exact p.elim
section
variable {h : MH} {d t p r : Nat} {rows : List NR} {ps : List (List Int)} {l : List Int} {nm : List (List Nat)}
def cure1 (rows : List NR) (l : List Int) (x : NR) (n : Nat) : List MV := ((List.range n).filter fun j : Nat => freeB (shRows rows (withSh rows l x.1 (1 + (j : Int))))).map fun j : Nat => .tup [.str x.1, .int (1 + (j : Int))]
def cureTo (rows : List NR) (l : List Int) (i : Nat) : List MV := (rows.take i).flatMap fun x => cure1 rows l x (x.2.c - 1).toNat
theorem cure1_succ (x : NR) (n : Nat) : cure1 rows l x (n + 1) = cure1 rows l x n ++ (if freeB (shRows rows (withSh rows l x.1 (1 + (n : Int)))) = true then [.tup [.str x.1, .int (1 + (n : Int))]] else []) := by
  unfold cure1
  rw [List.range_succ, List.filter_append, List.map_append]
  congr 1
  by_cases q : freeB (shRows rows (withSh rows l x.1 (1 + (n : Int)))) = true
  · rw [if_pos q, List.filter_cons, if_pos q]; rfl
  · rw [if_neg q, List.filter_cons, if_neg q]; rfl
theorem cureTo_succ {i : Nat} {x : NR} (e : rows[i]? = some x) : cureTo rows l (i + 1) = cureTo rows l i ++ cure1 rows l x (x.2.c - 1).toNat := by
  unfold cureTo
  rw [List.take_add_one, e, List.flatMap_append]
  simp
theorem cure1_len (x : NR) (n : Nat) : (cure1 rows l x n).length ≤ n := by
  unfold cure1
  rw [List.length_map]
  exact Nat.le_trans (List.length_filter_le ..) (by simp)
theorem cureTo_len (O : TOk rows) : ∀ i, i ≤ rows.length → (cureTo rows l i).length ≤ 12 * i
  | 0, _ => by simp [cureTo]
  | i + 1, hi => by
    have ex : rows[i]? = some rows[i] := List.getElem?_eq_getElem (by omega)
    have o := O.ok _ (List.mem_of_getElem? ex)
    have h1 := cure1_len (rows := rows) (l := l) rows[i] (rows[i].2.c - 1).toNat
    have h2 := cureTo_len O i (by omega)
    have c1 := o.c1
    have c2 := o.c2
    rw [cureTo_succ ex, List.length_append]
    omega
theorem cures_rt (D : Dk h d t p r ps l nm rows) (O : TOk rows) (S : ShOk rows l) : Rt (m_Desk_cures [.ref d] h) fun v h' => ∃ n, v = .ref n ∧ h'.get n = some (.lst (cureTo rows l rows.length)) ∧ Sub h h' := by
  unfold m_Desk_cures
  have l4 := O.l4
  show Rt (gSeq _ _ [some (.ref d), none, none, none, none] h) _
  refine rt_gSeq ?_
  simp -implicitDefEqProofs [asg, -Prod.forall, -Prod.exists]
  have en0 : (h.push (.lst [])).get h.n = some (.lst []) := MH.push_same _ _
  have s0 : Sub h (h.push (.lst [])) := Sub.push
  have lt : ∀ b o, h.get b = some o → b ≠ h.n := fun b o e => Nat.ne_of_lt (MH.get_lt e)
  have pn := lt _ _ D.ep
  have dn := lt _ _ D.ed
  generalize hn0 : h.n = n0 at en0 lt pn dn
  generalize h.push (.lst []) = h1 at en0 s0
  have D1 := D.sub s0
  refine rt_gSeq ?_
  refine oc_lines D1.T.tx (fun q e => ?_) fun h2 q es L hq keep => ?_
  · have z : Rt (e1 (qFld 1 4) (e1 (qFld 4 8) (eV 0)) [some (.ref d), some (.ref n0), none, none, none] h1) fun v h' => v = .ref q ∧ h' = h1 := by
      simp -implicitDefEqProofs [fld_eq (f := 8) D1.ed rfl, fld_eq (f := 4) e rfl]
    obtain ⟨v, h', e1, rfl, rfl⟩ := z.inv
    exact e1
  have le := L.len
  obtain ⟨lk, hq⟩ := hq
  have dq : d ≠ q := fun w => by have := D1.ed; rw [w, hq] at this; cases this
  have pq : p ≠ q := fun w => by have := D1.ep; rw [w, hq] at this; cases this
  have nq : n0 ≠ q := fun w => by rw [w, hq] at en0; cases en0
  have ed2 := keep _ _ dq D1.ed
  have ep2 := keep _ _ pq D1.ep
  have en2 := keep _ _ nq en0
  rw [oc_for]
  simp -implicitDefEqProofs [fld_eq (f := 8) ed2 rfl, fld_eq (f := 4) L.et rfl, -Prod.forall, -Prod.exists]
  refine ⟨_, L.eq, ?_⟩
  rw [List.length_map]
  refine for_inv (w := wkD 2 q es.length) (fun i σ h' => ∃ v2 v3 v4, σ = [some (.ref d), some (.ref n0), v2, v3, v4] ∧ h'.get n0 = some (.lst (cureTo rows l i)) ∧ Sx n0 h2 h') ⟨_, _, _, rfl, by simpa [cureTo] using en2, .refl⟩ ?_ ?_
  · rintro i σ h' hi ⟨v2, v3, v4, rfl, en, sx⟩
    have hi' : i < rows.length := by have : i < es.length := hi; omega
    have ex : rows[i]? = some rows[i] := List.getElem?_eq_getElem hi'
    have o := O.ok _ (List.mem_of_getElem? ex)
    have c1 := o.c1
    have c2 := o.c2
    have hl := cureTo_len (l := l) O i (by omega)
    obtain ⟨j, w1, w2⟩ := (L.sx sx ⟨_, en2⟩).walk (k := 2) ex
    rw [List.length_map] at w1
    refine ⟨_, _, w1, rfl, ?_⟩
    rw [oc_for]
    simp -implicitDefEqProofs [entM, j_c w2, -Prod.forall, -Prod.exists]
    refine ⟨by decide, rgOk_of (by omega) (by omega), ?_⟩
    rw [show rows[i].2.c.toNat - 1 = (rows[i].2.c - 1).toNat by omega]
    refine for_inv (w := wkR 1 (rows[i].2.c - 1).toNat) (fun k σ h' => ∃ v4, σ = [some (.ref d), some (.ref n0), some (.str rows[i].1), some (.ref j), v4] ∧ h'.get n0 = some (.lst (cureTo rows l i ++ cure1 rows l rows[i] k)) ∧ Sx n0 h2 h') ⟨_, rfl, by simpa [cure1] using en, sx⟩ ?_ ?_
    · rintro k σ h3 hk ⟨v4, rfl, en3, sx3⟩
      have hk' : k < (rows[i].2.c - 1).toNat := hk
      have L3 := L.sx sx3 ⟨_, en2⟩
      have ed3 := sx3 _ _ dn ed2
      have ep3 := sx3 _ _ pn ep2
      have S2 := withSh_ok O S rows[i].1 (1 + (k : Int))
      have hl1 := cure1_len (rows := rows) (l := l) rows[i] k
      refine ⟨.int (1 + (k : Int)), _, rfl, rfl, ?_⟩
      simp -implicitDefEqProofs [fld_eq (f := 8) ed3 rfl, isIns_of_get ed3, -Prod.forall, -Prod.exists]
      refine (shifted_by_rt ed3 ep3 L3.tx O S (O.nm _ (List.mem_of_getElem? ex)).sok).imp ?_
      rintro v h4 ⟨rfl, s4⟩
      refine (after_rtX (L3.tx.sub s4) O S2).imp ?_
      rintro v h5 ⟨u, rfl, Tu, s5⟩
      refine (is_free_rt Tu (O.sh S2)).imp ?_
      rintro v h6 ⟨rfl, s6⟩
      have s36 := (s4.trans s5).trans s6
      have en6 := s36 _ _ en3
      rw [cure1_succ, ← List.append_assoc]
      cases q6 : freeB (shRows rows (withSh rows l rows[i].1 (1 + (k : Int)))) with
      | false =>
        simp -implicitDefEqProofs
        exact ⟨en6, sx3.trans s36.sx⟩
      | true =>
        simp -implicitDefEqProofs
        refine append_rt (f := n0) (xs := cureTo rows l i ++ cure1 rows l rows[i] k) (v := .tup [.str rows[i].1, .int (1 + (k : Int))]) rfl en6 (by rw [List.length_append]; omega) (by simp) ?_
        exact ⟨by rw [MH.set_same en6]; simp, (sx3.trans s36.sx).trans Sx.set⟩
    · rintro σ h3 ⟨v4, rfl, en3, sx3⟩
      refine ⟨rfl, ?_⟩
      rw [cureTo_succ ex]
      exact ⟨⟨_, _, _, rfl⟩, en3, sx3⟩
  · rintro σ h' ⟨v2, v3, v4, rfl, en, sx⟩
    have Lx := L.sx sx ⟨_, en2⟩
    refine ⟨by have := wkD_fin (k := 2) Lx.eq; rwa [List.length_map] at this, Lx.eq, fun h3 k1 k2 => ?_⟩
    have ei : (wkD 2 q es.length).n = rows.length := le
    rw [ei] at en
    refine (show ∃ n, MV.ref n0 = .ref n ∧ h3.get n = some (.lst (cureTo rows l rows.length)) ∧ Sub h h3 from ⟨n0, rfl, k1 _ _ nq en, fun b ob eb => ?_⟩)
    have eb1 := s0 _ _ eb
    by_cases c : b = q
    · subst c; exact k2 _ eb1
    · exact k1 _ _ c (sx _ _ (lt _ _ eb) (keep _ _ c eb1))
end
end KA

set_option linter.all false
/-! DSpec4: a new desk; the laws' own functions over drawn rows (laws 12, 54). -/
namespace KA
section
variable {h : MH} {t n : Nat} {rows : List NR} {l : List Int}
def zerosL (rows : List NR) : List Int := List.replicate rows.length 0
theorem zeros_ok (O : TOk rows) : ShOk rows (zerosL rows) := by
  refine ⟨by simp [zerosL], fun i x s e1 e2 => ?_⟩
  have hc := (O.ok _ (List.mem_of_getElem? e1)).c1
  unfold zerosL at e2
  have := (List.getElem?_eq_some_iff.mp e2)
  obtain ⟨hi, e⟩ := this
  rw [List.getElem_replicate] at e
  omega
theorem rep_zero {k : Nat} (h1 : 1 ≤ k) (h4 : k ≤ 4) : qRepT (.tup [.int 0]) (.int (k : Int)) h = .ok (shV (List.replicate k 0)) h := by
  have : k = 1 ∨ k = 2 ∨ k = 3 ∨ k = 4 := by omega
  rcases this with rfl | rfl | rfl | rfl <;> rfl
theorem desk_init (e : h.get n = some (.ins 4 [])) (T : Tab h t rows) (O : TOk rows) : Rt (m_Desk___init__ [.ref n, .ref t] h) fun v h' => v = .non ∧ (∃ p r, Dk h' n t p r [] (zerosL rows) [] rows ∧ h.n ≤ p ∧ h.n ≤ r) ∧ Sx n h h' := by
  unfold m_Desk___init__
  obtain ⟨q, es, t1, t2, t3, t4⟩ := id T
  have l1 := O.l1
  have l4 := O.l4
  have nt : t ≠ n := fun z => by rw [z, e] at t1; cases t1
  have nq : q ≠ n := fun z => by rw [z, e] at t2; cases t2
  simp -implicitDefEqProofs [check_tab t1, e, fput, -Prod.forall, -Prod.exists]
  have e1 : (h.set n (.ins 4 [(8, .ref t)])).get n = some (.ins 4 [(8, .ref t)]) := MH.set_same e
  have k1 : Sx n h (h.set n (.ins 4 [(8, .ref t)])) := Sx.set
  have z1 : (h.set n (.ins 4 [(8, .ref t)])).n = h.n := rfl
  generalize h.set n (.ins 4 [(8, .ref t)]) = h1 at e1 k1 z1
  have t11 := k1 _ _ nt t1
  have t21 := k1 _ _ nq t2
  have hn := MH.get_lt e
  simp -implicitDefEqProofs [fld_eq (f := 4) t11 rfl, len_dct t21, t3, rep_zero (h := h1) l1 l4, -Prod.forall, -Prod.exists]
  have e2 : (h1.push (.lst [shV (List.replicate rows.length 0)])).get n = some (.ins 4 [(8, .ref t)]) := MH.push_of e1
  have p2 : (h1.push (.lst [shV (List.replicate rows.length 0)])).get h1.n = some (.lst [shV (List.replicate rows.length 0)]) := MH.push_same _ _
  have k2 : Sx n h (h1.push (.lst [shV (List.replicate rows.length 0)])) := k1.trans Sub.push.sx
  refine ⟨_, e2, by simp, ?_⟩
  have pn : h1.n ≠ n := by omega
  have e3 : ((h1.push (.lst [shV (List.replicate rows.length 0)])).set n (.ins 4 (fput 9 (.ref h1.n) [(8, .ref t)]))).get n = some (.ins 4 [(8, .ref t), (9, .ref h1.n)]) := MH.set_same e2
  have p3 : ((h1.push (.lst [shV (List.replicate rows.length 0)])).set n (.ins 4 (fput 9 (.ref h1.n) [(8, .ref t)]))).get h1.n = _ := (MH.set_ne pn).trans p2
  have k3 : Sx n h ((h1.push (.lst [shV (List.replicate rows.length 0)])).set n (.ins 4 (fput 9 (.ref h1.n) [(8, .ref t)]))) := k2.trans Sx.set
  have z3 : ((h1.push (.lst [shV (List.replicate rows.length 0)])).set n (.ins 4 (fput 9 (.ref h1.n) [(8, .ref t)]))).n = h1.n + 1 := rfl
  generalize (h1.push (.lst [shV (List.replicate rows.length 0)])).set n (.ins 4 (fput 9 (.ref h1.n) [(8, .ref t)])) = h3 at e3 p3 k3 z3
  have e4 : (h3.push (.lst [])).get n = some (.ins 4 [(8, .ref t), (9, .ref h1.n)]) := MH.push_of e3
  have r4 : (h3.push (.lst [])).get (h1.n + 1) = some (.lst []) := by rw [← z3]; exact MH.push_same _ _
  have p4 : (h3.push (.lst [])).get h1.n = _ := MH.push_of p3
  have k4 : Sx n h (h3.push (.lst [])) := k3.trans Sub.push.sx
  refine ⟨_, e4, by simp, ⟨h1.n, h1.n + 1, ⟨MH.set_same e4, (MH.set_ne pn).trans p4, (MH.set_ne (by omega)).trans r4, ?_, by omega⟩, by omega, by omega⟩, k4.trans Sx.set⟩
  have kk : Sx n h ((h3.push (.lst [])).set n (.ins 4 (fput 10 (.ref (h1.n + 1)) [(8, .ref t), (9, .ref h1.n)]))) := k4.trans Sx.set
  refine ⟨q, es, kk _ _ nt t1, kk _ _ nq t2, t3, fun i e' x a b => ⟨(t4 i e' x a b).1, kk _ _ (fun w => ?_) (t4 i e' x a b).2⟩⟩
  have := (t4 i e' x a b).2
  rw [w, e] at this
  cases this
/-! ### dicts of rows, locked or not -/
theorem oc_lockX {fp : EM} {s : SM} {σ : Sl} {n : Nat} {lk : Bool} {kvs : List (MV × MV)} {P : Po} (ep : fp σ h = .ok (.ref n) h) (en : h.get n = some (.dct false lk kvs))
    (k : ∀ h0, h0.get n = some (.dct false true kvs) → (∀ a o, a ≠ n → h.get a = some o → h0.get a = some o) → Oc (s σ h0) ⟨fun σ1 h1 => h1.get n = some (.dct false true kvs) ∧ ∀ h3, (∀ a o, a ≠ n → h1.get a = some o → h3.get a = some o) → h3.get n = some (.dct false lk kvs) → P.n σ1 h3, fun _ _ => False, fun _ _ => False, fun _ _ => False⟩) : Oc (jLock fp s σ h) P := by
  cases lk with
  | true =>
    refine oc_lockL ep en ((k h en fun _ _ _ e => e).imp ?_ (fun _ _ z => z.elim) (fun _ _ z => z.elim) (fun _ _ z => z.elim))
    rintro σ1 h1 ⟨e, z⟩
    exact z h1 (fun _ _ _ e => e) e
  | false =>
    refine oc_lock ep en ((k _ (MH.set_same en) fun a o ne e => by rw [MH.set_ne ne]; exact e).imp ?_ (fun _ _ z => z.elim) (fun _ _ z => z.elim) (fun _ _ z => z.elim))
    rintro σ1 h1 ⟨e, z⟩
    exact ⟨kvs, e, z _ (fun a o ne e => by rw [MH.set_ne ne]; exact e) (MH.set_same e)⟩
theorem rt_lockX {fp e : EM} {σ : Sl} {n : Nat} {lk : Bool} {kvs : List (MV × MV)} {Q : MV → MH → Prop} (ep : fp σ h = .ok (.ref n) h) (en : h.get n = some (.dct false lk kvs))
    (k : ∀ h0, h0.get n = some (.dct false true kvs) → (∀ a o, a ≠ n → h.get a = some o → h0.get a = some o) → Rt (e σ h0) fun v h1 => h1.get n = some (.dct false true kvs) ∧ ∀ h3, (∀ a o, a ≠ n → h1.get a = some o → h3.get a = some o) → h3.get n = some (.dct false lk kvs) → Q v h3) : Rt (eLock fp e σ h) Q := by
  cases lk with
  | true =>
    refine rt_eLockL ep en ((k h en fun _ _ _ e => e).imp ?_)
    rintro v h1 ⟨e, z⟩
    exact z h1 (fun _ _ _ e => e) e
  | false =>
    refine rt_eLock ep en ((k _ (MH.set_same en) fun a o ne e => by rw [MH.set_ne ne]; exact e).imp ?_)
    rintro v h1 ⟨e, z⟩
    exact ⟨kvs, e, z _ (fun a o ne e => by rw [MH.set_ne ne]; exact e) (MH.set_same e)⟩
/-- the walk over a dict of rows and shifts -/
theorem zipE_at {i : Nat} {x : NR} {s : Int} (en : h.get n = some (.dct false true (rows.map encR))) (ex : rows[i]? = some x) (es : l[i]? = some s) : (wkZ (wkD 0 n rows.length) (wkT (l.map MV.int))).at_ i h = some (.tup [.str x.1, .int s]) :=
  wkZ_at (a := wkD 0 n rows.length) (x := .str x.1) (by
    have := wkD_at (k := 0) (n := rows.length) en (i := i) (p := encR x) (by rw [List.getElem?_map, ex]; rfl)
    rw [this]; rfl) (shV_at es h)
theorem lwith_rt {lk : Bool} {a : List Nat} {k : Int} (en : h.get n = some (.dct false lk (rows.map encR))) (O : TOk rows) (S : ShOk rows l) (ha : sOk a = true) : Rt (m__law_with_0 [.ref n, shV l, .str a, .int k] h) fun v h' => v = shV (withSh rows l a k) ∧ Sub h h' := by
  unfold m__law_with_0
  have l4 := O.l4
  have hl := S.len
  simp -implicitDefEqProofs [asg, shV, -Prod.forall, -Prod.exists]
  have en0 : (h.push (.lst [])).get h.n = some (.lst []) := MH.push_same _ _
  have s0 : Sub h (h.push (.lst [])) := Sub.push
  have lt : ∀ b o, h.get b = some o → b ≠ h.n := fun b o e => Nat.ne_of_lt (MH.get_lt e)
  have nn := lt _ _ en
  generalize hn0 : h.n = n0 at en0 lt nn
  generalize h.push (.lst []) = h1 at en0 s0
  refine oc_lockX (n := n) rfl (s0 _ _ en) fun h2 en2 keep => ?_
  have l2 := keep _ _ (Ne.symm nn) en0
  rw [oc_for, rt_wZipG]
  simp -implicitDefEqProofs [srcM_tup, srcM_dct (k := 0) en2, -Prod.forall, -Prod.exists]
  have hn : (wkD 0 n rows.length).n = (wkT (l.map MV.int)).n := by simp; omega
  refine for_inv (fun i σ h' => ∃ v5 v6, σ = [some (.ref n), some (.tup (l.map MV.int)), some (.str a), some (.int k), some (.ref n0), v5, v6] ∧ h'.get n0 = some (.lst (((withSh rows l a k).take i).map MV.int)) ∧ Sx n0 h2 h') ⟨_, _, rfl, by simpa using l2, .refl⟩ ?_ ?_
  · rintro i σ h' hi ⟨v5, v6, rfl, ef, sx⟩
    have hi' : i < rows.length := by rw [wkZ_n hn] at hi; exact hi
    obtain ⟨x, s, ex, es, s0', s1⟩ := S.get hi'
    have hx := List.mem_of_getElem? ex
    have o := O.ok x hx
    have hc : 0 < x.2.c := by have := o.c1; omega
    have en3 := sx _ _ nn en2
    have wa := withSh_at (a := a) (k := k) ex es
    have nx := (O.nm x hx).sok
    have dg := dget_enc O.nd hx
    refine ⟨_, _, zipE_at en3 ex es, rfl, ?_⟩
    have step : ((withSh rows l a k).take i).map MV.int ++ [.int (if x.1 = a then (s + k) % x.2.c else s)] = ((withSh rows l a k).take (i + 1)).map MV.int := by
      rw [List.take_add_one, wa]; simp
    simp -implicitDefEqProofs [-Prod.forall, -Prod.exists]
    refine append_rt (f := n0) (xs := ((withSh rows l a k).take i).map MV.int) (v := .int (if x.1 = a then (s + k) % x.2.c else s)) rfl ef (by simp; omega) ?_ ?_
    · by_cases c : x.1 = a
      · have dg' : dget (.str a) (rows.map encR) = some (rowV x.2) := c ▸ dg
        simp -implicitDefEqProofs [eq_str nx ha, eq_str ha ha, c, dget_eq (k := .str a) en3 rfl dg', ix_row0, mod_int h' hc]
      · simp -implicitDefEqProofs [eq_str nx ha, c]
    · refine ⟨?_, sx.trans Sx.set⟩
      rw [MH.set_same ef, step]
      simp
  · rintro σ h' ⟨v5, v6, rfl, ef, sx⟩
    have en3 := sx _ _ nn en2
    refine ⟨wkZ_fin hn (by have := wkD_fin (k := 0) en3; rwa [List.length_map] at this), en3, fun h3 k1 k2 => ?_⟩
    rw [wkZ_n hn] at ef
    have ew : (withSh rows l a k).take (wkD 0 n rows.length).n = withSh rows l a k := by
      rw [wkD_n, ← withSh_len S a k, List.take_length]
    rw [ew] at ef
    have ef3 := k1 _ _ (Ne.symm nn) ef
    show Rt (qTupOf [.ref n0] h3) fun v h' => v = MV.tup (List.map MV.int (withSh rows l a k)) ∧ Sub h h'
    have et : qTupOf [.ref n0] h3 = .ok (shV (withSh rows l a k)) h3 := by
      show qTupOf1 (.ref n0) h3 = _
      unfold qTupOf1
      simp only [ef3]
      rfl
    rw [et]
    refine ⟨rfl, fun b ob eb => ?_⟩
    by_cases c : b = n
    · subst c
      rw [en] at eb
      cases eb
      exact k2
    · exact k1 _ _ c (sx _ _ (lt _ _ eb) (keep _ _ c (s0 _ _ eb)))
theorem lprice_rt {lk : Bool} (en : h.get n = some (.dct false lk (rows.map encR))) (O : TOk rows) (S : ShOk rows l) : Rt (m__law_price_2 [.ref n, shV l] h) fun v h' => v = .int (costR rows l) ∧ Sub h h' := by
  unfold m__law_price_2
  have l4 := O.l4
  have hl := S.len
  simp -implicitDefEqProofs [shV, -Prod.forall, -Prod.exists]
  refine rt_lockX (n := n) rfl en fun h2 en2 keep => ?_
  rw [rt_eLc, rt_wZipG]
  simp -implicitDefEqProofs [srcM_tup, srcM_dct (k := 0) en2, -Prod.forall, -Prod.exists]
  have hn : (wkD 0 n rows.length).n = (wkT (l.map MV.int)).n := by simp; omega
  refine acc_pix (w := wkZ (wkD 0 n rows.length) (wkT (l.map MV.int))) rows.length (fun _ => true) (fun i => match (rows.zip l)[i]? with
    | some y => .int (y.2 * y.1.2.g)
    | none => .non) (by rw [wkZ_n hn]; rfl) (by omega) (wkZ_fin hn (by have := wkD_fin (k := 0) en2; rwa [List.length_map] at this)) (fun i hi => ?_) fun k hk => ?_
  · obtain ⟨x, s, ex, es, s0, s1⟩ := S.get hi
    have hx := List.mem_of_getElem? ex
    have o := O.ok x hx
    have g1 := o.g1
    have g2 := o.g2
    have c2 := o.c2
    have dg := dget_enc O.nd hx
    refine ⟨_, _, zipE_at en2 ex es, rfl, ?_⟩
    rw [List.getElem?_zip_eq_some.mpr (show rows[i]? = some (x, s).1 ∧ l[i]? = some (x, s).2 from ⟨ex, es⟩)]
    simp -implicitDefEqProofs [dget_eq (k := .str x.1) en2 rfl dg, ix_row3, mul_l (i := s) (j := x.2.g) h2 (by omega) (by omega)]
  · rw [List.append_nil, List.reverse_reverse, List.filter_eq_self.mpr (by simp)]
    refine ⟨MH.push_of en2, fun h3 k1 k2 => ?_⟩
    have := range_map (rows.zip l) (fun i => match (rows.zip l)[i]? with
      | some y => MV.int (y.2 * y.1.2.g)
      | none => .non) (fun y => MV.int (y.2 * y.1.2.g)) fun i y e => by simp only [e]
    rw [List.length_zip, hl, Nat.min_self] at this
    rw [this, show (rows.zip l).map (fun y => MV.int (y.2 * y.1.2.g)) = ((rows.zip l).map fun y => y.2 * y.1.2.g).map MV.int by rw [List.map_map]; rfl] at k1
    have nn : h2.n ≠ n := Nat.ne_of_gt (MH.get_lt en2)
    rw [sum_list (k1 _ _ nn (MH.push_same _ _))]
    refine ⟨rfl, fun b ob eb => ?_⟩
    by_cases c : b = n
    · subst c
      rw [en] at eb
      cases eb
      exact k2
    · exact k1 _ _ c (MH.push_of (keep _ _ c eb))
/-- the shifted rows -/
theorem lafter_rt {lk : Bool} (en : h.get n = some (.dct false lk (rows.map encR))) (O : TOk rows) (S : ShOk rows l) : Rt (m__law_after_0 [.ref n, shV l] h) fun v h' => ∃ m, v = .ref m ∧ h.n ≤ m ∧ h'.get m = some (.dct false false ((shRows rows l).map encR)) ∧ Sub h h' := by
  unfold m__law_after_0
  have l4 := O.l4
  have hl := S.len
  simp -implicitDefEqProofs [asg, shV, -Prod.forall, -Prod.exists]
  have en0 : (h.push (.dct false false [])).get h.n = some (.dct false false []) := MH.push_same _ _
  have s0 : Sub h (h.push (.dct false false [])) := Sub.push
  have lt : ∀ b o, h.get b = some o → b ≠ h.n := fun b o e => Nat.ne_of_lt (MH.get_lt e)
  have nn := lt _ _ en
  generalize hn0 : h.n = n0 at en0 lt nn
  generalize h.push (.dct false false []) = h1 at en0 s0
  refine oc_lockX (n := n) rfl (s0 _ _ en) fun h2 en2 keep => ?_
  have l2 := keep _ _ (Ne.symm nn) en0
  rw [oc_for, rt_wZipG]
  simp -implicitDefEqProofs [srcM_tup, srcM_dct (k := 0) en2, -Prod.forall, -Prod.exists]
  have hn : (wkD 0 n rows.length).n = (wkT (l.map MV.int)).n := by simp; omega
  refine for_inv (fun i σ h' => ∃ v3 v4, σ = [some (.ref n), some (.tup (l.map MV.int)), some (.ref n0), v3, v4] ∧ h'.get n0 = some (.dct false false (((shRows rows l).take i).map encR)) ∧ Sx n0 h2 h') ⟨_, _, rfl, by simpa using l2, .refl⟩ ?_ ?_
  · rintro i σ h' hi ⟨v3, v4, rfl, ef, sx⟩
    have hi' : i < rows.length := by rw [wkZ_n hn] at hi; exact hi
    obtain ⟨x, s, ex, es, s0', s1⟩ := S.get hi'
    have hx := List.mem_of_getElem? ex
    have o := O.ok x hx
    have en3 := sx _ _ nn en2
    have dg := dget_enc O.nd hx
    have sh := shRows_at ex es
    refine ⟨_, _, zipE_at en3 ex es, rfl, ?_⟩
    simp -implicitDefEqProofs [dget_eq (k := .str x.1) en3 rfl dg, lmoved_eq o, -Prod.forall, -Prod.exists]
    refine .inl ⟨_, ef, rfl, by simp; omega, ?_, sx.trans Sx.set⟩
    rw [MH.set_same ef]
    have nk : x.1 ∉ ((shRows rows l).take i).map (·.1) := fun w => by
      have nd := (O.sh S).nd
      have hi2 : i < (shRows rows l).length := by rw [shRows_len S]; exact hi'
      obtain ⟨y, hy, e⟩ := List.mem_map.mp w
      obtain ⟨k, hk, rfl⟩ := List.mem_iff_getElem.mp hy
      rw [List.length_take] at hk
      rw [List.getElem_take] at e
      have z2 : (shRows rows l)[i].1 = x.1 := by
        have := sh
        rw [List.getElem?_eq_getElem hi2] at this
        rw [Option.some.inj this]
      have : ((shRows rows l).map (·.1))[k]'(by rw [List.length_map]; omega) = ((shRows rows l).map (·.1))[i]'(by rw [List.length_map]; exact hi2) := by
        rw [List.getElem_map, List.getElem_map, e, z2]
      have := (List.getElem_inj nd).mp this
      omega
    have tk := List.take_add_one (l := shRows rows l) (i := i)
    rw [sh] at tk
    rw [dput_enc nk]
    first
      | (rw [tk, List.map_append]; rfl)
      | (rw [← List.map_take, tk, List.map_append]; rfl)
  · rintro σ h' ⟨v3, v4, rfl, ef, sx⟩
    have en3 := sx _ _ nn en2
    refine ⟨wkZ_fin hn (by have := wkD_fin (k := 0) en3; rwa [List.length_map] at this), en3, fun h3 k1 k2 => ?_⟩
    rw [wkZ_n hn] at ef
    have ew : (shRows rows l).take (wkD 0 n rows.length).n = shRows rows l := by
      rw [wkD_n, ← shRows_len S, List.take_length]
    rw [ew] at ef
    refine (show ∃ m, MV.ref n0 = .ref m ∧ n0 ≤ m ∧ h3.get m = some (.dct false false ((shRows rows l).map encR)) ∧ Sub h h3 from ⟨n0, rfl, Nat.le_refl _, k1 _ _ (Ne.symm nn) ef, fun b ob eb => ?_⟩)
    by_cases c : b = n
    · subst c
      rw [en] at eb
      cases eb
      exact k2
    · exact k1 _ _ c (sx _ _ (lt _ _ eb) (keep _ _ c (s0 _ _ eb)))
end
end KA

set_option linter.all false
/-! DSpec5: pairs of names, what is free, the timetable of drawn rows (laws 12, 54). -/
namespace KA
section
variable {h : MH} {t n : Nat} {rows : List NR} {l : List Int}
theorem Drawn.tok {most : Int} (D : Drawn most rows) (hm : most ≤ 2000) : TOk rows :=
  ⟨D.l1, D.l4, fun x hx => D.name hx, D.nd, D.ok, by have := D.pr; omega⟩
theorem shRows_names (S : ShOk rows l) : (shRows rows l).map (·.1) = rows.map (·.1) := by
  unfold shRows
  rw [List.map_map]
  show (rows.zip l).map ((·.1) ∘ Prod.fst) = _
  rw [← List.map_map, List.map_fst_zip (by have := S.len; omega)]
def twoN (q : NR × NR) : MV := .tup [.str q.1.1, .str q.2.1]
theorem lpairsX_rt {lk : Bool} {rows0 : List NR} (en : h.get n = some (.dct false lk (rows0.map encR))) (hr : rows0.map (·.1) = rows.map (·.1)) (hl : rows.length ≤ 4) :
    Rt (m__law_pairs_0 [.ref n] h) fun v h' => ∃ p : Nat, v = .ref p ∧ h'.get p = some (.lst ((prs rows).map twoN)) ∧ Sub h h' := by
  unfold m__law_pairs_0
  have hk : (rows0.map encR).map (·.1) = rows.map fun x => MV.str x.1 := by
    have := congrArg (List.map MV.str) hr
    rw [List.map_map, List.map_map] at this
    rw [List.map_map]
    exact this
  have el : qListOf [.ref n] h = .ok (.ref h.n) (h.push (.lst (rows.map fun x => MV.str x.1))) := by
    show qListOf1 (.ref n) h = _
    unfold qListOf1
    rw [← hk]
    simp only [en]
  simp -implicitDefEqProofs [el, -Prod.forall, -Prod.exists, -List.length_map, -List.map_map]
  have s2 : Sub h ((h.push (.lst (rows.map fun x => MV.str x.1))).push (.lst [])) := Sub.push.trans Sub.push
  have e2 : ((h.push (.lst (rows.map fun x => MV.str x.1))).push (.lst [])).get h.n = some (.lst (rows.map fun x => MV.str x.1)) := MH.push_of (MH.push_same _ _)
  have f2 : ((h.push (.lst (rows.map fun x => MV.str x.1))).push (.lst [])).get (h.n + 1) = some (.lst []) := MH.push_same (h.push (.lst (rows.map fun x => MV.str x.1))) _
  refine ⟨_, e2, ?_⟩
  generalize (h.push (.lst (rows.map fun x => MV.str x.1))).push (.lst []) = h2 at s2 e2 f2
  rw [List.length_map]
  refine for_inv (w := wkE (wkL h.n rows.length)) (fun i σ h' => ∃ (p : Nat) (v3 v4 v5 : Option MV), σ = [some (.ref n), some (.ref h.n), some (.ref p), v3, v4, v5] ∧ h'.get p = some (.lst ((prsTo rows i).map twoN)) ∧ (prsTo rows i).length ≤ 4 * i ∧ h'.get h.n = some (.lst (rows.map fun x => MV.str x.1)) ∧ Sub h h')
    ⟨_, _, _, _, rfl, f2, by simp [prsTo], e2, s2⟩ ?_ ?_
  · rintro i σ h3 hi ⟨p, v3, v4, v5, rfl, eL, hLl, ek, sb⟩
    have hi' : i < rows.length := hi
    have ex : rows[i]? = some rows[i] := List.getElem?_eq_getElem hi'
    have ev : (rows.map fun x => MV.str x.1)[i]? = some (.str rows[i].1) := by rw [List.getElem?_map, ex]; rfl
    refine ⟨.tup [.int (i : Nat), .str rows[i].1], _, ?_, rfl, ?_⟩
    · show (match (wkL h.n rows.length).at_ i h3 with | some v => some (MV.tup [.int (i : Nat), v]) | none => none) = _
      rw [wkL_at ek ev]
    simp -implicitDefEqProofs [slP, seq_ref ek, -Prod.forall, -Prod.exists]
    have cut : cutM (rows.map fun x => MV.str x.1) (some ((i : Int) + 1)) none = (rows.map fun x => MV.str x.1).drop (i + 1) := cutM_lo _ (i + 1)
    rw [cut]
    refine ⟨_, MH.push_same _ _, ?_⟩
    refine acc_pure ((rows.map fun x => MV.str x.1).drop (i + 1)) (fun _ => true) (fun v => .tup [.str rows[i].1, v]) rfl (by simp; omega) (fun j v e => wkL_at (MH.push_same _ _) e) (wkL_fin (MH.push_same _ _)) ?_ ?_
    · intro v hv
      exact ⟨_, rfl, by simp, fun _ => by simp⟩
    intro k
    rw [List.reverse_reverse, List.filter_eq_self.mpr (by simp)]
    rw [add_lst (MH.push_of (MH.push_of eL)) (MH.push_same _ _)]
    have hd : List.map (fun v => MV.tup [.str rows[i].1, v]) ((rows.map fun x => MV.str x.1).drop (i + 1)) = ((rows.drop (i + 1)).map fun y => (rows[i], y)).map twoN := by
      rw [← List.map_drop, List.map_map, List.map_map]; rfl
    rw [hd, ← List.map_append, ← prsTo_succ ex]
    have dl : (prsTo rows (i + 1)).length ≤ 4 * (i + 1) := by
      rw [prsTo_succ ex, List.length_append, List.length_map, List.length_drop]; omega
    refine ⟨?_, _, ⟨_, _, _, rfl⟩, MH.push_same _ _, dl, ?_, ?_⟩
    · rw [List.length_map, List.length_map, List.length_map, List.length_drop]; omega
    · exact MH.push_of (MH.push_of (MH.push_of ek))
    · exact ((sb.trans Sub.push).trans Sub.push).trans Sub.push
  · rintro σ h3 ⟨p, v3, v4, v5, rfl, eL, hLl, ek, sb⟩
    refine ⟨by show (wkL h.n rows.length).fin h3 = true; have := wkL_fin ek; rwa [List.length_map] at this, ?_⟩
    simp -implicitDefEqProofs [-Prod.forall, -Prod.exists]
    exact ⟨eL, sb⟩
theorem lfree_rt {lk : Bool} (en : h.get n = some (.dct false lk (rows.map encR))) (O : TOk rows) (S : ShOk rows l) : Rt (m__law_free_0 [.ref n, shV l] h) fun v h' => v = .bl (freeB (shRows rows l)) ∧ Sub h h' := by
  unfold m__law_free_0
  simp -implicitDefEqProofs [asg, -Prod.forall, -Prod.exists]
  refine (lafter_rt en O S).imp ?_
  rintro v h1 ⟨m, rfl, hm, em, sb1⟩
  have O2 := O.sh S
  have hr := (shRows_names S).symm
  generalize shRows rows l = rs at em O2 hr
  refine (lpairsX_rt (sb1 _ _ en) hr O2.l4).imp ?_
  rintro v h2 ⟨q, rfl, eq, sb2⟩
  refine ⟨q, rfl, _, eq, ?_⟩
  have em2 := sb2 _ _ em
  have lp := prs_len rs O2.l4
  rw [List.length_map]
  refine acc_pix (prs rs).length (fun _ => true) (fun i => match (prs rs)[i]? with
    | some z => .bl (neverB z.1.2 z.2.2)
    | none => .non) rfl (by omega) (by have := wkL_fin eq; rwa [List.length_map] at this) (fun i hi => ?_) fun k hk => ?_
  · have ex : (prs rs)[i]? = some (prs rs)[i] := List.getElem?_eq_getElem hi
    obtain ⟨a, b, hab, ea, eb⟩ := prs_mem (List.getElem_mem hi)
    have ma := List.mem_of_getElem? ea
    have mb := List.mem_of_getElem? eb
    have oa := O2.ok _ ma
    have ob := O2.ok _ mb
    have ga := dget_enc O2.nd ma
    have gb := dget_enc O2.nd mb
    refine ⟨twoN (prs rs)[i], _, wkL_at eq (by rw [List.getElem?_map, ex]; rfl), rfl, ?_⟩
    rw [ex]
    simp -implicitDefEqProofs [-isN_eq, dget_eq (k := .str (prs rs)[i].1.1) em2 rfl ga, dget_eq (k := .str (prs rs)[i].2.1) em2 rfl gb, lmeet_eq oa ob, isN_optV, none_never oa ob]
  · rw [List.append_nil, List.reverse_reverse, List.filter_eq_self.mpr (by simp)]
    have hb : (List.range (prs rs).length).map (fun i => match (prs rs)[i]? with
        | some z => MV.bl (neverB z.1.2 z.2.2)
        | none => .non) = ((prs rs).map fun z => neverB z.1.2 z.2.2).map MV.bl := by
      rw [List.map_map]
      exact range_map (prs rs) _ (fun z => MV.bl (neverB z.1.2 z.2.2)) fun i z e => by simp only [e]
    rw [hb, qBls_eq (g := allB) (seq_ref (MH.push_same _ _)) (bls_map _)]
    refine ⟨?_, (sb1.trans sb2).trans Sub.push⟩
    simp [allB, freeB, List.all_map]
/-- the timetable of drawn rows -/
theorem ltab_rt {lk : Bool} (en : h.get n = some (.dct false lk (rows.map encR))) (O : TOk rows) :
    Rt (m__law_table_0 [.ref n] h) fun v h' => ∃ t : Nat, v = .ref t ∧ Tab h' t rows ∧ h.n ≤ t ∧ Sub h h' := by
  unfold m__law_table_0
  simp -implicitDefEqProofs [asg, -Prod.forall, -Prod.exists]
  have en0 : (h.push (.dct false false [])).get h.n = some (.dct false false []) := MH.push_same _ _
  have s0 : Sub h (h.push (.dct false false [])) := Sub.push
  have lt : ∀ b o, h.get b = some o → b ≠ h.n := fun b o e => Nat.ne_of_lt (MH.get_lt e)
  have nn := lt _ _ en
  generalize hn0 : h.n = d at en0 lt nn
  generalize h.push (.dct false false []) = h1 at en0 s0
  refine oc_lockX (n := n) rfl (s0 _ _ en) fun h2 en2 keep => ?_
  have l2 := keep _ _ (Ne.symm nn) en0
  simp -implicitDefEqProofs [-Prod.forall, -Prod.exists]
  refine ⟨_, en2, ?_⟩
  rw [List.length_map]
  refine for_inv (w := wkD 0 n rows.length) (fun i σ h' => ∃ (es : List Ent) (v2 : Option MV), σ = [some (.ref n), some (.ref d), v2] ∧ es.length = i ∧ (∀ (k : Nat) (e : Ent) (x : NR), es[k]? = some e → rows[k]? = some x → e.1 = x.1 ∧ h'.get e.2 = some (jobO x.2)) ∧ h'.get d = some (.dct false false (es.map entK)) ∧ Sx d h2 h')
    ⟨[], none, rfl, rfl, by simp, l2, .refl⟩ ?_ ?_
  · rintro i σ h3 hi ⟨es, v2, rfl, hl, hj, ed, sx⟩
    have hi' : i < rows.length := hi
    have ev : (rows.map encR)[i]? = some (encR rows[i]) := by rw [List.getElem?_map, List.getElem?_eq_getElem hi']; rfl
    have jm := List.getElem_mem hi'
    have en3 := sx _ _ nn en2
    refine ⟨_, _, wkD_at en3 ev, rfl, ?_⟩
    have dg : dget (.str rows[i].1) (rows.map encR) = some (rowV rows[i].2) := dget_enc O.nd jm
    simp -implicitDefEqProofs [entM, encR, dget_eq (k := .str rows[i].1) en3 rfl dg, -Prod.forall, -Prod.exists]
    refine (ljob_rt (O.ok _ jm)).imp ?_
    rintro v h4 ⟨rfl, ej, sb4, en4⟩
    have ed4 := sb4 _ _ ed
    have nj : ∀ b (r : Row), h4.get b = some (jobO r) → b ≠ d := fun b r z w => by rw [w, ed4] at z; cases z
    refine .inl ⟨_, ed4, rfl, by have := O.l4; simp; omega, es ++ [(rows[i].1, h3.n)], by simp [hl], ?_, ?_, (sx.trans sb4.sx).trans Sx.set⟩
    · intro k ea xa hk hx
      by_cases c : k < es.length
      · rw [List.getElem?_append_left c] at hk
        obtain ⟨q1, q2⟩ := hj k _ _ hk hx
        have q3 := sb4 _ _ q2
        exact ⟨q1, by rw [MH.set_ne (nj _ _ q3)]; exact q3⟩
      · have hkl : k < es.length + 1 := by have := (List.getElem?_eq_some_iff.mp hk).1; simpa using this
        have : k = i := by omega
        subst this
        rw [List.getElem?_append_right (by omega), hl] at hk
        simp at hk
        rw [List.getElem?_eq_getElem hi'] at hx
        have hx' := Option.some.inj hx
        subst hk
        rw [hx'] at ej
        exact ⟨by rw [hx'], by rw [MH.set_ne (nj _ _ ej)]; exact ej⟩
    · rw [MH.set_same ed4, dput_new]
      · simp [entK]
      · intro q hq
        obtain ⟨x, hx, rfl⟩ := List.mem_map.mp hq
        show keyB (.str x.1) (.str rows[i].1) = false
        rw [keyB_str, decide_eq_false]
        intro w
        obtain ⟨k, hk, rfl⟩ := List.mem_iff_getElem.mp hx
        have hk' : k < rows.length := by omega
        have z := (hj k _ _ (List.getElem?_eq_getElem hk) (List.getElem?_eq_getElem hk')).1
        rw [w] at z
        have nd := O.nd
        have : (rows.map (·.1))[k]'(by simpa using hk') = (rows.map (·.1))[i]'(by simpa using hi') := by simp [z]
        have := (List.getElem_inj nd).mp this
        omega
  · rintro σ h3 ⟨es, v2, rfl, hl, hj, ed, sx⟩
    have en3 := sx _ _ nn en2
    refine ⟨by have := wkD_fin (k := 0) en3; rwa [List.length_map] at this, en3, fun h4 k1 k2 => ?_⟩
    have sb : Sub h h4 := fun b ob eb => by
      by_cases c : b = n
      · subst c
        rw [en] at eb
        cases eb
        exact k2
      · exact k1 _ _ c (sx _ _ (lt _ _ eb) (keep _ _ c (s0 _ _ eb)))
    have ed4 := k1 _ _ (Ne.symm nn) ed
    refine make_tab (h := h4) (by simp) ed4 (by rw [hl]; rfl) (fun i e x a b => ?_) O ?_
    · obtain ⟨q1, q2⟩ := hj i e x a b
      refine ⟨q1, k1 _ _ (fun w => ?_) q2⟩
      rw [w, en3] at q2
      cases q2
    · intro h5 T sb5 _
      have := MH.get_lt ed4
      exact ⟨_, rfl, T, by omega, sb.trans sb5⟩
end
end KA

set_option linter.all false
/-! DSpec6: own-class steps as rules; a desk over a locked dict; a desk stands (laws 12, 54). -/
namespace KA
section
variable {h : MH} {t n d p r : Nat} {rows : List NR} {l : List Int} {ps : List (List Int)} {nm : List (List Nat)}
theorem rt_qOw1 {c : Nat} {g : FM} {n : Nat} {fs : List (Nat × MV)} {Q : MV → MH → Prop} (e : h.get n = some (.ins c fs)) (q : Rt (g [.ref n] h) Q) : Rt (qOw1 c g (.ref n) h) Q := by
  unfold qOw1
  rw [isIns_of_get e]
  exact q
theorem rt_qOw2 {c : Nat} {g : FM} {n : Nat} {w : MV} {fs : List (Nat × MV)} {Q : MV → MH → Prop} (e : h.get n = some (.ins c fs)) (q : Rt (g [.ref n, w] h) Q) : Rt (qOw2 c g (.ref n) w h) Q := by
  unfold qOw2
  rw [isIns_of_get e]
  exact q
theorem rt_qOwIn {c : Nat} {g : FM} {n : Nat} {w : MV} {fs : List (Nat × MV)} {Q : MV → MH → Prop} (e : h.get n = some (.ins c fs)) (q : Rt (g [.ref n, w] h) fun v h' => ∃ b, v = .bl b ∧ Q (.bl b) h') : Rt (qOwIn false c g w (.ref n) h) Q := by
  unfold qOwIn
  rw [rt_bind]
  refine (rt_qOw2 e q).imp ?_
  rintro v h' ⟨b, rfl, z⟩
  exact z
def lenOk (z : MV) (h1 : MH) : Res MV := match z with
  | .int i => (match decide (0 ≤ i) && decide (i < 9223372036854775808) with
    | true => .ok (.int i) h1
    | false => .bad)
  | _ => .bad
theorem lenOk_e {i : Int} (k0 : 0 ≤ i) (k1 : i < 9223372036854775808) : lenOk (.int i) h = .ok (.int i) h := by
  unfold lenOk
  show (match decide (0 ≤ i) && decide (i < 9223372036854775808) with
    | true => Res.ok (MV.int i) h
    | false => .bad) = _
  generalize hb : (decide (0 ≤ i) && decide (i < 9223372036854775808)) = b
  rw [decide_eq_true k0, decide_eq_true k1] at hb
  subst hb
  rfl
theorem big_lt {i : Int} (k1 : i < 1000) : i < 9223372036854775808 := by omega
theorem lenOk_eq {k : Nat} (k1 : k < 1000) : lenOk (.int (k : Int)) h = .ok (.int (k : Int)) h :=
  lenOk_e (Int.natCast_nonneg k) (big_lt (by omega))
theorem rt_qOwLen {c : Nat} {g : FM} {n : Nat} {fs : List (Nat × MV)} {Q : MV → MH → Prop} (e : h.get n = some (.ins c fs)) (q : Rt (g [.ref n] h) fun v h' => ∃ k : Nat, v = .int (k : Int) ∧ k < 1000 ∧ Q (.int (k : Int)) h') : Rt (qOwLen c g [.ref n] h) Q := by
  have w : qOwLen c g [.ref n] h = (qOw1 c g (.ref n) h).bind lenOk := rfl
  rw [w, rt_bind]
  refine (rt_qOw1 e q).imp ?_
  intro v h' w
  obtain ⟨k, w1, k1, z⟩ := w
  rw [w1, lenOk_eq k1]
  exact z
theorem rt_qOwBool {c : Nat} {g : FM} {n : Nat} {fs : List (Nat × MV)} {Q : MV → MH → Prop} (e : h.get n = some (.ins c fs)) (q : Rt (g [.ref n] h) fun v h' => ∃ b, v = .bl b ∧ Q (.bl b) h') : Rt (qOwBool c g [.ref n] h) Q := by
  show Rt ((qOw1 c g (.ref n) h).bind _) Q
  rw [rt_bind]
  refine (rt_qOw1 e q).imp ?_
  rintro v h' ⟨b, rfl, z⟩
  exact z
theorem rt_eGenM {c : Nat} {g : FM} {n : Nat} {o : EM} {σ : Sl} {fs : List (Nat × MV)} {Q : MV → MH → Prop} (eo : o σ h = .ok (.ref n) h) (e : h.get n = some (.ins c fs)) (q : Rt (g [.ref n] h) fun v h' => ∃ m xs, v = .ref m ∧ h'.get m = some (.lst xs) ∧ xs.length ≤ 16777216 ∧ Q (.ref h'.n) (h'.push (.lst xs))) : Rt (eGenM c g o σ h) Q := by
  unfold eGenM
  rw [eo]
  show Rt (match isIns c h (.ref n) with | true => (g [.ref n] h).bind copyL | false => .bad) Q
  rw [isIns_of_get e]
  show Rt ((g [.ref n] h).bind copyL) Q
  rw [rt_bind]
  refine q.imp ?_
  rintro v h' ⟨m, xs, rfl, em, hl, z⟩
  unfold copyL
  simp only [em]
  rw [rt_lim]
  exact ⟨hl, z⟩
/-- two lists of the same data -/
theorem eq_same {a b : Nat} {xs : List MV} (ea : h.get a = some (.lst xs)) (eb : h.get b = some (.lst xs)) (d1 : dataB 9 h (.ref a) = true) (d2 : dataB 9 h (.ref b) = true) (d3 : eqB 9 h (.ref a) (.ref b) = true) : qEq (.ref a) (.ref b) h = .ok (.bl true) h := by
  unfold qEq
  rw [d1, d2, d3]
  rfl
theorem ne_shV (l : List Int) (h : MH) : qNe (shV l) (shV l) h = .ok (.bl false) h := by
  have P : PD (shV l) := .inr ⟨l, rfl⟩
  unfold qNe
  rw [P.data 7 h, P.self 7 h]
  rfl
/-- a desk over a dict of rows that is locked or freed -/
theorem Dk.keep {h' : MH} {lk : Bool} (D : Dk h d t p r ps l nm rows) (O : TOk rows) (en : h.get n = some (.dct false lk (rows.map encR))) (k : ∀ a o, a ≠ n → h.get a = some o → h'.get a = some o) : Dk h' d t p r ps l nm rows := by
  obtain ⟨q, es, t1, t2, t3, t4⟩ := D.T
  have l1 := O.l1
  have dn : d ≠ n := fun w => by have := D.ed; rw [w, en] at this; cases this
  have pn : p ≠ n := fun w => by have := D.ep; rw [w, en] at this; cases this
  have rn : r ≠ n := fun w => by have := D.er; rw [w, en] at this; cases this
  have tn : t ≠ n := fun w => by rw [w, en] at t1; cases t1
  have qn : q ≠ n := fun w => by
    rw [w, en] at t2
    injection t2 with z
    injection z with z1 z2 z3
    cases es with
    | nil => simp at t3; omega
    | cons e es => cases rows with
      | nil => simp at l1
      | cons x xs =>
        simp only [List.map_cons, List.cons.injEq] at z3
        have := z3.1
        simp [encR, entK, rowV] at this
  refine ⟨k _ _ dn D.ed, k _ _ pn D.ep, k _ _ rn D.er, ⟨q, es, k _ _ tn t1, k _ _ qn t2, t3, fun i e x a b => ⟨(t4 i e x a b).1, k _ _ (fun w => ?_) (t4 i e x a b).2⟩⟩, D.npr⟩
  have := (t4 i e x a b).2
  rw [w, en] at this
  cases this
theorem Dk.sx {m : Nat} {h' : MH} (D : Dk h d t p r ps l nm rows) (s : Sx m h h') (hm : ∃ xs, h.get m = some (.lst xs)) (mp : p ≠ m) (mr : r ≠ m) : Dk h' d t p r ps l nm rows := by
  refine ⟨s _ _ (fun w => ?_) D.ed, s _ _ mp D.ep, s _ _ mr D.er, D.T.sx s hm, D.npr⟩
  obtain ⟨xs, e⟩ := hm
  have := D.ed
  rw [w, e] at this
  cases this
end
end KA

set_option linter.all false
/-! DSpec7: a desk stands (laws 12, 54). -/
namespace KA
section
variable {h : MH} {t n d p r : Nat} {rows : List NR} {l : List Int} {ps : List (List Int)} {nm : List (List Nat)}
def CT (v : MV) : Prop := ∃ (a : List Nat) (k : Int), v = .tup [.str a, .int k] ∧ sOk a = true
theorem CT.data {v : MV} (d : CT v) (f : Nat) (h : MH) : dataB (f + 2) h v = true := by
  obtain ⟨a, k, rfl, ha⟩ := d
  show [MV.str a, MV.int k].all (dataB (f + 1) h) = true
  simp [dataB, ha]
theorem CT.self {v : MV} (d : CT v) (f : Nat) (h : MH) : eqB (f + 2) h v v = true := by
  obtain ⟨a, k, rfl, ha⟩ := d
  show all2 (eqB (f + 1) h) [MV.str a, MV.int k] [MV.str a, MV.int k] = true
  refine all2_self fun x hx => ?_
  simp at hx
  rcases hx with rfl | rfl
  · show beqN a a = true
    rw [beqN_eq]; simp
  · simp [eqB]
theorem eq_ct {a b : Nat} {xs : List MV} (ea : h.get a = some (.lst xs)) (eb : h.get b = some (.lst xs)) (hx : ∀ x ∈ xs, CT x) : qEq (.ref a) (.ref b) h = .ok (.bl true) h := by
  have d : ∀ n, h.get n = some (.lst xs) → dataB 9 h (.ref n) = true := fun n en => by
    unfold dataB
    simp only [en]
    rw [List.all_eq_true]
    exact fun x m => (hx x m).data 6 h
  refine eq_same ea eb (d _ ea) (d _ eb) ?_
  unfold eqB
  simp only [seq_ref ea, seq_ref eb]
  exact all2_self fun x m => (hx x m).self 6 h
theorem cureTo_ct (O : TOk rows) (i : Nat) : ∀ v ∈ cureTo rows l i, CT v := fun v hv => by
  unfold cureTo at hv
  obtain ⟨x, hx, hv⟩ := List.mem_flatMap.mp hv
  unfold cure1 at hv
  obtain ⟨j, _, rfl⟩ := List.mem_map.mp hv
  exact ⟨_, _, rfl, (O.nm x (List.mem_of_mem_take hx)).sok⟩
theorem stands_rt (D : Dk h d t p r ps l nm rows) (en : h.get n = some (.dct false false (rows.map encR))) (O : TOk rows) (S : ShOk rows l) : Rt (m__law_stands_0 [.ref n, .ref d, shV l] h) fun v h' => v = .bl true ∧ Sub h h' := by
  unfold m__law_stands_0
  have l4 := O.l4
  have hl := S.len
  simp -implicitDefEqProofs [asg, -Prod.forall, -Prod.exists]
  refine rt_qOw1 D.ed ((now_rt D).imp ?_)
  rintro v h' ⟨rfl, rfl⟩
  simp -implicitDefEqProofs [ne_shV, -Prod.forall, -Prod.exists]
  refine rt_qOw1 D.ed ((spent_rt D O S).imp ?_)
  rintro v h1 ⟨rfl, s1⟩
  have D1 := D.sub s1
  have en1 := s1 _ _ en
  refine (lprice_rt en1 O S).imp ?_
  rintro v h2 ⟨rfl, s2⟩
  have D2 := D1.sub s2
  have en2 := s2 _ _ en1
  simp -implicitDefEqProofs [-Prod.forall, -Prod.exists]
  refine rt_qOw1 D2.ed ((dtable_rt D2 O S).imp ?_)
  rintro v h3 ⟨u, rfl, T3, s3⟩
  have D3 := D2.sub s3
  have en3 := s3 _ _ en2
  refine (lafter_rt en3 O S).imp ?_
  rintro v h4 ⟨m, rfl, _, em, s4⟩
  refine (ltab_rt em (O.sh S)).imp ?_
  rintro v h5 ⟨w, rfl, T5, _, s5⟩
  have T35 := (T3.sub s4).sub s5
  have D5 := (D3.sub s4).sub s5
  have en5 := s5 _ _ (s4 _ _ en3)
  obtain ⟨q1, es1, a1, _⟩ := id T35
  obtain ⟨q2, es2, a2, _⟩ := id T5
  refine rt_qOwB a1 a2 ((tab_eq_rt T35 T5 rfl).imp ?_)
  rintro v h6 ⟨rfl, s6⟩
  have D6 := D5.sub s6
  have en6 := s6 _ _ en5
  rw [sameT_self]
  simp -implicitDefEqProofs [-Prod.forall, -Prod.exists]
  refine rt_qOwBool D6.ed ((dbool_rt D6 O S).imp ?_)
  rintro v h7 ⟨rfl, s7⟩
  have D7 := D6.sub s7
  have en7 := s7 _ _ en6
  refine ⟨_, rfl, ?_⟩
  refine (lfree_rt en7 O S).imp ?_
  rintro v h8 ⟨rfl, s8⟩
  have D8 := D7.sub s8
  have en8 := s8 _ _ en7
  simp -implicitDefEqProofs [-Prod.forall, -Prod.exists]
  refine rt_qOwLen D8.ed ((dlen_rt D8 (by omega)).imp ?_)
  rintro v h9 ⟨rfl, s9⟩
  have D9 := D8.sub s9
  have en9 := s9 _ _ en8
  have fl := List.length_filter_le (fun s : Int => decide (s ≠ 0)) l
  refine ⟨_, rfl, by omega, ?_⟩
  simp -implicitDefEqProofs [shV, -Prod.forall, -Prod.exists, -List.length_map]
  refine acc_pix l.length (fun i => match l[i]? with
    | some s => decide (s > 0)
    | none => false) (fun i => match l[i]? with
    | some s => .int s
    | none => .non) (by simp) (by omega) rfl (fun i hi => ?_) fun k hk => ?_
  · have ex : l[i]? = some l[i] := List.getElem?_eq_getElem hi
    refine ⟨_, _, shV_at ex h9, rfl, ?_⟩
    rw [ex]
    simp -implicitDefEqProofs
  rw [List.append_nil, List.reverse_reverse, range_filter l _ _ (fun s => decide (s > 0)) MV.int (fun i x e => by simp only [e]) (fun i x e => by simp only [e])]
  have fe : l.filter (fun s => decide (s > 0)) = l.filter (fun s => !decide (s = 0)) := by
    refine List.filter_congr fun s hs => ?_
    obtain ⟨i, hi, rfl⟩ := List.mem_iff_getElem.mp hs
    obtain ⟨x, s, ex, es, s0, s1⟩ := S.get (i := i) (by omega)
    rw [List.getElem?_eq_getElem hi] at es
    have := Option.some.inj es
    rw [this, Bool.eq_iff_iff]
    simp
    omega
  rw [len_lst (MH.push_same _ _), List.length_map, fe]
  rw [rt_ok]
  have s10 : Sub h9 (h9.push (.lst ((l.filter fun s => !decide (s = 0)).map MV.int))) := Sub.push
  generalize h9.push (.lst ((l.filter fun s => !decide (s = 0)).map MV.int)) = h10 at s10
  simp -implicitDefEqProofs [-Prod.forall, -Prod.exists]
  have D10 := D9.sub s10
  have en10 := s10 _ _ en9
  have sA : Sub h' h10 := ((((((((s1.trans s2).trans s3).trans s4).trans s5).trans s6).trans s7).trans s8).trans s9).trans s10
  have D0 := D10.sub (Sub.push (o := .lst []))
  have en0 : (h10.push (.lst [])).get h10.n = some (.lst []) := MH.push_same _ _
  have s0 : Sub h10 (h10.push (.lst [])) := Sub.push
  have lt : ∀ b o, h10.get b = some o → b ≠ h10.n := fun b o e => Nat.ne_of_lt (MH.get_lt e)
  have nn := lt _ _ en10
  have pn := lt _ _ D10.ep
  have rn := lt _ _ D10.er
  have dn := lt _ _ D10.ed
  generalize hn0 : h10.n = n0 at en0 lt nn pn rn dn
  generalize h10.push (.lst []) = h11 at en0 s0 D0
  have en11 := s0 _ _ en10
  refine oc_lockX (n := n) rfl en11 fun g en2 keep => ?_
  have l2 := keep _ _ (Ne.symm nn) en0
  have Dg := D0.keep O en11 keep
  rw [oc_for, rt_wZipG]
  simp -implicitDefEqProofs [srcM_tup, srcM_dct (k := 0) en2, -Prod.forall, -Prod.exists]
  have hn : (wkD 0 n rows.length).n = (wkT (l.map MV.int)).n := by simp; omega
  refine for_inv (fun i σ h' => ∃ v4 v5 v6, σ = [some (.ref n), some (.ref d), some (.tup (l.map MV.int)), some (.ref n0), v4, v5, v6] ∧ h'.get n0 = some (.lst (cureTo rows l i)) ∧ Sx n0 g h') ⟨_, _, _, rfl, by simpa [cureTo] using l2, .refl⟩ ?_ ?_
  · rintro i σ h' hi ⟨v4, v5, v6, rfl, ef, sx⟩
    have hi' : i < rows.length := by rw [wkZ_n hn] at hi; exact hi
    obtain ⟨x, s, ex, es, s0', s1'⟩ := S.get hi'
    have hx := List.mem_of_getElem? ex
    have o := O.ok x hx
    have c1 := o.c1
    have c2 := o.c2
    have hlc := cureTo_len (l := l) O i (by omega)
    have en3 := sx _ _ nn en2
    have D3' := Dg.sx sx ⟨_, l2⟩ pn rn
    have nx := (O.nm x hx).sok
    have dg := dget_enc O.nd hx
    refine ⟨_, _, zipE_at en3 ex es, rfl, ?_⟩
    simp -implicitDefEqProofs [-Prod.forall, -Prod.exists]
    refine rt_qOw2 D3'.ed ((getitem_rt D3' O hl ex es).imp ?_)
    rintro v ha ⟨rfl, sa⟩
    have Da := D3'.sub sa
    simp -implicitDefEqProofs [-Prod.forall, -Prod.exists]
    refine rt_qOwIn Da.ed ((contains_rt Da O hl ex es).imp ?_)
    rintro v hb ⟨rfl, sb⟩
    have Db := Da.sub sb
    have s3b := sa.trans sb
    have enb := s3b _ _ en3
    have efb := s3b _ _ ef
    have sxb := sx.trans s3b.sx
    refine ⟨_, rfl, ?_⟩
    have cc : decide (s ≠ 0) = decide (s > 0) := by
      rw [Bool.eq_iff_iff]; simp; omega
    rw [cc]
    simp -implicitDefEqProofs [dget_eq (k := .str x.1) enb rfl dg, ix_row0, -Prod.forall, -Prod.exists]
    refine ⟨by decide, rgOk_of (by omega) (by omega), ?_⟩
    rw [show x.2.c.toNat - 1 = (x.2.c - 1).toNat by omega]
    refine for_inv (w := wkR 1 (x.2.c - 1).toNat) (fun k σ h' => ∃ v6, σ = [some (.ref n), some (.ref d), some (.tup (l.map MV.int)), some (.ref n0), some (.str x.1), some (.int s), v6] ∧ h'.get n0 = some (.lst (cureTo rows l i ++ cure1 rows l x k)) ∧ Sx n0 g h') ⟨_, rfl, by simpa [cure1] using efb, sxb⟩ ?_ ?_
    · rintro k σ h3 hk ⟨v6, rfl, ef3, sx3⟩
      have hk' : k < (x.2.c - 1).toNat := hk
      have en4 := sx3 _ _ nn en2
      have S2 := withSh_ok O S x.1 (1 + (k : Int))
      have hl1 := cure1_len (rows := rows) (l := l) x k
      refine ⟨.int (1 + (k : Int)), _, rfl, rfl, ?_⟩
      simp -implicitDefEqProofs [-Prod.forall, -Prod.exists]
      refine (lwith_rt en4 O S nx).imp ?_
      rintro v hc ⟨rfl, sc⟩
      refine (lfree_rt (sc _ _ en4) O S2).imp ?_
      rintro v he ⟨rfl, se⟩
      have sce := sc.trans se
      have efe := sce _ _ ef3
      rw [cure1_succ, ← List.append_assoc]
      cases q6 : freeB (shRows rows (withSh rows l x.1 (1 + (k : Int)))) with
      | false =>
        simp -implicitDefEqProofs
        exact ⟨efe, sx3.trans sce.sx⟩
      | true =>
        simp -implicitDefEqProofs
        refine append_rt (f := n0) (xs := cureTo rows l i ++ cure1 rows l x k) (v := .tup [.str x.1, .int (1 + (k : Int))]) rfl efe (by rw [List.length_append]; omega) (by simp) ?_
        exact ⟨by rw [MH.set_same efe]; simp, (sx3.trans sce.sx).trans Sx.set⟩
    · rintro σ h3 ⟨v6, rfl, ef3, sx3⟩
      refine ⟨rfl, ?_⟩
      rw [cureTo_succ ex]
      exact ⟨⟨_, _, _, rfl⟩, ef3, sx3⟩
  · rintro σ h3 ⟨v4, v5, v6, rfl, ef, sx⟩
    have en3 := sx _ _ nn en2
    refine ⟨wkZ_fin hn (by have := wkD_fin (k := 0) en3; rwa [List.length_map] at this), en3, fun h4 k1 k2 => ?_⟩
    have D3' := Dg.sx sx ⟨_, l2⟩ pn rn
    have D4 := D3'.keep O en3 k1
    rw [wkZ_n hn] at ef
    have ef4 := k1 _ _ (Ne.symm nn) ef
    have hlc := cureTo_len (l := l) O rows.length (Nat.le_refl _)
    have sB : Sub h10 h4 := fun b ob eb => by
      by_cases c : b = n
      · subst c
        rw [en10] at eb
        cases eb
        exact k2
      · exact k1 _ _ c (sx _ _ (lt _ _ eb) (keep _ _ c (s0 _ _ eb)))
    refine rt_eGenM rfl D4.ed ((cures_rt D4 O S).imp ?_)
    rintro v h5' ⟨m', rfl, em', s5'⟩
    refine ⟨m', _, rfl, em', by omega, ?_⟩
    have ef5 := MH.push_of (o := .lst (cureTo rows l rows.length)) (s5' _ _ ef4)
    show Rt (qEq (.ref h5'.n) (.ref n0) (h5'.push (.lst (cureTo rows l rows.length)))) _
    rw [eq_ct (MH.push_same _ _) ef5 (cureTo_ct O _)]
    exact ⟨rfl, ((sA.trans sB).trans s5').trans Sub.push⟩
end
end KA

set_option linter.all false
/-! M12: the law (printed by gen.py). -/
namespace KA
namespace L12
abbrev m_law : FM := m_law_4
end L12
end KA

set_option Elab.async false
set_option autoImplicit false
set_option linter.all false
set_option maxRecDepth 100000
set_option maxHeartbeats 400000
/-! D12: the derivations (printed by gen.py). -/
namespace KA
namespace L12
open PySem PySem.Spec PyProof.Rows L2
def top (i : Nat) : Stmt := PySem.Challenge.pw_keepapart_k12_whole_desks.main.body.getD i (.Pass ⟨0, 0, 0, 0⟩)
def cBody (s : Stmt) : List Stmt := match s with
  | .ClassDef _ _ _ b _ _ _ _ _ _ _ => b
  | _ => []
def clN : Nat → PySem.Str
  | 0 => "Job"
  | 1 => "Timetable"
  | 2 => "Spread"
  | 3 => "NoSpread"
  | 4 => "Desk"
  | _ => ""
def flN : Nat → PySem.Str
  | 0 => "cycle"
  | 1 => "length"
  | 2 => "begin"
  | 3 => "charge"
  | 4 => "lines"
  | 5 => "shifts"
  | 6 => "reasons"
  | 7 => "meetings"
  | 8 => "timetable"
  | 9 => "past"
  | 10 => "rows"
  | i => ⟨#[i]⟩
def Gk (K : PySem.W.Frag) : GC := ⟨K, fun c => He.ga K (clN c), flN, fun c => .ref (He.ga K (clN c))⟩
theorem flN_big (i : Nat) (h : 11 ≤ i) : flN i = ⟨#[i]⟩ := by
  match i, h with
  | 0, h => exact absurd h (by decide)
  | 1, h => exact absurd h (by decide)
  | 2, h => exact absurd h (by decide)
  | 3, h => exact absurd h (by decide)
  | 4, h => exact absurd h (by decide)
  | 5, h => exact absurd h (by decide)
  | 6, h => exact absurd h (by decide)
  | 7, h => exact absurd h (by decide)
  | 8, h => exact absurd h (by decide)
  | 9, h => exact absurd h (by decide)
  | 10, h => exact absurd h (by decide)
  | i + 11, _ => rfl
theorem flN_small : ∀ i, i < 11 → ∀ j, j < 11 → flN i = flN j → i = j := by decide +kernel
theorem flN_len : ∀ i, i < 11 → (flN i).cps.size ≠ 1 := by decide +kernel
theorem flN_inj : ∀ i j, flN i = flN j → i = j := by
  intro i j e
  by_cases a : i < 11
  · by_cases b : j < 11
    · exact flN_small i a j b e
    · rw [flN_big j (by omega)] at e
      exact absurd (by rw [e]; rfl) (flN_len i a)
  · by_cases b : j < 11
    · rw [flN_big i (by omega)] at e
      exact absurd (by rw [← e]; rfl) (flN_len j b)
    · rw [flN_big i (by omega), flN_big j (by omega)] at e
      injection e with e
      simpa using e
theorem inj {K : PySem.W.Frag} : ∀ i j, (Gk K).fl i = (Gk K).fl j → i = j := flN_inj
theorem nofl {K : PySem.W.Frag} {a : PySem.Str} (h1 : ∀ i, i < 11 → flN i ≠ a) (h2 : a.cps.size ≠ 1) : ∀ i, (Gk K).fl i ≠ a := fun i e => by
  by_cases c : i < 11
  · exact h1 i c e
  · have e' : flN i = a := e
    rw [flN_big i (by omega)] at e'
    exact h2 (by rw [← e']; rfl)
def fa : List He.Fa := [.free "len", .free "min", .free "max", .free "range", .cls "Desk", .noat "Desk" "timetable", .cls "Timetable", .noat "Timetable" "lines", .cls "Job", .noat "Job" "cycle", .free "enumerate", .free "list", .glo "pairs_of", .noat "Job" "length", .noat "Job" "begin", .glo "common", .glo "gap_of", .glo "never_meet", .free "all", .int "MAX_PRODUCT" 2000, .glo "Job", .free "isinstance", .str "LETTERS" "abcdefghijklmnopqrstuvwxyz", .int "MAX_NAME" 8, .free "str", .glo "is_name", .int "MAX_JOBS" 4, .free "dict", .mkr "Timetable", .free "zip", .noat "Job" "charge", .free "bool", .free "int", .glo "is_whole", .int "MAX_COST" 9, .glo "is_integer", .int "MAX_PERIOD" 12, .mkr "Job", .glo "moved", .glo "Timetable", .free "tuple", .noat "Desk" "past", .meth "Desk" "shifted_by", .glo "after_shifts", .glo "is_free", .meth "Desk" "cures", .glo "_law_pairs", .glo "_law_runs", .glo "_law_meet", .glo "_law_moved", .glo "_law_after", .glo "_law_with", .glo "_law_free", .glo "check_name", .meth "Desk" "__contains__", .meth "Desk" "__getitem__", .meth "Desk" "__len__", .meth "Desk" "__bool__", .glo "_law_job", .glo "_law_table", .meth "Timetable" "all_parts", .meth "Job" "all_parts", .meth "Job" "__eq__", .meth "Timetable" "__eq__", .free "sum", .glo "cost_of", .glo "_law_price", .glo "_law_stands", .glo "_law_draw", .glo "_law_number", .glo "_law_cell_at", .glo "_law_next", .noat "Desk" "rows", .meth "Desk" "undo", .meth "Desk" "move", .glo "_law_pick", .glo "check_timetable", .mkr "Desk", .glo "Desk", .glo "_law_drawn", .glo "_law_one_right", .glo "law"]
def st_pairs_of : Stmt := top 27
def D_pairs_of : He.DefD := ⟨("pairs_of", none), "pairs_of", "pairs_of", defArgs st_pairs_of, defBody st_pairs_of, defScope st_pairs_of, [], []⟩
abbrev N_pairs_of : List PySem.Str := ["timetable", "names", "at", "one", "other"]
abbrev sc_pairs_of : Scope := defScope st_pairs_of
theorem nd_pairs_of : N_pairs_of.Nodup := by decide +kernel
def st_common : Stmt := top 24
def D_common : He.DefD := ⟨("common", none), "common", "common", defArgs st_common, defBody st_common, defScope st_common, [], []⟩
abbrev N_common : List PySem.Str := ["one", "other"]
abbrev sc_common : Scope := defScope st_common
theorem nd_common : N_common.Nodup := by decide +kernel
def st_gap_of : Stmt := top 25
def D_gap_of : He.DefD := ⟨("gap_of", none), "gap_of", "gap_of", defArgs st_gap_of, defBody st_gap_of, defScope st_gap_of, [], []⟩
abbrev N_gap_of : List PySem.Str := ["one", "other", "divisor"]
abbrev sc_gap_of : Scope := defScope st_gap_of
theorem nd_gap_of : N_gap_of.Nodup := by decide +kernel
def st_never_meet : Stmt := top 26
def D_never_meet : He.DefD := ⟨("never_meet", none), "never_meet", "never_meet", defArgs st_never_meet, defBody st_never_meet, defScope st_never_meet, [], []⟩
abbrev N_never_meet : List PySem.Str := ["one", "other", "divisor", "distance"]
abbrev sc_never_meet : Scope := defScope st_never_meet
theorem nd_never_meet : N_never_meet.Nodup := by decide +kernel
def st_is_free : Stmt := top 28
def D_is_free : He.DefD := ⟨("is_free", none), "is_free", "is_free", defArgs st_is_free, defBody st_is_free, defScope st_is_free, [], []⟩
abbrev N_is_free : List PySem.Str := ["timetable", "lines", "one", "other"]
abbrev sc_is_free : Scope := defScope st_is_free
theorem nd_is_free : N_is_free.Nodup := by decide +kernel
def st_is_name : Stmt := top 17
def D_is_name : He.DefD := ⟨("is_name", none), "is_name", "is_name", defArgs st_is_name, defBody st_is_name, defScope st_is_name, [], []⟩
abbrev N_is_name : List PySem.Str := ["value", "sign"]
abbrev sc_is_name : Scope := defScope st_is_name
theorem nd_is_name : N_is_name.Nodup := by decide +kernel
def st_Timetable___init__ : Stmt := (cBody (top 22)).getD 0 (.Pass ⟨0, 0, 0, 0⟩)
def D_Timetable___init__ : He.DefD := ⟨("Timetable", some "__init__"), "__init__", "Timetable.__init__", defArgs st_Timetable___init__, defBody st_Timetable___init__, defScope st_Timetable___init__, [], []⟩
abbrev N_Timetable___init__ : List PySem.Str := ["self", "jobs", "name", "job", "product"]
abbrev sc_Timetable___init__ : Scope := defScope st_Timetable___init__
theorem nd_Timetable___init__ : N_Timetable___init__.Nodup := by decide +kernel
def st_is_whole : Stmt := top 15
def D_is_whole : He.DefD := ⟨("is_whole", none), "is_whole", "is_whole", defArgs st_is_whole, defBody st_is_whole, defScope st_is_whole, [], []⟩
abbrev N_is_whole : List PySem.Str := ["value"]
abbrev sc_is_whole : Scope := defScope st_is_whole
theorem nd_is_whole : N_is_whole.Nodup := by decide +kernel
def st_is_integer : Stmt := top 16
def D_is_integer : He.DefD := ⟨("is_integer", none), "is_integer", "is_integer", defArgs st_is_integer, defBody st_is_integer, defScope st_is_integer, [], []⟩
abbrev N_is_integer : List PySem.Str := ["value", "low", "high"]
abbrev sc_is_integer : Scope := defScope st_is_integer
theorem nd_is_integer : N_is_integer.Nodup := by decide +kernel
def st_Job___init__ : Stmt := (cBody (top 19)).getD 0 (.Pass ⟨0, 0, 0, 0⟩)
def D_Job___init__ : He.DefD := ⟨("Job", some "__init__"), "__init__", "Job.__init__", defArgs st_Job___init__, defBody st_Job___init__, defScope st_Job___init__, [.int 1], [("start", .int 0), ("cost", .int 1)]⟩
abbrev N_Job___init__ : List PySem.Str := ["self", "period", "duration", "start", "cost"]
abbrev sc_Job___init__ : Scope := defScope st_Job___init__
theorem nd_Job___init__ : N_Job___init__.Nodup := by decide +kernel
def st_moved : Stmt := top 21
def D_moved : He.DefD := ⟨("moved", none), "moved", "moved", defArgs st_moved, defBody st_moved, defScope st_moved, [], []⟩
abbrev N_moved : List PySem.Str := ["job", "number"]
abbrev sc_moved : Scope := defScope st_moved
theorem nd_moved : N_moved.Nodup := by decide +kernel
def st_after_shifts : Stmt := top 30
def D_after_shifts : He.DefD := ⟨("after_shifts", none), "after_shifts", "after_shifts", defArgs st_after_shifts, defBody st_after_shifts, defScope st_after_shifts, [], []⟩
abbrev N_after_shifts : List PySem.Str := ["timetable", "shifts", "name", "job", "one"]
abbrev sc_after_shifts : Scope := defScope st_after_shifts
theorem nd_after_shifts : N_after_shifts.Nodup := by decide +kernel
def st_Desk_shifted_by : Stmt := (cBody (top 33)).getD 4 (.Pass ⟨0, 0, 0, 0⟩)
def D_Desk_shifted_by : He.DefD := ⟨("Desk", some "shifted_by"), "shifted_by", "Desk.shifted_by", defArgs st_Desk_shifted_by, defBody st_Desk_shifted_by, defScope st_Desk_shifted_by, [], []⟩
abbrev N_Desk_shifted_by : List PySem.Str := ["self", "name", "number", "found", "other", "job", "one"]
abbrev sc_Desk_shifted_by : Scope := defScope st_Desk_shifted_by
theorem nd_Desk_shifted_by : N_Desk_shifted_by.Nodup := by decide +kernel
def st_Desk_cures : Stmt := (cBody (top 33)).getD 7 (.Pass ⟨0, 0, 0, 0⟩)
def D_Desk_cures : He.DefD := ⟨("Desk", some "cures"), "cures", "Desk.cures", defArgs st_Desk_cures, defBody st_Desk_cures, defScope st_Desk_cures, [], []⟩
abbrev N_Desk_cures : List PySem.Str := ["self", "found", "name", "job", "number"]
abbrev sc_Desk_cures : Scope := defScope st_Desk_cures
theorem nd_Desk_cures : N_Desk_cures.Nodup := by decide +kernel
def st__law_pairs : Stmt := top 47
def D__law_pairs : He.DefD := ⟨("_law_pairs", none), "_law_pairs", "_law_pairs", defArgs st__law_pairs, defBody st__law_pairs, defScope st__law_pairs, [], []⟩
abbrev N__law_pairs : List PySem.Str := ["_law_drawn_here", "_law_names", "_law_found", "_law_at", "_law_one", "_law_other"]
abbrev sc__law_pairs : Scope := defScope st__law_pairs
theorem nd__law_pairs : N__law_pairs.Nodup := by decide +kernel
def st__law_runs : Stmt := top 44
def D__law_runs : He.DefD := ⟨("_law_runs", none), "_law_runs", "_law_runs", defArgs st__law_runs, defBody st__law_runs, defScope st__law_runs, [], []⟩
abbrev N__law_runs : List PySem.Str := ["_law_row", "_law_time"]
abbrev sc__law_runs : Scope := defScope st__law_runs
theorem nd__law_runs : N__law_runs.Nodup := by decide +kernel
def st__law_meet : Stmt := top 46
def D__law_meet : He.DefD := ⟨("_law_meet", none), "_law_meet", "_law_meet", defArgs st__law_meet, defBody st__law_meet, defScope st__law_meet, [], []⟩
abbrev N__law_meet : List PySem.Str := ["_law_row", "_law_other", "_law_time"]
abbrev sc__law_meet : Scope := defScope st__law_meet
theorem nd__law_meet : N__law_meet.Nodup := by decide +kernel
def st__law_moved : Stmt := top 45
def D__law_moved : He.DefD := ⟨("_law_moved", none), "_law_moved", "_law_moved", defArgs st__law_moved, defBody st__law_moved, defScope st__law_moved, [], []⟩
abbrev N__law_moved : List PySem.Str := ["_law_row", "_law_number_here"]
abbrev sc__law_moved : Scope := defScope st__law_moved
theorem nd__law_moved : N__law_moved.Nodup := by decide +kernel
def st__law_after : Stmt := top 48
def D__law_after : He.DefD := ⟨("_law_after", none), "_law_after", "_law_after", defArgs st__law_after, defBody st__law_after, defScope st__law_after, [], []⟩
abbrev N__law_after : List PySem.Str := ["_law_drawn_here", "_law_shifts", "_law_rows", "_law_name", "_law_shift"]
abbrev sc__law_after : Scope := defScope st__law_after
theorem nd__law_after : N__law_after.Nodup := by decide +kernel
def st__law_free : Stmt := top 50
def D__law_free : He.DefD := ⟨("_law_free", none), "_law_free", "_law_free", defArgs st__law_free, defBody st__law_free, defScope st__law_free, [], []⟩
abbrev N__law_free : List PySem.Str := ["_law_drawn_here", "_law_shifts", "_law_rows", "_law_one", "_law_other"]
abbrev sc__law_free : Scope := defScope st__law_free
theorem nd__law_free : N__law_free.Nodup := by decide +kernel
def st__law_with : Stmt := top 51
def D__law_with : He.DefD := ⟨("_law_with", none), "_law_with", "_law_with", defArgs st__law_with, defBody st__law_with, defScope st__law_with, [], []⟩
abbrev N__law_with : List PySem.Str := ["_law_drawn_here", "_law_shifts", "_law_name", "_law_number_here", "_law_found", "_law_one", "_law_shift"]
abbrev sc__law_with : Scope := defScope st__law_with
theorem nd__law_with : N__law_with.Nodup := by decide +kernel
def st_check_name : Stmt := top 34
def D_check_name : He.DefD := ⟨("check_name", none), "check_name", "check_name", defArgs st_check_name, defBody st_check_name, defScope st_check_name, [], []⟩
abbrev N_check_name : List PySem.Str := ["timetable", "name"]
abbrev sc_check_name : Scope := defScope st_check_name
theorem nd_check_name : N_check_name.Nodup := by decide +kernel
def st_Desk___contains__ : Stmt := (cBody (top 33)).getD 8 (.Pass ⟨0, 0, 0, 0⟩)
def D_Desk___contains__ : He.DefD := ⟨("Desk", some "__contains__"), "__contains__", "Desk.__contains__", defArgs st_Desk___contains__, defBody st_Desk___contains__, defScope st_Desk___contains__, [], []⟩
abbrev N_Desk___contains__ : List PySem.Str := ["self", "x"]
abbrev sc_Desk___contains__ : Scope := defScope st_Desk___contains__
theorem nd_Desk___contains__ : N_Desk___contains__.Nodup := by decide +kernel
def st_Desk___getitem__ : Stmt := (cBody (top 33)).getD 9 (.Pass ⟨0, 0, 0, 0⟩)
def D_Desk___getitem__ : He.DefD := ⟨("Desk", some "__getitem__"), "__getitem__", "Desk.__getitem__", defArgs st_Desk___getitem__, defBody st_Desk___getitem__, defScope st_Desk___getitem__, [], []⟩
abbrev N_Desk___getitem__ : List PySem.Str := ["self", "at"]
abbrev sc_Desk___getitem__ : Scope := defScope st_Desk___getitem__
theorem nd_Desk___getitem__ : N_Desk___getitem__.Nodup := by decide +kernel
def st_Desk___len__ : Stmt := (cBody (top 33)).getD 11 (.Pass ⟨0, 0, 0, 0⟩)
def D_Desk___len__ : He.DefD := ⟨("Desk", some "__len__"), "__len__", "Desk.__len__", defArgs st_Desk___len__, defBody st_Desk___len__, defScope st_Desk___len__, [], []⟩
abbrev N_Desk___len__ : List PySem.Str := ["self", "one"]
abbrev sc_Desk___len__ : Scope := defScope st_Desk___len__
theorem nd_Desk___len__ : N_Desk___len__.Nodup := by decide +kernel
def st_Desk___bool__ : Stmt := (cBody (top 33)).getD 12 (.Pass ⟨0, 0, 0, 0⟩)
def D_Desk___bool__ : He.DefD := ⟨("Desk", some "__bool__"), "__bool__", "Desk.__bool__", defArgs st_Desk___bool__, defBody st_Desk___bool__, defScope st_Desk___bool__, [], []⟩
abbrev N_Desk___bool__ : List PySem.Str := ["self"]
abbrev sc_Desk___bool__ : Scope := defScope st_Desk___bool__
theorem nd_Desk___bool__ : N_Desk___bool__.Nodup := by decide +kernel
def st_Desk_table : Stmt := (cBody (top 33)).getD 2 (.Pass ⟨0, 0, 0, 0⟩)
def D_Desk_table : He.DefD := ⟨("Desk", some "table"), "table", "Desk.table", defArgs st_Desk_table, defBody st_Desk_table, defScope st_Desk_table, [], []⟩
abbrev N_Desk_table : List PySem.Str := ["self"]
abbrev sc_Desk_table : Scope := defScope st_Desk_table
theorem nd_Desk_table : N_Desk_table.Nodup := by decide +kernel
def st__law_job : Stmt := top 42
def D__law_job : He.DefD := ⟨("_law_job", none), "_law_job", "_law_job", defArgs st__law_job, defBody st__law_job, defScope st__law_job, [], []⟩
abbrev N__law_job : List PySem.Str := ["_law_row"]
abbrev sc__law_job : Scope := defScope st__law_job
theorem nd__law_job : N__law_job.Nodup := by decide +kernel
def st__law_table : Stmt := top 43
def D__law_table : He.DefD := ⟨("_law_table", none), "_law_table", "_law_table", defArgs st__law_table, defBody st__law_table, defScope st__law_table, [], []⟩
abbrev N__law_table : List PySem.Str := ["_law_drawn_here", "_law_rows", "_law_name"]
abbrev sc__law_table : Scope := defScope st__law_table
theorem nd__law_table : N__law_table.Nodup := by decide +kernel
def st_Timetable_all_parts : Stmt := (cBody (top 22)).getD 2 (.Pass ⟨0, 0, 0, 0⟩)
def D_Timetable_all_parts : He.DefD := ⟨("Timetable", some "all_parts"), "all_parts", "Timetable.all_parts", defArgs st_Timetable_all_parts, defBody st_Timetable_all_parts, defScope st_Timetable_all_parts, [], []⟩
abbrev N_Timetable_all_parts : List PySem.Str := ["self"]
abbrev sc_Timetable_all_parts : Scope := defScope st_Timetable_all_parts
theorem nd_Timetable_all_parts : N_Timetable_all_parts.Nodup := by decide +kernel
def st_Job_all_parts : Stmt := (cBody (top 19)).getD 2 (.Pass ⟨0, 0, 0, 0⟩)
def D_Job_all_parts : He.DefD := ⟨("Job", some "all_parts"), "all_parts", "Job.all_parts", defArgs st_Job_all_parts, defBody st_Job_all_parts, defScope st_Job_all_parts, [], []⟩
abbrev N_Job_all_parts : List PySem.Str := ["self"]
abbrev sc_Job_all_parts : Scope := defScope st_Job_all_parts
theorem nd_Job_all_parts : N_Job_all_parts.Nodup := by decide +kernel
def st_Job___eq__ : Stmt := (cBody (top 19)).getD 1 (.Pass ⟨0, 0, 0, 0⟩)
def D_Job___eq__ : He.DefD := ⟨("Job", some "__eq__"), "__eq__", "Job.__eq__", defArgs st_Job___eq__, defBody st_Job___eq__, defScope st_Job___eq__, [], []⟩
abbrev N_Job___eq__ : List PySem.Str := ["self", "other"]
abbrev sc_Job___eq__ : Scope := defScope st_Job___eq__
theorem nd_Job___eq__ : N_Job___eq__.Nodup := by decide +kernel
def st_Timetable___eq__ : Stmt := (cBody (top 22)).getD 1 (.Pass ⟨0, 0, 0, 0⟩)
def D_Timetable___eq__ : He.DefD := ⟨("Timetable", some "__eq__"), "__eq__", "Timetable.__eq__", defArgs st_Timetable___eq__, defBody st_Timetable___eq__, defScope st_Timetable___eq__, [], []⟩
abbrev N_Timetable___eq__ : List PySem.Str := ["self", "other"]
abbrev sc_Timetable___eq__ : Scope := defScope st_Timetable___eq__
theorem nd_Timetable___eq__ : N_Timetable___eq__.Nodup := by decide +kernel
def st_cost_of : Stmt := top 31
def D_cost_of : He.DefD := ⟨("cost_of", none), "cost_of", "cost_of", defArgs st_cost_of, defBody st_cost_of, defScope st_cost_of, [], []⟩
abbrev N_cost_of : List PySem.Str := ["timetable", "shifts", "one", "job"]
abbrev sc_cost_of : Scope := defScope st_cost_of
theorem nd_cost_of : N_cost_of.Nodup := by decide +kernel
def st_Desk_spent : Stmt := (cBody (top 33)).getD 3 (.Pass ⟨0, 0, 0, 0⟩)
def D_Desk_spent : He.DefD := ⟨("Desk", some "spent"), "spent", "Desk.spent", defArgs st_Desk_spent, defBody st_Desk_spent, defScope st_Desk_spent, [], []⟩
abbrev N_Desk_spent : List PySem.Str := ["self"]
abbrev sc_Desk_spent : Scope := defScope st_Desk_spent
theorem nd_Desk_spent : N_Desk_spent.Nodup := by decide +kernel
def st__law_price : Stmt := top 49
def D__law_price : He.DefD := ⟨("_law_price", none), "_law_price", "_law_price", defArgs st__law_price, defBody st__law_price, defScope st__law_price, [], []⟩
abbrev N__law_price : List PySem.Str := ["_law_drawn_here", "_law_shifts", "_law_name", "_law_shift"]
abbrev sc__law_price : Scope := defScope st__law_price
theorem nd__law_price : N__law_price.Nodup := by decide +kernel
def st_Desk_now : Stmt := (cBody (top 33)).getD 1 (.Pass ⟨0, 0, 0, 0⟩)
def D_Desk_now : He.DefD := ⟨("Desk", some "now"), "now", "Desk.now", defArgs st_Desk_now, defBody st_Desk_now, defScope st_Desk_now, [], []⟩
abbrev N_Desk_now : List PySem.Str := ["self"]
abbrev sc_Desk_now : Scope := defScope st_Desk_now
theorem nd_Desk_now : N_Desk_now.Nodup := by decide +kernel
def st__law_stands : Stmt := top 52
def D__law_stands : He.DefD := ⟨("_law_stands", none), "_law_stands", "_law_stands", defArgs st__law_stands, defBody st__law_stands, defScope st__law_stands, [], []⟩
abbrev N__law_stands : List PySem.Str := ["_law_drawn_here", "_law_desk", "_law_shifts", "_law_due", "_law_name", "_law_shift", "_law_number_here"]
abbrev sc__law_stands : Scope := defScope st__law_stands
theorem nd__law_stands : N__law_stands.Nodup := by decide +kernel
def st__law_draw : Stmt := top 37
def D__law_draw : He.DefD := ⟨("_law_draw", none), "_law_draw", "_law_draw", defArgs st__law_draw, defBody st__law_draw, defScope st__law_draw, [], []⟩
abbrev N__law_draw : List PySem.Str := ["_law_cell", "_law_k", "_law_below", "_law_primes"]
abbrev sc__law_draw : Scope := defScope st__law_draw
theorem nd__law_draw : N__law_draw.Nodup := by decide +kernel
def st__law_number : Stmt := top 38
def D__law_number : He.DefD := ⟨("_law_number", none), "_law_number", "_law_number", defArgs st__law_number, defBody st__law_number, defScope st__law_number, [], []⟩
abbrev N__law_number : List PySem.Str := ["_law_cell", "_law_k", "_law_below", "_law_power", "_law_times", "_law_remains", "_law_small"]
abbrev sc__law_number : Scope := defScope st__law_number
theorem nd__law_number : N__law_number.Nodup := by decide +kernel
def st__law_cell_at : Stmt := top 36
def D__law_cell_at : He.DefD := ⟨("_law_cell_at", none), "_law_cell_at", "_law_cell_at", defArgs st__law_cell_at, defBody st__law_cell_at, defScope st__law_cell_at, [], []⟩
abbrev N__law_cell_at : List PySem.Str := ["_law_script", "_law_k"]
abbrev sc__law_cell_at : Scope := defScope st__law_cell_at
theorem nd__law_cell_at : N__law_cell_at.Nodup := by decide +kernel
def st__law_next : Stmt := top 39
def D__law_next : He.DefD := ⟨("_law_next", none), "_law_next", "_law_next", defArgs st__law_next, defBody st__law_next, defScope st__law_next, [], []⟩
abbrev N__law_next : List PySem.Str := ["_law_state", "_law_below", "_law_at", "_law_cell"]
abbrev sc__law_next : Scope := defScope st__law_next
theorem nd__law_next : N__law_next.Nodup := by decide +kernel
def st_Desk_undo : Stmt := (cBody (top 33)).getD 6 (.Pass ⟨0, 0, 0, 0⟩)
def D_Desk_undo : He.DefD := ⟨("Desk", some "undo"), "undo", "Desk.undo", defArgs st_Desk_undo, defBody st_Desk_undo, defScope st_Desk_undo, [], []⟩
abbrev N_Desk_undo : List PySem.Str := ["self"]
abbrev sc_Desk_undo : Scope := defScope st_Desk_undo
theorem nd_Desk_undo : N_Desk_undo.Nodup := by decide +kernel
def st_Desk_move : Stmt := (cBody (top 33)).getD 5 (.Pass ⟨0, 0, 0, 0⟩)
def D_Desk_move : He.DefD := ⟨("Desk", some "move"), "move", "Desk.move", defArgs st_Desk_move, defBody st_Desk_move, defScope st_Desk_move, [], []⟩
abbrev N_Desk_move : List PySem.Str := ["self", "name", "number"]
abbrev sc_Desk_move : Scope := defScope st_Desk_move
theorem nd_Desk_move : N_Desk_move.Nodup := by decide +kernel
def st__law_pick : Stmt := top 40
def D__law_pick : He.DefD := ⟨("_law_pick", none), "_law_pick", "_law_pick", defArgs st__law_pick, defBody st__law_pick, defScope st__law_pick, [], []⟩
abbrev N__law_pick : List PySem.Str := ["_law_state", "_law_things"]
abbrev sc__law_pick : Scope := defScope st__law_pick
theorem nd__law_pick : N__law_pick.Nodup := by decide +kernel
def st_check_timetable : Stmt := top 29
def D_check_timetable : He.DefD := ⟨("check_timetable", none), "check_timetable", "check_timetable", defArgs st_check_timetable, defBody st_check_timetable, defScope st_check_timetable, [], []⟩
abbrev N_check_timetable : List PySem.Str := ["timetable"]
abbrev sc_check_timetable : Scope := defScope st_check_timetable
theorem nd_check_timetable : N_check_timetable.Nodup := by decide +kernel
def st_Desk___init__ : Stmt := (cBody (top 33)).getD 0 (.Pass ⟨0, 0, 0, 0⟩)
def D_Desk___init__ : He.DefD := ⟨("Desk", some "__init__"), "__init__", "Desk.__init__", defArgs st_Desk___init__, defBody st_Desk___init__, defScope st_Desk___init__, [], []⟩
abbrev N_Desk___init__ : List PySem.Str := ["self", "timetable"]
abbrev sc_Desk___init__ : Scope := defScope st_Desk___init__
theorem nd_Desk___init__ : N_Desk___init__.Nodup := by decide +kernel
def st__law_drawn : Stmt := top 41
def D__law_drawn : He.DefD := ⟨("_law_drawn", none), "_law_drawn", "_law_drawn", defArgs st__law_drawn, defBody st__law_drawn, defScope st__law_drawn, [], []⟩
abbrev N__law_drawn : List PySem.Str := ["_law_state", "_law_most", "_law_rows", "_law_product", "_law_name", "_law_period", "_law_length"]
abbrev sc__law_drawn : Scope := defScope st__law_drawn
theorem nd__law_drawn : N__law_drawn.Nodup := by decide +kernel
def st__law_one_right : Stmt := top 53
def D__law_one_right : He.DefD := ⟨("_law_one_right", none), "_law_one_right", "_law_one_right", defArgs st__law_one_right, defBody st__law_one_right, defScope st__law_one_right, [], []⟩
abbrev N__law_one_right : List PySem.Str := ["_law_state", "_law_drawn_here", "_law_desk", "_law_past", "_law_names", "_law_wide", "_law_turn", "_law_name", "_law_number_here", "_law_late"]
abbrev sc__law_one_right : Scope := defScope st__law_one_right
theorem nd__law_one_right : N__law_one_right.Nodup := by decide +kernel
def st_law : Stmt := top 54
def D_law : He.DefD := ⟨("law", none), "law", "law", defArgs st_law, defBody st_law, defScope st_law, [], []⟩
abbrev N_law : List PySem.Str := ["_law_script", "_law_by"]
abbrev sc_law : Scope := defScope st_law
theorem nd_law : N_law.Nodup := by decide +kernel
def fnl : List He.DefD := [D_pairs_of, D_common, D_gap_of, D_never_meet, D_is_free, D_is_name, D_Timetable___init__, D_is_whole, D_is_integer, D_Job___init__, D_moved, D_after_shifts, D_Desk_shifted_by, D_Desk_cures, D__law_pairs, D__law_runs, D__law_meet, D__law_moved, D__law_after, D__law_free, D__law_with, D_check_name, D_Desk___contains__, D_Desk___getitem__, D_Desk___len__, D_Desk___bool__, D__law_job, D__law_table, D_Timetable_all_parts, D_Job_all_parts, D_Job___eq__, D_Timetable___eq__, D_cost_of, D__law_price, D__law_stands, D__law_draw, D__law_number, D__law_cell_at, D__law_next, D_Desk_undo, D_Desk_move, D__law_pick, D_check_timetable, D_Desk___init__, D__law_drawn, D__law_one_right, D_law]
def gtl : List He.DefD := [D_Desk_table, D_Desk_spent, D_Desk_now]
def exs : List (PySem.W.Frag → Bool) := [fun K => insB K (He.ga K "Job"), fun K => insB K (He.ga K "Timetable"), fun K => insB K (He.ga K "Desk"), fun K => isiB (Gk K) 12 10 (.ref (He.ga K "Job")), fun K => isiB (Gk K) 12 3 (.type "str"), fun K => isiB (Gk K) 12 6 (.type "dict"), fun K => isiB (Gk K) 12 1 (.type "bool"), fun K => isiB (Gk K) 12 2 (.type "int"), fun K => isiB (Gk K) 12 11 (.ref (He.ga K "Timetable")), fun K => PySem.W.fnIn K (He.ma K (He.ga K "Desk") "__getitem__"), fun K => propB K "Desk" "table", fun K => propB K "Desk" "spent", fun K => propB K "Desk" "now"]
def ex (K : PySem.W.Frag) : Bool := exs.all fun p => p K
abbrev E (K : PySem.W.Frag) (mg : PySem.Str → Option Value) : Prop := EnvP fa fnl gtl ex K mg
section
variable {P : Program} {w : World} {K : PySem.W.Frag} {mg : PySem.Str → Option Value} {base : Heap}
theorem ex_at (e : E K mg) (i : Nat) {p : PySem.W.Frag → Bool} (h : exs[i]? = some p) : p K = true := List.all_eq_true.mp e.e p (List.mem_of_getElem? h)
theorem g_len (e : E K mg) : mg "len" = none := e.free 0 rfl
theorem g_min (e : E K mg) : mg "min" = none := e.free 1 rfl
theorem g_max (e : E K mg) : mg "max" = none := e.free 2 rfl
theorem g_range (e : E K mg) : mg "range" = none := e.free 3 rfl
theorem c_Desk (e : E K mg) : Cls (Gk K).K ((Gk K).cl 4) := e.cls (x := "Desk") 4 rfl
theorem n_Desk_timetable (e : E K mg) : NoAttr (Gk K).K ((Gk K).cl 4) ((Gk K).fl 8) := e.noat (x := "Desk") (f := "timetable") 5 rfl
theorem c_Timetable (e : E K mg) : Cls (Gk K).K ((Gk K).cl 1) := e.cls (x := "Timetable") 6 rfl
theorem n_Timetable_lines (e : E K mg) : NoAttr (Gk K).K ((Gk K).cl 1) ((Gk K).fl 4) := e.noat (x := "Timetable") (f := "lines") 7 rfl
theorem c_Job (e : E K mg) : Cls (Gk K).K ((Gk K).cl 0) := e.cls (x := "Job") 8 rfl
theorem n_Job_cycle (e : E K mg) : NoAttr (Gk K).K ((Gk K).cl 0) ((Gk K).fl 0) := e.noat (x := "Job") (f := "cycle") 9 rfl
theorem g_enumerate (e : E K mg) : mg "enumerate" = none := e.free 10 rfl
theorem g_list (e : E K mg) : mg "list" = none := e.free 11 rfl
theorem g_pairs_of (e : E K mg) : mg "pairs_of" = some (.ref (He.ga K "pairs_of")) := e.glo 12 rfl
theorem n_Job_length (e : E K mg) : NoAttr (Gk K).K ((Gk K).cl 0) ((Gk K).fl 1) := e.noat (x := "Job") (f := "length") 13 rfl
theorem n_Job_begin (e : E K mg) : NoAttr (Gk K).K ((Gk K).cl 0) ((Gk K).fl 2) := e.noat (x := "Job") (f := "begin") 14 rfl
theorem g_common (e : E K mg) : mg "common" = some (.ref (He.ga K "common")) := e.glo 15 rfl
theorem g_gap_of (e : E K mg) : mg "gap_of" = some (.ref (He.ga K "gap_of")) := e.glo 16 rfl
theorem g_never_meet (e : E K mg) : mg "never_meet" = some (.ref (He.ga K "never_meet")) := e.glo 17 rfl
theorem g_all (e : E K mg) : mg "all" = none := e.free 18 rfl
theorem g_MAX_PRODUCT (e : E K mg) : ∃ t, mg "MAX_PRODUCT" = some (.int 2000 t) := e.int 19 rfl
theorem g_Job (e : E K mg) : mg "Job" = some (.ref (He.ga K "Job")) := e.glo 20 rfl
theorem g_isinstance (e : E K mg) : mg "isinstance" = none := e.free 21 rfl
theorem g_LETTERS (e : E K mg) : ∃ t, mg "LETTERS" = some (.str ⟨([97, 98, 99, 100, 101, 102, 103, 104, 105, 106, 107, 108, 109, 110, 111, 112, 113, 114, 115, 116, 117, 118, 119, 120, 121, 122] : List Nat).toArray⟩ t) := (show ("abcdefghijklmnopqrstuvwxyz" : PySem.Str) = ⟨([97, 98, 99, 100, 101, 102, 103, 104, 105, 106, 107, 108, 109, 110, 111, 112, 113, 114, 115, 116, 117, 118, 119, 120, 121, 122] : List Nat).toArray⟩ by decide +kernel) ▸ e.str 22 rfl
theorem g_MAX_NAME (e : E K mg) : ∃ t, mg "MAX_NAME" = some (.int 8 t) := e.int 23 rfl
theorem g_str (e : E K mg) : mg "str" = none := e.free 24 rfl
theorem g_is_name (e : E K mg) : mg "is_name" = some (.ref (He.ga K "is_name")) := e.glo 25 rfl
theorem g_MAX_JOBS (e : E K mg) : ∃ t, mg "MAX_JOBS" = some (.int 4 t) := e.int 26 rfl
theorem g_dict (e : E K mg) : mg "dict" = none := e.free 27 rfl
theorem k_Timetable (e : E K mg) : Mk (Gk K).K ((Gk K).cl 1) (He.ma K (He.ga K "Timetable") "__init__") := e.mkr (x := "Timetable") 28 rfl
theorem g_zip (e : E K mg) : mg "zip" = none := e.free 29 rfl
theorem n_Job_charge (e : E K mg) : NoAttr (Gk K).K ((Gk K).cl 0) ((Gk K).fl 3) := e.noat (x := "Job") (f := "charge") 30 rfl
theorem g_bool (e : E K mg) : mg "bool" = none := e.free 31 rfl
theorem g_int (e : E K mg) : mg "int" = none := e.free 32 rfl
theorem g_is_whole (e : E K mg) : mg "is_whole" = some (.ref (He.ga K "is_whole")) := e.glo 33 rfl
theorem g_MAX_COST (e : E K mg) : ∃ t, mg "MAX_COST" = some (.int 9 t) := e.int 34 rfl
theorem g_is_integer (e : E K mg) : mg "is_integer" = some (.ref (He.ga K "is_integer")) := e.glo 35 rfl
theorem g_MAX_PERIOD (e : E K mg) : ∃ t, mg "MAX_PERIOD" = some (.int 12 t) := e.int 36 rfl
theorem k_Job (e : E K mg) : Mk (Gk K).K ((Gk K).cl 0) (He.ma K (He.ga K "Job") "__init__") := e.mkr (x := "Job") 37 rfl
theorem g_moved (e : E K mg) : mg "moved" = some (.ref (He.ga K "moved")) := e.glo 38 rfl
theorem g_Timetable (e : E K mg) : mg "Timetable" = some (.ref (He.ga K "Timetable")) := e.glo 39 rfl
theorem g_tuple (e : E K mg) : mg "tuple" = none := e.free 40 rfl
theorem n_Desk_past (e : E K mg) : NoAttr (Gk K).K ((Gk K).cl 4) ((Gk K).fl 9) := e.noat (x := "Desk") (f := "past") 41 rfl
theorem me_Desk_shifted_by (e : E K mg) : Meth (Gk K).K ((Gk K).cl 4) "shifted_by" (He.ma K (He.ga K "Desk") "shifted_by") := e.meth (x := "Desk") (m := "shifted_by") 42 rfl
theorem g_after_shifts (e : E K mg) : mg "after_shifts" = some (.ref (He.ga K "after_shifts")) := e.glo 43 rfl
theorem g_is_free (e : E K mg) : mg "is_free" = some (.ref (He.ga K "is_free")) := e.glo 44 rfl
theorem me_Desk_cures (e : E K mg) : Meth (Gk K).K ((Gk K).cl 4) "cures" (He.ma K (He.ga K "Desk") "cures") := e.meth (x := "Desk") (m := "cures") 45 rfl
theorem g__law_pairs (e : E K mg) : mg "_law_pairs" = some (.ref (He.ga K "_law_pairs")) := e.glo 46 rfl
theorem g__law_runs (e : E K mg) : mg "_law_runs" = some (.ref (He.ga K "_law_runs")) := e.glo 47 rfl
theorem g__law_meet (e : E K mg) : mg "_law_meet" = some (.ref (He.ga K "_law_meet")) := e.glo 48 rfl
theorem g__law_moved (e : E K mg) : mg "_law_moved" = some (.ref (He.ga K "_law_moved")) := e.glo 49 rfl
theorem g__law_after (e : E K mg) : mg "_law_after" = some (.ref (He.ga K "_law_after")) := e.glo 50 rfl
theorem g__law_with (e : E K mg) : mg "_law_with" = some (.ref (He.ga K "_law_with")) := e.glo 51 rfl
theorem g__law_free (e : E K mg) : mg "_law_free" = some (.ref (He.ga K "_law_free")) := e.glo 52 rfl
theorem g_check_name (e : E K mg) : mg "check_name" = some (.ref (He.ga K "check_name")) := e.glo 53 rfl
theorem me_Desk___contains__ (e : E K mg) : Meth (Gk K).K ((Gk K).cl 4) "__contains__" (He.ma K (He.ga K "Desk") "__contains__") := e.meth (x := "Desk") (m := "__contains__") 54 rfl
theorem me_Desk___getitem__ (e : E K mg) : Meth (Gk K).K ((Gk K).cl 4) "__getitem__" (He.ma K (He.ga K "Desk") "__getitem__") := e.meth (x := "Desk") (m := "__getitem__") 55 rfl
theorem me_Desk___len__ (e : E K mg) : Meth (Gk K).K ((Gk K).cl 4) "__len__" (He.ma K (He.ga K "Desk") "__len__") := e.meth (x := "Desk") (m := "__len__") 56 rfl
theorem me_Desk___bool__ (e : E K mg) : Meth (Gk K).K ((Gk K).cl 4) "__bool__" (He.ma K (He.ga K "Desk") "__bool__") := e.meth (x := "Desk") (m := "__bool__") 57 rfl
theorem g__law_job (e : E K mg) : mg "_law_job" = some (.ref (He.ga K "_law_job")) := e.glo 58 rfl
theorem g__law_table (e : E K mg) : mg "_law_table" = some (.ref (He.ga K "_law_table")) := e.glo 59 rfl
theorem me_Timetable_all_parts (e : E K mg) : Meth (Gk K).K ((Gk K).cl 1) "all_parts" (He.ma K (He.ga K "Timetable") "all_parts") := e.meth (x := "Timetable") (m := "all_parts") 60 rfl
theorem me_Job_all_parts (e : E K mg) : Meth (Gk K).K ((Gk K).cl 0) "all_parts" (He.ma K (He.ga K "Job") "all_parts") := e.meth (x := "Job") (m := "all_parts") 61 rfl
theorem me_Job___eq__ (e : E K mg) : Meth (Gk K).K ((Gk K).cl 0) "__eq__" (He.ma K (He.ga K "Job") "__eq__") := e.meth (x := "Job") (m := "__eq__") 62 rfl
theorem me_Timetable___eq__ (e : E K mg) : Meth (Gk K).K ((Gk K).cl 1) "__eq__" (He.ma K (He.ga K "Timetable") "__eq__") := e.meth (x := "Timetable") (m := "__eq__") 63 rfl
theorem g_sum (e : E K mg) : mg "sum" = none := e.free 64 rfl
theorem g_cost_of (e : E K mg) : mg "cost_of" = some (.ref (He.ga K "cost_of")) := e.glo 65 rfl
theorem g__law_price (e : E K mg) : mg "_law_price" = some (.ref (He.ga K "_law_price")) := e.glo 66 rfl
theorem g__law_stands (e : E K mg) : mg "_law_stands" = some (.ref (He.ga K "_law_stands")) := e.glo 67 rfl
theorem g__law_draw (e : E K mg) : mg "_law_draw" = some (.ref (He.ga K "_law_draw")) := e.glo 68 rfl
theorem g__law_number (e : E K mg) : mg "_law_number" = some (.ref (He.ga K "_law_number")) := e.glo 69 rfl
theorem g__law_cell_at (e : E K mg) : mg "_law_cell_at" = some (.ref (He.ga K "_law_cell_at")) := e.glo 70 rfl
theorem g__law_next (e : E K mg) : mg "_law_next" = some (.ref (He.ga K "_law_next")) := e.glo 71 rfl
theorem n_Desk_rows (e : E K mg) : NoAttr (Gk K).K ((Gk K).cl 4) ((Gk K).fl 10) := e.noat (x := "Desk") (f := "rows") 72 rfl
theorem me_Desk_undo (e : E K mg) : Meth (Gk K).K ((Gk K).cl 4) "undo" (He.ma K (He.ga K "Desk") "undo") := e.meth (x := "Desk") (m := "undo") 73 rfl
theorem me_Desk_move (e : E K mg) : Meth (Gk K).K ((Gk K).cl 4) "move" (He.ma K (He.ga K "Desk") "move") := e.meth (x := "Desk") (m := "move") 74 rfl
theorem g__law_pick (e : E K mg) : mg "_law_pick" = some (.ref (He.ga K "_law_pick")) := e.glo 75 rfl
theorem g_check_timetable (e : E K mg) : mg "check_timetable" = some (.ref (He.ga K "check_timetable")) := e.glo 76 rfl
theorem k_Desk (e : E K mg) : Mk (Gk K).K ((Gk K).cl 4) (He.ma K (He.ga K "Desk") "__init__") := e.mkr (x := "Desk") 77 rfl
theorem g_Desk (e : E K mg) : mg "Desk" = some (.ref (He.ga K "Desk")) := e.glo 78 rfl
theorem g__law_drawn (e : E K mg) : mg "_law_drawn" = some (.ref (He.ga K "_law_drawn")) := e.glo 79 rfl
theorem g__law_one_right (e : E K mg) : mg "_law_one_right" = some (.ref (He.ga K "_law_one_right")) := e.glo 80 rfl
theorem g_law (e : E K mg) : mg "law" = some (.ref (He.ga K "law")) := e.glo 81 rfl
theorem s_Job (e : E K mg) : InsOk (Gk K).K ((Gk K).cl 0) := insB_ok (c_Job e) (ex_at e 0 (p := fun K => insB K (He.ga K "Job")) rfl)
theorem s_Timetable (e : E K mg) : InsOk (Gk K).K ((Gk K).cl 1) := insB_ok (c_Timetable e) (ex_at e 1 (p := fun K => insB K (He.ga K "Timetable")) rfl)
theorem s_Desk (e : E K mg) : InsOk (Gk K).K ((Gk K).cl 4) := insB_ok (c_Desk e) (ex_at e 2 (p := fun K => insB K (He.ga K "Desk")) rfl)
theorem ins_all (e : E K mg) : ∀ c, c + 10 < 12 → InsOk (Gk K).K ((Gk K).cl c) := fun c h => by
  match c, h with
  | 0, _ => exact s_Job e
  | 1, _ => exact s_Timetable e
  | c + 2, h => exact absurd h (by omega)
theorem y_Job (e : E K mg) : IsiOk (Gk K) 12 10 (.ref (He.ga K "Job")) := isiB_ok (ins_all e) (ex_at e 3 (p := fun K => isiB (Gk K) 12 10 (.ref (He.ga K "Job"))) rfl)
theorem y_str (e : E K mg) : IsiOk (Gk K) 12 3 (.type "str") := isiB_ok (ins_all e) (ex_at e 4 (p := fun K => isiB (Gk K) 12 3 (.type "str")) rfl)
theorem y_dict (e : E K mg) : IsiOk (Gk K) 12 6 (.type "dict") := isiB_ok (ins_all e) (ex_at e 5 (p := fun K => isiB (Gk K) 12 6 (.type "dict")) rfl)
theorem y_bool (e : E K mg) : IsiOk (Gk K) 12 1 (.type "bool") := isiB_ok (ins_all e) (ex_at e 6 (p := fun K => isiB (Gk K) 12 1 (.type "bool")) rfl)
theorem y_int (e : E K mg) : IsiOk (Gk K) 12 2 (.type "int") := isiB_ok (ins_all e) (ex_at e 7 (p := fun K => isiB (Gk K) 12 2 (.type "int")) rfl)
theorem y_Timetable (e : E K mg) : IsiOk (Gk K) 12 11 (.ref (He.ga K "Timetable")) := isiB_ok (ins_all e) (ex_at e 8 (p := fun K => isiB (Gk K) 12 11 (.ref (He.ga K "Timetable"))) rfl)
theorem fg_Desk (e : E K mg) : PySem.W.fnIn (Gk K).K (He.ma K (He.ga K "Desk") "__getitem__") = true := (ex_at e 9 (p := fun K => PySem.W.fnIn K (He.ma K (He.ga K "Desk") "__getitem__")) rfl)
theorem pp_Desk_table (e : E K mg) : PropOf (Gk K).K ((Gk K).cl 4) "table" (He.ma K (He.ga K "Desk") "table") (gAd K "Desk" "table") := propB_ok (ex_at e 10 (p := fun K => propB K "Desk" "table") rfl)
theorem pp_Desk_spent (e : E K mg) : PropOf (Gk K).K ((Gk K).cl 4) "spent" (He.ma K (He.ga K "Desk") "spent") (gAd K "Desk" "spent") := propB_ok (ex_at e 11 (p := fun K => propB K "Desk" "spent") rfl)
theorem pp_Desk_now (e : E K mg) : PropOf (Gk K).K ((Gk K).cl 4) "now" (He.ma K (He.ga K "Desk") "now") (gAd K "Desk" "now") := propB_ok (ex_at e 12 (p := fun K => propB K "Desk" "now") rfl)
theorem nf_shifted_by {K : PySem.W.Frag} : ∀ i, (Gk K).fl i ≠ ("shifted_by" : PySem.Str) := nofl (by decide +kernel) (by decide +kernel)
theorem nf_cures {K : PySem.W.Frag} : ∀ i, (Gk K).fl i ≠ ("cures" : PySem.Str) := nofl (by decide +kernel) (by decide +kernel)
theorem nf_all_parts {K : PySem.W.Frag} : ∀ i, (Gk K).fl i ≠ ("all_parts" : PySem.Str) := nofl (by decide +kernel) (by decide +kernel)
theorem nf_undo {K : PySem.W.Frag} : ∀ i, (Gk K).fl i ≠ ("undo" : PySem.Str) := nofl (by decide +kernel) (by decide +kernel)
theorem nf_move {K : PySem.W.Frag} : ∀ i, (Gk K).fl i ≠ ("move" : PySem.Str) := nofl (by decide +kernel) (by decide +kernel)
theorem f_pairs_of (e : E K mg) : ∃ fd, FunD K "pairs_of" "pairs_of" (defArgs st_pairs_of) (defBody st_pairs_of) sc_pairs_of ((D_pairs_of).dvs K) ((D_pairs_of).kws K) (He.ga K "pairs_of") fd := e.c.def_ 0 (d := D_pairs_of) rfl
theorem d_pairs_of (e : E K mg) : Dn P w K mg base (Gk K) (He.ga K "pairs_of") 1 ["timetable"] 1 m_pairs_of := by
  obtain ⟨fd, F⟩ := f_pairs_of e
  exact dn_of (N := N_pairs_of) F ⟨rfl, rfl, rfl, by decide +kernel, rfl, by decide +kernel, by decide +kernel⟩ rfl rfl (FunD.bindsN F fun _ _ _ _ _ _ us hl => match us, hl with | [_], _ => rfl) fun cdv A outer s H E hr =>
    (js_cons (s_set nd_pairs_of (by first | exact Or.inl rfl | exact Or.inr rfl) (x_bty (call_list_of.or (call_listD rfl)) c_list (g_list e) (by decide +kernel) (a_cons (x_fld (inj := inj) (c := 1) (f := 4) rfl (c_Timetable e) (n_Timetable_lines e) (m_var 0)) a_nil)))
    (js_one (s_ret (k_lc2 (by decide) (by decide) (pe_lc2 (own := [("at", 2), ("one", 3), ("other", 4)]) (vs1 := [4]) rfl nd_pairs_of (i_enum (g_enumerate e) (m_var 1)) (blkOk_by (N := N_pairs_of) (sc := sc_pairs_of) (by decide +kernel)) (by decide) (fun _ _ _ _ _ => (g_tup rfl (gs_cons (g_nm nd_pairs_of (by first | exact Or.inl rfl | exact Or.inr rfl)) (gs_cons (g_nm nd_pairs_of (by first | exact Or.inl rfl | exact Or.inr rfl)) gs_nil)))) (fun _ _ _ _ _ => kts_nil) (fun _ _ _ _ _ => (i_seq (x_sl (m_var 1) (o_some (x_add (m_var 2) m_int)) o_none))) (fun _ _ _ _ _ => (g_nm nd_pairs_of (by first | exact Or.inl rfl | exact Or.inr rfl))) (fun _ _ _ _ _ => kts_nil) (fun _ _ _ _ _ => (x_tup (a_cons (m_var 3) (a_cons (m_var 4) a_nil)))))))))
theorem f_common (e : E K mg) : ∃ fd, FunD K "common" "common" (defArgs st_common) (defBody st_common) sc_common ((D_common).dvs K) ((D_common).kws K) (He.ga K "common") fd := e.c.def_ 1 (d := D_common) rfl
theorem d_common (e : E K mg) : Dn P w K mg base (Gk K) (He.ga K "common") 1 ["one", "other"] 2 m_common := by
  obtain ⟨fd, F⟩ := f_common e
  exact dn_of (N := N_common) F ⟨rfl, rfl, rfl, by decide +kernel, rfl, by decide +kernel, by decide +kernel⟩ rfl rfl (FunD.bindsN F fun _ _ _ _ _ _ us hl => match us, hl with | [_, _], _ => rfl) fun cdv A outer s H E hr =>
    (js_cons (s_while 1000 (t_ne hr (m_var 1) m_int) (js_one (s_par nd_common (by decide) (m_var 1) (x_mod (m_var 0) (m_var 1)))) PassesOwn.never)
    (js_one (s_ret (m_var 0))))
theorem f_gap_of (e : E K mg) : ∃ fd, FunD K "gap_of" "gap_of" (defArgs st_gap_of) (defBody st_gap_of) sc_gap_of ((D_gap_of).dvs K) ((D_gap_of).kws K) (He.ga K "gap_of") fd := e.c.def_ 2 (d := D_gap_of) rfl
theorem d_gap_of (e : E K mg) : Dn P w K mg base (Gk K) (He.ga K "gap_of") 2 ["one", "other"] 2 m_gap_of := by
  obtain ⟨fd, F⟩ := f_gap_of e
  exact dn_of (N := N_gap_of) F ⟨rfl, rfl, rfl, by decide +kernel, rfl, by decide +kernel, by decide +kernel⟩ rfl rfl (FunD.bindsN F fun _ _ _ _ _ _ us hl => match us, hl with | [_, _], _ => rfl) fun cdv A outer s H E hr =>
    (js_cons (s_set nd_gap_of (by first | exact Or.inl rfl | exact Or.inr rfl) (x_call (d_common e) (hr.mono (by decide)) (g_common e) (len_cons (len_cons len_nil)) (a_cons (x_fld (inj := inj) (c := 0) (f := 0) rfl (c_Job e) (n_Job_cycle e) (m_var 0)) (a_cons (x_fld (inj := inj) (c := 0) (f := 0) rfl (c_Job e) (n_Job_cycle e) (m_var 1)) a_nil))))
    (js_one (s_ret (x_tup (a_cons (m_var 2) (a_cons (x_mod (x_sub (x_fld (inj := inj) (c := 0) (f := 2) rfl (c_Job e) (n_Job_begin e) (m_var 1)) (x_fld (inj := inj) (c := 0) (f := 2) rfl (c_Job e) (n_Job_begin e) (m_var 0))) (m_var 2)) a_nil))))))
theorem f_never_meet (e : E K mg) : ∃ fd, FunD K "never_meet" "never_meet" (defArgs st_never_meet) (defBody st_never_meet) sc_never_meet ((D_never_meet).dvs K) ((D_never_meet).kws K) (He.ga K "never_meet") fd := e.c.def_ 3 (d := D_never_meet) rfl
theorem d_never_meet (e : E K mg) : Dn P w K mg base (Gk K) (He.ga K "never_meet") 3 ["one", "other"] 2 m_never_meet := by
  obtain ⟨fd, F⟩ := f_never_meet e
  exact dn_of (N := N_never_meet) F ⟨rfl, rfl, rfl, by decide +kernel, rfl, by decide +kernel, by decide +kernel⟩ rfl rfl (FunD.bindsN F fun _ _ _ _ _ _ us hl => match us, hl with | [_, _], _ => rfl) fun cdv A outer s H E hr =>
    (js_cons (s_asg (x_call (d_gap_of e) (hr.mono (by decide)) (g_gap_of e) (len_cons (len_cons len_nil)) (a_cons (m_var 0) (a_cons (m_var 1) a_nil))) (g_tup rfl (gs_cons (g_nm nd_never_meet (by first | exact Or.inl rfl | exact Or.inr rfl)) (gs_cons (g_nm nd_never_meet (by first | exact Or.inl rfl | exact Or.inr rfl)) gs_nil))))
    (js_one (s_ret (x_and (x_le (x_fld (inj := inj) (c := 0) (f := 1) rfl (c_Job e) (n_Job_length e) (m_var 0)) (m_var 3)) (pe_one (x_le (x_add (m_var 3) (x_fld (inj := inj) (c := 0) (f := 1) rfl (c_Job e) (n_Job_length e) (m_var 1))) (m_var 2)))))))
theorem f_is_free (e : E K mg) : ∃ fd, FunD K "is_free" "is_free" (defArgs st_is_free) (defBody st_is_free) sc_is_free ((D_is_free).dvs K) ((D_is_free).kws K) (He.ga K "is_free") fd := e.c.def_ 4 (d := D_is_free) rfl
theorem d_is_free (e : E K mg) : Dn P w K mg base (Gk K) (He.ga K "is_free") 4 ["timetable"] 1 m_is_free := by
  obtain ⟨fd, F⟩ := f_is_free e
  exact dn_of (N := N_is_free) F ⟨rfl, rfl, rfl, by decide +kernel, rfl, by decide +kernel, by decide +kernel⟩ rfl rfl (FunD.bindsN F fun _ _ _ _ _ _ us hl => match us, hl with | [_], _ => rfl) fun cdv A outer s H E hr =>
    (js_cons (s_set nd_is_free (by first | exact Or.inl rfl | exact Or.inr rfl) (x_fld (inj := inj) (c := 1) (f := 4) rfl (c_Timetable e) (n_Timetable_lines e) (m_var 0)))
    (js_one (s_ret (x_blt (cr_all rfl) c_all (g_all e) (by decide +kernel) (a_cons (k_lc (by decide) (pe_lc (own := [("one", 2), ("other", 3)]) rfl nd_is_free (i_seq (x_call (d_pairs_of e) (hr.mono (by decide)) (g_pairs_of e) (len_cons len_nil) (a_cons (m_var 0) a_nil))) (blkOk_by (N := N_is_free) (sc := sc_is_free) (by decide +kernel)) (fun _ _ _ _ _ => (g_tup rfl (gs_cons (g_nm nd_is_free (by first | exact Or.inl rfl | exact Or.inr rfl)) (gs_cons (g_nm nd_is_free (by first | exact Or.inl rfl | exact Or.inr rfl)) gs_nil)))) (fun _ _ _ _ _ => kts_nil) (fun _ _ _ _ _ => (x_call (d_never_meet e) (hr.mono (by decide)) (g_never_meet e) (len_cons (len_cons len_nil)) (a_cons (x_dget hr (m_var 1) (m_var 2)) (a_cons (x_dget hr (m_var 1) (m_var 3)) a_nil)))))) a_nil)))))
theorem f_is_name (e : E K mg) : ∃ fd, FunD K "is_name" "is_name" (defArgs st_is_name) (defBody st_is_name) sc_is_name ((D_is_name).dvs K) ((D_is_name).kws K) (He.ga K "is_name") fd := e.c.def_ 5 (d := D_is_name) rfl
theorem d_is_name (e : E K mg) : Dn P w K mg base (Gk K) (He.ga K "is_name") 1 ["value"] 1 m_is_name := by
  obtain ⟨fd, F⟩ := f_is_name e
  exact dn_of (N := N_is_name) F ⟨rfl, rfl, rfl, by decide +kernel, rfl, by decide +kernel, by decide +kernel⟩ rfl rfl (FunD.bindsN F fun _ _ _ _ _ _ us hl => match us, hl with | [_], _ => rfl) fun cdv A outer s H E hr =>
    (js_one (s_ret (x_and (x_isi rfl (y_str e) (.ty "str") (g_isinstance e) (m_var 0) (x_ty (g_str e) (by decide +kernel))) (x_and (x_chain o_le op_le o_le op_le m_int (x_blt call_lenM c_len (g_len e) (by decide +kernel) (a_cons (m_var 0) a_nil)) (x_gint (g_MAX_NAME e))) (pe_one (x_blt (cr_all rfl) c_all (g_all e) (by decide +kernel) (a_cons (k_lc (by decide) (pe_lc (own := [("sign", 1)]) rfl nd_is_name (i_str (m_var 0)) (blkOk_by (N := N_is_name) (sc := sc_is_name) (by decide +kernel)) (fun _ _ _ _ _ => (g_nm nd_is_name (by first | exact Or.inl rfl | exact Or.inr rfl))) (fun _ _ _ _ _ => kts_nil) (fun _ _ _ _ _ => (x_inS (m_var 1) (x_gstr (g_LETTERS e)))))) a_nil)))))))
theorem f_Timetable___init__ (e : E K mg) : ∃ fd, FunD K "__init__" "Timetable.__init__" (defArgs st_Timetable___init__) (defBody st_Timetable___init__) sc_Timetable___init__ ((D_Timetable___init__).dvs K) ((D_Timetable___init__).kws K) (He.ma K (He.ga K "Timetable") "__init__") fd := e.c.def_ 6 (d := D_Timetable___init__) rfl
theorem d_Timetable___init__ (e : E K mg) : Dn P w K mg base (Gk K) (He.ma K (He.ga K "Timetable") "__init__") 2 ["self", "jobs"] 2 m_Timetable___init__ := by
  obtain ⟨fd, F⟩ := f_Timetable___init__ e
  exact dn_of (N := N_Timetable___init__) F ⟨rfl, rfl, rfl, by decide +kernel, rfl, by decide +kernel, by decide +kernel⟩ rfl rfl (FunD.bindsN F fun _ _ _ _ _ _ us hl => match us, hl with | [_, _], _ => rfl) fun cdv A outer s H E hr =>
    (js_cons (s_if (PW.pt (w_or (t_not (t_val (x_isi rfl (y_dict e) (.ty "dict") (g_isinstance e) (m_var 1) (x_ty (g_dict e) (by decide +kernel))))) (pw_or1 (t_not (t_chain o_le op_le o_le op_le m_int (x_blt call_lenM c_len (g_len e) (by decide +kernel) (a_cons (m_var 1) a_nil)) (x_gint (g_MAX_JOBS e))))))) (js_one js_bad) js_nil)
    (js_cons (s_lock (lk_var 1) (s_for (i_items (m_var 1)) (g_tup rfl (gs_cons (g_nm nd_Timetable___init__ (by first | exact Or.inl rfl | exact Or.inr rfl)) (gs_cons (g_nm nd_Timetable___init__ (by first | exact Or.inl rfl | exact Or.inr rfl)) gs_nil))) (js_one (s_if (PW.pt (w_or (t_not (t_val (x_call (d_is_name e) (hr.mono (by decide)) (g_is_name e) (len_cons len_nil) (a_cons (m_var 2) a_nil)))) (pw_or1 (t_not (t_val (x_isi rfl (y_Job e) (.own _) (g_isinstance e) (m_var 3) (x_cls (g_Job e)))))))) (js_one js_bad) js_nil)) PassesOwn.never))
    (js_cons (s_set nd_Timetable___init__ (by first | exact Or.inl rfl | exact Or.inr rfl) m_int)
    (js_cons (s_lock (lk_var 1) (s_for (i_vals (m_var 1)) (g_nm nd_Timetable___init__ (by first | exact Or.inl rfl | exact Or.inr rfl)) (js_one (s_set nd_Timetable___init__ (by first | exact Or.inl rfl | exact Or.inr rfl) (x_mul (m_var 4) (x_fld (inj := inj) (c := 0) (f := 0) rfl (c_Job e) (n_Job_cycle e) (m_var 3))))) PassesOwn.never))
    (js_cons (s_if (t_gt (m_var 4) (x_gint (g_MAX_PRODUCT e))) (js_one js_bad) js_nil)
    (js_one (s_fld (inj := inj) (c := 1) (f := 4) rfl (c_Timetable e) (n_Timetable_lines e) (m_var 0) (ke_lock (k_dc (by decide) (pe_dc (own := [("name", 2), ("job", 3)]) rfl nd_Timetable___init__ (i_items (m_var 1)) (blkOk_by (N := N_Timetable___init__) (sc := sc_Timetable___init__) (by decide +kernel)) (fun _ _ _ _ _ => (g_tup rfl (gs_cons (g_nm nd_Timetable___init__ (by first | exact Or.inl rfl | exact Or.inr rfl)) (gs_cons (g_nm nd_Timetable___init__ (by first | exact Or.inl rfl | exact Or.inr rfl)) gs_nil)))) (fun _ _ _ _ _ => kts_nil) (fun _ _ _ _ _ => (m_var 2)) (fun _ _ _ _ _ => (m_var 3))))))))))))
theorem f_is_whole (e : E K mg) : ∃ fd, FunD K "is_whole" "is_whole" (defArgs st_is_whole) (defBody st_is_whole) sc_is_whole ((D_is_whole).dvs K) ((D_is_whole).kws K) (He.ga K "is_whole") fd := e.c.def_ 7 (d := D_is_whole) rfl
theorem d_is_whole (e : E K mg) : Dn P w K mg base (Gk K) (He.ga K "is_whole") 1 ["value"] 1 m_is_whole := by
  obtain ⟨fd, F⟩ := f_is_whole e
  exact dn_of (N := N_is_whole) F ⟨rfl, rfl, rfl, by decide +kernel, rfl, by decide +kernel, by decide +kernel⟩ rfl rfl (FunD.bindsN F fun _ _ _ _ _ _ us hl => match us, hl with | [_], _ => rfl) fun cdv A outer s H E hr =>
    (js_one (s_ret (x_and (x_isi rfl (y_int e) (.ty "int") (g_isinstance e) (m_var 0) (x_ty (g_int e) (by decide +kernel))) (pe_one (x_not (x_isi rfl (y_bool e) (.ty "bool") (g_isinstance e) (m_var 0) (x_ty (g_bool e) (by decide +kernel))))))))
theorem f_is_integer (e : E K mg) : ∃ fd, FunD K "is_integer" "is_integer" (defArgs st_is_integer) (defBody st_is_integer) sc_is_integer ((D_is_integer).dvs K) ((D_is_integer).kws K) (He.ga K "is_integer") fd := e.c.def_ 8 (d := D_is_integer) rfl
theorem d_is_integer (e : E K mg) : Dn P w K mg base (Gk K) (He.ga K "is_integer") 2 ["value", "low", "high"] 3 m_is_integer := by
  obtain ⟨fd, F⟩ := f_is_integer e
  exact dn_of (N := N_is_integer) F ⟨rfl, rfl, rfl, by decide +kernel, rfl, by decide +kernel, by decide +kernel⟩ rfl rfl (FunD.bindsN F fun _ _ _ _ _ _ us hl => match us, hl with | [_, _, _], _ => rfl) fun cdv A outer s H E hr =>
    (js_one (s_ret (x_and (x_call (d_is_whole e) (hr.mono (by decide)) (g_is_whole e) (len_cons len_nil) (a_cons (m_var 0) a_nil)) (pe_one (x_chain o_le op_le o_le op_le (m_var 1) (m_var 0) (m_var 2))))))
theorem f_Job___init__ (e : E K mg) : ∃ fd, FunD K "__init__" "Job.__init__" (defArgs st_Job___init__) (defBody st_Job___init__) sc_Job___init__ ((D_Job___init__).dvs K) ((D_Job___init__).kws K) (He.ma K (He.ga K "Job") "__init__") fd := e.c.def_ 9 (d := D_Job___init__) rfl
theorem o_Job___init__ (e : E K mg) : ∃ fd, FnOk P w K mg base CX0 3 (He.ma K (He.ga K "Job") "__init__") fd ["self", "period", "duration", "start", "cost"] (spM (Gk K) 5 m_Job___init__) ∧ FunD K "__init__" "Job.__init__" (defArgs st_Job___init__) (defBody st_Job___init__) sc_Job___init__ ((D_Job___init__).dvs K) ((D_Job___init__).kws K) (He.ma K (He.ga K "Job") "__init__") fd := by
  obtain ⟨fd, F⟩ := f_Job___init__ e
  exact ⟨fd, fn_ok (N := N_Job___init__) F ⟨rfl, rfl, rfl, by decide +kernel, rfl, by decide +kernel, by decide +kernel⟩ rfl rfl fun cdv A outer s H E hr =>
    (js_cons (s_if (t_not (t_val (x_call (d_is_integer e) (hr.mono (by decide)) (g_is_integer e) (len_cons (len_cons (len_cons len_nil))) (a_cons (m_var 1) (a_cons m_int (a_cons (x_gint (g_MAX_PERIOD e)) a_nil)))))) (js_one js_bad) js_nil)
    (js_cons (s_if (t_not (t_val (x_call (d_is_integer e) (hr.mono (by decide)) (g_is_integer e) (len_cons (len_cons (len_cons len_nil))) (a_cons (m_var 2) (a_cons m_int (a_cons (m_var 1) a_nil)))))) (js_one js_bad) js_nil)
    (js_cons (s_if (t_not (t_val (x_call (d_is_integer e) (hr.mono (by decide)) (g_is_integer e) (len_cons (len_cons (len_cons len_nil))) (a_cons (m_var 3) (a_cons m_int (a_cons (x_sub (m_var 1) m_int) a_nil)))))) (js_one js_bad) js_nil)
    (js_cons (s_if (t_not (t_val (x_call (d_is_integer e) (hr.mono (by decide)) (g_is_integer e) (len_cons (len_cons (len_cons len_nil))) (a_cons (m_var 4) (a_cons m_int (a_cons (x_gint (g_MAX_COST e)) a_nil)))))) (js_one js_bad) js_nil)
    (js_cons (s_fld (inj := inj) (c := 0) (f := 0) rfl (c_Job e) (n_Job_cycle e) (m_var 0) (m_var 1))
    (js_cons (s_fld (inj := inj) (c := 0) (f := 1) rfl (c_Job e) (n_Job_length e) (m_var 0) (m_var 2))
    (js_cons (s_fld (inj := inj) (c := 0) (f := 2) rfl (c_Job e) (n_Job_begin e) (m_var 0) (m_var 3))
    (js_one (s_fld (inj := inj) (c := 0) (f := 3) rfl (c_Job e) (n_Job_charge e) (m_var 0) (m_var 4)))))))))), F⟩
def kgJob_2_start_cost {α : Type} (us its mv ws : List α) : List α := us ++ ((ws.drop 0).take 1 ++ ((ws.drop 1).take 1))
theorem krJob_2_start_cost {vs ds mz zs : List V} {us its mv ws : List Value} (h1 : Vals vs us) (h2 : Vals ds its) (h3 : Vals mz mv) (h4 : Vals zs ws) : Vals (kgJob_2_start_cost vs ds mz zs) (kgJob_2_start_cost us its mv ws) := h1.append (((h4.drop 0).take 1).append ((h4.drop 1).take 1))
theorem kmJob_2_start_cost {K : PySem.W.Frag} : KwM (Gk K) 2 2 5 kfJob_2_start_cost (fun vs zs => kgJob_2_start_cost vs [V.int 1] (([] : List (PySem.Str × V)).map (·.2)) zs) where
  rel := fun {m H vs xs zs ys} r1 r2 => r1.append (((r2.drop 0).take 1).append ((r2.drop 1).take 1))
  len := fun xs ys h1 h2 => by simp [kgJob_2_start_cost, h1, h2]
theorem kwJob_2_start_cost (e : E K mg) : Kb P w K mg base (Gk K) (He.ma K (He.ga K "Job") "__init__") 3 ["self", "period", "duration", "start", "cost"] 5 2 ["start", "cost"] m_Job___init__ kfJob_2_start_cost := by
  obtain ⟨fd, F, FD⟩ := o_Job___init__ e
  obtain ⟨its, mv, hb⟩ := FunD.kbinds (ps := ["self", "period", "duration", "start", "cost"]) FD 3 ["start", "cost"] ([] : List (PySem.Str × V)) kgJob_2_start_cost (fun z => nomatch z) (fun z => nomatch z) (fun q h => nomatch h) krJob_2_start_cost (fun T D doc pm an cdv ct us its mv ws h1 h2 h3 h4 => match us, its, mv, ws, h1, h2, h3, h4 with | [_, _, _], [_], [], [_, _], _, _, _, _ => ⟨_, rfl, rfl⟩)
  exact ⟨fd, _, _, F, hb, kmJob_2_start_cost⟩
theorem f_moved (e : E K mg) : ∃ fd, FunD K "moved" "moved" (defArgs st_moved) (defBody st_moved) sc_moved ((D_moved).dvs K) ((D_moved).kws K) (He.ga K "moved") fd := e.c.def_ 10 (d := D_moved) rfl
theorem d_moved (e : E K mg) : Dn P w K mg base (Gk K) (He.ga K "moved") 5 ["job", "number"] 2 m_moved := by
  obtain ⟨fd, F⟩ := f_moved e
  exact dn_of (N := N_moved) F ⟨rfl, rfl, rfl, by decide +kernel, rfl, by decide +kernel, by decide +kernel⟩ rfl rfl (FunD.bindsN F fun _ _ _ _ _ _ us hl => match us, hl with | [_, _], _ => rfl) fun cdv A outer s H E hr =>
    (js_cons (s_if (PW.pt (w_or (t_not (t_val (x_call (d_is_whole e) (hr.mono (by decide)) (g_is_whole e) (len_cons len_nil) (a_cons (m_var 1) a_nil)))) (pw_or1 (t_lt (m_var 1) m_int)))) (js_one js_bad) js_nil)
    (js_one (s_ret (x_makeN (k_Job e) (kwJob_2_start_cost e) (hr.mono (by decide)) (g_Job e) (len_cons (len_cons len_nil)) (len_cons (len_cons len_nil)) (a_cons (x_fld (inj := inj) (c := 0) (f := 0) rfl (c_Job e) (n_Job_cycle e) (m_var 0)) (a_cons (x_fld (inj := inj) (c := 0) (f := 1) rfl (c_Job e) (n_Job_length e) (m_var 0)) a_nil)) (kk_cons (pk_cons (x_mod (x_add (x_fld (inj := inj) (c := 0) (f := 2) rfl (c_Job e) (n_Job_begin e) (m_var 0)) (m_var 1)) (x_fld (inj := inj) (c := 0) (f := 0) rfl (c_Job e) (n_Job_cycle e) (m_var 0))) (kk_cons (pk_cons (x_fld (inj := inj) (c := 0) (f := 3) rfl (c_Job e) (n_Job_charge e) (m_var 0)) kk_nil))))))))
theorem f_after_shifts (e : E K mg) : ∃ fd, FunD K "after_shifts" "after_shifts" (defArgs st_after_shifts) (defBody st_after_shifts) sc_after_shifts ((D_after_shifts).dvs K) ((D_after_shifts).kws K) (He.ga K "after_shifts") fd := e.c.def_ 11 (d := D_after_shifts) rfl
theorem d_after_shifts (e : E K mg) : Dn P w K mg base (Gk K) (He.ga K "after_shifts") 6 ["timetable", "shifts"] 2 m_after_shifts := by
  obtain ⟨fd, F⟩ := f_after_shifts e
  exact dn_of (N := N_after_shifts) F ⟨rfl, rfl, rfl, by decide +kernel, rfl, by decide +kernel, by decide +kernel⟩ rfl rfl (FunD.bindsN F fun _ _ _ _ _ _ us hl => match us, hl with | [_, _], _ => rfl) fun cdv A outer s H E hr =>
    (js_one (s_ret (x_make (k_Timetable e) (d_Timetable___init__ e) (hr.mono (by decide)) (g_Timetable e) (fun s h v h' q => congrArg (· + 1) ((len_cons len_nil) s h v h' q)) (a_cons (ke_lock (k_dc (by decide) (pe_dc (own := [("name", 2), ("job", 3), ("one", 4)]) rfl nd_after_shifts (i_zipG (g_zip e) (by decide) (by decide) (pe_srcI (x_fld (inj := inj) (c := 1) (f := 4) rfl (c_Timetable e) (n_Timetable_lines e) (m_var 0))) (pe_src0 (m_var 1))) (blkOk_by (N := N_after_shifts) (sc := sc_after_shifts) (by decide +kernel)) (fun _ _ _ _ _ => (g_tup rfl (gs_cons (g_tup rfl (gs_cons (g_nm nd_after_shifts (by first | exact Or.inl rfl | exact Or.inr rfl)) (gs_cons (g_nm nd_after_shifts (by first | exact Or.inl rfl | exact Or.inr rfl)) gs_nil))) (gs_cons (g_nm nd_after_shifts (by first | exact Or.inl rfl | exact Or.inr rfl)) gs_nil)))) (fun _ _ _ _ _ => kts_nil) (fun _ _ _ _ _ => (m_var 2)) (fun _ _ _ _ _ => (x_call (d_moved e) (hr.mono (by decide)) (g_moved e) (len_cons (len_cons len_nil)) (a_cons (m_var 3) (a_cons (m_var 4) a_nil))))))) a_nil))))
theorem f_Desk_shifted_by (e : E K mg) : ∃ fd, FunD K "shifted_by" "Desk.shifted_by" (defArgs st_Desk_shifted_by) (defBody st_Desk_shifted_by) sc_Desk_shifted_by ((D_Desk_shifted_by).dvs K) ((D_Desk_shifted_by).kws K) (He.ma K (He.ga K "Desk") "shifted_by") fd := e.c.def_ 12 (d := D_Desk_shifted_by) rfl
theorem d_Desk_shifted_by (e : E K mg) : Dn P w K mg base (Gk K) (He.ma K (He.ga K "Desk") "shifted_by") 1 ["self", "name", "number"] 3 m_Desk_shifted_by := by
  obtain ⟨fd, F⟩ := f_Desk_shifted_by e
  exact dn_of (N := N_Desk_shifted_by) F ⟨rfl, rfl, rfl, by decide +kernel, rfl, by decide +kernel, by decide +kernel⟩ rfl rfl (FunD.bindsN F fun _ _ _ _ _ _ us hl => match us, hl with | [_, _, _], _ => rfl) fun cdv A outer s H E hr =>
    (js_cons (s_set nd_Desk_shifted_by (by first | exact Or.inl rfl | exact Or.inr rfl) (x_lst a_nil))
    (js_cons (s_lock (lk_fld (inj := inj) (lk_fld (inj := inj) (lk_var 0))) (s_for (i_zipG (g_zip e) (by decide) (by decide) (pe_srcI (x_fld (inj := inj) (c := 1) (f := 4) rfl (c_Timetable e) (n_Timetable_lines e) (x_fld (inj := inj) (c := 4) (f := 8) rfl (c_Desk e) (n_Desk_timetable e) (m_var 0)))) (pe_src0 (x_ix (x_fld (inj := inj) (c := 4) (f := 9) rfl (c_Desk e) (n_Desk_past e) (m_var 0)) (x_neg m_int)))) (g_tup rfl (gs_cons (g_tup rfl (gs_cons (g_nm nd_Desk_shifted_by (by first | exact Or.inl rfl | exact Or.inr rfl)) (gs_cons (g_nm nd_Desk_shifted_by (by first | exact Or.inl rfl | exact Or.inr rfl)) gs_nil))) (gs_cons (g_nm nd_Desk_shifted_by (by first | exact Or.inl rfl | exact Or.inr rfl)) gs_nil))) (js_one (s_expr (k_bm rfl b_append (pe_bm PySem.F.plainAttrs_list PySem.F.slot_list_append PySem.F.type_list_append mt_append (m_var 3) (a_cons (x_if (t_eq hr (m_var 4) (m_var 1)) (x_mod (x_add (m_var 6) (m_var 2)) (x_fld (inj := inj) (c := 0) (f := 0) rfl (c_Job e) (n_Job_cycle e) (m_var 5))) (m_var 6)) a_nil))))) PassesOwn.never))
    (js_one (s_ret (x_bty call_tuple_of c_tuple (g_tuple e) (by decide +kernel) (a_cons (m_var 3) a_nil))))))
theorem f_Desk_cures (e : E K mg) : ∃ fd, FunD K "cures" "Desk.cures" (defArgs st_Desk_cures) (defBody st_Desk_cures) sc_Desk_cures ((D_Desk_cures).dvs K) ((D_Desk_cures).kws K) (He.ma K (He.ga K "Desk") "cures") fd := e.c.def_ 13 (d := D_Desk_cures) rfl
theorem d_Desk_cures (e : E K mg) : Gn P w K mg base (Gk K) (He.ma K (He.ga K "Desk") "cures") 7 ["self"] 1 m_Desk_cures := by
  obtain ⟨fd, F⟩ := f_Desk_cures e
  exact gn_of (N := N_Desk_cures) F ⟨rfl, rfl, rfl, by decide +kernel, rfl, by decide +kernel, by decide +kernel⟩ rfl rfl (FunD.bindsN F fun _ _ _ _ _ _ us hl => match us, hl with | [_], _ => rfl) fun cdv A outer s H E pn hr =>
    (gm_cons (s_set nd_Desk_cures (by first | exact Or.inl rfl | exact Or.inr rfl) (x_lst a_nil))
    (gm_cons (s_lock (lk_fld (inj := inj) (lk_fld (inj := inj) (lk_var 0))) (s_for (i_items (x_fld (inj := inj) (c := 1) (f := 4) rfl (c_Timetable e) (n_Timetable_lines e) (x_fld (inj := inj) (c := 4) (f := 8) rfl (c_Desk e) (n_Desk_timetable e) (m_var 0)))) (g_tup rfl (gs_cons (g_nm nd_Desk_cures (by first | exact Or.inl rfl | exact Or.inr rfl)) (gs_cons (g_nm nd_Desk_cures (by first | exact Or.inl rfl | exact Or.inr rfl)) gs_nil))) (js_one (s_for (i_rng2 (g_range e) m_int (x_fld (inj := inj) (c := 0) (f := 0) rfl (c_Job e) (n_Job_cycle e) (m_var 3))) (g_nm nd_Desk_cures (by first | exact Or.inl rfl | exact Or.inr rfl)) (js_one (s_if (t_val (x_call (d_is_free e) (hr.mono (by decide)) (g_is_free e) (len_cons len_nil) (a_cons (x_call (d_after_shifts e) (hr.mono (by decide)) (g_after_shifts e) (len_cons (len_cons len_nil)) (a_cons (x_fld (inj := inj) (c := 4) (f := 8) rfl (c_Desk e) (n_Desk_timetable e) (m_var 0)) (a_cons (x_meth (c := 4) (d_Desk_shifted_by e) (hr.mono (by decide)) (c_Desk e) (me_Desk_shifted_by e) nf_shifted_by (fun s h v h' q => congrArg (· + 1) ((len_cons (len_cons len_nil)) s h v h' q)) (m_var 0) (a_cons (m_var 2) (a_cons (m_var 4) a_nil))) a_nil))) a_nil))) (js_one (s_expr (k_bm rfl b_append (pe_bm PySem.F.plainAttrs_list PySem.F.slot_list_append PySem.F.type_list_append mt_append (m_var 1) (a_cons (x_tup (a_cons (m_var 2) (a_cons (m_var 4) a_nil))) a_nil))))) js_nil)) PassesOwn.never)) PassesOwn.never))
    (gm_end (m_var 1) hr.hd)))
theorem f__law_pairs (e : E K mg) : ∃ fd, FunD K "_law_pairs" "_law_pairs" (defArgs st__law_pairs) (defBody st__law_pairs) sc__law_pairs ((D__law_pairs).dvs K) ((D__law_pairs).kws K) (He.ga K "_law_pairs") fd := e.c.def_ 14 (d := D__law_pairs) rfl
theorem d__law_pairs (e : E K mg) : Dn P w K mg base (Gk K) (He.ga K "_law_pairs") 1 ["_law_drawn_here"] 1 m__law_pairs_0 := by
  obtain ⟨fd, F⟩ := f__law_pairs e
  exact dn_of (N := N__law_pairs) F ⟨rfl, rfl, rfl, by decide +kernel, rfl, by decide +kernel, by decide +kernel⟩ rfl rfl (FunD.bindsN F fun _ _ _ _ _ _ us hl => match us, hl with | [_], _ => rfl) fun cdv A outer s H E hr =>
    (js_cons (s_par nd__law_pairs (by decide) (x_bty (call_list_of.or (call_listD rfl)) c_list (g_list e) (by decide +kernel) (a_cons (m_var 0) a_nil)) (x_lst a_nil))
    (js_cons (s_for (i_enum (g_enumerate e) (m_var 1)) (g_tup rfl (gs_cons (g_nm nd__law_pairs (by first | exact Or.inl rfl | exact Or.inr rfl)) (gs_cons (g_nm nd__law_pairs (by first | exact Or.inl rfl | exact Or.inr rfl)) gs_nil))) (js_one (s_set nd__law_pairs (by first | exact Or.inl rfl | exact Or.inr rfl) (x_add (m_var 2) (k_lc (by decide) (pe_lc (own := [("_law_other", 5)]) rfl nd__law_pairs (i_seq (x_sl (m_var 1) (o_some (x_add (m_var 3) m_int)) o_none)) (blkOk_by (N := N__law_pairs) (sc := sc__law_pairs) (by decide +kernel)) (fun _ _ _ _ _ => (g_nm nd__law_pairs (by first | exact Or.inl rfl | exact Or.inr rfl))) (fun _ _ _ _ _ => kts_nil) (fun _ _ _ _ _ => (x_tup (a_cons (m_var 4) (a_cons (m_var 5) a_nil))))))))) PassesOwn.never)
    (js_one (s_ret (m_var 2)))))
theorem f__law_runs (e : E K mg) : ∃ fd, FunD K "_law_runs" "_law_runs" (defArgs st__law_runs) (defBody st__law_runs) sc__law_runs ((D__law_runs).dvs K) ((D__law_runs).kws K) (He.ga K "_law_runs") fd := e.c.def_ 15 (d := D__law_runs) rfl
theorem d__law_runs (e : E K mg) : Dn P w K mg base (Gk K) (He.ga K "_law_runs") 1 ["_law_row", "_law_time"] 2 m__law_runs_0 := by
  obtain ⟨fd, F⟩ := f__law_runs e
  exact dn_of (N := N__law_runs) F ⟨rfl, rfl, rfl, by decide +kernel, rfl, by decide +kernel, by decide +kernel⟩ rfl rfl (FunD.bindsN F fun _ _ _ _ _ _ us hl => match us, hl with | [_, _], _ => rfl) fun cdv A outer s H E hr =>
    (js_one (s_ret (x_lt (x_mod (x_sub (x_add (m_var 1) (x_mul m_int (x_ix (m_var 0) m_int))) (x_ix (m_var 0) m_int)) (x_ix (m_var 0) m_int)) (x_ix (m_var 0) m_int))))
theorem f__law_meet (e : E K mg) : ∃ fd, FunD K "_law_meet" "_law_meet" (defArgs st__law_meet) (defBody st__law_meet) sc__law_meet ((D__law_meet).dvs K) ((D__law_meet).kws K) (He.ga K "_law_meet") fd := e.c.def_ 16 (d := D__law_meet) rfl
theorem d__law_meet (e : E K mg) : Dn P w K mg base (Gk K) (He.ga K "_law_meet") 2 ["_law_row", "_law_other"] 2 m__law_meet_0 := by
  obtain ⟨fd, F⟩ := f__law_meet e
  exact dn_of (N := N__law_meet) F ⟨rfl, rfl, rfl, by decide +kernel, rfl, by decide +kernel, by decide +kernel⟩ rfl rfl (FunD.bindsN F fun _ _ _ _ _ _ us hl => match us, hl with | [_, _], _ => rfl) fun cdv A outer s H E hr =>
    (js_cons (s_for (i_rng1 (g_range e) (x_mul (x_ix (m_var 0) m_int) (x_ix (m_var 1) m_int))) (g_nm nd__law_meet (by first | exact Or.inl rfl | exact Or.inr rfl)) (js_one (s_if (PW.pt (w_and (t_val (x_call (d__law_runs e) (hr.mono (by decide)) (g__law_runs e) (len_cons (len_cons len_nil)) (a_cons (m_var 0) (a_cons (m_var 2) a_nil)))) (pw_and1 (t_val (x_call (d__law_runs e) (hr.mono (by decide)) (g__law_runs e) (len_cons (len_cons len_nil)) (a_cons (m_var 1) (a_cons (m_var 2) a_nil))))))) (js_one (s_ret (m_var 2))) js_nil)) PassesOwn.never)
    (js_one (s_ret m_non)))
theorem f__law_moved (e : E K mg) : ∃ fd, FunD K "_law_moved" "_law_moved" (defArgs st__law_moved) (defBody st__law_moved) sc__law_moved ((D__law_moved).dvs K) ((D__law_moved).kws K) (He.ga K "_law_moved") fd := e.c.def_ 17 (d := D__law_moved) rfl
theorem d__law_moved (e : E K mg) : Dn P w K mg base (Gk K) (He.ga K "_law_moved") 1 ["_law_row", "_law_number_here"] 2 m__law_moved_0 := by
  obtain ⟨fd, F⟩ := f__law_moved e
  exact dn_of (N := N__law_moved) F ⟨rfl, rfl, rfl, by decide +kernel, rfl, by decide +kernel, by decide +kernel⟩ rfl rfl (FunD.bindsN F fun _ _ _ _ _ _ us hl => match us, hl with | [_, _], _ => rfl) fun cdv A outer s H E hr =>
    (js_one (s_ret (x_tup (a_cons (x_ix (m_var 0) m_int) (a_cons (x_ix (m_var 0) m_int) (a_cons (x_mod (x_add (x_ix (m_var 0) m_int) (m_var 1)) (x_ix (m_var 0) m_int)) (a_cons (x_ix (m_var 0) m_int) a_nil)))))))
theorem f__law_after (e : E K mg) : ∃ fd, FunD K "_law_after" "_law_after" (defArgs st__law_after) (defBody st__law_after) sc__law_after ((D__law_after).dvs K) ((D__law_after).kws K) (He.ga K "_law_after") fd := e.c.def_ 18 (d := D__law_after) rfl
theorem d__law_after (e : E K mg) : Dn P w K mg base (Gk K) (He.ga K "_law_after") 2 ["_law_drawn_here", "_law_shifts"] 2 m__law_after_0 := by
  obtain ⟨fd, F⟩ := f__law_after e
  exact dn_of (N := N__law_after) F ⟨rfl, rfl, rfl, by decide +kernel, rfl, by decide +kernel, by decide +kernel⟩ rfl rfl (FunD.bindsN F fun _ _ _ _ _ _ us hl => match us, hl with | [_, _], _ => rfl) fun cdv A outer s H E hr =>
    (js_cons (s_set nd__law_after (by first | exact Or.inl rfl | exact Or.inr rfl) (k_dnew pe_dnewK))
    (js_cons (s_lock (lk_var 0) (s_for (i_zipG (g_zip e) (by decide) (by decide) (pe_src1 (m_var 0)) (pe_src0 (m_var 1))) (g_tup rfl (gs_cons (g_nm nd__law_after (by first | exact Or.inl rfl | exact Or.inr rfl)) (gs_cons (g_nm nd__law_after (by first | exact Or.inl rfl | exact Or.inr rfl)) gs_nil))) (js_one (s_dput hr (m_var 2) (m_var 3) (x_call (d__law_moved e) (hr.mono (by decide)) (g__law_moved e) (len_cons (len_cons len_nil)) (a_cons (x_dget hr (m_var 0) (m_var 3)) (a_cons (m_var 4) a_nil))))) PassesOwn.never))
    (js_one (s_ret (m_var 2)))))
theorem f__law_free (e : E K mg) : ∃ fd, FunD K "_law_free" "_law_free" (defArgs st__law_free) (defBody st__law_free) sc__law_free ((D__law_free).dvs K) ((D__law_free).kws K) (He.ga K "_law_free") fd := e.c.def_ 19 (d := D__law_free) rfl
theorem d__law_free (e : E K mg) : Dn P w K mg base (Gk K) (He.ga K "_law_free") 3 ["_law_drawn_here", "_law_shifts"] 2 m__law_free_0 := by
  obtain ⟨fd, F⟩ := f__law_free e
  exact dn_of (N := N__law_free) F ⟨rfl, rfl, rfl, by decide +kernel, rfl, by decide +kernel, by decide +kernel⟩ rfl rfl (FunD.bindsN F fun _ _ _ _ _ _ us hl => match us, hl with | [_, _], _ => rfl) fun cdv A outer s H E hr =>
    (js_cons (s_set nd__law_free (by first | exact Or.inl rfl | exact Or.inr rfl) (x_call (d__law_after e) (hr.mono (by decide)) (g__law_after e) (len_cons (len_cons len_nil)) (a_cons (m_var 0) (a_cons (m_var 1) a_nil))))
    (js_one (s_ret (x_blt (cr_all rfl) c_all (g_all e) (by decide +kernel) (a_cons (k_lc (by decide) (pe_lc (own := [("_law_one", 3), ("_law_other", 4)]) rfl nd__law_free (i_seq (x_call (d__law_pairs e) (hr.mono (by decide)) (g__law_pairs e) (len_cons len_nil) (a_cons (m_var 0) a_nil))) (blkOk_by (N := N__law_free) (sc := sc__law_free) (by decide +kernel)) (fun _ _ _ _ _ => (g_tup rfl (gs_cons (g_nm nd__law_free (by first | exact Or.inl rfl | exact Or.inr rfl)) (gs_cons (g_nm nd__law_free (by first | exact Or.inl rfl | exact Or.inr rfl)) gs_nil)))) (fun _ _ _ _ _ => kts_nil) (fun _ _ _ _ _ => (x_isN (x_call (d__law_meet e) (hr.mono (by decide)) (g__law_meet e) (len_cons (len_cons len_nil)) (a_cons (x_dget hr (m_var 2) (m_var 3)) (a_cons (x_dget hr (m_var 2) (m_var 4)) a_nil))) m_non)))) a_nil)))))
theorem f__law_with (e : E K mg) : ∃ fd, FunD K "_law_with" "_law_with" (defArgs st__law_with) (defBody st__law_with) sc__law_with ((D__law_with).dvs K) ((D__law_with).kws K) (He.ga K "_law_with") fd := e.c.def_ 20 (d := D__law_with) rfl
theorem d__law_with (e : E K mg) : Dn P w K mg base (Gk K) (He.ga K "_law_with") 1 ["_law_drawn_here", "_law_shifts", "_law_name", "_law_number_here"] 4 m__law_with_0 := by
  obtain ⟨fd, F⟩ := f__law_with e
  exact dn_of (N := N__law_with) F ⟨rfl, rfl, rfl, by decide +kernel, rfl, by decide +kernel, by decide +kernel⟩ rfl rfl (FunD.bindsN F fun _ _ _ _ _ _ us hl => match us, hl with | [_, _, _, _], _ => rfl) fun cdv A outer s H E hr =>
    (js_cons (s_set nd__law_with (by first | exact Or.inl rfl | exact Or.inr rfl) (x_lst a_nil))
    (js_cons (s_lock (lk_var 0) (s_for (i_zipG (g_zip e) (by decide) (by decide) (pe_src1 (m_var 0)) (pe_src0 (m_var 1))) (g_tup rfl (gs_cons (g_nm nd__law_with (by first | exact Or.inl rfl | exact Or.inr rfl)) (gs_cons (g_nm nd__law_with (by first | exact Or.inl rfl | exact Or.inr rfl)) gs_nil))) (js_one (s_expr (k_bm rfl b_append (pe_bm PySem.F.plainAttrs_list PySem.F.slot_list_append PySem.F.type_list_append mt_append (m_var 4) (a_cons (x_if (t_eq hr (m_var 5) (m_var 2)) (x_mod (x_add (m_var 6) (m_var 3)) (x_ix (x_dget hr (m_var 0) (m_var 5)) m_int)) (m_var 6)) a_nil))))) PassesOwn.never))
    (js_one (s_ret (x_bty call_tuple_of c_tuple (g_tuple e) (by decide +kernel) (a_cons (m_var 4) a_nil))))))
theorem f_check_name (e : E K mg) : ∃ fd, FunD K "check_name" "check_name" (defArgs st_check_name) (defBody st_check_name) sc_check_name ((D_check_name).dvs K) ((D_check_name).kws K) (He.ga K "check_name") fd := e.c.def_ 21 (d := D_check_name) rfl
theorem d_check_name (e : E K mg) : Dn P w K mg base (Gk K) (He.ga K "check_name") 1 ["timetable", "name"] 2 m_check_name := by
  obtain ⟨fd, F⟩ := f_check_name e
  exact dn_of (N := N_check_name) F ⟨rfl, rfl, rfl, by decide +kernel, rfl, by decide +kernel, by decide +kernel⟩ rfl rfl (FunD.bindsN F fun _ _ _ _ _ _ us hl => match us, hl with | [_, _], _ => rfl) fun cdv A outer s H E hr =>
    (js_one (s_if (PW.pt (w_or (t_not (t_val (x_isi rfl (y_str e) (.ty "str") (g_isinstance e) (m_var 1) (x_ty (g_str e) (by decide +kernel))))) (pw_or1 (t_dnotin hr (m_var 1) (x_fld (inj := inj) (c := 1) (f := 4) rfl (c_Timetable e) (n_Timetable_lines e) (m_var 0)))))) (js_one js_bad) js_nil))
theorem f_Desk___contains__ (e : E K mg) : ∃ fd, FunD K "__contains__" "Desk.__contains__" (defArgs st_Desk___contains__) (defBody st_Desk___contains__) sc_Desk___contains__ ((D_Desk___contains__).dvs K) ((D_Desk___contains__).kws K) (He.ma K (He.ga K "Desk") "__contains__") fd := e.c.def_ 22 (d := D_Desk___contains__) rfl
theorem d_Desk___contains__ (e : E K mg) : Dn P w K mg base (Gk K) (He.ma K (He.ga K "Desk") "__contains__") 2 ["self", "x"] 2 m_Desk___contains__ := by
  obtain ⟨fd, F⟩ := f_Desk___contains__ e
  exact dn_of (N := N_Desk___contains__) F ⟨rfl, rfl, rfl, by decide +kernel, rfl, by decide +kernel, by decide +kernel⟩ rfl rfl (FunD.bindsN F fun _ _ _ _ _ _ us hl => match us, hl with | [_, _], _ => rfl) fun cdv A outer s H E hr =>
    (js_cons (s_expr (x_call (d_check_name e) (hr.mono (by decide)) (g_check_name e) (len_cons (len_cons len_nil)) (a_cons (x_fld (inj := inj) (c := 4) (f := 8) rfl (c_Desk e) (n_Desk_timetable e) (m_var 0)) (a_cons (m_var 1) a_nil))))
    (js_one (s_ret (x_ne hr (x_ix (x_ix (x_fld (inj := inj) (c := 4) (f := 9) rfl (c_Desk e) (n_Desk_past e) (m_var 0)) (x_neg m_int)) (k_bm rfl b_index (pe_bm PySem.F.plainAttrs_list PySem.F.slot_list_index PySem.F.type_list_index (mt_indexD (hu65 hr)) (x_bty (call_list_of.or (call_listD rfl)) c_list (g_list e) (by decide +kernel) (a_cons (x_fld (inj := inj) (c := 1) (f := 4) rfl (c_Timetable e) (n_Timetable_lines e) (x_fld (inj := inj) (c := 4) (f := 8) rfl (c_Desk e) (n_Desk_timetable e) (m_var 0))) a_nil)) (a_cons (m_var 1) a_nil)))) m_int))))
theorem f_Desk___getitem__ (e : E K mg) : ∃ fd, FunD K "__getitem__" "Desk.__getitem__" (defArgs st_Desk___getitem__) (defBody st_Desk___getitem__) sc_Desk___getitem__ ((D_Desk___getitem__).dvs K) ((D_Desk___getitem__).kws K) (He.ma K (He.ga K "Desk") "__getitem__") fd := e.c.def_ 23 (d := D_Desk___getitem__) rfl
theorem d_Desk___getitem__ (e : E K mg) : Dn P w K mg base (Gk K) (He.ma K (He.ga K "Desk") "__getitem__") 2 ["self", "at"] 2 m_Desk___getitem__ := by
  obtain ⟨fd, F⟩ := f_Desk___getitem__ e
  exact dn_of (N := N_Desk___getitem__) F ⟨rfl, rfl, rfl, by decide +kernel, rfl, by decide +kernel, by decide +kernel⟩ rfl rfl (FunD.bindsN F fun _ _ _ _ _ _ us hl => match us, hl with | [_, _], _ => rfl) fun cdv A outer s H E hr =>
    (js_cons (s_expr (x_call (d_check_name e) (hr.mono (by decide)) (g_check_name e) (len_cons (len_cons len_nil)) (a_cons (x_fld (inj := inj) (c := 4) (f := 8) rfl (c_Desk e) (n_Desk_timetable e) (m_var 0)) (a_cons (m_var 1) a_nil))))
    (js_one (s_ret (x_ix (x_ix (x_fld (inj := inj) (c := 4) (f := 9) rfl (c_Desk e) (n_Desk_past e) (m_var 0)) (x_neg m_int)) (k_bm rfl b_index (pe_bm PySem.F.plainAttrs_list PySem.F.slot_list_index PySem.F.type_list_index (mt_indexD (hu65 hr)) (x_bty (call_list_of.or (call_listD rfl)) c_list (g_list e) (by decide +kernel) (a_cons (x_fld (inj := inj) (c := 1) (f := 4) rfl (c_Timetable e) (n_Timetable_lines e) (x_fld (inj := inj) (c := 4) (f := 8) rfl (c_Desk e) (n_Desk_timetable e) (m_var 0))) a_nil)) (a_cons (m_var 1) a_nil)))))))
theorem f_Desk___len__ (e : E K mg) : ∃ fd, FunD K "__len__" "Desk.__len__" (defArgs st_Desk___len__) (defBody st_Desk___len__) sc_Desk___len__ ((D_Desk___len__).dvs K) ((D_Desk___len__).kws K) (He.ma K (He.ga K "Desk") "__len__") fd := e.c.def_ 24 (d := D_Desk___len__) rfl
theorem d_Desk___len__ (e : E K mg) : Dn P w K mg base (Gk K) (He.ma K (He.ga K "Desk") "__len__") 1 ["self"] 1 m_Desk___len__ := by
  obtain ⟨fd, F⟩ := f_Desk___len__ e
  exact dn_of (N := N_Desk___len__) F ⟨rfl, rfl, rfl, by decide +kernel, rfl, by decide +kernel, by decide +kernel⟩ rfl rfl (FunD.bindsN F fun _ _ _ _ _ _ us hl => match us, hl with | [_], _ => rfl) fun cdv A outer s H E hr =>
    (js_one (s_ret (x_blt call_lenM c_len (g_len e) (by decide +kernel) (a_cons (k_lc (by decide) (pe_lc (own := [("one", 1)]) rfl nd_Desk___len__ (i_tup (x_ix (x_fld (inj := inj) (c := 4) (f := 9) rfl (c_Desk e) (n_Desk_past e) (m_var 0)) (x_neg m_int))) (blkOk_by (N := N_Desk___len__) (sc := sc_Desk___len__) (by decide +kernel)) (fun _ _ _ _ _ => (g_nm nd_Desk___len__ (by first | exact Or.inl rfl | exact Or.inr rfl))) (fun _ _ _ _ _ => (kts_one (t_ne hr (m_var 1) m_int))) (fun _ _ _ _ _ => (m_var 1)))) a_nil))))
theorem f_Desk___bool__ (e : E K mg) : ∃ fd, FunD K "__bool__" "Desk.__bool__" (defArgs st_Desk___bool__) (defBody st_Desk___bool__) sc_Desk___bool__ ((D_Desk___bool__).dvs K) ((D_Desk___bool__).kws K) (He.ma K (He.ga K "Desk") "__bool__") fd := e.c.def_ 25 (d := D_Desk___bool__) rfl
theorem d_Desk___bool__ (e : E K mg) : Dn P w K mg base (Gk K) (He.ma K (He.ga K "Desk") "__bool__") 7 ["self"] 1 m_Desk___bool__ := by
  obtain ⟨fd, F⟩ := f_Desk___bool__ e
  exact dn_of (N := N_Desk___bool__) F ⟨rfl, rfl, rfl, by decide +kernel, rfl, by decide +kernel, by decide +kernel⟩ rfl rfl (FunD.bindsN F fun _ _ _ _ _ _ us hl => match us, hl with | [_], _ => rfl) fun cdv A outer s H E hr =>
    (js_one (s_ret (x_bty call_bool1 c_bool (g_bool e) (by decide +kernel) (a_cons (x_call (d_is_free e) (hr.mono (by decide)) (g_is_free e) (len_cons len_nil) (a_cons (x_call (d_after_shifts e) (hr.mono (by decide)) (g_after_shifts e) (len_cons (len_cons len_nil)) (a_cons (x_fld (inj := inj) (c := 4) (f := 8) rfl (c_Desk e) (n_Desk_timetable e) (m_var 0)) (a_cons (x_ix (x_fld (inj := inj) (c := 4) (f := 9) rfl (c_Desk e) (n_Desk_past e) (m_var 0)) (x_neg m_int)) a_nil))) a_nil)) a_nil))))
theorem f_Desk_table (e : E K mg) : ∃ fd, FunD K "table" "Desk.table" (defArgs st_Desk_table) (defBody st_Desk_table) sc_Desk_table ((D_Desk_table).dvs K) ((D_Desk_table).kws K) (gAd K "Desk" "table") fd := e.getter 0 (d := D_Desk_table) rfl
theorem d_Desk_table (e : E K mg) : Dn P w K mg base (Gk K) (gAd K "Desk" "table") 7 ["self"] 1 m_Desk_table := by
  obtain ⟨fd, F⟩ := f_Desk_table e
  exact dn_of (N := N_Desk_table) F ⟨rfl, rfl, rfl, by decide +kernel, rfl, by decide +kernel, by decide +kernel⟩ rfl rfl (FunD.bindsN F fun _ _ _ _ _ _ us hl => match us, hl with | [_], _ => rfl) fun cdv A outer s H E hr =>
    (js_one (s_ret (x_call (d_after_shifts e) (hr.mono (by decide)) (g_after_shifts e) (len_cons (len_cons len_nil)) (a_cons (x_fld (inj := inj) (c := 4) (f := 8) rfl (c_Desk e) (n_Desk_timetable e) (m_var 0)) (a_cons (x_ix (x_fld (inj := inj) (c := 4) (f := 9) rfl (c_Desk e) (n_Desk_past e) (m_var 0)) (x_neg m_int)) a_nil)))))
theorem f__law_job (e : E K mg) : ∃ fd, FunD K "_law_job" "_law_job" (defArgs st__law_job) (defBody st__law_job) sc__law_job ((D__law_job).dvs K) ((D__law_job).kws K) (He.ga K "_law_job") fd := e.c.def_ 26 (d := D__law_job) rfl
theorem d__law_job (e : E K mg) : Dn P w K mg base (Gk K) (He.ga K "_law_job") 5 ["_law_row"] 1 m__law_job_0 := by
  obtain ⟨fd, F⟩ := f__law_job e
  exact dn_of (N := N__law_job) F ⟨rfl, rfl, rfl, by decide +kernel, rfl, by decide +kernel, by decide +kernel⟩ rfl rfl (FunD.bindsN F fun _ _ _ _ _ _ us hl => match us, hl with | [_], _ => rfl) fun cdv A outer s H E hr =>
    (js_one (s_ret (x_makeN (k_Job e) (kwJob_2_start_cost e) (hr.mono (by decide)) (g_Job e) (len_cons (len_cons len_nil)) (len_cons (len_cons len_nil)) (a_cons (x_ix (m_var 0) m_int) (a_cons (x_ix (m_var 0) m_int) a_nil)) (kk_cons (pk_cons (x_ix (m_var 0) m_int) (kk_cons (pk_cons (x_ix (m_var 0) m_int) kk_nil)))))))
theorem f__law_table (e : E K mg) : ∃ fd, FunD K "_law_table" "_law_table" (defArgs st__law_table) (defBody st__law_table) sc__law_table ((D__law_table).dvs K) ((D__law_table).kws K) (He.ga K "_law_table") fd := e.c.def_ 27 (d := D__law_table) rfl
theorem d__law_table (e : E K mg) : Dn P w K mg base (Gk K) (He.ga K "_law_table") 6 ["_law_drawn_here"] 1 m__law_table_0 := by
  obtain ⟨fd, F⟩ := f__law_table e
  exact dn_of (N := N__law_table) F ⟨rfl, rfl, rfl, by decide +kernel, rfl, by decide +kernel, by decide +kernel⟩ rfl rfl (FunD.bindsN F fun _ _ _ _ _ _ us hl => match us, hl with | [_], _ => rfl) fun cdv A outer s H E hr =>
    (js_cons (s_set nd__law_table (by first | exact Or.inl rfl | exact Or.inr rfl) (k_dnew pe_dnewK))
    (js_cons (s_lock (lk_var 0) (s_for (i_keys (m_var 0)) (g_nm nd__law_table (by first | exact Or.inl rfl | exact Or.inr rfl)) (js_one (s_dput hr (m_var 1) (m_var 2) (x_call (d__law_job e) (hr.mono (by decide)) (g__law_job e) (len_cons len_nil) (a_cons (x_dget hr (m_var 0) (m_var 2)) a_nil)))) PassesOwn.never))
    (js_one (s_ret (x_make (k_Timetable e) (d_Timetable___init__ e) (hr.mono (by decide)) (g_Timetable e) (fun s h v h' q => congrArg (· + 1) ((len_cons len_nil) s h v h' q)) (a_cons (m_var 1) a_nil))))))
theorem f_Timetable_all_parts (e : E K mg) : ∃ fd, FunD K "all_parts" "Timetable.all_parts" (defArgs st_Timetable_all_parts) (defBody st_Timetable_all_parts) sc_Timetable_all_parts ((D_Timetable_all_parts).dvs K) ((D_Timetable_all_parts).kws K) (He.ma K (He.ga K "Timetable") "all_parts") fd := e.c.def_ 28 (d := D_Timetable_all_parts) rfl
theorem d_Timetable_all_parts (e : E K mg) : Dn P w K mg base (Gk K) (He.ma K (He.ga K "Timetable") "all_parts") 1 ["self"] 1 m_Timetable_all_parts := by
  obtain ⟨fd, F⟩ := f_Timetable_all_parts e
  exact dn_of (N := N_Timetable_all_parts) F ⟨rfl, rfl, rfl, by decide +kernel, rfl, by decide +kernel, by decide +kernel⟩ rfl rfl (FunD.bindsN F fun _ _ _ _ _ _ us hl => match us, hl with | [_], _ => rfl) fun cdv A outer s H E hr =>
    (js_one (s_ret (x_listItems (g_list e) (x_fld (inj := inj) (c := 1) (f := 4) rfl (c_Timetable e) (n_Timetable_lines e) (m_var 0)))))
theorem f_Job_all_parts (e : E K mg) : ∃ fd, FunD K "all_parts" "Job.all_parts" (defArgs st_Job_all_parts) (defBody st_Job_all_parts) sc_Job_all_parts ((D_Job_all_parts).dvs K) ((D_Job_all_parts).kws K) (He.ma K (He.ga K "Job") "all_parts") fd := e.c.def_ 29 (d := D_Job_all_parts) rfl
theorem d_Job_all_parts (e : E K mg) : Dn P w K mg base (Gk K) (He.ma K (He.ga K "Job") "all_parts") 1 ["self"] 1 m_Job_all_parts := by
  obtain ⟨fd, F⟩ := f_Job_all_parts e
  exact dn_of (N := N_Job_all_parts) F ⟨rfl, rfl, rfl, by decide +kernel, rfl, by decide +kernel, by decide +kernel⟩ rfl rfl (FunD.bindsN F fun _ _ _ _ _ _ us hl => match us, hl with | [_], _ => rfl) fun cdv A outer s H E hr =>
    (js_one (s_ret (x_lst (a_cons (x_fld (inj := inj) (c := 0) (f := 0) rfl (c_Job e) (n_Job_cycle e) (m_var 0)) (a_cons (x_fld (inj := inj) (c := 0) (f := 1) rfl (c_Job e) (n_Job_length e) (m_var 0)) (a_cons (x_fld (inj := inj) (c := 0) (f := 2) rfl (c_Job e) (n_Job_begin e) (m_var 0)) (a_cons (x_fld (inj := inj) (c := 0) (f := 3) rfl (c_Job e) (n_Job_charge e) (m_var 0)) a_nil)))))))
theorem f_Job___eq__ (e : E K mg) : ∃ fd, FunD K "__eq__" "Job.__eq__" (defArgs st_Job___eq__) (defBody st_Job___eq__) sc_Job___eq__ ((D_Job___eq__).dvs K) ((D_Job___eq__).kws K) (He.ma K (He.ga K "Job") "__eq__") fd := e.c.def_ 30 (d := D_Job___eq__) rfl
theorem d_Job___eq__ (e : E K mg) : Dn P w K mg base (Gk K) (He.ma K (He.ga K "Job") "__eq__") 2 ["self", "other"] 2 m_Job___eq__ := by
  obtain ⟨fd, F⟩ := f_Job___eq__ e
  exact dn_of (N := N_Job___eq__) F ⟨rfl, rfl, rfl, by decide +kernel, rfl, by decide +kernel, by decide +kernel⟩ rfl rfl (FunD.bindsN F fun _ _ _ _ _ _ us hl => match us, hl with | [_, _], _ => rfl) fun cdv A outer s H E hr =>
    (js_one (s_ret (x_and (x_isi rfl (y_Job e) (.own _) (g_isinstance e) (m_var 1) (x_cls (g_Job e))) (pe_one (x_eq hr (x_meth0 (c := 0) (d_Job_all_parts e) (hr.mono (by decide)) (c_Job e) (me_Job_all_parts e) nf_all_parts rfl (m_var 0)) (x_meth0 (c := 0) (d_Job_all_parts e) (hr.mono (by decide)) (c_Job e) (me_Job_all_parts e) nf_all_parts rfl (m_var 1)))))))
theorem f_Timetable___eq__ (e : E K mg) : ∃ fd, FunD K "__eq__" "Timetable.__eq__" (defArgs st_Timetable___eq__) (defBody st_Timetable___eq__) sc_Timetable___eq__ ((D_Timetable___eq__).dvs K) ((D_Timetable___eq__).kws K) (He.ma K (He.ga K "Timetable") "__eq__") fd := e.c.def_ 31 (d := D_Timetable___eq__) rfl
theorem d_Timetable___eq__ (e : E K mg) : Dn P w K mg base (Gk K) (He.ma K (He.ga K "Timetable") "__eq__") 5 ["self", "other"] 2 m_Timetable___eq__ := by
  obtain ⟨fd, F⟩ := f_Timetable___eq__ e
  exact dn_of (N := N_Timetable___eq__) F ⟨rfl, rfl, rfl, by decide +kernel, rfl, by decide +kernel, by decide +kernel⟩ rfl rfl (FunD.bindsN F fun _ _ _ _ _ _ us hl => match us, hl with | [_, _], _ => rfl) fun cdv A outer s H E hr =>
    (js_one (s_ret (x_and (x_isi rfl (y_Timetable e) (.own _) (g_isinstance e) (m_var 1) (x_cls (g_Timetable e))) (pe_one (x_deq (c := 0) (d_Job___eq__ e) (me_Job___eq__ e) (hr.mono (by decide)) (x_meth0 (c := 1) (d_Timetable_all_parts e) (hr.mono (by decide)) (c_Timetable e) (me_Timetable_all_parts e) nf_all_parts rfl (m_var 0)) (x_meth0 (c := 1) (d_Timetable_all_parts e) (hr.mono (by decide)) (c_Timetable e) (me_Timetable_all_parts e) nf_all_parts rfl (m_var 1)))))))
theorem f_cost_of (e : E K mg) : ∃ fd, FunD K "cost_of" "cost_of" (defArgs st_cost_of) (defBody st_cost_of) sc_cost_of ((D_cost_of).dvs K) ((D_cost_of).kws K) (He.ga K "cost_of") fd := e.c.def_ 32 (d := D_cost_of) rfl
theorem d_cost_of (e : E K mg) : Dn P w K mg base (Gk K) (He.ga K "cost_of") 1 ["timetable", "shifts"] 2 m_cost_of := by
  obtain ⟨fd, F⟩ := f_cost_of e
  exact dn_of (N := N_cost_of) F ⟨rfl, rfl, rfl, by decide +kernel, rfl, by decide +kernel, by decide +kernel⟩ rfl rfl (FunD.bindsN F fun _ _ _ _ _ _ us hl => match us, hl with | [_, _], _ => rfl) fun cdv A outer s H E hr =>
    (js_one (s_ret (x_blt (cr_sum rfl) c_sum (g_sum e) (by decide +kernel) (a_cons (ke_lock (k_lc (by decide) (pe_lc (own := [("one", 2), ("job", 3)]) rfl nd_cost_of (i_zipG (g_zip e) (by decide) (by decide) (pe_src0 (m_var 1)) (pe_srcV (x_fld (inj := inj) (c := 1) (f := 4) rfl (c_Timetable e) (n_Timetable_lines e) (m_var 0)))) (blkOk_by (N := N_cost_of) (sc := sc_cost_of) (by decide +kernel)) (fun _ _ _ _ _ => (g_tup rfl (gs_cons (g_nm nd_cost_of (by first | exact Or.inl rfl | exact Or.inr rfl)) (gs_cons (g_nm nd_cost_of (by first | exact Or.inl rfl | exact Or.inr rfl)) gs_nil)))) (fun _ _ _ _ _ => kts_nil) (fun _ _ _ _ _ => (x_mul (m_var 2) (x_fld (inj := inj) (c := 0) (f := 3) rfl (c_Job e) (n_Job_charge e) (m_var 3))))))) a_nil))))
theorem f_Desk_spent (e : E K mg) : ∃ fd, FunD K "spent" "Desk.spent" (defArgs st_Desk_spent) (defBody st_Desk_spent) sc_Desk_spent ((D_Desk_spent).dvs K) ((D_Desk_spent).kws K) (gAd K "Desk" "spent") fd := e.getter 1 (d := D_Desk_spent) rfl
theorem d_Desk_spent (e : E K mg) : Dn P w K mg base (Gk K) (gAd K "Desk" "spent") 2 ["self"] 1 m_Desk_spent := by
  obtain ⟨fd, F⟩ := f_Desk_spent e
  exact dn_of (N := N_Desk_spent) F ⟨rfl, rfl, rfl, by decide +kernel, rfl, by decide +kernel, by decide +kernel⟩ rfl rfl (FunD.bindsN F fun _ _ _ _ _ _ us hl => match us, hl with | [_], _ => rfl) fun cdv A outer s H E hr =>
    (js_one (s_ret (x_call (d_cost_of e) (hr.mono (by decide)) (g_cost_of e) (len_cons (len_cons len_nil)) (a_cons (x_fld (inj := inj) (c := 4) (f := 8) rfl (c_Desk e) (n_Desk_timetable e) (m_var 0)) (a_cons (x_ix (x_fld (inj := inj) (c := 4) (f := 9) rfl (c_Desk e) (n_Desk_past e) (m_var 0)) (x_neg m_int)) a_nil)))))
theorem f__law_price (e : E K mg) : ∃ fd, FunD K "_law_price" "_law_price" (defArgs st__law_price) (defBody st__law_price) sc__law_price ((D__law_price).dvs K) ((D__law_price).kws K) (He.ga K "_law_price") fd := e.c.def_ 33 (d := D__law_price) rfl
theorem d__law_price (e : E K mg) : Dn P w K mg base (Gk K) (He.ga K "_law_price") 1 ["_law_drawn_here", "_law_shifts"] 2 m__law_price_2 := by
  obtain ⟨fd, F⟩ := f__law_price e
  exact dn_of (N := N__law_price) F ⟨rfl, rfl, rfl, by decide +kernel, rfl, by decide +kernel, by decide +kernel⟩ rfl rfl (FunD.bindsN F fun _ _ _ _ _ _ us hl => match us, hl with | [_, _], _ => rfl) fun cdv A outer s H E hr =>
    (js_one (s_ret (x_blt (cr_sum rfl) c_sum (g_sum e) (by decide +kernel) (a_cons (ke_lock (k_lc (by decide) (pe_lc (own := [("_law_name", 2), ("_law_shift", 3)]) rfl nd__law_price (i_zipG (g_zip e) (by decide) (by decide) (pe_src1 (m_var 0)) (pe_src0 (m_var 1))) (blkOk_by (N := N__law_price) (sc := sc__law_price) (by decide +kernel)) (fun _ _ _ _ _ => (g_tup rfl (gs_cons (g_nm nd__law_price (by first | exact Or.inl rfl | exact Or.inr rfl)) (gs_cons (g_nm nd__law_price (by first | exact Or.inl rfl | exact Or.inr rfl)) gs_nil)))) (fun _ _ _ _ _ => kts_nil) (fun _ _ _ _ _ => (x_mul (m_var 3) (x_ix (x_dget hr (m_var 0) (m_var 2)) m_int)))))) a_nil))))
theorem f_Desk_now (e : E K mg) : ∃ fd, FunD K "now" "Desk.now" (defArgs st_Desk_now) (defBody st_Desk_now) sc_Desk_now ((D_Desk_now).dvs K) ((D_Desk_now).kws K) (gAd K "Desk" "now") fd := e.getter 2 (d := D_Desk_now) rfl
theorem d_Desk_now (e : E K mg) : Dn P w K mg base (Gk K) (gAd K "Desk" "now") 1 ["self"] 1 m_Desk_now := by
  obtain ⟨fd, F⟩ := f_Desk_now e
  exact dn_of (N := N_Desk_now) F ⟨rfl, rfl, rfl, by decide +kernel, rfl, by decide +kernel, by decide +kernel⟩ rfl rfl (FunD.bindsN F fun _ _ _ _ _ _ us hl => match us, hl with | [_], _ => rfl) fun cdv A outer s H E hr =>
    (js_one (s_ret (x_ix (x_fld (inj := inj) (c := 4) (f := 9) rfl (c_Desk e) (n_Desk_past e) (m_var 0)) (x_neg m_int))))
theorem f__law_stands (e : E K mg) : ∃ fd, FunD K "_law_stands" "_law_stands" (defArgs st__law_stands) (defBody st__law_stands) sc__law_stands ((D__law_stands).dvs K) ((D__law_stands).kws K) (He.ga K "_law_stands") fd := e.c.def_ 34 (d := D__law_stands) rfl
theorem d__law_stands (e : E K mg) : Dn P w K mg base (Gk K) (He.ga K "_law_stands") 11 ["_law_drawn_here", "_law_desk", "_law_shifts"] 3 m__law_stands_0 := by
  obtain ⟨fd, F⟩ := f__law_stands e
  exact dn_of (N := N__law_stands) F ⟨rfl, rfl, rfl, by decide +kernel, rfl, by decide +kernel, by decide +kernel⟩ rfl rfl (FunD.bindsN F fun _ _ _ _ _ _ us hl => match us, hl with | [_, _, _], _ => rfl) fun cdv A outer s H E hr =>
    (js_cons (s_if (t_ne hr (x_prop (c := 4) (d_Desk_now e) (c_Desk e) (pp_Desk_now e) (hr.mono (by decide)) (m_var 1)) (m_var 2)) (js_one (s_ret m_bl)) js_nil)
    (js_cons (s_if (t_ne hr (x_prop (c := 4) (d_Desk_spent e) (c_Desk e) (pp_Desk_spent e) (hr.mono (by decide)) (m_var 1)) (x_call (d__law_price e) (hr.mono (by decide)) (g__law_price e) (len_cons (len_cons len_nil)) (a_cons (m_var 0) (a_cons (m_var 2) a_nil)))) (js_one (s_ret m_bl)) js_nil)
    (js_cons (s_if (t_not (t_oeq (c := 1) (d_Timetable___eq__ e) (me_Timetable___eq__ e) (hr.mono (by decide)) (x_prop (c := 4) (d_Desk_table e) (c_Desk e) (pp_Desk_table e) (hr.mono (by decide)) (m_var 1)) (x_call (d__law_table e) (hr.mono (by decide)) (g__law_table e) (len_cons len_nil) (a_cons (x_call (d__law_after e) (hr.mono (by decide)) (g__law_after e) (len_cons (len_cons len_nil)) (a_cons (m_var 0) (a_cons (m_var 2) a_nil))) a_nil)))) (js_one (s_ret m_bl)) js_nil)
    (js_cons (s_if (t_ne hr (x_obool (c := 4) rfl (d_Desk___bool__ e) (me_Desk___bool__ e) (hr.mono (by decide)) (g_bool e) (a_cons (m_var 1) a_nil)) (x_call (d__law_free e) (hr.mono (by decide)) (g__law_free e) (len_cons (len_cons len_nil)) (a_cons (m_var 0) (a_cons (m_var 2) a_nil)))) (js_one (s_ret m_bl)) js_nil)
    (js_cons (s_if (t_ne hr (x_olen (c := 4) rfl (d_Desk___len__ e) (me_Desk___len__ e) (hr.mono (by decide)) (g_len e) (a_cons (m_var 1) a_nil)) (x_blt call_lenM c_len (g_len e) (by decide +kernel) (a_cons (k_lc (by decide) (pe_lc (own := [("_law_shift", 5)]) rfl nd__law_stands (i_tup (m_var 2)) (blkOk_by (N := N__law_stands) (sc := sc__law_stands) (by decide +kernel)) (fun _ _ _ _ _ => (g_nm nd__law_stands (by first | exact Or.inl rfl | exact Or.inr rfl))) (fun _ _ _ _ _ => (kts_one (t_gt (m_var 5) m_int))) (fun _ _ _ _ _ => (m_var 5)))) a_nil))) (js_one (s_ret m_bl)) js_nil)
    (js_cons (s_set nd__law_stands (by first | exact Or.inl rfl | exact Or.inr rfl) (x_lst a_nil))
    (js_cons (s_lock (lk_var 0) (s_for (i_zipG (g_zip e) (by decide) (by decide) (pe_src1 (m_var 0)) (pe_src0 (m_var 2))) (g_tup rfl (gs_cons (g_nm nd__law_stands (by first | exact Or.inl rfl | exact Or.inr rfl)) (gs_cons (g_nm nd__law_stands (by first | exact Or.inl rfl | exact Or.inr rfl)) gs_nil))) (js_cons (s_if (PW.pt (w_or (t_ne hr (x_oix (c := 4) (d_Desk___getitem__ e) (me_Desk___getitem__ e) (fg_Desk e) (hr.mono (by decide)) (m_var 1) (m_var 4)) (m_var 5)) (pw_or1 (t_ne hr (x_oin (c := 4) (d_Desk___contains__ e) (me_Desk___contains__ e) (hr.mono (by decide)) (m_var 4) (m_var 1)) (x_gt (m_var 5) m_int))))) (js_one (s_ret m_bl)) js_nil)
    (js_one (s_for (i_rng2 (g_range e) m_int (x_ix (x_dget hr (m_var 0) (m_var 4)) m_int)) (g_nm nd__law_stands (by first | exact Or.inl rfl | exact Or.inr rfl)) (js_one (s_if (t_val (x_call (d__law_free e) (hr.mono (by decide)) (g__law_free e) (len_cons (len_cons len_nil)) (a_cons (m_var 0) (a_cons (x_call (d__law_with e) (hr.mono (by decide)) (g__law_with e) (len_cons (len_cons (len_cons (len_cons len_nil)))) (a_cons (m_var 0) (a_cons (m_var 2) (a_cons (m_var 4) (a_cons (m_var 6) a_nil))))) a_nil)))) (js_one (s_expr (k_bm rfl b_append (pe_bm PySem.F.plainAttrs_list PySem.F.slot_list_append PySem.F.type_list_append mt_append (m_var 3) (a_cons (x_tup (a_cons (m_var 4) (a_cons (m_var 6) a_nil))) a_nil))))) js_nil)) PassesOwn.never))) PassesOwn.never))
    (js_one (s_ret (x_eq hr (x_genM (c := 4) (d_Desk_cures e) rfl (hr.mono (by decide)) (c_Desk e) (me_Desk_cures e) nf_cures (g_list e) (m_var 1)) (m_var 3)))))))))))
theorem f__law_draw (e : E K mg) : ∃ fd, FunD K "_law_draw" "_law_draw" (defArgs st__law_draw) (defBody st__law_draw) sc__law_draw ((D__law_draw).dvs K) ((D__law_draw).kws K) (He.ga K "_law_draw") fd := e.c.def_ 35 (d := D__law_draw) rfl
theorem d__law_draw (e : E K mg) : Dn P w K mg base (Gk K) (He.ga K "_law_draw") 1 ["_law_cell", "_law_k", "_law_below"] 3 m__law_draw_0 := by
  obtain ⟨fd, F⟩ := f__law_draw e
  exact dn_of (N := N__law_draw) F ⟨rfl, rfl, rfl, by decide +kernel, rfl, by decide +kernel, by decide +kernel⟩ rfl rfl (FunD.bindsN F fun _ _ _ _ _ _ us hl => match us, hl with | [_, _, _], _ => rfl) fun cdv A outer s H E hr =>
    (js_cons (s_set nd__law_draw (by first | exact Or.inl rfl | exact Or.inr rfl) (x_tup (a_cons m_int (a_cons m_int (a_cons m_int (a_cons m_int (a_cons m_int (a_cons m_int (a_cons m_int (a_cons m_int (a_cons m_int (a_cons m_int (a_cons m_int (a_cons m_int (a_cons m_int (a_cons m_int (a_cons m_int (a_cons m_int a_nil))))))))))))))))))
    (js_one (s_ret (x_mod (x_mod (x_add (x_mul (m_var 0) m_int) (x_mul (m_var 1) m_int)) (x_ix (m_var 3) (x_mod (m_var 1) m_int))) (m_var 2)))))
theorem f__law_number (e : E K mg) : ∃ fd, FunD K "_law_number" "_law_number" (defArgs st__law_number) (defBody st__law_number) sc__law_number ((D__law_number).dvs K) ((D__law_number).kws K) (He.ga K "_law_number") fd := e.c.def_ 36 (d := D__law_number) rfl
theorem d__law_number (e : E K mg) : Dn P w K mg base (Gk K) (He.ga K "_law_number") 2 ["_law_cell", "_law_k", "_law_below"] 3 m__law_number_0 := by
  obtain ⟨fd, F⟩ := f__law_number e
  exact dn_of (N := N__law_number) F ⟨rfl, rfl, rfl, by decide +kernel, rfl, by decide +kernel, by decide +kernel⟩ rfl rfl (FunD.bindsN F fun _ _ _ _ _ _ us hl => match us, hl with | [_, _, _], _ => rfl) fun cdv A outer s H E hr =>
    (js_cons (s_set nd__law_number (by first | exact Or.inl rfl | exact Or.inr rfl) m_int)
    (js_cons (s_for (i_rng1 (g_range e) (x_mod (m_var 1) m_int)) (g_nm nd__law_number (by first | exact Or.inl rfl | exact Or.inr rfl)) (js_one (s_set nd__law_number (by first | exact Or.inl rfl | exact Or.inr rfl) (x_mul (m_var 3) m_int))) PassesOwn.never)
    (js_cons (s_set nd__law_number (by first | exact Or.inl rfl | exact Or.inr rfl) (x_div (x_sub (m_var 0) (x_pow m_int m_int)) (m_var 3)))
    (js_cons (s_if (t_gt (m_var 5) m_int) (js_one (s_ret (x_mod (x_mod (m_var 5) m_int) (m_var 2)))) js_nil)
    (js_cons (s_set nd__law_number (by first | exact Or.inl rfl | exact Or.inr rfl) (x_mod (m_var 0) m_int))
    (js_one (s_ret (x_mod (x_call (d__law_draw e) (hr.mono (by decide)) (g__law_draw e) (len_cons (len_cons (len_cons len_nil))) (a_cons (x_mul (x_add (m_var 6) (x_mul m_int (m_var 1))) (x_add (x_add (m_var 6) (x_mul m_int (m_var 1))) m_int)) (a_cons (x_add (x_mod (m_var 1) m_int) m_int) (a_cons m_int a_nil)))) (m_var 2)))))))))
theorem f__law_cell_at (e : E K mg) : ∃ fd, FunD K "_law_cell_at" "_law_cell_at" (defArgs st__law_cell_at) (defBody st__law_cell_at) sc__law_cell_at ((D__law_cell_at).dvs K) ((D__law_cell_at).kws K) (He.ga K "_law_cell_at") fd := e.c.def_ 37 (d := D__law_cell_at) rfl
theorem d__law_cell_at (e : E K mg) : Dn P w K mg base (Gk K) (He.ga K "_law_cell_at") 1 ["_law_script", "_law_k"] 2 m__law_cell_at_0 := by
  obtain ⟨fd, F⟩ := f__law_cell_at e
  exact dn_of (N := N__law_cell_at) F ⟨rfl, rfl, rfl, by decide +kernel, rfl, by decide +kernel, by decide +kernel⟩ rfl rfl (FunD.bindsN F fun _ _ _ _ _ _ us hl => match us, hl with | [_, _], _ => rfl) fun cdv A outer s H E hr =>
    (js_cons (s_if (t_lt (m_var 1) (x_blt call_lenM c_len (g_len e) (by decide +kernel) (a_cons (m_var 0) a_nil))) (js_one (s_ret (x_ix (m_var 0) (m_var 1)))) js_nil)
    (js_one (s_ret m_int)))
theorem f__law_next (e : E K mg) : ∃ fd, FunD K "_law_next" "_law_next" (defArgs st__law_next) (defBody st__law_next) sc__law_next ((D__law_next).dvs K) ((D__law_next).kws K) (He.ga K "_law_next") fd := e.c.def_ 38 (d := D__law_next) rfl
theorem d__law_next (e : E K mg) : Dn P w K mg base (Gk K) (He.ga K "_law_next") 3 ["_law_state", "_law_below"] 2 m__law_next_0 := by
  obtain ⟨fd, F⟩ := f__law_next e
  exact dn_of (N := N__law_next) F ⟨rfl, rfl, rfl, by decide +kernel, rfl, by decide +kernel, by decide +kernel⟩ rfl rfl (FunD.bindsN F fun _ _ _ _ _ _ us hl => match us, hl with | [_, _], _ => rfl) fun cdv A outer s H E hr =>
    (js_cons (s_setL (m_var 0) m_int (x_add (x_ix (m_var 0) m_int) m_int))
    (js_cons (s_set nd__law_next (by first | exact Or.inl rfl | exact Or.inr rfl) (x_div (x_ix (m_var 0) m_int) m_int))
    (js_cons (s_set nd__law_next (by first | exact Or.inl rfl | exact Or.inr rfl) (x_add (x_call (d__law_cell_at e) (hr.mono (by decide)) (g__law_cell_at e) (len_cons (len_cons len_nil)) (a_cons (x_ix (m_var 0) m_int) (a_cons (x_add (x_ix (m_var 0) m_int) (m_var 2)) a_nil))) (x_mul m_int (m_var 2))))
    (js_one (s_ret (x_call (d__law_number e) (hr.mono (by decide)) (g__law_number e) (len_cons (len_cons (len_cons len_nil))) (a_cons (m_var 3) (a_cons (x_add (x_mod (x_ix (m_var 0) m_int) m_int) m_int) (a_cons (m_var 1) a_nil)))))))))
theorem f_Desk_undo (e : E K mg) : ∃ fd, FunD K "undo" "Desk.undo" (defArgs st_Desk_undo) (defBody st_Desk_undo) sc_Desk_undo ((D_Desk_undo).dvs K) ((D_Desk_undo).kws K) (He.ma K (He.ga K "Desk") "undo") fd := e.c.def_ 39 (d := D_Desk_undo) rfl
theorem d_Desk_undo (e : E K mg) : Dn P w K mg base (Gk K) (He.ma K (He.ga K "Desk") "undo") 1 ["self"] 1 m_Desk_undo := by
  obtain ⟨fd, F⟩ := f_Desk_undo e
  exact dn_of (N := N_Desk_undo) F ⟨rfl, rfl, rfl, by decide +kernel, rfl, by decide +kernel, by decide +kernel⟩ rfl rfl (FunD.bindsN F fun _ _ _ _ _ _ us hl => match us, hl with | [_], _ => rfl) fun cdv A outer s H E hr =>
    (js_cons (s_if (t_eq hr (x_fld (inj := inj) (c := 4) (f := 10) rfl (c_Desk e) (n_Desk_rows e) (m_var 0)) (x_lst a_nil)) (js_one js_bad) js_nil)
    (js_cons (s_expr (k_bm0 rfl b_pop0 (pe_bm0 PySem.F.plainAttrs_list PySem.F.slot_list_pop PySem.F.type_list_pop mt_pop (x_fld (inj := inj) (c := 4) (f := 9) rfl (c_Desk e) (n_Desk_past e) (m_var 0)))))
    (js_one (s_ret (k_bm0 rfl b_pop0 (pe_bm0 PySem.F.plainAttrs_list PySem.F.slot_list_pop PySem.F.type_list_pop mt_pop (x_fld (inj := inj) (c := 4) (f := 10) rfl (c_Desk e) (n_Desk_rows e) (m_var 0))))))))
theorem f_Desk_move (e : E K mg) : ∃ fd, FunD K "move" "Desk.move" (defArgs st_Desk_move) (defBody st_Desk_move) sc_Desk_move ((D_Desk_move).dvs K) ((D_Desk_move).kws K) (He.ma K (He.ga K "Desk") "move") fd := e.c.def_ 40 (d := D_Desk_move) rfl
theorem d_Desk_move (e : E K mg) : Dn P w K mg base (Gk K) (He.ma K (He.ga K "Desk") "move") 7 ["self", "name", "number"] 3 m_Desk_move := by
  obtain ⟨fd, F⟩ := f_Desk_move e
  exact dn_of (N := N_Desk_move) F ⟨rfl, rfl, rfl, by decide +kernel, rfl, by decide +kernel, by decide +kernel⟩ rfl rfl (FunD.bindsN F fun _ _ _ _ _ _ us hl => match us, hl with | [_, _, _], _ => rfl) fun cdv A outer s H E hr =>
    (js_cons (s_expr (x_call (d_check_name e) (hr.mono (by decide)) (g_check_name e) (len_cons (len_cons len_nil)) (a_cons (x_fld (inj := inj) (c := 4) (f := 8) rfl (c_Desk e) (n_Desk_timetable e) (m_var 0)) (a_cons (m_var 1) a_nil))))
    (js_cons (s_if (t_not (t_val (x_call (d_is_integer e) (hr.mono (by decide)) (g_is_integer e) (len_cons (len_cons (len_cons len_nil))) (a_cons (m_var 2) (a_cons m_int (a_cons (x_sub (x_fld (inj := inj) (c := 0) (f := 0) rfl (c_Job e) (n_Job_cycle e) (x_dget hr (x_fld (inj := inj) (c := 1) (f := 4) rfl (c_Timetable e) (n_Timetable_lines e) (x_fld (inj := inj) (c := 4) (f := 8) rfl (c_Desk e) (n_Desk_timetable e) (m_var 0))) (m_var 1))) m_int) a_nil)))))) (js_one js_bad) js_nil)
    (js_cons (s_expr (k_bm rfl b_append (pe_bm PySem.F.plainAttrs_list PySem.F.slot_list_append PySem.F.type_list_append mt_append (x_fld (inj := inj) (c := 4) (f := 9) rfl (c_Desk e) (n_Desk_past e) (m_var 0)) (a_cons (x_meth (c := 4) (d_Desk_shifted_by e) (hr.mono (by decide)) (c_Desk e) (me_Desk_shifted_by e) nf_shifted_by (fun s h v h' q => congrArg (· + 1) ((len_cons (len_cons len_nil)) s h v h' q)) (m_var 0) (a_cons (m_var 1) (a_cons (m_var 2) a_nil))) a_nil))))
    (js_cons (s_expr (k_bm rfl b_append (pe_bm PySem.F.plainAttrs_list PySem.F.slot_list_append PySem.F.type_list_append mt_append (x_fld (inj := inj) (c := 4) (f := 10) rfl (c_Desk e) (n_Desk_rows e) (m_var 0)) (a_cons (m_var 1) a_nil))))
    (js_one (s_ret (x_call (d_is_free e) (hr.mono (by decide)) (g_is_free e) (len_cons len_nil) (a_cons (x_call (d_after_shifts e) (hr.mono (by decide)) (g_after_shifts e) (len_cons (len_cons len_nil)) (a_cons (x_fld (inj := inj) (c := 4) (f := 8) rfl (c_Desk e) (n_Desk_timetable e) (m_var 0)) (a_cons (x_ix (x_fld (inj := inj) (c := 4) (f := 9) rfl (c_Desk e) (n_Desk_past e) (m_var 0)) (x_neg m_int)) a_nil))) a_nil))))))))
theorem f__law_pick (e : E K mg) : ∃ fd, FunD K "_law_pick" "_law_pick" (defArgs st__law_pick) (defBody st__law_pick) sc__law_pick ((D__law_pick).dvs K) ((D__law_pick).kws K) (He.ga K "_law_pick") fd := e.c.def_ 41 (d := D__law_pick) rfl
theorem d__law_pick (e : E K mg) : Dn P w K mg base (Gk K) (He.ga K "_law_pick") 4 ["_law_state", "_law_things"] 2 m__law_pick_0 := by
  obtain ⟨fd, F⟩ := f__law_pick e
  exact dn_of (N := N__law_pick) F ⟨rfl, rfl, rfl, by decide +kernel, rfl, by decide +kernel, by decide +kernel⟩ rfl rfl (FunD.bindsN F fun _ _ _ _ _ _ us hl => match us, hl with | [_, _], _ => rfl) fun cdv A outer s H E hr =>
    (js_one (s_ret (x_ix (m_var 1) (x_call (d__law_next e) (hr.mono (by decide)) (g__law_next e) (len_cons (len_cons len_nil)) (a_cons (m_var 0) (a_cons (x_blt call_lenM c_len (g_len e) (by decide +kernel) (a_cons (m_var 1) a_nil)) a_nil))))))
theorem f_check_timetable (e : E K mg) : ∃ fd, FunD K "check_timetable" "check_timetable" (defArgs st_check_timetable) (defBody st_check_timetable) sc_check_timetable ((D_check_timetable).dvs K) ((D_check_timetable).kws K) (He.ga K "check_timetable") fd := e.c.def_ 42 (d := D_check_timetable) rfl
theorem d_check_timetable (e : E K mg) : Dn P w K mg base (Gk K) (He.ga K "check_timetable") 1 ["timetable"] 1 m_check_timetable := by
  obtain ⟨fd, F⟩ := f_check_timetable e
  exact dn_of (N := N_check_timetable) F ⟨rfl, rfl, rfl, by decide +kernel, rfl, by decide +kernel, by decide +kernel⟩ rfl rfl (FunD.bindsN F fun _ _ _ _ _ _ us hl => match us, hl with | [_], _ => rfl) fun cdv A outer s H E hr =>
    (js_one (s_if (t_not (t_val (x_isi rfl (y_Timetable e) (.own _) (g_isinstance e) (m_var 0) (x_cls (g_Timetable e))))) (js_one js_bad) js_nil))
theorem f_Desk___init__ (e : E K mg) : ∃ fd, FunD K "__init__" "Desk.__init__" (defArgs st_Desk___init__) (defBody st_Desk___init__) sc_Desk___init__ ((D_Desk___init__).dvs K) ((D_Desk___init__).kws K) (He.ma K (He.ga K "Desk") "__init__") fd := e.c.def_ 43 (d := D_Desk___init__) rfl
theorem d_Desk___init__ (e : E K mg) : Dn P w K mg base (Gk K) (He.ma K (He.ga K "Desk") "__init__") 2 ["self", "timetable"] 2 m_Desk___init__ := by
  obtain ⟨fd, F⟩ := f_Desk___init__ e
  exact dn_of (N := N_Desk___init__) F ⟨rfl, rfl, rfl, by decide +kernel, rfl, by decide +kernel, by decide +kernel⟩ rfl rfl (FunD.bindsN F fun _ _ _ _ _ _ us hl => match us, hl with | [_, _], _ => rfl) fun cdv A outer s H E hr =>
    (js_cons (s_expr (x_call (d_check_timetable e) (hr.mono (by decide)) (g_check_timetable e) (len_cons len_nil) (a_cons (m_var 1) a_nil)))
    (js_cons (s_fld (inj := inj) (c := 4) (f := 8) rfl (c_Desk e) (n_Desk_timetable e) (m_var 0) (m_var 1))
    (js_cons (s_fld (inj := inj) (c := 4) (f := 9) rfl (c_Desk e) (n_Desk_past e) (m_var 0) (x_lst (a_cons (x_rep (x_tup (a_cons m_int a_nil)) (x_blt call_lenM c_len (g_len e) (by decide +kernel) (a_cons (x_fld (inj := inj) (c := 1) (f := 4) rfl (c_Timetable e) (n_Timetable_lines e) (m_var 1)) a_nil))) a_nil)))
    (js_one (s_fld (inj := inj) (c := 4) (f := 10) rfl (c_Desk e) (n_Desk_rows e) (m_var 0) (x_lst a_nil))))))
theorem f__law_drawn (e : E K mg) : ∃ fd, FunD K "_law_drawn" "_law_drawn" (defArgs st__law_drawn) (defBody st__law_drawn) sc__law_drawn ((D__law_drawn).dvs K) ((D__law_drawn).kws K) (He.ga K "_law_drawn") fd := e.c.def_ 44 (d := D__law_drawn) rfl
theorem d__law_drawn (e : E K mg) : Dn P w K mg base (Gk K) (He.ga K "_law_drawn") 5 ["_law_state", "_law_most"] 2 m__law_drawn_0 := by
  obtain ⟨fd, F⟩ := f__law_drawn e
  exact dn_of (N := N__law_drawn) F ⟨rfl, rfl, rfl, by decide +kernel, rfl, by decide +kernel, by decide +kernel⟩ rfl rfl (FunD.bindsN F fun _ _ _ _ _ _ us hl => match us, hl with | [_, _], _ => rfl) fun cdv A outer s H E hr =>
    (js_cons (s_par nd__law_drawn (by decide) (k_dnew pe_dnewK) m_int)
    (js_cons (s_for (i_seq (x_sl (x_lst (a_cons (m_str [109, 97, 105, 108]) (a_cons (m_str [98]) (a_cons (m_str [108, 111, 103]) (a_cons (m_str [97]) a_nil))))) o_none (o_some (x_add m_int (x_call (d__law_next e) (hr.mono (by decide)) (g__law_next e) (len_cons (len_cons len_nil)) (a_cons (m_var 0) (a_cons m_int a_nil))))))) (g_nm nd__law_drawn (by first | exact Or.inl rfl | exact Or.inr rfl)) (js_cons (s_set nd__law_drawn (by first | exact Or.inl rfl | exact Or.inr rfl) (x_call (d__law_pick e) (hr.mono (by decide)) (g__law_pick e) (len_cons (len_cons len_nil)) (a_cons (m_var 0) (a_cons (x_lst (a_cons m_int (a_cons m_int (a_cons m_int (a_cons m_int (a_cons m_int (a_cons m_int (a_cons m_int (a_cons (x_add m_int (x_call (d__law_next e) (hr.mono (by decide)) (g__law_next e) (len_cons (len_cons len_nil)) (a_cons (m_var 0) (a_cons m_int a_nil)))) (a_cons m_int (a_cons m_int a_nil))))))))))) a_nil))))
    (js_cons (s_while 1000 (t_gt (x_mul (m_var 3) (m_var 5)) (m_var 1)) (js_cons (s_set nd__law_drawn (by first | exact Or.inl rfl | exact Or.inr rfl) (x_if (t_gt (m_var 5) m_int) (x_add m_int (x_div (m_var 5) m_int)) m_int))
    (js_one (s_if (t_gt (x_mul (m_var 3) (m_var 5)) (m_var 1)) (js_one (s_set nd__law_drawn (by first | exact Or.inl rfl | exact Or.inr rfl) m_int)) js_nil))) PassesOwn.never)
    (js_cons (s_set nd__law_drawn (by first | exact Or.inl rfl | exact Or.inr rfl) (x_mul (m_var 3) (m_var 5)))
    (js_cons (s_set nd__law_drawn (by first | exact Or.inl rfl | exact Or.inr rfl) (x_add m_int (x_if (t_eq hr (x_call (d__law_next e) (hr.mono (by decide)) (g__law_next e) (len_cons (len_cons len_nil)) (a_cons (m_var 0) (a_cons m_int a_nil))) m_int) (x_call (d__law_next e) (hr.mono (by decide)) (g__law_next e) (len_cons (len_cons len_nil)) (a_cons (m_var 0) (a_cons (m_var 5) a_nil))) m_int)))
    (js_one (s_dput hr (m_var 2) (m_var 4) (x_tup (a_cons (m_var 5) (a_cons (m_var 6) (a_cons (x_call (d__law_next e) (hr.mono (by decide)) (g__law_next e) (len_cons (len_cons len_nil)) (a_cons (m_var 0) (a_cons (m_var 5) a_nil))) (a_cons (x_add m_int (x_call (d__law_next e) (hr.mono (by decide)) (g__law_next e) (len_cons (len_cons len_nil)) (a_cons (m_var 0) (a_cons m_int a_nil)))) a_nil))))))))))) PassesOwn.never)
    (js_one (s_ret (m_var 2)))))
theorem f__law_one_right (e : E K mg) : ∃ fd, FunD K "_law_one_right" "_law_one_right" (defArgs st__law_one_right) (defBody st__law_one_right) sc__law_one_right ((D__law_one_right).dvs K) ((D__law_one_right).kws K) (He.ga K "_law_one_right") fd := e.c.def_ 45 (d := D__law_one_right) rfl
theorem d__law_one_right (e : E K mg) : Dn P w K mg base (Gk K) (He.ga K "_law_one_right") 12 ["_law_state"] 1 m__law_one_right_1 := by
  obtain ⟨fd, F⟩ := f__law_one_right e
  exact dn_of (N := N__law_one_right) F ⟨rfl, rfl, rfl, by decide +kernel, rfl, by decide +kernel, by decide +kernel⟩ rfl rfl (FunD.bindsN F fun _ _ _ _ _ _ us hl => match us, hl with | [_], _ => rfl) fun cdv A outer s H E hr =>
    (js_cons (s_set nd__law_one_right (by first | exact Or.inl rfl | exact Or.inr rfl) (x_call (d__law_drawn e) (hr.mono (by decide)) (g__law_drawn e) (len_cons (len_cons len_nil)) (a_cons (m_var 0) (a_cons m_int a_nil))))
    (js_cons (s_par3 nd__law_one_right (by decide) (by decide) (by decide) (x_make (k_Desk e) (d_Desk___init__ e) (hr.mono (by decide)) (g_Desk e) (fun s h v h' q => congrArg (· + 1) ((len_cons len_nil) s h v h' q)) (a_cons (x_call (d__law_table e) (hr.mono (by decide)) (g__law_table e) (len_cons len_nil) (a_cons (m_var 1) a_nil)) a_nil)) (x_lst (a_cons (x_rep (x_tup (a_cons m_int a_nil)) (x_blt call_lenM c_len (g_len e) (by decide +kernel) (a_cons (m_var 1) a_nil))) a_nil)) (x_lst a_nil))
    (js_cons (s_lock (lk_var 1) (js_setLc (by decide) (ps_setLc (i := 5) (own := [("_law_name", 7)]) rfl nd__law_one_right rfl rfl (sw_true rfl rfl rfl (by decide +kernel)) (i_keys (m_var 1)) (blkOk_by (N := N__law_one_right) (sc := sc__law_one_right) (by decide +kernel)) (fun _ _ _ _ _ => (g_nm nd__law_one_right (by first | exact Or.inl rfl | exact Or.inr rfl))) (fun _ _ _ _ _ => (kts_one (t_gt (x_ix (x_dget hr (m_var 1) (m_var 7)) m_int) m_int))) (fun _ _ _ _ _ => (m_var 7)))))
    (js_cons (s_if (t_not (t_val (x_call (d__law_stands e) (hr.mono (by decide)) (g__law_stands e) (len_cons (len_cons (len_cons len_nil))) (a_cons (m_var 1) (a_cons (m_var 2) (a_cons (x_ix (m_var 3) m_int) a_nil)))))) (js_one (s_ret m_bl)) js_nil)
    (js_cons (s_for (i_rng1 (g_range e) m_int) (g_nm nd__law_one_right (by first | exact Or.inl rfl | exact Or.inr rfl)) (js_cons (s_if (PW.pt (w_and (t_eq hr (x_call (d__law_next e) (hr.mono (by decide)) (g__law_next e) (len_cons (len_cons len_nil)) (a_cons (m_var 0) (a_cons m_int a_nil))) m_int) (pw_and1 (t_ne hr (m_var 4) (x_lst a_nil))))) (js_cons (s_expr (k_bm0 rfl b_pop0 (pe_bm0 PySem.F.plainAttrs_list PySem.F.slot_list_pop PySem.F.type_list_pop mt_pop (m_var 3))))
    (js_one (s_if (t_ne hr (x_meth0 (c := 4) (d_Desk_undo e) (hr.mono (by decide)) (c_Desk e) (me_Desk_undo e) nf_undo rfl (m_var 2)) (k_bm0 rfl b_pop0 (pe_bm0 PySem.F.plainAttrs_list PySem.F.slot_list_pop PySem.F.type_list_pop mt_pop (m_var 4)))) (js_one (s_ret m_bl)) js_nil))) (js_one (s_if (t_ne hr (m_var 5) (x_lst a_nil)) (js_cons (s_set nd__law_one_right (by first | exact Or.inl rfl | exact Or.inr rfl) (x_call (d__law_pick e) (hr.mono (by decide)) (g__law_pick e) (len_cons (len_cons len_nil)) (a_cons (m_var 0) (a_cons (m_var 5) a_nil))))
    (js_cons (s_set nd__law_one_right (by first | exact Or.inl rfl | exact Or.inr rfl) (x_add m_int (x_call (d__law_next e) (hr.mono (by decide)) (g__law_next e) (len_cons (len_cons len_nil)) (a_cons (m_var 0) (a_cons (x_sub (x_ix (x_dget hr (m_var 1) (m_var 7)) m_int) m_int) a_nil)))))
    (js_cons (s_set nd__law_one_right (by first | exact Or.inl rfl | exact Or.inr rfl) (x_call (d__law_with e) (hr.mono (by decide)) (g__law_with e) (len_cons (len_cons (len_cons (len_cons len_nil)))) (a_cons (m_var 1) (a_cons (x_ix (m_var 3) (x_neg m_int)) (a_cons (m_var 7) (a_cons (m_var 8) a_nil))))))
    (js_cons (s_if (t_ne hr (x_meth (c := 4) (d_Desk_move e) (hr.mono (by decide)) (c_Desk e) (me_Desk_move e) nf_move (fun s h v h' q => congrArg (· + 1) ((len_cons (len_cons len_nil)) s h v h' q)) (m_var 2) (a_cons (m_var 7) (a_cons (m_var 8) a_nil))) (x_call (d__law_free e) (hr.mono (by decide)) (g__law_free e) (len_cons (len_cons len_nil)) (a_cons (m_var 1) (a_cons (m_var 9) a_nil)))) (js_one (s_ret m_bl)) js_nil)
    (js_cons (s_expr (k_bm rfl b_append (pe_bm PySem.F.plainAttrs_list PySem.F.slot_list_append PySem.F.type_list_append mt_append (m_var 3) (a_cons (m_var 9) a_nil))))
    (js_one (s_expr (k_bm rfl b_append (pe_bm PySem.F.plainAttrs_list PySem.F.slot_list_append PySem.F.type_list_append mt_append (m_var 4) (a_cons (m_var 7) a_nil)))))))))) js_nil)))
    (js_one (s_if (t_not (t_val (x_call (d__law_stands e) (hr.mono (by decide)) (g__law_stands e) (len_cons (len_cons (len_cons len_nil))) (a_cons (m_var 1) (a_cons (m_var 2) (a_cons (x_ix (m_var 3) (x_neg m_int)) a_nil)))))) (js_one (s_ret m_bl)) js_nil))) PassesOwn.never)
    (js_one (s_ret m_bl)))))))
theorem f_law (e : E K mg) : ∃ fd, FunD K "law" "law" (defArgs st_law) (defBody st_law) sc_law ((D_law).dvs K) ((D_law).kws K) (He.ga K "law") fd := e.c.def_ 46 (d := D_law) rfl
theorem d_law (e : E K mg) : Dn P w K mg base (Gk K) (He.ga K "law") 13 ["_law_script"] 1 m_law_4 := by
  obtain ⟨fd, F⟩ := f_law e
  exact dn_of (N := N_law) F ⟨rfl, rfl, rfl, by decide +kernel, rfl, by decide +kernel, by decide +kernel⟩ rfl rfl (FunD.bindsN F fun _ _ _ _ _ _ us hl => match us, hl with | [_], _ => rfl) fun cdv A outer s H E hr =>
    (js_cons (s_for (i_rng3 (g_range e) m_int (x_blt (call_max2 rfl) c_max2 (g_max e) (by decide +kernel) (a_cons m_int (a_cons (x_blt (call_min2 rfl) c_min2 (g_min e) (by decide +kernel) (a_cons m_int (a_cons (x_blt call_lenM c_len (g_len e) (by decide +kernel) (a_cons (m_var 0) a_nil)) a_nil))) a_nil))) m_int) (g_nm nd_law (by first | exact Or.inl rfl | exact Or.inr rfl)) (js_one (s_if (t_not (t_val (x_call (d__law_one_right e) (hr.mono (by decide)) (g__law_one_right e) (len_cons len_nil) (a_cons (x_lst (a_cons (m_var 0) (a_cons (m_var 1) (a_cons m_int a_nil)))) a_nil)))) (js_one (s_ret m_bl)) js_nil)) PassesOwn.never)
    (js_one (s_ret m_bl)))
theorem r_law (e : E K mg) {fd : FuncData} (F : FunD K "law" "law" (defArgs st_law) (defBody st_law) sc_law ((D_law).dvs K) ((D_law).kws K) (He.ga K "law") fd) : FnOk P w K mg base CX0 13 (He.ga K "law") fd ["_law_script"] (spM (Gk K) 1 m_law_4) :=
  fn_ok (N := N_law) F ⟨rfl, rfl, rfl, by decide +kernel, rfl, by decide +kernel, by decide +kernel⟩ rfl rfl fun cdv A outer s H E hr =>
    (js_cons (s_for (i_rng3 (g_range e) m_int (x_blt (call_max2 rfl) c_max2 (g_max e) (by decide +kernel) (a_cons m_int (a_cons (x_blt (call_min2 rfl) c_min2 (g_min e) (by decide +kernel) (a_cons m_int (a_cons (x_blt call_lenM c_len (g_len e) (by decide +kernel) (a_cons (m_var 0) a_nil)) a_nil))) a_nil))) m_int) (g_nm nd_law (by first | exact Or.inl rfl | exact Or.inr rfl)) (js_one (s_if (t_not (t_val (x_call (d__law_one_right e) (hr.mono (by decide)) (g__law_one_right e) (len_cons len_nil) (a_cons (x_lst (a_cons (m_var 0) (a_cons (m_var 1) (a_cons m_int a_nil)))) a_nil)))) (js_one (s_ret m_bl)) js_nil)) PassesOwn.never)
    (js_one (s_ret m_bl)))
end
end L12
end KA

set_option linter.all false
set_option autoImplicit false
/-! L12: law 12, whole desks. -/
namespace KA
namespace L12
section
variable {h : MH} {ns : List Int} {s : Nat}
/-- the names that can move -/
def bigN (rows : List NR) : List MV := (rows.filter fun x => decide (x.2.c > 1)).map fun x => MV.str x.1
structure J (ns : List Int) (s n d t p r e3 e4 e5 : Nat) (rows : List NR) (l : List Int) (ps : List (List Int)) (nm : List (List Nat)) (h : MH) : Prop where
  S : St ns h s
  en : h.get n = some (.dct false false (rows.map encR))
  D : Dk h d t p r ps l nm rows
  i3 : h.get e3 = some (.lst (ps.map shV ++ [shV l]))
  i4 : h.get e4 = some (.lst (nm.map MV.str))
  i5 : h.get e5 = some (.lst (bigN rows))
  Sl : ShOk rows l
  Sp : ∀ q ∈ ps, ShOk rows q
  lp : ps.length = nm.length
  nk : ∀ a ∈ nm, sOk a = true
theorem J.sub {s n d t p r e3 e4 e5 : Nat} {rows : List NR} {l : List Int} {ps : List (List Int)} {nm : List (List Nat)} {h' : MH} (j : J ns s n d t p r e3 e4 e5 rows l ps nm h) (b : Sub h h') : J ns s n d t p r e3 e4 e5 rows l ps nm h' := by
  obtain ⟨b1, c1, h1, h2, e⟩ := j.S
  exact ⟨⟨b1, c1, h1, h2, b _ _ e⟩, b _ _ j.en, j.D.sub b, b _ _ j.i3, b _ _ j.i4, b _ _ j.i5, j.Sl, j.Sp, j.lp, j.nk⟩
/-- the six lists -/
structure Df (s p r e3 e4 e5 : Nat) : Prop where
  sp : s ≠ p
  sr : s ≠ r
  s3 : s ≠ e3
  s4 : s ≠ e4
  s5 : s ≠ e5
  p3 : p ≠ e3
  p4 : p ≠ e4
  p5 : p ≠ e5
  r3 : r ≠ e3
  r4 : r ≠ e4
  r5 : r ≠ e5
  a34 : e3 ≠ e4
  a35 : e3 ≠ e5
  a45 : e4 ≠ e5
theorem J.draw {s n d t p r e3 e4 e5 : Nat} {rows : List NR} {l : List Int} {ps : List (List Int)} {nm : List (List Nat)} {h' : MH} (j : J ns s n d t p r e3 e4 e5 rows l ps nm h) (F : Df s p r e3 e4 e5) (b : Sx s h h') (S' : St ns h' s) : J ns s n d t p r e3 e4 e5 rows l ps nm h' := by
  obtain ⟨b1, c1, h1, h2, e⟩ := j.S
  have ns_ : n ≠ s := fun w => by have := j.en; rw [w, e] at this; cases this
  exact ⟨S', b _ _ ns_ j.en, j.D.sx b ⟨_, e⟩ (Ne.symm F.sp) (Ne.symm F.sr), b _ _ (Ne.symm F.s3) j.i3, b _ _ (Ne.symm F.s4) j.i4, b _ _ (Ne.symm F.s5) j.i5, j.Sl, j.Sp, j.lp, j.nk⟩
theorem ne_nil {n m : Nat} {xs : List MV} (e : h.get n = some (.lst xs)) (e' : h.get m = some (.lst [])) (dx : ∀ x ∈ xs, PD x) : qNe (.ref n) (.ref m) h = .ok (.bl (!xs.isEmpty)) h := by
  unfold qNe
  have d1 : dataB 9 h (.ref n) = true := by
    unfold dataB
    simp only [e]
    rw [List.all_eq_true]
    exact fun x m => (dx x m).data 6 h
  rw [d1, show dataB 9 h (.ref m) = true by unfold dataB; simp [e']]
  rw [show eqB 9 h (.ref n) (.ref m) = xs.isEmpty by
    unfold eqB
    simp only [seq_ref e, seq_ref e']
    cases xs <;> rfl]
  rfl
theorem bigN_pd {rows : List NR} (O : TOk rows) : ∀ x ∈ bigN rows, PD x := fun x hx => by
  unfold bigN at hx
  obtain ⟨y, hy, rfl⟩ := List.mem_map.mp hx
  exact .inl ⟨_, rfl, (O.nm y ((List.mem_filter.mp hy).1)).sok⟩
theorem one_right (S : St ns h s) : Rt (m__law_one_right_1 [.ref s] h) fun v h' => v = .bl true := by
  unfold m__law_one_right_1
  simp -implicitDefEqProofs [-Prod.forall, -Prod.exists]
  refine (drawn_rt S (by decide) (by decide)).imp ?_
  rintro v h1 ⟨n, rows, rfl, nd, ed, D, sx1, S1⟩
  have O := D.tok (by decide)
  simp -implicitDefEqProofs [asg, -Prod.forall, -Prod.exists]
  rw [rt_eNew]
  simp -implicitDefEqProofs [-Prod.forall, -Prod.exists]
  have en1 := ed
  refine (ltab_rt ed O).imp ?_
  rintro v h2 ⟨t, rfl, T2, _, s2⟩
  have en2 := s2 _ _ en1
  have ei : (h2.push (.ins 4 [])).get h2.n = some (.ins 4 []) := MH.push_same _ _
  refine (desk_init ei (T2.sub Sub.push) O).imp ?_
  rintro v h3 ⟨rfl, ⟨p, r, D3, hp, hr⟩, sx3⟩
  have nh : n ≠ h2.n := Nat.ne_of_lt (MH.get_lt en2)
  have en3 := sx3 _ _ nh (MH.push_of en2)
  refine ⟨rfl, ?_⟩
  have l1 := O.l1
  have l4 := O.l4
  have hlen : (rows.map encR).length = rows.length := List.length_map ..
  have ql : qLen [MV.ref n] h3 = .ok (.int (rows.length : Nat)) h3 := by
    rw [← hlen]; exact len_dct en3
  rw [ql]
  simp -implicitDefEqProofs [rep_zero (h := h3) l1 l4, -Prod.forall, -Prod.exists]
  have s34 : Sub h3 ((h3.push (.lst [shV (List.replicate rows.length 0)])).push (.lst [])) := Sub.push.trans Sub.push
  have i3 : ((h3.push (.lst [shV (List.replicate rows.length 0)])).push (.lst [])).get h3.n = some (.lst [shV (zerosL rows)]) := MH.push_of (MH.push_same _ _)
  have i4 : ((h3.push (.lst [shV (List.replicate rows.length 0)])).push (.lst [])).get (h3.n + 1) = some (.lst []) := MH.push_same (h3.push (.lst [shV (List.replicate rows.length 0)])) _
  generalize (h3.push (.lst [shV (List.replicate rows.length 0)])).push (.lst []) = h4 at s34 i3 i4
  have en4 := s34 _ _ en3
  have D4 := D3.sub s34
  refine oc_lockX (n := n) rfl en4 fun g eg keep => ?_
  simp -implicitDefEqProofs [asg, -Prod.forall, -Prod.exists, -List.length_map]
  refine ⟨_, eg, ?_⟩
  rw [List.length_map]
  refine acc_pix (w := wkD 0 n rows.length) rows.length (fun i => match rows[i]? with
    | some x => decide (x.2.c > 1)
    | none => false) (fun i => match rows[i]? with
    | some x => .str x.1
    | none => .non) rfl (by omega) (by have := wkD_fin (k := 0) eg; rwa [List.length_map] at this) (fun i hi => ?_) fun k hk => ?_
  · have ex : rows[i]? = some rows[i] := List.getElem?_eq_getElem hi
    have dg := dget_enc O.nd (List.mem_of_getElem? ex)
    refine ⟨_, _, wkD_at eg (p := encR rows[i]) (by rw [List.getElem?_map, ex]; rfl), rfl, ?_⟩
    rw [ex]
    simp -implicitDefEqProofs [entM, encR, dget_eq (k := .str rows[i].1) eg rfl dg, ix_row0]
  rw [List.append_nil, List.reverse_reverse, range_filter rows _ _ (fun x => decide (x.2.c > 1)) (fun x => MV.str x.1) (fun i x e => by simp only [e]) (fun i x e => by simp only [e])]
  have nlt := MH.get_lt en2
  have pn3 := MH.get_lt D3.ep
  have rn3 := MH.get_lt D3.er
  have p2 : (h2.push (.ins 4 [])).n = h2.n + 1 := rfl
  have n3 : h3.n ≠ n := by omega
  have n4 : h3.n + 1 ≠ n := by omega
  have i3g := keep _ _ n3 i3
  have i4g := keep _ _ n4 i4
  have lg := MH.get_lt i4g
  refine ⟨MH.push_of eg, fun h5 k1 k2 => ?_⟩
  obtain ⟨b1, c1, q1, q2, eS⟩ := S1
  have eS2 := s2 _ _ eS
  have slt := MH.get_lt eS2
  have eS4 := s34 _ _ (sx3 _ _ (by omega) (MH.push_of eS2))
  have sn : s ≠ n := Ne.symm nd
  have gn : g.n ≠ n := Nat.ne_of_gt (MH.get_lt eg)
  have J5 : J ns s n h2.n t p r h3.n (h3.n + 1) g.n rows (zerosL rows) [] [] h5 :=
    ⟨⟨b1, c1, q1, q2, k1 _ _ sn (MH.push_of (keep _ _ sn eS4))⟩, k2, ((D4.keep O en4 keep).sub Sub.push).keep O (MH.push_of eg) k1, k1 _ _ n3 (MH.push_of i3g), k1 _ _ n4 (MH.push_of i4g), k1 _ _ gn (MH.push_same _ _), zeros_ok O, by simp, rfl, by simp⟩
  have F : Df s p r h3.n (h3.n + 1) g.n := by constructor <;> omega
  clear i3g i4g
  refine rt_ix_seq (seq_ref J5.i3) (x := shV (zerosL rows)) rfl ?_
  refine (stands_rt J5.D J5.en O J5.Sl).imp ?_
  rintro v h6 ⟨rfl, s6⟩
  have J6 := J5.sub s6
  generalize g.n = e5 at J6 F
  generalize h3.n + 1 = e4 at J6 F
  generalize h3.n = e3 at J6 F
  generalize h2.n = d at J6
  refine ⟨rfl, by decide, ?_⟩
  refine for_inv (w := wkR 0 4) (fun i σ h' => (∃ v6 v7 v8 v9, σ = [some (.ref s), some (.ref n), some (.ref d), some (.ref e3), some (.ref e4), some (.ref e5), v6, v7, v8, v9]) ∧ ∃ l ps nm, J ns s n d t p r e3 e4 e5 rows l ps nm h' ∧ ps.length ≤ i) ⟨⟨_, _, _, _, rfl⟩, _, _, _, J6, Nat.le_refl _⟩ ?_ ?_
  · rintro i σ h' hi ⟨⟨v6, v7, v8, v9, rfl⟩, l, ps, nm, j, hps⟩
    have hi4 : i < 4 := hi
    refine ⟨.int (0 + (i : Int)), _, rfl, rfl, ?_⟩
    simp -implicitDefEqProofs [-Prod.forall, -Prod.exists]
    refine (next_rt j.S (by decide)).imp ?_
    rintro v ha ⟨⟨x, rfl, x1, x2⟩, sxa, Sa, _⟩
    have ja := j.draw F sxa Sa
    simp -implicitDefEqProofs [-Prod.forall, -Prod.exists]
    have fin : ∀ l ps nm hh, J ns s n d t p r e3 e4 e5 rows l ps nm hh → ps.length ≤ i + 1 → Rt (qIx (.ref e3) (.int (-1)) hh) fun v h1 => Rt (m__law_stands_0 [.ref n, .ref d, v] h1) fun v h1 => match v with
        | .bl b => b = true ∧ ∃ l ps, (∃ x, J ns s n d t p r e3 e4 e5 rows l ps x h1) ∧ ps.length ≤ i + 1
        | x => False := fun l ps nm hh j hp => by
      rw [ix_last j.i3]
      refine (stands_rt j.D j.en O j.Sl).imp ?_
      rintro v h1 ⟨rfl, sb⟩
      exact ⟨rfl, _, _, ⟨_, j.sub sb⟩, hp⟩
    have jb := ja.sub (Sub.push (o := .lst []))
    have eb : (ha.push (.lst [])).get ha.n = some (.lst []) := MH.push_same _ _
    have d4 : ∀ x ∈ nm.map MV.str, PD x := fun x hx => by
      obtain ⟨a, ha', rfl⟩ := List.mem_map.mp hx
      exact .inl ⟨a, rfl, ja.nk a ha'⟩
    rw [ne_nil jb.i4 eb d4]
    by_cases hx0 : x = 0
    · rw [if_pos hx0]
      by_cases hnm : nm = []
      · subst hnm
        rw [show (([] : List (List Nat)).map MV.str).isEmpty = true from rfl]
        have jm := jb
        generalize ha.push (.lst []) = hm at jm
        have em : (hm.push (.lst [])).get hm.n = some (.lst []) := MH.push_same _ _
        have jn := jm.sub (Sub.push (o := .lst []))
        simp -implicitDefEqProofs [ne_nil jn.i5 em (bigN_pd O), -Prod.forall, -Prod.exists]
        by_cases hb0 : bigN rows = []
        · rw [if_pos hb0]
          exact fin _ _ _ _ jn (by omega)
        · rw [if_neg hb0]
          refine (pick_rt jn.S (Ne.symm F.s5) jn.i5 (List.length_pos_iff.mpr hb0)).imp ?_
          rintro v hc ⟨hv, sxc, Sc, _⟩
          have jc := jn.draw F sxc Sc
          unfold bigN at hv
          obtain ⟨y, hy, rfl⟩ := List.mem_map.mp hv
          have hyr := (List.mem_filter.mp hy).1
          have hyc : y.2.c > 1 := by simpa using (List.mem_filter.mp hy).2
          have o := O.ok y hyr
          have c1' := o.c1
          have c2' := o.c2
          have dg := dget_enc O.nd hyr
          simp -implicitDefEqProofs [asg, dget_eq (k := .str y.1) jc.en rfl dg, ix_row0, -Prod.forall, -Prod.exists]
          refine (next_rt jc.S (m := y.2.c - 1) (by omega)).imp ?_
          rintro v hd ⟨⟨w, rfl, w1, w2⟩, sxd, Sd, _⟩
          have jd := jc.draw F sxd Sd
          simp -implicitDefEqProofs [asg, ix_last jd.i3, -Prod.forall, -Prod.exists]

          have ny := (O.nm y hyr).sok
          refine (lwith_rt jd.en O jd.Sl ny).imp ?_
          rintro v he ⟨rfl, se⟩
          have je := jd.sub se
          have S2 := withSh_ok O je.Sl y.1 (1 + w)
          have lpn := je.lp
          refine ⟨isIns_of_get je.D.ed, ?_⟩
          refine (move_rt je.D O je.Sl hyr (by omega) (by omega) (by omega) (by omega)).imp ?_
          rintro v hf ⟨rfl, Df', kf⟩
          obtain ⟨b1, c1, q1, q2, eS⟩ := je.S
          have nl : ∀ m xs, he.get m = some (.lst xs) → n ≠ m := fun m xs e w => by rw [← w, je.en] at e; cases e
          have n3 := nl _ _ je.i3
          have n4 := nl _ _ je.i4
          have np := nl _ _ je.D.ep
          have nr := nl _ _ je.D.er
          refine (lfree_rt (kf _ _ np nr je.en) O S2).imp ?_
          rintro v hg ⟨rfl, sg⟩
          rw [ne_bl]
          refine ⟨by simp, ?_⟩
          have g3 := sg _ _ (kf _ _ (Ne.symm F.p3) (Ne.symm F.r3) je.i3)
          have g4 := sg _ _ (kf _ _ (Ne.symm F.p4) (Ne.symm F.r4) je.i4)
          have g5 := sg _ _ (kf _ _ (Ne.symm F.p5) (Ne.symm F.r5) je.i5)
          have gn := sg _ _ (kf _ _ np nr je.en)
          have gs := sg _ _ (kf _ _ F.sp F.sr eS)
          have Dg' := Df'.sub sg
          refine append_rt (f := e3) (xs := ps.map shV ++ [shV l]) (v := shV (withSh rows l y.1 (1 + w))) rfl g3 (by simp; omega) (by simp) ?_
          have D3' := Dg'.sx (Sx.set (o := .lst (ps.map shV ++ [shV l] ++ [shV (withSh rows l y.1 (1 + w))]))) ⟨_, g3⟩ F.p3 F.r3
          have g4' := (MH.set_ne (o := .lst (ps.map shV ++ [shV l] ++ [shV (withSh rows l y.1 (1 + w))])) (Ne.symm F.a34)).trans g4
          refine append_rt (f := e4) rfl g4' (by simp) (v := .str y.1) (by simp) ?_
          refine fin (withSh rows l y.1 (1 + w)) (ps ++ [l]) ([] ++ [y.1]) _ ⟨⟨b1, c1, q1, q2, ?_⟩, ?_, D3'.sx Sx.set ⟨_, g4'⟩ F.p4 F.r4, ?_, ?_, ?_, S2, ?_, ?_, ?_⟩ (by simp; omega)
          · rw [MH.set_ne F.s4, MH.set_ne F.s3]; exact gs
          · rw [MH.set_ne n4, MH.set_ne n3]; exact gn
          · rw [MH.set_ne F.a34, MH.set_same g3]; simp
          · rw [MH.set_same g4']; rfl
          · rw [MH.set_ne (Ne.symm F.a45), MH.set_ne (Ne.symm F.a35)]; exact g5
          · intro q hq
            rcases List.mem_append.mp hq with z | z
            · exact je.Sp q z
            · rw [List.mem_singleton.mp z]; exact je.Sl
          · simpa using lpn
          · intro q hq
            rw [List.mem_singleton.mp hq]; exact ny
      · obtain ⟨nm', a, rfl⟩ : ∃ nm' a, nm = nm' ++ [a] := ⟨nm.dropLast, nm.getLast hnm, (List.dropLast_concat_getLast hnm).symm⟩
        have hp0 : ps ≠ [] := fun w => by have := ja.lp; rw [w] at this; simp at this
        obtain ⟨ps', l', rfl⟩ : ∃ ps' l', ps = ps' ++ [l'] := ⟨ps.dropLast, ps.getLast hp0, (List.dropLast_concat_getLast hp0).symm⟩
        generalize ha.push (.lst []) = hb at jb eb
        have ee : ((nm' ++ [a]).map MV.str).isEmpty = false := by simp
        rw [ee]
        show Rt (eBmL qPop0 (eV 3) aNil _ hb) _
        refine pop_rt rfl jb.i3 ?_
        have Dc := jb.D.sx (h' := hb.set e3 (.lst ((ps' ++ [l']).map shV))) Sx.set ⟨_, jb.i3⟩ F.p3 F.r3
        refine ⟨isIns_of_get Dc.ed, ?_⟩
        have i3c : (hb.set e3 (.lst ((ps' ++ [l']).map shV))).get e3 = some (.lst ((ps' ++ [l']).map shV)) := MH.set_same jb.i3
        have kc : Sx e3 hb (hb.set e3 (.lst ((ps' ++ [l']).map shV))) := Sx.set
        generalize hb.set e3 (.lst ((ps' ++ [l']).map shV)) = hc at Dc i3c kc
        refine (undo_rt Dc ja.nk).imp ?_
        rintro v hd ⟨rfl, Dd, kd⟩
        have i4d := kd _ _ (Ne.symm F.p4) (Ne.symm F.r4) (kc _ _ (Ne.symm F.a34) jb.i4)
        rw [List.map_append] at i4d
        refine pop_rt rfl i4d ?_
        have sa := ja.nk a (by simp)
        have z : ∀ hh, qNe (.str a) (.str a) hh = .ok (.bl false) hh := fun hh => by
          have P : PD (.str a) := .inl ⟨a, rfl, sa⟩
          unfold qNe
          rw [P.data 7 hh, P.self 7 hh]
          rfl
        rw [z]
        refine ⟨rfl, ?_⟩
        obtain ⟨b1, c1, q1, q2, eS⟩ := jb.S
        have nl : ∀ m xs, hb.get m = some (.lst xs) → n ≠ m := fun m xs e w => by rw [← w, jb.en] at e; cases e
        have n3 := nl _ _ jb.i3
        have n4 := nl _ _ jb.i4
        have np := nl _ _ jb.D.ep
        have nr := nl _ _ jb.D.er
        refine fin l' ps' nm' _ ⟨⟨b1, c1, q1, q2, ?_⟩, ?_, Dd.sx Sx.set ⟨_, i4d⟩ F.p4 F.r4, ?_, MH.set_same i4d, ?_, ja.Sp l' (by simp), fun q hq => ja.Sp q (by simp [hq]), by have := ja.lp; simpa using this, fun q hq => ja.nk q (by simp [hq])⟩ (by simp at hps; omega)
        · rw [MH.set_ne F.s4]; exact kd _ _ F.sp F.sr (kc _ _ F.s3 eS)
        · rw [MH.set_ne n4]; exact kd _ _ np nr (kc _ _ n3 jb.en)
        · rw [MH.set_ne F.a34]; have := kd _ _ (Ne.symm F.p3) (Ne.symm F.r3) i3c; rw [this]; simp
        · rw [MH.set_ne (Ne.symm F.a45)]; exact kd _ _ (Ne.symm F.p5) (Ne.symm F.r5) (kc _ _ (Ne.symm F.a35) jb.i5)
    · rw [if_neg hx0]
      have jm := ja
      generalize ha = hm at jm
      have em : (hm.push (.lst [])).get hm.n = some (.lst []) := MH.push_same _ _
      have jn := jm.sub (Sub.push (o := .lst []))
      simp -implicitDefEqProofs [ne_nil jn.i5 em (bigN_pd O), -Prod.forall, -Prod.exists]
      by_cases hb0 : bigN rows = []
      · rw [if_pos hb0]
        exact fin _ _ _ _ jn (by omega)
      · rw [if_neg hb0]
        refine (pick_rt jn.S (Ne.symm F.s5) jn.i5 (List.length_pos_iff.mpr hb0)).imp ?_
        rintro v hc ⟨hv, sxc, Sc, _⟩
        have jc := jn.draw F sxc Sc
        unfold bigN at hv
        obtain ⟨y, hy, rfl⟩ := List.mem_map.mp hv
        have hyr := (List.mem_filter.mp hy).1
        have hyc : y.2.c > 1 := by simpa using (List.mem_filter.mp hy).2
        have o := O.ok y hyr
        have c1' := o.c1
        have c2' := o.c2
        have dg := dget_enc O.nd hyr
        simp -implicitDefEqProofs [asg, dget_eq (k := .str y.1) jc.en rfl dg, ix_row0, -Prod.forall, -Prod.exists]
        refine (next_rt jc.S (m := y.2.c - 1) (by omega)).imp ?_
        rintro v hd ⟨⟨w, rfl, w1, w2⟩, sxd, Sd, _⟩
        have jd := jc.draw F sxd Sd
        simp -implicitDefEqProofs [asg, ix_last jd.i3, -Prod.forall, -Prod.exists]

        have ny := (O.nm y hyr).sok
        refine (lwith_rt jd.en O jd.Sl ny).imp ?_
        rintro v he ⟨rfl, se⟩
        have je := jd.sub se
        have S2 := withSh_ok O je.Sl y.1 (1 + w)
        have lpn := je.lp
        refine ⟨isIns_of_get je.D.ed, ?_⟩
        refine (move_rt je.D O je.Sl hyr (by omega) (by omega) (by omega) (by omega)).imp ?_
        rintro v hf ⟨rfl, Df', kf⟩
        obtain ⟨b1, c1, q1, q2, eS⟩ := je.S
        have nl : ∀ m xs, he.get m = some (.lst xs) → n ≠ m := fun m xs e w => by rw [← w, je.en] at e; cases e
        have n3 := nl _ _ je.i3
        have n4 := nl _ _ je.i4
        have np := nl _ _ je.D.ep
        have nr := nl _ _ je.D.er
        refine (lfree_rt (kf _ _ np nr je.en) O S2).imp ?_
        rintro v hg ⟨rfl, sg⟩
        rw [ne_bl]
        refine ⟨by simp, ?_⟩
        have g3 := sg _ _ (kf _ _ (Ne.symm F.p3) (Ne.symm F.r3) je.i3)
        have g4 := sg _ _ (kf _ _ (Ne.symm F.p4) (Ne.symm F.r4) je.i4)
        have g5 := sg _ _ (kf _ _ (Ne.symm F.p5) (Ne.symm F.r5) je.i5)
        have gn := sg _ _ (kf _ _ np nr je.en)
        have gs := sg _ _ (kf _ _ F.sp F.sr eS)
        have Dg' := Df'.sub sg
        refine append_rt (f := e3) (xs := ps.map shV ++ [shV l]) (v := shV (withSh rows l y.1 (1 + w))) rfl g3 (by simp; omega) (by simp) ?_
        have D3' := Dg'.sx (Sx.set (o := .lst (ps.map shV ++ [shV l] ++ [shV (withSh rows l y.1 (1 + w))]))) ⟨_, g3⟩ F.p3 F.r3
        have g4' := (MH.set_ne (o := .lst (ps.map shV ++ [shV l] ++ [shV (withSh rows l y.1 (1 + w))])) (Ne.symm F.a34)).trans g4
        refine append_rt (f := e4) rfl g4' (by simp; omega) (v := .str y.1) (by simp) ?_
        refine fin (withSh rows l y.1 (1 + w)) (ps ++ [l]) (nm ++ [y.1]) _ ⟨⟨b1, c1, q1, q2, ?_⟩, ?_, D3'.sx Sx.set ⟨_, g4'⟩ F.p4 F.r4, ?_, ?_, ?_, S2, ?_, ?_, ?_⟩ (by simp; omega)
        · rw [MH.set_ne F.s4, MH.set_ne F.s3]; exact gs
        · rw [MH.set_ne n4, MH.set_ne n3]; exact gn
        · rw [MH.set_ne F.a34, MH.set_same g3]; simp
        · rw [MH.set_same g4']; simp
        · rw [MH.set_ne (Ne.symm F.a45), MH.set_ne (Ne.symm F.a35)]; exact g5
        · intro q hq
          rcases List.mem_append.mp hq with z | z
          · exact je.Sp q z
          · rw [List.mem_singleton.mp z]; exact je.Sl
        · simpa using lpn
        · intro q hq
          rcases List.mem_append.mp hq with z | z
          · exact je.nk q z
          · rw [List.mem_singleton.mp z]; exact ny
  · rintro σ h' _
    exact ⟨rfl, trivial⟩
theorem law_true (ns : List Int) (hl : ns.length ≤ 63) : ∃ h', m_law [.flst (ns.map MV.int)] MH.empty = .ok (.bl true) h' := by
  have z : Rt (m_law_4 [.flst (ns.map MV.int)] MH.empty) fun v _ => v = .bl true := by
    unfold m_law_4
    have mn : ∀ h', qMin2 [.int 24, .int (ns.map MV.int).length] h' = .ok (.int (if ((ns.map MV.int).length : Int) < 24 then ((ns.map MV.int).length : Int) else 24)) h' := fun h' => by
      show qMin2' (.int 24) (.int (ns.map MV.int).length) h' = _
      unfold qMin2'
      rw [List.length_map]
      by_cases c : (ns.length : Int) < 24
      · dsimp only; rw [if_pos c, decide_eq_true c]
      · dsimp only; rw [if_neg c, decide_eq_false c]
    have mx : ∀ (k : Int) h', qMax2 [.int 1, .int k] h' = .ok (.int (if 1 < k then k else 1)) h' := fun k h' => by
      show qMax2' (.int 1) (.int k) h' = _
      unfold qMax2'
      by_cases c : 1 < k
      · dsimp only; rw [if_pos c, decide_eq_true c]
      · dsimp only; rw [if_neg c, decide_eq_false c]
    simp only [rt_fn, oc_seq, oc_for, rt_wRng3, rt_eC, rt_eA, rt_aCons, rt_aNil, rt_eV, List.map_cons, List.map_nil, List.cons_append, List.nil_append, List.getElem?_cons_zero, len_flst, rt_ok, mn, mx]
    refine ⟨_, _, _, rfl, rfl, rfl, rfl, ?_, by decide, by decide, ?_⟩
    · refine rgOk_of ?_ ?_ <;> (split <;> split <;> omega)
    generalize stepN 0 _ 6 = N
    refine for_inv (w := wkC 0 6 N) (fun i σ h' => ∃ v, σ = [some (.flst (ns.map MV.int)), v]) ⟨_, rfl⟩ ?_ ?_
    · rintro i σ h' hi ⟨v, rfl⟩
      refine ⟨.int (0 + (i : Nat) * 6), _, rfl, rfl, ?_⟩
      simp [-isN_eq]
      refine (one_right (h := h'.push _) (s := h'.n) ⟨_, 0, ?_, Int.le_refl _, MH.push_same _ _⟩).imp ?_
      · omega
      · rintro v h2 rfl
        simp
    · rintro σ h' ⟨v, rfl⟩
      exact ⟨rfl, by simp⟩
  obtain ⟨v, h', e1, e2⟩ := z.inv
  rw [e2] at e1
  exact ⟨h', e1⟩
end
end L12
end KA

set_option Elab.async false
set_option linter.all false
set_option maxRecDepth 100000
set_option maxHeartbeats 0
/-! H12: the head and the end (printed by gen.py). -/
namespace KA
namespace L12
open PySem PySem.Spec PyProof.Rows L2
abbrev R : PySem.W.OpenRow := PySem.W.OpenLaw.row PySem.Challenge.rw_keepapart_k12_whole_desks
abbrev hk : PySem.W.Hook := hookP 5 fa fnl gtl ex
def ob (s : PySem.W.SharedT) : AlP := obsPG 5 fa fnl gtl ex (HandSHeadRun.getT s)
theorem ob_eq (s : PySem.W.SharedT) : ob s = hk.obs s.abs := obsPG_eq (HandSHeadRun.getT_eq s)
def names : List PySem.Str := (PySem.Challenge.pw_keepapart_k12_whole_desks.main.scope.names.map (·.1)).filter (fun x => x ≠ "law")
theorem run (w : World) : HandSHeadRun.RunEq R (PySem.W.view R.prog [54]) hk ob 8000 names w := by
  intro os
  kernel_rfl
theorem only_frz {K : PySem.W.Frag} {H : Hp} {a : Addr} {xs : List V} (O : Only H) (h : SqL K H a xs) : FrzL K H a xs := by
  rcases h with (h | ⟨o, h⟩) | h
  · rcases O a with z | ⟨o, ys, z⟩
    · rw [z] at h; cases h
    · rw [z] at h; cases h
  · exact .inl ⟨o, h⟩
  · exact .inr h
theorem sp_law {K : PySem.W.Frag} (H : Hp) (a : Addr) (ns : List Int) (hl : ns.length ≤ 63) (O : Only H) (h : SqL K H a (ns.map V.int)) : spM (Gk K) 1 m_law_4 [.ref a] H (fun v _ => v = .bl true) (fun _ _ _ => False) := by
  refine ⟨rfl, [], MH.empty, [.flst (ns.map MV.int)], ⟨rfl, List.nodup_nil, fun i o e => ?_, fun b hb => by cases hb⟩, .cons ?_ .nil, ?_⟩
  · have := MH.get_lt e
    exact absurd this (Nat.not_lt_zero i)
  · simp only [RV]
    exact ⟨a, _, rfl, only_frz O h, rvs_ints ns⟩
  · obtain ⟨h', e⟩ := law_true ns hl
    have e : m_law_4 [.flst (ns.map MV.int)] MH.empty = .ok (.bl true) h' := e
    rw [e]
    intro m' H' x _ _ r
    simpa only [RV] using r
end L12
end KA
open PySem PySem.W PySem.Calls PyProof.Rows
theorem PySem.Challenge.cw_keepapart_k12_whole_desks_holds : PySem.Challenge.rw_keepapart_k12_whole_desks.Holds := by
  w_on; o_law
  refine HandSHeadRun.head_any (r := OpenLaw.row PySem.Challenge.rw_keepapart_k12_whole_desks) (q := view (OpenLaw.row PySem.Challenge.rw_keepapart_k12_whole_desks).prog [54]) (H := KA.L12.hk) (ob := KA.L12.ob) (M := 8000) (loose := KA.L12.names) (d := HandSHeadRun.topDef (OpenLaw.row PySem.Challenge.rw_keepapart_k12_whole_desks).prog 54) (kwd := []) KA.L12.ob_eq
    (by kernel_rfl) (fun s => by kernel_rfl) KA.L12.run (by kernel_rfl) (by kernel_rfl) (by kernel_rfl) (by rfl) (by first | assumption | decide +kernel) (by decide +kernel) ⟨rfl, rfl, rfl, rfl, rfl, by decide +kernel⟩ ?hw ?hc
  case hw => w_witness2
  case hc =>
    refine L2.walk_ofE (l := PySem.Challenge.rw_keepapart_k12_whole_desks) (n := 63) (k := 13) (x := "_law_script") (CX := L2.CX0) rfl (by decide) (by kernel_rfl) ⟨rfl, by decide, by decide⟩ ?F (fun _ _ _ _ z => z)
    intro w mg fa h Y Gm hmg0
    obtain ⟨K, KX, c, ce, cv⟩ := Y
    obtain ⟨ce1, ce2⟩ := He.ba ce
    have hmg : mg ("law" : PySem.Str) = some (.ref fa) := by
      have e : (HandSHeadRun.topDef (OpenLaw.row PySem.Challenge.rw_keepapart_k12_whole_desks).prog 54).name = ("law" : PySem.Str) := by kernel_rfl
      rw [← e]
      exact hmg0
    have en : KA.L12.E K mg := ⟨⟨c, ce1, h, KX, Gm⟩, ce2, cv⟩
    have z := hmg.symm.trans (KA.L12.g_law en)
    cases z
    obtain ⟨fd, F⟩ := KA.L12.f_law en
    have hb := L2.FunD.bindsA (ps := ["_law_script"]) F fun _ _ _ _ _ _ us hl => match us, hl with | [_], _ => rfl
    exact ⟨K, fd, KA.spM (KA.L12.Gk K) 1 KA.m_law_4, KX, fun s u => hb s [u] rfl, fun H a ns hl O hS => KA.L12.sp_law H a ns hl O hS, fun base _ _ => KA.L12.r_law en F⟩

